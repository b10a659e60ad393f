import PyProof.Rows.All
import KE.KBits
import OpenK.KGet
import OpenK.KMore
import OpenK.KWalk
import OpenK.KCall
import OpenK.KMake
import KE.BitLaws
import OpenK.KOwn
import OpenK.Peek
import OpenK.KCls
import Open.Boot
import Open.Tree
import Open.Line
import Open.FastLooks
import Open.FastT9
import Wide.FinOn
import Lean
import PySem.Challenge.RW_nt0469_01
set_option Elab.async false
set_option maxRecDepth 100000
set_option maxHeartbeats 4000000
set_option linter.all false
set_option backward.match.sparseCases false
set_option genSizeOf false
open PySem PySem.W PySem.Calls PyProof.Rows
namespace Mine.Lake
abbrev dt:OpenLaw:=PySem.Challenge.rw_nt0469_01
set_option compiler.extract_closed false
def tyD:Array String:=((("~~~~~~~!]List.casesOn !]Nat.casesOn !]AV.casesOn !]Value.casesOn !]Expr.casesOn !]CE.casesOn ![ null//0 null//0 $2 ^induction/induction/4 !g $0 !H % ') &paren//3 null//0 % ^elimTarget//2 null//1 null//0 $2 ^cases/cases/3 !g~~~'. # &dotIdent//2~!S# ') ^paren/(/2~~&ellipsis/../0~~# $0 rfl !@2 !E~null//# ^first/first/1~!A !g !O !g !12~# !n !2 !c !t~# !n !A !c~# !p e !n rfl !E !c !,2~# !p hw !n rfl !E !c hk !n rfl !E !c !4hA !,4~rfl !e !g lit0 !E !g lit1 !E !g lit2 !E !g lit3 !E !g lit4 !E !g lit5 !E !g lit6 !E !g rfl !E !g !19~ex_# !p hx !n !7 !c !4hA !4hB !t !3hs !3hk !3hd !,7~# !p h !n !a !c e !n !D !c !,3~null//1 !H % !? % ': % ') &typeAscription//5~# $0 !? !@2 !r $1 h'0 !i1 h'0 !x !,4~'<;> % ^«tactic_<;>_»//3~Eq # true !@2~# $0 !? !@2 !r $1 h'0 !i1 h'0 !x !,2 h'0 !i1 h'0 !x !,2 !< !,3~'_ &syntheticHole/?/1~null//# &app//2~^assumption/assumption/0~# !p h !n !a !c e !n rfl !y !c !,3~# !p g !n !a !c h !n !a !c e !n !D !c !,4~null//0 ^optConfig//1 ^decide/decide/1~^exact/exact/1~!S1 ^failIfSuccess/fail_if_success/1~# !p !a !,2~ hygieneInfo//1 &hygienicLParen/(/1~# !? !@1 !r $1 !,2~# !p h !n !a !c e !n rfl !E !c !,3~# !? !@1 !r~null//0 ^optConfig//1 ^lia/lia/1~exi binv_# !O !b !@1 !? !@2 !r~AWS !_ !_ !_ # !. !@1 !. !@5 !: !r~null//0 ^optConfig//1 ^omega/omega/1~!b !? !@2 !R !,2~# !? !? !@2 !r~^refine/refine/1~null/;/# ^tacticSeq1Indented//1 ^tacticSeq//1~'+ splitNatSub ^posConfigItem//2 ^configItem//1 null//1 ^optConfig//1 ^omega/omega/1~'- trace ^negConfigItem//2 ^configItem//1 null//1 ^optConfig//1 ^lia/lia/1~'\"#\" str//1 PyProof.Rows.tacticWalk_at_/walk_at/1~null//0 null//0 '=> 'whnf ^Conv.whnf//1 null//1 ^Conv.convSeq1Indented//1 ^Conv.convSeq//1 ^Conv.conv/conv/4~!H % ') &paren//3 !x~null//0 ^optConfig//1 null//0 null//0 null//0 ^applyAssumption/apply_assumption/4~Exists !_ !@1 !: !r~$0 null//0 % ^elimTarget//2 null//1~~![ 'using # null//2 null//0 $2 ^induction/induction/4 !g~~&hole/_/0~~^assumption/assumption/0 !h~!S1 &byTactic/by/1~!S1 '=> % ^case/case/3~null/,/# '[ % '] null//3 null//0 ^optConfig//1 % null//0 % 'only null//1 % null//0 ^dsimp/dsimp/5~^exact/exact/1 !h~!S1 ^focus/focus/1~!S1 group/|/1~!S1 ^withReducible/with_reducible/1~null//# ^intro/intro/1~~null//1 ^clear/clear/1~null//0 ^rotateLeft/rotate_left/1~null//0 ^rotateRight/rotate_right/1~Lean.binderIdent//1 null//0 ^caseArg//2 null//1~null//1 % null//1 ':= % null//2 null//0 % ^obtain/obtain/3~^apply/apply/1 !h~null//0 ^rcasesPatLo//2 ') ^rcasesPat.paren/(/2 null//1 ^rcasesPatMed//1 null//0 ^rcasesPatLo//2 'with % null//2 % null//0 % ^elimTarget//2 null//1 % ^rcases/rcases/2~^refine/refine/1 !h~^skip/skip/0~!S1 ^tacticTry_/try/1~null//1 ^subst/subst/1~# !. !@1 !: !r~null/,/1 '] ^rwRuleSeq/[/2 null//0 ^optConfig//1 % null//0 ^rewriteSeq/rewrite/3~null//0 % ^elimTarget//2 null//1 null//0 null//0 ^cases/cases/3~^exact/exact/1 !S1 ^withReducibleAndInstances/with_reducible_and_instances/1~null//0 % null//0 % ^simpLemma//3".replace "^" "Lean.Parser.Tactic.").replace "&" "Lean.Parser.Term.").splitOn "~").toArray
def tysE (D:Array String) (l:List String):List String:=
 l.flatMap fun w=>if w.front=='!' then ((D.getD ((w.toList.getD 1 ' ').toNat-33) "").replace "#" (String.ofList (w.toList.drop 2))).splitOn " " else [w]
def tysO (g st:List Lean.Syntax) (w:String):List Lean.Syntax:=
 match w.splitOn "/" with
 | [k,a,n]=>(let l:=(st.take n.toNat!).reverse;.node .none k.toName (if a== "" then l else if k== "null" then l.intersperse (.atom .none a) else .atom .none a::l).toArray)::st.drop n.toNat!
 | _=>match w.toList with
  | ['%']=>st.getD 1 .missing::st.head!::st.drop 2
  | '$'::n=>g.getD (String.ofList n).toNat! .missing::st
  | '\''::a=>.atom .none (String.ofList a)::st
  | _=>.ident .none w.toRawSubstring w.toName []::st
def tysy (g:List Lean.Syntax) (s:String):Lean.Syntax:=(((List.range 8).foldl (fun l Z=>tysE (tyD.set! 0 s) l) ["!!"]).foldl (tysO g) []).head!
def tyno:Lean.MacroM Lean.Syntax:=Lean.Macro.throwUnsupported
def tysx (b:Bool) (g:List Lean.Syntax) (s:String):Lean.MacroM Lean.Syntax:=if b then pure (tysy g s) else tyno
def tymp (f:Nat→Lean.Syntax→String) (i:Nat) (l:List Lean.Syntax):String:=String.join ((l.zipIdx i).map fun p=>f p.2 p.1)
def tyfl (f g:Lean.Syntax→Lean.Syntax) (l:List Lean.Syntax):List Lean.Syntax:=l.flatMap fun a=>[f a,g a]
def tykd (s:Lean.Syntax):String:=match s.getKind with
 | .str _ x=>x
 | _=> ""
def tymd (x:Array Lean.Syntax):Lean.Syntax:=.node .none `Lean.Parser.Tactic.rcasesPatMed #[.node .none `null x]
def tykp (q:Lean.Syntax):Nat:=let k:=tykd q;if k== "ignore"||k== "clear" then 0 else if k== "one" then (if q[0].getId==`rfl then 1 else 2) else 3
def tyql (c:Lean.Syntax):Lean.Syntax:=if c[1].getNumArgs==0&&c[0][0].getNumArgs==1 then c[0][0][0] else c
def tycl (t:Lean.Syntax):String:=if t.isIdent then "$0 !k !t" else "!s"
def tyoM (lim n j:Nat) (l:List Lean.Syntax):Nat:=(((l.zipIdx j).find? fun p=>p.2+2<n&&(p.2+1==lim||tykp (tyql p.1)==1)).map fun p=>p.2+1).getD n
def tyoN (s:String) (k i:Nat):String:=
 String.join ((List.range i).reverse.map fun j=> "e" ++toString (k-(j+1))++toString (j+1)++s)++if k==3||k==4 then "d2" ++toString (k-2)++s else ""
def tyoG (t p:Lean.Syntax) (cs:List Lean.Syntax) (lim:Nat):Lean.Syntax:=
 let n:=cs.length
 let m:=tyoM lim n 0 cs
 let c:=cs.take m
 let k:=if m<n then m+1 else m
 tysy (t::tymd #[p.setArg 1 (.node .none `null (p[1].getArgs.extract (2*m) p[1].getNumArgs))]::tyfl (fun c=>(tyql c)[0]) (fun c=>c[0]) cs)
  (tyoN " $0 !? !@2 !r !g " k k++tyoN " $0 !? !@2 !R !g " k k++ "!1" ++toString (2*(if k==3||k==4 then k+1 else k))++ " " ++tycl t++ " " ++tymp (fun j c=>let x:=tykp (tyql c);if x==0 then "!_ " else if x==2 then "$" ++toString (2+2*j)++ " " else "h'" ++toString j++ " ") 0 c++(if m<n then "h'r " else "")++ "!i" ++toString k++ " !,3" ++tymp (fun j c=>let x:=tykp (tyql c);let h:= " h'" ++toString j;if x==1 then h++ " !x !<" else if x==3 then h++ " $" ++toString (3+2*j)++ " !o !<" else "") 0 c++(if m<n then " h'r $1 !o !<" else ""))
def tyoS (b:Bool) (pat t:Lean.Syntax):Lean.MacroM Lean.Syntax:=
 let a:=pat[0].getArgs
 let p:=pat[0][0]
 let cs:=p[1].getSepArgs.toList
 if a.size>1 then
  let hd (q:Lean.Syntax) (i m:String):String:=let x:=tykp q;tycl t++ " " ++(if x==0 then "!_ !i1" else if x==2 then i++ " !i1" else "h'0 !i1 h'0 " ++m++ " !o !,2")++ " !,2"
  let q:=if a.size==3 then a[2]! else .missing
  tysx b [t,p[0],tymd #[p],q[0],tymd (a.extract 2 a.size),pat] ("Or.elim $0 !? !? !@3 !r !g Or.elim $0 !? !? !@3 !R !g !12 !l " ++hd q "$3" "$4" ++ " !m " ++hd p "$1" "$2" ++ " !,5 !f !g $0 $5 !q !g !12")
 else if tykd p== "paren"&&p[1][1].getNumArgs==0 then tysx b [t,p[1][0]] "$0 $1 !o"
 else if tykd p== "tuple"&&cs.length≥2 then
  let n:=cs.length-1
  let f:=fun i=>if i<n||i==6 then tyoG t p cs i else .missing
  tysx b [t,pat,f 6,f 3,f 2,f 1] ("$2 !g " ++(if n>3 then "$3 !g $4 !g $5 !g $0 $1 !q !g !15" else if n>2 then "$4 !g $5 !g $0 $1 !q !g !14" else if n>1 then "$5 !g $0 $1 !q !g !13" else "$0 $1 !q !g !12"))
 else tyno
def tyrS (b:Bool) (ps:List Lean.Syntax):Lean.MacroM Lean.Syntax:=
 tysx (b&&ps.all fun p=>tykd p== "one") (tyfl (fun p=>tymd #[p[0]]) (fun p=>p[0][0]) ps)
  ("!s" ++tymp (fun i p=>let n:= "$" ++toString (2*i);if tykp p[0]==2 then " $" ++toString (2*i+1)++ " !i1 !<" else " h'0 !i1 h'0 " ++n++ " !o !,2 !<") 0 ps)
def tycS (b:Bool) (h a:Lean.Syntax):Lean.MacroM Lean.Syntax:=tysx (b&&tykd h != "paren") [h,tysy [h] (tycl h),a] (if a.getNumArgs>0 then "!( !18" else "rfG Eq.symm $0 !@1 !? !@2 !r !F !F $0 !u !,2 !g rfK $0 !? !@2 !r $1 !,2 !g !0cxO !g !0cxB !g !0cxL !g !0cxV !g !0cxA !g !0cxH !g !;soK !g !;arK !g !;aiK !g !;vrK !g !;abK !g !;vbK !g !;atK !g !;vrR !g !;vrB !g !;vrN !g !>prK !g !>coK !g !>viK !g !>alK !g vrI $0 !? !@2 !r $1 !_ h'0 !i2 h'0 !x !,4 !g !( !131")
def tyaS (s:Lean.Syntax) (f:String):Lean.MacroM Lean.Syntax:=tysx (s[1][0].getNumArgs==0) [tysy [] f,s] "!a !g oc rfl !@1 !y !g oc rfl !@1 !E !g And.intro !? !? !@2 !r $1 !< !g Int.natCast_nonneg !_ !@1 !e !g zE !D !b !@1 !R !g zF !D !b !@1 !R !g !9zA !g !9zB !g !9zG !g !9zH !g !9zI !g !9zJ !g !9zK !g !9zL !g !9zM !g !9zN !g !Baoq !g !Bor' !g !Bou !g !Bov !g !Baow !g !Baox !g !BzV !g !BzW !g !BnV !g !BnW !g !BpV !g !BpW !g !CzC !g !CzD !g aos !p h !n !a !c g !n !a !c e !n rfl !y !c !,4 !g !D !g Eq.symm Nat.sub_add_cancel !a !b !@1 !@1 !e !g Eq.symm Nat.sub_add_cancel Nat.pos_of_ne_zero !a !b !@1 !@1 !@1 !e !g Nat.add_sub_of_le Nat.le_of_not_lt !a !b !@1 !@1 !e !g Eq.symm Int.ofNat_sub Nat.le_of_lt !a !b !@1 !@1 !@1 !e !g Nat.sub_pos_of_lt !a !b !@1 !e !g bi !p !a !g !GzP !g !12 !a !g !GzP !g !12 !a !g !GzP !g !12 !,4 !g !Gss !g !Gsl !g !Gm82 !g !Gm83 !g !Gm87 !g !Gm88 !g !Gm89 !g !GzM7 !g !GzP !g !GzR !g !GzS !g !GzT !g m84 !e !g m85 !e !g r25c !p !a !a !a !a !,5 !g r26d !p !a !a !a !,4 !g r23c !p !a !a !,3 !g m86 !p !a !a !,3 !g sA1 !p !a !a !,3 !g sA2 !p !a !a !,3 !g sA3 !p !a !a !,3 !g sA4 !p !a !a !,3 !g !Bsbl !g !Jokl !g !Jokn !g !Jokm !g !Bob !g !Boa !g !Bod !g !Bol !g !Boe !g !Bom !g oi !p g !n !a !c h !n !a !c e !n rfl !y !c !,4 !g oh !p g !n !a !c h !n !a !c e !n rfl !y !c !,4 !g oj !p h !n !a !c g !n !a !c e !n rfl !y !c !,4 !g og rfl !@1 !y !g !Gok !g !Ilt2c !g !Ilt3c !g !Ilt4c !g !Ilt8c !g !Qr16c $1 !< !g !Qr26c $1 !< !g $0 !g !183"
def tywS (b:Bool) (rs:List Lean.Syntax):Lean.MacroM Lean.Syntax:=
 tysx b (tyfl (fun r=>r[1]) (fun r=>r) rs) (tymp (fun i r=>let w:= "$" ++toString (2*i+1)++ " !w "
  if (r.find? fun s=>let k:=tykd s;k== "byTactic"||k== "syntheticHole").isSome then w
  else "rwl " ++(if r[0].getNumArgs==0 then "" else "Eq.symm ")++ "$" ++toString (2*i)++(if r[0].getNumArgs==0 then " !. !@1" else " !. !@1 !@1")++ " !? !@2 !r !g " ++w++ "!g !12 ") 0 rs++ "Lean.Parser.Tactic.tacticRfl/rfl/0 !h !t !," ++toString (rs.length+1))
def tycn (l:List Lean.Syntax):Lean.Syntax:=l.foldr (fun a r=>tysy [if tykd a== "num" then tysy [a] "!+var $0 !@1" else a,r] "!+cons $0 $1 !@2") (tysy [] "!+nil")
def tyk (n:String) (s:Lean.Syntax) (t:String):Lean.MacroM Lean.Syntax:=tysx (s[1][0].getAtomVal==n) [] t
def tydc (s:Lean.Syntax):Lean.MacroM Lean.Syntax:=
 if s.getPos?.isNone then tyno else
 let t:=s.rewriteBottomUp (·.setInfo .none)
 let k:=tykd t[1]
 let t:=if (k== "definition"||k== "abbrev")&&t[0][4].getNumArgs==0 then t.setArg 0 (t[0].setArg 4 (tysy [] "Lean.Parser.Command.noncomputable/noncomputable/0 null//1")) else t
 tysx true [t] (if (t.find? fun s=>let k:=tykd s;k== "renameI"||(k== "tacticNext_=>_"&&s[1].getNumArgs>0)||(k== "case"&&s[1][0][1].getNumArgs>0)).isSome then "'set_option tactic.hygienic null//0 'true Lean.Parser.Command.set_option//4 'in $0 Lean.Parser.Command.in//3" else "$0")
set_option compiler.extract_closed true
section
local macro_rules (kind:=Lean.Parser.Command.declaration) | s=>tydc s
abbrev ae:=@congrArg
abbrev af:=@Option.some.inj
abbrev ag:=@if_pos
abbrev ah:=@if_neg
abbrev ai:=@Nat.le_trans
abbrev aj:=@Nat.lt_of_le_of_lt
abbrev ak:=@Nat.lt_of_lt_of_le
abbrev ao:=@Int.lt_of_lt_of_le
abbrev aq:=@Int.ofNat_lt
abbrev aw:=@Nat.le_of_eq
abbrev ax:=@Bool.and_eq_true
abbrev ay:=@Nat.lt_or_ge
abbrev az:=@beq_iff_eq
abbrev aA:=@PySem.Heap.get?_push_of_some
abbrev aB:=@PySem.Heap.lt_size
abbrev aC:=@Nat.lt_irrefl
abbrev aD:=@List.mem_of_getElem?
abbrev aE:=@beq_eq_false_iff_ne
abbrev aF:=@List.getElem?_map
abbrev aG:=@Option.bind_eq_some_iff
abbrev aH:=@Option.map_eq_some_iff
abbrev aI:=@List.getElem_of_mem
abbrev aJ:=@List.getElem?_eq_getElem
abbrev aK:=@PySem.wpAny_mono
abbrev aL:=@Nat.eq_of_beq_eq_true
abbrev aM:=@List.all_eq_true
abbrev aN:=@List.mem_range
abbrev aP:=@bne_iff_ne
abbrev aQ:=@PySem.wpAny_bind
abbrev aR:=@PySem.wpAny_pure
abbrev aS:=@List.getElem?_eq_some_iff
abbrev aU:=@List.any_eq_true
abbrev aV:=@List.length_map
abbrev aW:=@List.length_range
abbrev aX:=@List.take_length
abbrev aY:=@of_decide_eq_true
abbrev aZ:=@List.append_nil
abbrev a7:=@List.not_mem_nil
abbrev a8:=@List.mem_cons
abbrev a9:=@Int.toNat_natCast
abbrev ba:=@Int.fdiv_eq_ediv_of_nonneg
abbrev bc:=@Bool.not_eq_true'
abbrev bf:=@List.mem_singleton
abbrev bg:=@List.mem_append
abbrev bh:=@List.length_append
abbrev bj:=@Bool.eq_iff_iff
abbrev bk:=@decide_eq_true_iff
abbrev bl:=@List.mem_flatMap
abbrev bo:=@bne_eq_false_iff_eq
abbrev bp:=@Bool.or_eq_true
@[elab_as_elim]theorem rwl.{u}{α:Sort u}{a b:α}{P:α->Prop}(h:a=b)(p:P b):P a:=by subst h;exact p
theorem e02{p q G:Prop}(h:p/\q)(k:p->q->G):G:=k h.1 h.2
theorem e11{p:i->Prop}{G:Prop}(h:∃a,p a)(k:∀a,p a->G):G:=h.elim λa h=>k a h
theorem e03{p q r G:Prop}(h:p/\q/\r)(k:p->q->r->G):G:=k h.1 h.2.1 h.2.2
theorem e12{p q:i->Prop}{G:Prop}(h:∃a,p a/\q a)(k:∀a,p a->q a->G):G:=h.elim λa h=>k a h.1 h.2
theorem e21{p:i->j->Prop}{G:Prop}(h:∃a b,p a b)(k:∀a b,p a b->G):G:=h.elim λa h=>h.elim λb h=>k a b h
theorem e04{p q r s G:Prop}(h:p/\q/\r/\s)(k:p->q->r->s->G):G:=k h.1 h.2.1 h.2.2.1 h.2.2.2
theorem e13{p q r:i->Prop}{G:Prop}(h:∃a,p a/\q a/\r a)(k:∀a,p a->q a->r a->G):G:=h.elim λa h=>k a h.1 h.2.1 h.2.2
theorem e22{p q:i->j->Prop}{G:Prop}(h:∃a b,p a b/\q a b)(k:∀a b,p a b->q a b->G):G:=h.elim λa h=>h.elim λb h=>k a b h.1 h.2
theorem e31{p:i->j->y->Prop}{G:Prop}(h:∃a b c,p a b c)(k:∀a b c,p a b c->G):G:=h.elim λa h=>h.elim λb h=>h.elim λc h=>k a b c h
theorem e05{p q r s t G:Prop}(h:p/\q/\r/\s/\t)(k:p->q->r->s->t->G):G:=k h.1 h.2.1 h.2.2.1 h.2.2.2.1 h.2.2.2.2
theorem e14{p q r s:i->Prop}{G:Prop}(h:∃a,p a/\q a/\r a/\s a)(k:∀a,p a->q a->r a->s a->G):G:=h.elim λa h=>k a h.1 h.2.1 h.2.2.1 h.2.2.2
theorem e23{p q r:i->j->Prop}{G:Prop}(h:∃a b,p a b/\q a b/\r a b)(k:∀a b,p a b->q a b->r a b->G):G:=h.elim λa h=>h.elim λb h=>k a b h.1 h.2.1 h.2.2
theorem e32{p q:i->j->y->Prop}{G:Prop}(h:∃a b c,p a b c/\q a b c)(k:∀a b c,p a b c->q a b c->G):G:=h.elim λa h=>h.elim λb h=>h.elim λc h=>k a b c h.1 h.2
theorem e41{p:i->j->y->z->Prop}{G:Prop}(h:∃a b c d,p a b c d)(k:∀a b c d,p a b c d->G):G:=h.elim λa h=>h.elim λb h=>h.elim λc h=>h.elim λd h=>k a b c d h
theorem e06{p q r s t u G:Prop}(h:p/\q/\r/\s/\t/\u)(k:p->q->r->s->t->u->G):G:=k h.1 h.2.1 h.2.2.1 h.2.2.2.1 h.2.2.2.2.1 h.2.2.2.2.2
theorem e15{p q r s t:i->Prop}{G:Prop}(h:∃a,p a/\q a/\r a/\s a/\t a)(k:∀a,p a->q a->r a->s a->t a->G):G:=h.elim λa h=>k a h.1 h.2.1 h.2.2.1 h.2.2.2.1 h.2.2.2.2
theorem e24{p q r s:i->j->Prop}{G:Prop}(h:∃a b,p a b/\q a b/\r a b/\s a b)(k:∀a b,p a b->q a b->r a b->s a b->G):G:=h.elim λa h=>h.elim λb h=>k a b h.1 h.2.1 h.2.2.1 h.2.2.2
theorem e33{p q r:i->j->y->Prop}{G:Prop}(h:∃a b c,p a b c/\q a b c/\r a b c)(k:∀a b c,p a b c->q a b c->r a b c->G):G:=h.elim λa h=>h.elim λb h=>h.elim λc h=>k a b c h.1 h.2.1 h.2.2
theorem e42{p q:i->j->y->z->Prop}{G:Prop}(h:∃a b c d,p a b c d/\q a b c d)(k:∀a b c d,p a b c d->q a b c d->G):G:=h.elim λa h=>h.elim λb h=>h.elim λc h=>h.elim λd h=>k a b c d h.1 h.2
theorem e51{p:i->j->y->z->D->Prop}{G:Prop}(h:∃a b c d e,p a b c d e)(k:∀a b c d e,p a b c d e->G):G:=h.elim λa h=>h.elim λb h=>h.elim λc h=>h.elim λd h=>h.elim λe h=>k a b c d e h
theorem e07{p q r s t u v G:Prop}(h:p/\q/\r/\s/\t/\u/\v)(k:p->q->r->s->t->u->v->G):G:=k h.1 h.2.1 h.2.2.1 h.2.2.2.1 h.2.2.2.2.1 h.2.2.2.2.2.1 h.2.2.2.2.2.2
theorem e16{p q r s t u:i->Prop}{G:Prop}(h:∃a,p a/\q a/\r a/\s a/\t a/\u a)(k:∀a,p a->q a->r a->s a->t a->u a->G):G:=h.elim λa h=>k a h.1 h.2.1 h.2.2.1 h.2.2.2.1 h.2.2.2.2.1 h.2.2.2.2.2
theorem e25{p q r s t:i->j->Prop}{G:Prop}(h:∃a b,p a b/\q a b/\r a b/\s a b/\t a b)(k:∀a b,p a b->q a b->r a b->s a b->t a b->G):G:=h.elim λa h=>h.elim λb h=>k a b h.1 h.2.1 h.2.2.1 h.2.2.2.1 h.2.2.2.2
theorem e34{p q r s:i->j->y->Prop}{G:Prop}(h:∃a b c,p a b c/\q a b c/\r a b c/\s a b c)(k:∀a b c,p a b c->q a b c->r a b c->s a b c->G):G:=h.elim λa h=>h.elim λb h=>h.elim λc h=>k a b c h.1 h.2.1 h.2.2.1 h.2.2.2
theorem e43{p q r:i->j->y->z->Prop}{G:Prop}(h:∃a b c d,p a b c d/\q a b c d/\r a b c d)(k:∀a b c d,p a b c d->q a b c d->r a b c d->G):G:=h.elim λa h=>h.elim λb h=>h.elim λc h=>h.elim λd h=>k a b c d h.1 h.2.1 h.2.2
theorem e52{p q:i->j->y->z->D->Prop}{G:Prop}(h:∃a b c d e,p a b c d e/\q a b c d e)(k:∀a b c d e,p a b c d e->q a b c d e->G):G:=h.elim λa h=>h.elim λb h=>h.elim λc h=>h.elim λd h=>h.elim λe h=>k a b c d e h.1 h.2
theorem e61{p:i->j->y->z->D->H->Prop}{G:Prop}(h:∃a b c d e f,p a b c d e f)(k:∀a b c d e f,p a b c d e f->G):G:=h.elim λa h=>h.elim λb h=>h.elim λc h=>h.elim λd h=>h.elim λe h=>h.elim λf h=>k a b c d e f h
theorem d21{β:α->Sort _}{p:(a:α)->β a->Prop}{G:Prop}(h:∃a b,p a b)(k:∀a b,p a b->G):G:=h.elim λa h=>h.elim λb h=>k a b h
theorem d22{β:α->Sort _}{p q:(a:α)->β a->Prop}{G:Prop}(h:∃a b,p a b/\q a b)(k:∀a b,p a b->q a b->G):G:=h.elim λa h=>h.elim λb h=>k a b h.1 h.2
theorem hd{P:Prop}(k:∀G:Prop,(P->G)->G):P:=k P id
theorem nb{a b:Nat}{P:Prop}(h:a=b)(e:Nat.beq a b=false):P:=absurd h (Nat.ne_of_beq_eq_false e)
theorem cxO{a b:Option α}{P:Prop}(h:a=b)(e:Nat.beq a.ctorIdx b.ctorIdx=false):P:=nb (ae Option.ctorIdx h) e
theorem cxL{a b:List α}{P:Prop}(h:a=b)(e:Nat.beq a.ctorIdx b.ctorIdx=false):P:=nb (ae List.ctorIdx h) e
theorem cxB{a b:Bool}{P:Prop}(h:a=b)(e:Nat.beq a.toNat b.toNat=false):P:=nb (ae Bool.toNat h) e
theorem cxV{a b:Value}{P:Prop}(h:a=b)(e:Nat.beq a.ctorIdx b.ctorIdx=false):P:=nb (ae Value.ctorIdx h) e
theorem soK{a b:α}{P:Prop}(h:some a=some b)(k:a=b->P):P:=k (af h)
theorem prK{α:Type _}{β:Type _}{a c:α}{b d:β}{P:Prop}(h:(a,b)=(c,d))(k:a=c->b=d->P):P:=k (ae Prod.fst h) (ae Prod.snd h)
theorem coK{b d:List α}{P:Prop}(h:a::b=c::d)(k:a=c->b=d->P):P:=k (List.cons.inj h).1 (List.cons.inj h).2
theorem vrK{P:Prop}(h:Value.ref a=Value.ref b)(k:a=b->P):P:=k (Value.ref.inj h)
theorem viK{P:Prop}(h:Value.int i t=Value.int j u)(k:i=j->t=u->P):P:=k (Value.int.inj h).1 (Value.int.inj h).2
theorem vbK{P:Prop}(h:Value.bool a=Value.bool b)(k:a=b->P):P:=k (Value.bool.inj h)
theorem rfG{a b:α}{P:Prop}(_:a=b)(k:P):P:=k
theorem rfK{a:α}{P:Prop}(_:a=a)(k:P):P:=k
theorem bC(h:(a&&b)=true):a=true/\b=true:=Bool.and_eq_true_iff.mp h
theorem hW(h:(!a)=true):a=false:=by cases a<;>first | rfl | exact h.symm
theorem Ct[Decidable c]{a b:α}(h:(if c then some a else none)=some b):c/\a=b:=by
 by_cases q:c
 .rw[ag q]at h;exact⟨q,af h⟩
 .rw[ah q]at h;exact nomatch h
theorem Li[Decidable c]{b:α}(h:(if c then a else none)=some b):c/\a=some b:=by
 by_cases q:c
 .rw[ag q]at h;exact⟨q,h⟩
 .rw[ah q]at h;exact nomatch h
theorem NQ[Decidable c]{a b:α}(h:(if c then none else some a)=some b):¬c/\a=b:=by
 by_cases q:c
 .rw[ag q]at h;exact nomatch h
 .rw[ah q]at h;exact⟨q,af h⟩
theorem ff{P:Prop}(h:false=true):P:=Bool.noConfusion h
theorem oa{a b n:Nat}(h:a<=n)(e:Nat.ble b a=true):b<=n:=ai (Nat.le_of_ble_eq_true e) h
theorem ob{a b c n:Nat}(h:a<=n)(e:Nat.ble (b+c) a=true):b<=n-c:=Nat.le_sub_of_add_le (oa h e)
theorem oc{a b:Nat}(e:Nat.ble a b=true):a<=b:=Nat.le_of_ble_eq_true e
theorem od{a b x:Nat}(h:x<=a)(e:Nat.ble a b=true):x<=b:=ai h (oc e)
theorem oe{a b x:Nat}(h:x<=a)(e:Nat.ble (a+1) b=true):x<b:=aj h (oc e)
theorem og{a b s:Nat}(e:Nat.ble (a+1) b=true):a-s<b:=aj (Nat.sub_le a s) (oc e)
theorem oh{N a x k:Nat}(h:N<=a/\p)(g:x<N)(e:Nat.ble a k=true):x<k:=ak g (od h.1 e)
theorem oi{N a x k:Nat}(g:x<N)(h:N<=a)(e:Nat.ble a k=true):x<k:=ak g (od h e)
theorem oj{x y a b c:Nat}(h:x<=a)(g:y<=b)(e:Nat.ble (a+b) c=true):x+y<=c:=ai (Nat.add_le_add h g) (oc e)
theorem ol{a b x:Nat}(h:x<a)(e:Nat.ble a (b+1)=true):x<=b:=Nat.le_of_lt_succ (ak h (oc e))
theorem om{a b x:Nat}(h:x<a)(e:Nat.ble a b=true):x<b:=ak h (oc e)
theorem ok{a b:Nat}(h:(a:Int)=(b:Int)):a=b:=Int.ofNat.inj h
theorem zA{x a:Nat}(h:x<a)(e:(a:Int)<=k):(x:Int)<k:=ao (aq.mpr h) e
theorem zB{x a:Nat}(h:x<a)(e:(a:Int)<=k):(x:Int)<=k:=Int.le_of_lt (zA h e)
theorem zC{x N a:Nat}(g:x<N)(h:N<=a/\p)(e:(a:Int)<=k):(x:Int)<k:=zA (ak g h.1) e
theorem zD{x N a:Nat}(g:x<N)(h:N<=a/\p)(e:(a:Int)<=k):(x:Int)<=k:=Int.le_of_lt (zC g h e)
theorem zE{x:Nat}(e:k<0):k<(x:Int):=ao e (Int.natCast_nonneg x)
theorem zF{x:Nat}(e:k<=0):k<=(x:Int):=Int.le_trans e (Int.natCast_nonneg x)
theorem zG{x a:Nat}(h:x<=a)(e:(a:Int)<=k):(x:Int)<=k:=Int.le_trans (Int.ofNat_le.mpr h) e
theorem zH{x a:Nat}(h:x<=a)(e:(a:Int)<k):(x:Int)<k:=Int.lt_of_le_of_lt (Int.ofNat_le.mpr h) e
theorem zI{x a:Nat}(h:p/\q/\r/\x<=a/\s)(e:(a:Int)<=k):(x:Int)<=k:=zG h.2.2.2.1 e
theorem zJ{x a:Nat}(h:p/\q/\r/\x<=a/\s)(e:(a:Int)<k):(x:Int)<k:=zH h.2.2.2.1 e
theorem pe(h:s % 2=0):¬(s+1) % 2=0:=by rw[Nat.add_mod,h];decide
theorem po(h:¬s % 2=0):(s+1) % 2=0:=by rw[Nat.add_mod,Nat.mod_two_ne_zero.mp h]
theorem sn(h:s<2):¬1-s=s:=(by decide:∀s,s<2->¬1-s=s) s h
theorem zM{x a k:Int}(h:a<=x)(e:k<=a):k<=x:=Int.le_trans e h
theorem zN{x a k:Int}(h:x<a)(e:a<=k):x<k:=ao h e
theorem bb(i:a<2)(hs:s<2):¬a=s↔a=1-s:=(by decide:∀a,a<2->∀s,s<2->(¬a=s↔a=1-s)) a i s hs
theorem okl{a b:Nat}(h:(a:Int)=i)(e:i=(b:Int)):a=b:=Int.ofNat.inj (h.trans e)
theorem okn{a b:Nat}(h:¬(a:Int)=i)(e:i=(b:Int)):¬a=b:=λq=>h ((ae Nat.cast q).trans e.symm)
theorem okm{a b:Nat}(h:¬a=b)(e:i=(b:Int)):¬(a:Int)=i:=λq=>h (Int.ofNat.inj (q.trans e))
theorem zK{x a k:Int}(h:a<=x)(e:k<a):k<x:=ao e h
theorem zL{x a k:Int}(h:x<=a)(e:a<k):x<k:=Int.lt_of_le_of_lt h e
theorem aoq{a b c x n:Nat}(h:a+x<=n)(e:Nat.ble (b+c) a=true):b<=n-c:=ob (ai (Nat.le_add_right a x) h) e
theorem or'{a b c x n:Nat}(h:a+x<=n)(e:Nat.ble (b+c) a=true):b+x<=n-c:=Nat.le_sub_of_add_le (ai (aw (Nat.add_right_comm b x c)) (ai (Nat.add_le_add_right (oc e) x) h))
theorem aos(h:a+2*m<=n)(g:i<m)(e:Nat.ble (b+c) (a+2)=true):b+2*i<=n-c:=
 Nat.le_sub_of_add_le (ai (aw (Nat.add_right_comm b _ c)) (ai (Nat.add_le_add_right (oc e) _) (ai (aw ((Nat.add_assoc a 2 _).trans (ae (a+·) (Nat.add_comm 2 _)))) (ai (Nat.add_le_add_left (Nat.mul_le_mul_left 2 (Nat.succ_le_of_lt g)) a) h))))
theorem ou{a b x n:Nat}(h:a+x<=n)(e:Nat.ble b a=true):b<=n:=ai (oc e) (ai (Nat.le_add_right a x) h)
theorem ov{a b x n:Nat}(h:a+x<=n)(e:Nat.ble b a=true):b+x<=n:=ai (Nat.add_le_add_right (oc e) x) h
theorem ss(h:s<2):1-(1-s)=s:=(by decide:∀s,s<2->1-(1-s)=s) s h
theorem sl(h:s<2):1-s<2:=(by decide:∀s,s<2->1-s<2) s h
theorem bi(i:a<2)(hs:s<2)(h:¬a=s):a=1-s:=(by decide:∀a,a<2->∀s,s<2->¬a=s->a=1-s) a i s hs h
theorem d8(h:k<8):(a*8+k)/8=a:=by rw[Nat.mul_comm,Nat.mul_add_div (by decide),Nat.div_eq_of_lt h];rfl
theorem m8(h:k<8):(a*8+k) % 8=k:=by rw[Nat.mul_comm,Nat.mul_add_mod];exact Nat.mod_eq_of_lt h
theorem dv{a k q:Nat}(h:a<k):(a+k*q)/k=q:=by rw[Nat.add_mul_div_left _ _ (Nat.zero_lt_of_lt h),Nat.div_eq_of_lt h,Nat.zero_add]
theorem md{a k q:Nat}(h:a<k):(a+k*q) % k=a:=by rw[Nat.add_mul_mod_self_left];exact Nat.mod_eq_of_lt h
theorem Ri{t o a b:Nat}(ht:t<a)(ho:o<b):t+o*a<b*a:=ak (Nat.add_lt_add_right ht (o*a)) (ai (aw ((Nat.add_comm a _).trans (Nat.succ_mul o a).symm)) (Nat.mul_le_mul_right a ho))
theorem m82(h:f<4):(a*8+(f+2)) % 8<7:=aj (aw (m8 (ak (Nat.add_lt_add_right h 2) (by decide)))) (ak (Nat.add_lt_add_right h 2) (by decide))
theorem m83(h:f<4):¬(a*8+(f+2)) % 8=0:=λe=>Nat.succ_ne_zero _ ((m8 (ak (Nat.add_lt_add_right h 2) (by decide))).symm.trans e)
theorem m84:(a*8+1) % 8<7:=aj (aw (m8 (by decide))) (by decide)
theorem m85:¬(a*8+1) % 8=0:=λe=>Nat.succ_ne_zero _ ((m8 (by decide)).symm.trans e)
theorem m86(h:f<4)(g:a<2):a*8+(f+2)<15:=(by decide:∀f,f<4->∀a,a<2->a*8+(f+2)<15) f h a g
theorem zM7{p:Nat}(h:p % 8<7):(p:Int) % 8<7:=aq.mpr h
theorem zP(h:p<15):p/8<2:=Nat.div_lt_of_lt_mul (ak h (by decide))
theorem zR{n:Nat}(h:1<=n):(n:Int)-1=((n-1:Nat):Int):=(Int.ofNat_sub h).symm
theorem zS{n:Nat}(h:¬n=0):(n:Int)-1=((n-1:Nat):Int):=zR (Nat.pos_of_ne_zero h)
theorem zT{s:Nat}(h:s<2):1-(s:Int)=((1-s:Nat):Int):=(Int.ofNat_sub (Nat.le_of_lt_succ h)).symm
theorem nP(h:¬n=0):n-1<n:=Nat.sub_lt (Nat.pos_of_ne_zero h) Nat.zero_lt_one
theorem aow(h:a+2*(x+1)<=n)(e:Nat.ble (b+c) (a+2)=true):b+2*x<=n-c:=or' (a:=a+2) (ai (aw ((Nat.add_assoc a 2 _).trans (ae (a+·) (Nat.add_comm 2 _)))) h) e
theorem aox(h:a+2*(x+1)<=n)(e:Nat.ble (b+c) (a+2)=true):b<=n-c:=ai (Nat.le_add_right b _) (aow h e)
theorem zV{a x:Nat}(h:p/\q/\a<=x/\r)(e:Nat.ble 1 a=true):(x:Int)-1=((x-1:Nat):Int):=zR (oa h.2.2.1 e)
theorem zW{a x:Nat}(h:p/\q/\r/\s/\a<=x/\t)(e:Nat.ble 1 a=true):(x:Int)-1=((x-1:Nat):Int):=zR (oa h.2.2.2.2.1 e)
theorem nV{a x:Nat}(h:p/\q/\a<=x/\r)(e:Nat.ble 1 a=true):x-1<x:=Nat.sub_lt (oa h.2.2.1 e) Nat.zero_lt_one
theorem nW{a x:Nat}(h:p/\q/\r/\s/\a<=x/\t)(e:Nat.ble 1 a=true):x-1<x:=Nat.sub_lt (oa h.2.2.2.2.1 e) Nat.zero_lt_one
theorem pV{a x:Nat}(h:p/\q/\a<=x/\r)(e:Nat.ble 1 a=true):0<x:=oa h.2.2.1 e
theorem pW{a x:Nat}(h:p/\q/\r/\s/\a<=x/\t)(e:Nat.ble 1 a=true):0<x:=oa h.2.2.2.2.1 e
theorem sA1(hs:s<2)(h:a=s):¬a=1-s:=λe=>sn hs (e.symm.trans h)
theorem sA2(hs:s<2)(h:a=1-s):¬a=s:=λe=>sn hs (h.symm.trans e)
theorem sA3(hs:s<2)(h:p/\a=s):¬a=1-s:=sA1 hs h.2
theorem sA4(hs:s<2)(h:p/\a=1-s):¬a=s:=sA2 hs h.2
theorem T2(h:x/8=s)(hk:k<8):x=s*8+k↔x % 8=k:=⟨λe=>by rw[e];exact m8 hk,λe=>by rw[<-h,<-e,Nat.mul_comm];exact(Nat.div_add_mod x 8).symm⟩
theorem sbl{d a b c:Nat}(h:d<a)(e:(Nat.ble a (b+c)&&Nat.ble 1 b)=true):d-c<b:=by
 rw[ax]at e
 rcases ay d c with g | g
 .rw[Nat.sub_eq_zero_of_le (Nat.le_of_lt g)];exact oc e.2
 .exact Nat.sub_lt_right_of_lt_add g (ak h (oc e.1))
theorem m87(h:f<4):¬(a*8+(f+2)) % 8=1:=λe=>Nat.succ_ne_zero f (Nat.succ.inj ((m8 (ak (Nat.add_lt_add_right h 2) (by decide))).symm.trans e))
theorem m88(h:f<4):¬(a*8+(f+2)) % 8=6:=λe=>Nat.ne_of_lt h (Nat.add_right_cancel (m:=2) ((m8 (ak (Nat.add_lt_add_right h 2) (by decide))).symm.trans e))
theorem m89(h:f<4):(a*8+(f+2))/8=a:=d8 (ak (Nat.add_lt_add_right h 2) (by decide))
theorem r25c(h:x<7)(i:¬x=0)(h1:¬x=1)(j:¬x=6):x=2\/x=3\/x=4\/x=5:=((by decide:∀x,x<7->((x=0\/x=1\/x=6)\/(x=2\/x=3\/x=4\/x=5))) x h).resolve_left λe=>e.elim i λe=>e.elim h1 j
theorem r26d(h:x<7)(i:¬x=0)(h1:¬x=1):x=2\/x=3\/x=4\/x=5\/x=6:=((by decide:∀x,x<7->((x=0\/x=1)\/(x=2\/x=3\/x=4\/x=5\/x=6))) x h).resolve_left λe=>e.elim i h1
theorem r23c(h:x<7)(h1:x≠1/\x≠4/\x≠5):¬(x=0\/x=6)↔x=2\/x=3:=(by decide:∀x,x<7->(x≠1/\x≠4/\x≠5)->(¬(x=0\/x=6)↔x=2\/x=3)) x h h1
theorem lt2c(h:x<2):x=0\/x=1:=(by decide:∀x,x<2->(x=0\/x=1)) x h
theorem lt3c(h:x<3):x=0\/x=1\/x=2:=(by decide:∀x,x<3->(x=0\/x=1\/x=2)) x h
theorem lt4c(h:x<4):x=0\/x=1\/x=2\/x=3:=(by decide:∀x,x<4->(x=0\/x=1\/x=2\/x=3)) x h
theorem lt8c(h:x<8):x=0\/x=1\/x=2\/x=3\/x=4\/x=5\/x=6\/x=7:=(by decide:∀x,x<8->(x=0\/x=1\/x=2\/x=3\/x=4\/x=5\/x=6\/x=7)) x h
theorem r16c(h1:x<7)(h:x≠0):x=1\/x=2\/x=3\/x=4\/x=5\/x=6:=(by decide:∀x,x<7->x≠0->(x=1\/x=2\/x=3\/x=4\/x=5\/x=6)) x h1 h
theorem r26c(h1:x<7)(h:1<x):x=2\/x=3\/x=4\/x=5\/x=6:=(by decide:∀x,x<7->1<x->(x=2\/x=3\/x=4\/x=5\/x=6)) x h1 h
set_option tactic.hygienic false
local macro_rules (kind:=Lean.Parser.Tactic.show) | s=>tysx true [s[1]] "$0 !: !R"
local macro_rules (kind:=Lean.Parser.Tactic.omega) | s=>tyaS s "!T"
local macro_rules (kind:=Lean.Parser.Tactic.lia) | s=>tyaS s "!U"
local macro_rules (kind:=Lean.Parser.Tactic.rwSeq) | s=>tywS (s[1][0].getNumArgs+s[3].getNumArgs==0) s[2][1].getSepArgs.toList
local macro_rules (kind:=Lean.Parser.Tactic.obtain) | s=>tyoS (s[1].getNumArgs==1&&s[2].getNumArgs==0&&s[3].getNumArgs==2) s[1][0] s[3][1][0]
local macro_rules (kind:=Lean.Parser.Tactic.rcases) | s=>tyoS (s[1].getNumArgs==1&&s[1][0][0].getNumArgs==0&&s[2].getNumArgs==2&&s[2][1][1].getNumArgs==0&&tykd s[2][1][0][0][0] != "paren") s[2][1][0] s[1][0][1]
local macro_rules (kind:=Lean.Parser.Tactic.rintro) | s=>tyrS (s[2].getNumArgs==0) s[1].getArgs.toList
local macro_rules (kind:=Lean.Parser.Tactic.cases) | s=>tycS (s[1].getNumArgs==1&&s[1][0][0].getNumArgs==0&&s[2].getNumArgs==0) s[1][0][1] s[3]
local macro_rules (kind:=Lean.Elab.Tactic.Ext.ext) | s=>tysx (s[1].getNumArgs+s[2].getNumArgs==0) [] "!Vme !S1 Lean.Parser.Tactic.tacticRepeat_/repeat/1"
inductive AV where
 | none
 | bool (b:Bool)
 | int (i:Int)
 | ref (a:Addr)
 | cn (l:List AV)
 | c8 (a b c:Int)
theorem cxA{a b:AV}{P:Prop}(h:a=b)(e:Nat.beq a.ctorIdx b.ctorIdx=false):P:=nb (ae AV.ctorIdx h) e
theorem aiK{P:Prop}(h:AV.int i=AV.int j)(k:i=j->P):P:=k (AV.int.inj h)
theorem arK{P:Prop}(h:AV.ref i=AV.ref j)(k:i=j->P):P:=k (AV.ref.inj h)
theorem abK{P:Prop}(h:AV.bool i=AV.bool j)(k:i=j->P):P:=k (AV.bool.inj h)
theorem atK{P:Prop}(h:AV.cn i=AV.cn j)(k:i=j->P):P:=k (AV.cn.inj h)
inductive cP{α β:Type}(R:α->β->Prop):List α->List β->Prop
 | nil:cP R [] []
 | cons {a b as bs}:R a b->cP R as bs->cP R (a::as) (b::bs)
section
variable{α β:Type}{R:α->β->Prop}{as:List α}{bs:List β}
theorem cP.length(h:cP R as bs):as.length=bs.length:=by
 induction h with
 | nil=>rfl
 | cons _ _ i=>exact ae (·+1) i
theorem cP.imp(f:∀a b,R a b->S a b)(h:cP R as bs):cP S as bs:=by
 induction h with
 | nil=>exact .nil
 | cons a _ i=>exact .cons (f _ _ a) i
theorem cP.get(h:cP R as bs):∀{i:Nat}{b:β},bs[i]? =some b->∃a,as[i]? =some a/\R a b:=by
 induction h with
 | nil=>intro i b e;cases e
 | cons a _ j=>
  intro i b e
  cases i with
  | zero=>cases e;exact⟨_,rfl,a⟩
  | succ i=>exact j e
theorem cP.AL(h:cP R as bs):∀{i:Nat}{a:α},as[i]? =some a->∃b,bs[i]? =some b/\R a b:=by
 induction h with
 | nil=>intro i b e;cases e
 | cons a _ j=>
  intro i b e
  cases i with
  | zero=>cases e;exact⟨_,rfl,a⟩
  | succ i=>exact j e
theorem cP.append(h:cP R as bs)(h':cP R i j):cP R (as++i) (bs++j):=by
 induction h with
 | nil=>exact h'
 | cons a _ y=>exact .cons a y
theorem cP.set(h:R a b)(i:Nat)(r:cP R as bs):cP R (as.set i a) (bs.set i b):=by
 induction r generalizing i with
 | nil=>exact .nil
 | cons x t j=>
  cases i with
  | zero=>exact .cons h t
  | succ i=>exact .cons x (j i)
theorem cP.E4:∀{as:List α}{bs:List β},as.length=bs.length->(∀(i:Nat)(a:α)(b:β),as[i]? =some a->bs[i]? =some b->R a b)->cP R as bs:=by
 intro as
 induction as with
 | nil=>
  intro bs hl _
  cases bs with
  | nil=>exact .nil
  | cons=>cases hl
 | cons a as j=>
  intro bs hl h
  cases bs with
  | nil=>cases hl
  | cons b bs=>exact .cons (h 0 a b rfl rfl) (j (Nat.succ.inj hl) λi a b y hb=>h (i+1) a b y hb)
end
class inductive VR (h:Heap):Value->AV->Prop
 | none:VR h .none .none
 | bool (b:Bool):VR h (.bool b) (.bool b)
 | int (i:Int) (t:Tok):VR h (.int i t) (.int i)
 | ref (a:Addr):VR h (.ref a) (.ref a)
 | cn (a:Addr) (items:Array Value) (n:Nat) (l:List AV):IsT h a items n->items.size=l.length->
   (∀(i:Nat)(v:Value)(av:AV),items[i]? =some v->l[i]? =some av->VR h v av)->VR h (.ref a) (.cn l)
 | c8 (r:Addr) (a b c:Int) (t u v:Tok):IsRange h r a b c t u v->VR h (.ref r) (.c8 a b c)
def c9 (o:Obj):Prop:=(o.cls=.type "tuple"/\∃items n,o.data=.seq items n)\/(o.cls=.type "range"/\∃vs,o.data=.fields vs)
theorem VR.Cu(x:VR h v av):AV.casesOn (motive_1:=λZ=>Prop) av (v=.none) (λb=>v=.bool b) (λi=>∃t,v=.int i t) (λa=>v=.ref a) (λl=>∃a items n,v=.ref a/\IsT h a items n/\items.size=l.length/\∀(i:Nat)(v:Value)(av:AV),items[i]? =some v->l[i]? =some av->VR h v av) (λa b c=>∃r t u w,v=.ref r/\IsRange h r a b c t u w):=
 VR.casesOn x rfl (λZ=>rfl) (λZ t=>⟨t,rfl⟩) (λZ=>rfl) (λa i n Z h1 h2 h3=>⟨a,i,n,rfl,h1,h2,h3⟩) λr Z Z Z t u w h1=>⟨r,t,u,w,rfl,h1⟩
theorem vrI{P:Prop}(x:VR h v (.int i))(k:∀t,v=.int i t->P):P:=Exists.elim x.Cu k
theorem vrB{P:Prop}(x:VR h v (.bool i))(k:v=.bool i->P):P:=k x.Cu
theorem vrN{P:Prop}(x:VR h v .none)(k:v=.none->P):P:=k x.Cu
theorem vrR{P:Prop}(x:VR h v (.ref a))(k:v=.ref a->P):P:=k x.Cu
theorem VR.bK(x:VR h v av)(k:∀a o,h.get? a=some o->c9 o->h'.get? a=some o):VR h' v av:=by
 induction x with
 | none=>exact .none
 | bool b=>exact .bool b
 | int i t=>exact .int i t
 | ref a=>exact .ref a
 | cn a items n l ho hs _ j=>exact .cn a items n l (k _ _ ho (.inl ⟨rfl,_,_,rfl⟩)) hs j
 | c8 r a b c t u v ho=>exact .c8 r a b c t u v (k _ _ ho (.inr ⟨rfl,_,rfl⟩))
abbrev eN(h:Heap)(vs:List Value)(l:List AV):Prop:=cP (VR h) vs l
theorem eN.bK(x:eN h vs l)(k:∀a o,h.get? a=some o->c9 o->h'.get? a=some o):eN h' vs l:=
 x.imp λZ Z y=>y.bK k
theorem VR.iu(x:VR h v (.cn l)):∃a items n,v=.ref a/\IsT h a items n/\eN h items.toList l:=
 e34 x.Cu λa items n e ho hs hi=>⟨a,items,n,e,ho,cP.E4 hs λi v av h1 h2=>hi i v av (Array.getElem?_toList.symm.trans h1) h2⟩
theorem VR.E5(ho:IsT h a items n)(x:eN h items.toList l):VR h (.ref a) (.cn l):=
 .cn a items n l ho (by simpa using x.length) λi v av h1 h2=>by
  obtain⟨w,hw,j⟩:=x.get h2
  rw[show items.toList[i]? =items[i]? by simp,h1]at hw
  cases hw;exact j
def EY(h:Heap):Option Value->Option AV->Prop
 | some v,some av=>VR h v av
 | none,none=>True
 | some _,none=>True
 | none,some _=>False
theorem EY.bK(x:EY h v av)(k:∀a o,h.get? a=some o->c9 o->h'.get? a=some o):EY h' v av:=by
 cases v<;>cases av<;>first | exact x | exact trivial | exact VR.bK x k
inductive AO where
 | list (own:Bool) (xs:List AV)
 | inst (c:Nat) (d:Addr)
 | dict (i:List (Nat × AV))
theorem cxH{a b:AO}{P:Prop}(h:a=b)(e:Nat.beq a.ctorIdx b.ctorIdx=false):P:=nb (ae AO.ctorIdx h) e
theorem alK{P:Prop}(h:AO.list w l=AO.list u m)(k:w=u->l=m->P):P:=k (AO.list.inj h).1 (AO.list.inj h).2
def AO.own:AO->Bool
 | .list b _=>b
 | _=>true
abbrev Hp:=Addr->Option AO
def Hp.set(σ:Hp)(a:Addr)(o:AO):Hp:=λb=>if b=a then some o else σ b
def E6(v:AV):Option Addr:=AV.casesOn (motive_1:=λZ=>Option Addr) v none (λZ=>none) (λZ=>none) some (λZ=>none) λZ Z Z=>none
theorem o4(h:E6 v=some a):v=.ref a:=by
 cases v<;>first | exact ae AV.ref (af h) | exact cxO h rfl
def LN(o:Option AO):Option (List (Nat × AV)):=o.bind λo=>AO.casesOn (motive:=λZ=>Option (List (Nat × AV))) o (λZ Z=>none) (λZ Z=>none) some
def N4(o:Option AO):Option (Nat × Addr):=o.bind λo=>AO.casesOn (motive:=λZ=>Option (Nat × Addr)) o (λZ Z=>none) (λc d=>some (c,d)) λZ=>none
theorem Cv(h:N4 o=some p):o=some (.inst p.1 p.2):=by
 cases o with
 | none=>exact cxO h rfl
 | some o=>cases o with
  | inst c d=>rw[<-af h]
  | _=>exact cxO h rfl
theorem Cw(h:LN o=some p):o=some (.dict p):=by
 cases o with
 | none=>exact cxO h rfl
 | some o=>cases o with
  | dict c=>exact ae (λx=>some (AO.dict x)) (af h)
  | _=>exact cxO h rfl
@[reducible]def Loc:=List (Option AV)
def getL:Loc->Nat->Option AV
 | [],_=>none
 | x::_,0=>x
 | _::r,i+1=>getL r i
def setL:Loc->Nat->AV->Loc
 | [],_,_=>[]
 | _::r,0,v=>some v::r
 | x::r,i+1,v=>x::setL r i v
def lk:List (Nat × AV)->Nat->Option AV
 | [],_=>none
 | (j,v)::r,k=>if k=j then some v else lk r k
def hY:List (Nat × AV)->Nat->AV->List (Nat × AV)
 | [],k,v=>[(k,v)]
 | (j,w)::r,k,v=>if k=j then(j,v)::r else(j,w)::hY r k v
def Im:List Str:=["files", "ranks", "size", "full", "has_double", "has_castling", "file_masks", "rank_masks", "rays", "king", "knight", "pawn", "castles", "rights_lost",
 "geo", "zob", "board", "kinds", "sides", "side", "rights", "ep", "half", "key", "history", "pieces", "text"]
def b9 (k:Nat):Str:=(Im[k]?).getD "?"
set_option genInjectivity false
mutual
inductive CE where
 | int (i:Int)
 | bool (b:Bool)
 | none
 | var (i:Nat)
 | bD (x:Str) (i:Int)
 | ko (x:Str) (k:Nat)
 | bx (o:Operator) (l r:CE)
 | bM (o:CmpOp) (l r:CE)
 | chn (D G:CmpOp) (a b c:CE)
 | and (l r:CE)
 | or (l r:CE)
 | not (e:CE)
 | neg (e:CE)
 | inv (e:CE)
 | ite (c t f:CE)
 | bt (o:CE) (k:Nat)
 | sub (o i:CE)
 | cn (es:sX)
 | cI (es:sX)
 | len (e:CE)
 | abs (e:CE)
 | c8 (es:sX)
 | call (f:Nat) (es:sX)
 | new (c:Nat) (es:sX)
 | slice (o:CE) (lo hi:Option Nat)
 | append (o e:CE)
 | pop (o:CE)
 | index (o e:CE)
 | count (o e:CE)
 | comp (y:CE) (z:List Nat) (it:CE) (cond:Option CE) (j:List (Nat × Nat)) (m:Nat)
inductive sX where
 | nil
 | cons (e:CE) (es:sX)
end
inductive CS where
 | skip
 | bL (i:Nat) (e:CE) (k:CS)
 | k9 (i:Nat) (e:CE) (k:CS)
 | o5 (is:List Nat) (e:CE) (k:CS)
 | iw (i:Nat) (o:Operator) (e:CE) (k:CS)
 | cg (o:CE) (f:Nat) (e:CE) (k:CS)
 | fZ (o:CE) (f:Nat) (j:Operator) (e:CE) (k:CS)
 | eK (o i e:CE) (k:CS)
 | jx (o i:CE) (j:Operator) (e:CE) (k:CS)
 | bS (c:CE) (t f:CS) (k:CS)
 | E7 (c:CE) (b:CS) (k:CS)
 | cb (t:List Nat) (it:CE) (b:CS) (k:CS)
 | ret (e:CE)
 | yx
 | expr (e:CE) (k:CS)
 | brk
 | cont
 | iE (x:Str) (SV:Str)
 | w4 (b:CS) (x:Str) (h:CS) (k:CS)
def ci{T:Type}(c k:Nat)(f:c=k->Option T):Option T:=if h:c=k then f h else none
def defOf(s:Stmt):Option (Str × Arguments × List Stmt × Scope):=ci s.ctorIdx 0 λh=>Stmt.FunctionDef.elim (motive_2:=λZ=>Option (Str × Arguments × List Stmt × Scope)) s h λn a b Z Z Z sc Z Z Z=>some (n,a,b,sc)
def Rj(s:Stmt):Option (List Stmt):=ci s.ctorIdx 2 λh=>Stmt.ClassDef.elim (motive_2:=λZ=>Option (List Stmt)) s h λZ Z Z b Z Z Z Z Z Z Z=>some b
def nC:List (Str × Arguments × List Stmt × Scope):=PySem.Challenge.pw_nt0469_01.main.body.filterMap defOf++PySem.Challenge.pw_nt0469_01.main.body.flatMap λst=>((Rj st).getD []).filterMap defOf
def N5:List String:=["make_piece", "side_of", "kind_of", "pack_move", "move_from", "move_to", "move_special", "move_promo", "more_than_one", "highest", "lowest", "squares_of", "direction", "between", "line", "aligned", "is_growing", "add_masks", "inner_squares", "add_rays", "add_pawns", "add_knights", "add_castles", "make_geometry", "ray_attacks", "rook_attacks", "bishop_attacks", "queen_attacks", "slider_attacks", "piece_attacks", "put_piece", "take_piece", "shift_piece", "occupied", "pieces", "king_square", "straight_sliders", "slanting_sliders", "pawn_attackers", "step_attackers", "line_attackers", "attackers_to", "is_attacked", "checkers_of", "checkers", "in_check_of", "in_check", "snipers_of", "blockers", "pinned_pieces", "squares_within", "castle_refusal", "add_castling", "add_goals", "add_piece_moves", "stage_target", "push_step", "start_mask", "last_mask", "shift_push", "shift_capture", "push_targets", "add_promotions", "add_plain_pushes", "add_push_promotions", "add_pawn_captures", "add_pawn_moves", "add_en_passant", "evasion_targets", "passed_pawn_square", "may_answer_en_passant", "add_evasions", "taken_square_legality", "is_safe_en_passant", "is_legal", "generate", "pseudo_moves", "keep_legal", "legal_moves", "has_legal_move", "moved_piece", "taken_square_makemove", "rook_step", "passed_square", "kept_rights", "clear_ep_key", "set_ep_key", "set_rights_key", "do_move", "undo_move", "undo_moves", "do_moves", "moves_made", "can_mate", "is_mated_in", "mating_line", "holding_line", "find_mate", "square_colour", "bishops_on_one_colour", "is_insufficient", "_law_hits", "_law_safe", "_law_free", "_law_moves", "_law_mates", "_law_lost", "_law_holds", "_law_bare", "_law_bad", "_law_cells", "law"]
def w5 (f:Nat):Str:=Str.ofString ((N5[f]?).getD "?")
def rA(c:Nat):Str:=match c with
 | 0=> "Geometry" | 1=> "Position" | 2=> "Zobrist" | 3=> "BadMove" | _=> "?"
def lu:List (Str × Int):=[("WHITE",0),("BLACK",1),("NO_KIND",0),("PAWN",1),("KNIGHT",2),("BISHOP",3),("ROOK",4),("QUEEN",5),("KING",6),("EMPTY",0),
 ("NORMAL",0),("PROMOTION",1),("EN_PASSANT",2),("CASTLING",3),("MAY",0),("NO_WING",1),("RIGHT_LOST",2),("NOT_FREE",3),("IN_CHECK",4),("PASSES_ATTACK",5),("GOAL_ATTACKED",6),
 ("CAPTURES",0),("QUIETS",1),("NON_EVASIONS",2),("EVASIONS",3)]
def dB(l:List Int):List AV:=l.map AV.int
def Ih(l:List (Int × Int)):List AV:=l.map λp=>AV.cn [.int p.1,.int p.2]
def vO(k:Nat):Str:=match k with
 | 0=> "STEP_FILES" | 1=> "STEP_RANKS" | 2=> "_law_kings" | 3=> "_law_jumps" | _=> "?"
def jL:List Int:=[0,1,0,-1,1,1,-1,-1]
def jM:List Int:=[1,0,-1,0,1,-1,-1,1]
def cW:List (Int × Int):=[(0,1),(1,0),(0,-1),(-1,0),(1,1),(1,-1),(-1,-1),(-1,1)]
def f7:List (Int × Int):=[(1,2),(2,1),(2,-1),(1,-2),(-1,-2),(-2,-1),(-2,1),(-1,2)]
def on{α:Type}(o:Option α)(f:α->Bool):Bool:=match o with
 | some x=>f x
 | none=>false
theorem bu{f:α->Bool}(h:on o f=true):∃x,o=some x/\f x=true:=by
 cases o with
 | none=>exact ff h
 | some x=>exact⟨x,rfl,h⟩
def w6(f:NameKind->Bool)(sc:Scope)(i:Nat)(x:Str):Bool:=on sc.names[i]? λy=>y.1==x&&f y.2
theorem jN(h:w6 f sc i x=true):∃k,sc.names[i]? =some (x,k)/\f k=true:=by
 obtain⟨y,hy,h⟩:=bu h
 cases e:y.1==x with
 | false=>rw[e]at h;exact ff h
 | true=>rw[e]at h;exact⟨y.2,hy.trans (ae (λz=>some (z,y.2)) (az.mp e)),h⟩
theorem Cy(h:sc.names[i]? =some (x,k))(hf:f k=true):w6 f sc i x=true:=
 (ae (λo:Option (Str × NameKind)=>on o λy=>y.1==x&&f y.2) h).trans ((congr (ae and (beq_self_eq_true x)) hf:(x==x&&f k)=(true&&true)))
theorem k2{k:NameKind}(h:(k==.local||k==.cell)=true):k=.local\/k=.cell:=by
 cases k<;>first | exact .inl rfl | exact .inr rfl | exact ff h
theorem k3{k:NameKind}(h:(k==.local||k==.cell||k==.free)=true):k=.local\/k=.cell\/k=.free:=by
 cases k<;>first | exact .inl rfl | exact .inr (.inl rfl) | exact .inr (.inr rfl) | exact ff h
def sY:Scope->Nat->Str->Bool:=w6 λk=>k==.local||k==.cell||k==.free
def iF:Scope->Nat->Str->Bool:=w6 λk=>k==.local||k==.cell
def dg(sc:Scope)(x:Str):Bool:=sc.names.lookup x==some .globalImplicit
def la(sc i:Scope):Scope:={i with names:=i.names.map λ(n,k)=>if(k==.free&&sc.kind==.function&&sc.names.lookup n==some .cell)then(n,.cell)else(n,k)}
def kr(sc z:Scope)(y:List (Nat × Nat)):Bool:=
 (List.range z.names.length).all λi=>on z.names[i]? λp=>cond (p.2==.free) (on (y.lookup i) λj=>w6 (·==.cell) sc j p.1) (!(p.2==.cell)&&(y.lookup i).isNone)
def cY:List (Str × NameKind)->Bool
 | []=>true
 | (x,_)::r=>!(r.any λy=>y.1==x)&&(!(x==("__classdict__" :Str))&&cY r)
def hZ(e:Expr):Bool:=Nat.beq e.ctorIdx 8||(Nat.beq e.ctorIdx 9||Nat.beq e.ctorIdx 10)
def w7:Scope->Nat->Str->Bool:=w6 λk=>k==.local
def gy(e:Expr):Bool:=Nat.beq e.ctorIdx 7
def AM(e:Expr):Bool:=Nat.beq e.ctorIdx 25
def Io(e:Expr):Option (BoolOp × List Expr × Pos):=ci e.ctorIdx 0 λh=>Expr.BoolOp.elim (motive_1:=λZ=>Option (BoolOp × List Expr × Pos)) e h λa b c=>some (a,b,c)
def LO(e:Expr):Option (Expr × Operator × Expr × Pos):=ci e.ctorIdx 2 λh=>Expr.BinOp.elim (motive_1:=λZ=>Option (Expr × Operator × Expr × Pos)) e h λa b c d=>some (a,b,c,d)
def E8(e:Expr):Option (UnaryOp × Expr × Pos):=ci e.ctorIdx 3 λh=>Expr.UnaryOp.elim (motive_1:=λZ=>Option (UnaryOp × Expr × Pos)) e h λa b c=>some (a,b,c)
def LP(e:Expr):Option (Expr × Expr × Expr × Pos):=ci e.ctorIdx 5 λh=>Expr.IfExp.elim (motive_1:=λZ=>Option (Expr × Expr × Expr × Pos)) e h λa b c d=>some (a,b,c,d)
def Ip(e:Expr):Option (Expr × List Comprehension × Scope × Pos):=ci e.ctorIdx 8 λh=>Expr.ListComp.elim (motive_1:=λZ=>Option (Expr × List Comprehension × Scope × Pos)) e h λa b c d=>some (a,b,c,d)
def Iq(e:Expr):Option (Expr × List CmpOp × List Expr × Pos):=ci e.ctorIdx 15 λh=>Expr.Compare.elim (motive_1:=λZ=>Option (Expr × List CmpOp × List Expr × Pos)) e h λa b c d=>some (a,b,c,d)
def AN(e:Expr):Option (Expr × List Expr × List Keyword × Pos):=ci e.ctorIdx 16 λh=>Expr.Call.elim (motive_1:=λZ=>Option (Expr × List Expr × List Keyword × Pos)) e h λa b c d=>some (a,b,c,d)
def LQ(e:Expr):Option (Const × Nat × Pos):=ci e.ctorIdx 19 λh=>Expr.Constant.elim (motive_1:=λZ=>Option (Const × Nat × Pos)) e h λa b c=>some (a,b,c)
def yy(e:Expr):Option (Expr × Str × Pos):=ci e.ctorIdx 20 λh=>Expr.Attribute.elim (motive_1:=λZ=>Option (Expr × Str × Pos)) e h λa b c=>some (a,b,c)
def DM(e:Expr):Option (Expr × Expr × Pos):=ci e.ctorIdx 21 λh=>Expr.Subscript.elim (motive_1:=λZ=>Option (Expr × Expr × Pos)) e h λa b c=>some (a,b,c)
def w8(e:Expr):Option (Str × Pos):=ci e.ctorIdx 23 λh=>Expr.Name.elim (motive_1:=λZ=>Option (Str × Pos)) e h λa b=>some (a,b)
def LR(e:Expr):Option (List Expr × Pos):=ci e.ctorIdx 24 λh=>Expr.List.elim (motive_1:=λZ=>Option (List Expr × Pos)) e h λa b=>some (a,b)
def E9(e:Expr):Option (List Expr × Nat × Pos):=ci e.ctorIdx 25 λh=>Expr.Tuple.elim (motive_1:=λZ=>Option (List Expr × Nat × Pos)) e h λa b c=>some (a,b,c)
def AP(e:Expr):Option (Option Expr × Option Expr × Option Expr × Pos):=ci e.ctorIdx 26 λh=>Expr.Slice.elim (motive_1:=λZ=>Option (Option Expr × Option Expr × Option Expr × Pos)) e h λa b c d=>some (a,b,c,d)
def eT(e:Expr):Bool:=on (AN e) λx=>(w8 x.1).isSome&&(x.2.1.isEmpty&&x.2.2.1.isEmpty)
def N6(x:Str)(e:Expr):Bool:=on (Ip e) λy=>!(y.2.2.1.names.any λz=>z.1==x&&(z.2==.local||z.2==.cell))
def Ir(sc:Scope):List Nat->List Expr->Bool
 | [],es=>es.isEmpty
 | i::is,es=>List.casesOn (motive:=λZ=>Bool) es false λe es=>on (w8 e) λx=>iF sc i x.1&&Ir sc is es
def mT(sc:Scope)(is:List Nat)(t:Expr):Bool:=match is with
 | []=>false
 | [i]=>on (w8 t) λx=>iF sc i x.1
 | i::j::r=>on (E9 t) λx=>Ir sc (i::j::r) x.1
def yz{α:Type}:List α->Option α
 | [x]=>some x
 | _=>none
def QN{α:Type}:List α->Option (α × α)
 | [x,y]=>some (x,y)
 | _=>none
def LS:Const->Option Int
 | .int i=>some i
 | _=>none
def N7:Const->Option Bool
 | .bool i=>some i
 | _=>none
def N8:Const->Bool
 | .none=>true
 | _=>false
def sZ(o:Option Nat)(e:Option Expr):Bool:=Option.casesOn (motive:=λZ=>Bool) o e.isNone λn=>on e λx=>on (LQ x) λc=>on (LS c.1) λi=>i==(n:Int)
def Lj(e:Expr):Option (Str × List Expr × Pos × Pos):=match AN e with
 | some (f,l,[],p)=>(match w8 f with
  | some (x,q)=>some (x,l,q,p)
  | none=>none)
 | _=>none
def QO(e:Expr):Option (Expr × Str × Pos × List Expr × Pos):=match AN e with
 | some (f,l,[],p)=>(match yy f with
  | some (v,a,q)=>some (v,a,q,l,p)
  | none=>none)
 | _=>none
def mM(e:Expr)(nm:Str)(f:Expr->List Expr->Bool):Bool:=on (QO e) λx=>(x.2.1==nm&& !eT x.1&&(x.2.2.1.endLine==x.2.2.2.2.line))&&f x.1 x.2.2.2.1
def mC(sc:Scope)(e:Expr)(j:List Nat)(i:List (Nat × Nat))(m:Nat)(f:Scope->Expr->Expr->List Expr->Bool):Bool:=on (Ip e) λx=>on (yz x.2.1) λg=>match g with
  | ⟨t,y,z,a⟩=>a==0&&x.2.2.1.names.length==m&&mT (la sc x.2.2.1) j t&&kr sc x.2.2.1 i&&cY x.2.2.1.names&&x.2.2.1.kind==.function&&f (la sc x.2.2.1) x.1 y z
mutual
noncomputable def mE (sc:Scope):CE->Expr->Bool
 | .int i=>λe=>on (LQ e) λx=>on (LS x.1) λj=>i==j
 | .bool b=>λe=>on (LQ e) λx=>on (N7 x.1) λc=>b==c
 | .none=>λe=>on (LQ e) λx=>N8 x.1
 | .var i=>λe=>on (w8 e) λx=>sY sc i x.1&& !(x.1==("__debug__" :Str))
 | .bD x i=>λe=>on (w8 e) λy=>x==y.1&&dg sc y.1&&lu.lookup x==some i&& !(y.1==("__debug__" :Str))
 | .ko x k=>λe=>on (w8 e) λy=>x==y.1&&dg sc y.1&&vO k==x&&Nat.blt k 4&& !(y.1==("__debug__" :Str))
 | .bx o l r=>λe=>on (LO e) λx=>o==x.2.1&&mE sc l x.1&&mE sc r x.2.2.1
 | .bM o l r=>λe=>on (Iq e) λx=>on (yz x.2.1) λo'=>on (yz x.2.2.1) λI=>o==o'&&mE sc l x.1&&mE sc r I&& !gy I
 | .chn V Y a b c=>λe=>on (Iq e) λx=>on (QN x.2.1) λo'=>on (QN x.2.2.1) λI=>V==o'.1&&Y==o'.2&&mE sc a x.1&&mE sc b I.1&&mE sc c I.2&& !gy I.1&& !gy I.2
 | .and l r=>λe=>on (Io e) λx=>match x with
  | (.And,x::y::z,p)=>mE sc l x&&(match z with | []=>mE sc r y | _=>mE sc r (.BoolOp .And (y::z) p))
  | _=>false
 | .or l r=>λe=>on (Io e) λx=>match x with
  | (.Or,x::y::z,p)=>mE sc l x&&(match z with | []=>mE sc r y | _=>mE sc r (.BoolOp .Or (y::z) p))
  | _=>false
 | .not a=>λe=>on (E8 e) λx=>match x.1 with | .Not=>mE sc a x.2.1 | _=>false
 | .neg a=>λe=>on (E8 e) λx=>match x.1 with | .USub=>mE sc a x.2.1 | _=>false
 | .inv a=>λe=>on (E8 e) λx=>match x.1 with | .Invert=>mE sc a x.2.1 | _=>false
 | .ite c t f=>λe=>on (LP e) λx=>mE sc c x.1&&mE sc t x.2.1&&mE sc f x.2.2.1
 | .bt o k=>λe=>on (yy e) λx=>b9 k==x.2.1&&(Nat.blt k 27&& !eT x.1)&&mE sc o x.1
 | .sub o i=>λe=>on (DM e) λx=>mE sc o x.1&&mE sc i x.2.1
 | .cn es=>λe=>on (E9 e) λx=>vP sc es x.1
 | .cI es=>λe=>on (LR e) λx=>vP sc es x.1
 | .len a=>λe=>on (Lj e) λx=>on (yz x.2.1) λy=>x.1==("len" :Str)&&dg sc x.1&&mE sc a y
 | .abs a=>λe=>on (Lj e) λx=>on (yz x.2.1) λy=>x.1==("abs" :Str)&&dg sc x.1&&mE sc a y
 | .c8 es=>λe=>on (Lj e) λx=>x.1==("range" :Str)&&(dg sc x.1&& !x.2.1.isEmpty)&&vP sc es x.2.1
 | .call f es=>λe=>on (Lj e) λx=>x.1==w5 f&&(dg sc x.1&& !x.2.1.isEmpty)&&Nat.blt f 112&& !(x.1==("__debug__" :Str))&&Nat.blt x.2.1.length 20&&vP sc es x.2.1
 | .new c es=>λe=>on (Lj e) λx=>x.1==rA c&&(dg sc x.1&& !x.2.1.isEmpty)&&Nat.blt c 4&&vP sc es x.2.1
 | .slice o lo hi=>λe=>on (DM e) λx=>on (AP x.2.1) λy=>y.2.2.1.isNone&&(sZ lo y.1&&sZ hi y.2.1&&mE sc o x.1)
 | .append o a=>λe=>mM e "append" λv l=>on (yz l) λy=>mE sc o v&&mE sc a y
 | .pop o=>λe=>mM e "pop" λv l=>l.isEmpty&&mE sc o v
 | .index o a=>λe=>mM e "index" λv l=>on (yz l) λy=>mE sc o v&&mE sc a y
 | .count o a=>λe=>mM e "count" λv l=>on (yz l) λy=>mE sc o v&&mE sc a y
 | .comp J L it none D m=>λe=>mC sc e L D m λH G O U=>mE sc it O&&mE H J G&&U.isEmpty
 | .comp J L it (some c) D m=>λe=>mC sc e L D m λH G O U=>mE sc it O&&mE H J G&&on (yz U) λc'=>mE H c c'
noncomputable def vP (sc:Scope):sX->List Expr->Bool
 | .nil,[]=>true
 | .cons e es,x::l=>mE sc e x&&vP sc es l
 | _,_=>false
end
def Fb{T:Type}(l:List Stmt)(f:Stmt->List Stmt->Option T):Option T:=match l with
 | s::r=>f s r
 | []=>none
def N9{α:Type}(l:List α):Option Unit:=match l with
 | []=>some ()
 | _=>none
def SW{α:Type}(l:Option α):Option Unit:=match l with
 | none=>some ()
 | _=>none
def LU(s:Stmt):Option (List Expr × Expr × Pos):=ci s.ctorIdx 5 λh=>Stmt.Assign.elim (motive_2:=λZ=>Option (List Expr × Expr × Pos)) s h λa b c=>some (a,b,c)
def AQ(l:List Stmt):Option (Expr × Expr × Pos × List Stmt):=Fb l λs r=>(LU s).bind λy=>(yz y.1).map λt=>(t,y.2.1,y.2.2,r)
def LV(s:Stmt):Option (Expr × Operator × Expr × Pos):=ci s.ctorIdx 7 λh=>Stmt.AugAssign.elim (motive_2:=λZ=>Option (Expr × Operator × Expr × Pos)) s h λa b c d=>some (a,b,c,d)
def It(l:List Stmt):Option (Expr × Operator × Expr × Pos × List Stmt):=Fb l λs r=>(LV s).map λy=>(y.1,y.2.1,y.2.2.1,y.2.2.2,r)
def Rk(s:Stmt):Option (Expr × List Stmt × List Stmt × Pos):=ci s.ctorIdx 12 λh=>Stmt.If.elim (motive_2:=λZ=>Option (Expr × List Stmt × List Stmt × Pos)) s h λa b c d=>some (a,b,c,d)
def SX(l:List Stmt):Option (Expr × List Stmt × List Stmt × Pos × List Stmt):=Fb l λs r=>(Rk s).map λy=>(y.1,y.2.1,y.2.2.1,y.2.2.2,r)
def LW(s:Stmt):Option (Expr × List Stmt × List Stmt × Pos):=ci s.ctorIdx 11 λh=>Stmt.While.elim (motive_2:=λZ=>Option (Expr × List Stmt × List Stmt × Pos)) s h λa b c d=>some (a,b,c,d)
def Oa(l:List Stmt):Option (Expr × List Stmt × Pos × List Stmt):=Fb l λs r=>(LW s).bind λy=>(N9 y.2.2.1).map λZ=>(y.1,y.2.1,y.2.2.2,r)
def LX(s:Stmt):Option (Expr × Expr × List Stmt × List Stmt × Pos):=ci s.ctorIdx 9 λh=>Stmt.For.elim (motive_2:=λZ=>Option (Expr × Expr × List Stmt × List Stmt × Pos)) s h λa b c d e=>some (a,b,c,d,e)
def Ob(l:List Stmt):Option (Expr × Expr × List Stmt × Pos × List Stmt):=Fb l λs r=>(LX s).bind λy=>(N9 y.2.2.2.1).map λZ=>(y.1,y.2.1,y.2.2.1,y.2.2.2.2,r)
def LY(s:Stmt):Option (Option Expr × Pos):=ci s.ctorIdx 3 λh=>Stmt.Return.elim (motive_2:=λZ=>Option (Option Expr × Pos)) s h λa b=>some (a,b)
def LZ(l:List Stmt):Option (Option Expr × Pos × List Stmt):=Fb l λs r=>(LY s).map λy=>(y.1,y.2,r)
def Ma(s:Stmt):Option (Expr × Pos):=ci s.ctorIdx 24 λh=>Stmt.Expr.elim (motive_2:=λZ=>Option (Expr × Pos)) s h λa b=>some (a,b)
def Mb(l:List Stmt):Option (Expr × Pos × List Stmt):=Fb l λs r=>(Ma s).map λy=>(y.1,y.2,r)
def Mc(s:Stmt):Option (Pos):=ci s.ctorIdx 26 λh=>Stmt.Break.elim (motive_2:=λZ=>Option (Pos)) s h λa=>some (a)
def Oc(l:List Stmt):Option (Pos × List Stmt):=Fb l λs r=>(Mc s).map λy=>(y,r)
def Md(s:Stmt):Option (Pos):=ci s.ctorIdx 27 λh=>Stmt.Continue.elim (motive_2:=λZ=>Option (Pos)) s h λa=>some (a)
def Od(l:List Stmt):Option (Pos × List Stmt):=Fb l λs r=>(Md s).map λy=>(y,r)
def Me(s:Stmt):Option (Option Expr × Option Expr × Pos):=ci s.ctorIdx 16 λh=>Stmt.Raise.elim (motive_2:=λZ=>Option (Option Expr × Option Expr × Pos)) s h λa b c=>some (a,b,c)
def Oe(l:List Stmt):Option (Expr × Pos × List Stmt):=Fb l λs r=>(Me s).bind λy=>y.1.bind λe=>(SW y.2.1).map λZ=>(e,y.2.2,r)
def Mf(s:Stmt):Option (List Stmt × List ExceptHandler × List Stmt × List Stmt × Pos):=ci s.ctorIdx 17 λh=>Stmt.Try.elim (motive_2:=λZ=>Option (List Stmt × List ExceptHandler × List Stmt × List Stmt × Pos)) s h λa b c d e=>some (a,b,c,d,e)
def Of(l:List Stmt):Option (List Stmt × ExceptHandler × Pos × List Stmt):=Fb l λs r=>(Mf s).bind λy=>(yz y.2.1).bind λh=>(N9 y.2.2.1).bind λZ=>(N9 y.2.2.2.1).map λZ=>(y.1,h,y.2.2.2.2,r)
def Og:Const->Option Str
 | .str i=>some i
 | _=>none
def Oh:ExceptHandler->Option (Expr × List Stmt × Pos)
 | .ExceptHandler (some e) none h p=>some (e,h,p)
 | _=>none
def mS(sc:Scope):CS->List Stmt->Bool
 | .skip=>λl=>l.isEmpty
 | .bL i e k=>λl=>on (AQ l) λy=>on (w8 y.1) λx=>iF sc i x.1&&mE sc e y.2.1&& !hZ y.2.1&&mS sc k y.2.2.2
 | .k9 i e k=>λl=>on (AQ l) λy=>on (w8 y.1) λx=>w7 sc i x.1&&mE sc e y.2.1&&N6 x.1 y.2.1&&(x.2.line==y.2.1.pos.line)&&(y.2.2.1.line==y.2.1.pos.line)&&mS sc k y.2.2.2
 | .o5 is e k=>λl=>on (AQ l) λy=>on (E9 y.1) λx=>Ir sc is x.1&&mE sc e y.2.1&& !hZ y.2.1&& !AM y.2.1&&mS sc k y.2.2.2
 | .iw i o e k=>λl=>on (It l) λy=>on (w8 y.1) λx=>iF sc i x.1&&o==y.2.1&&mE sc e y.2.2.1&&mS sc k y.2.2.2.2
 | .cg o f e k=>λl=>on (AQ l) λy=>on (yy y.1) λx=>b9 f==x.2.1&&Nat.blt f 27&&mE sc o x.1&&mE sc e y.2.1&& !hZ y.2.1&&mS sc k y.2.2.2
 | .fZ o f j e k=>λl=>on (It l) λy=>on (yy y.1) λx=>b9 f==x.2.1&&Nat.blt f 27&&j==y.2.1&&mE sc o x.1&&mE sc e y.2.2.1&&mS sc k y.2.2.2.2
 | .eK o i e k=>λl=>on (AQ l) λy=>on (DM y.1) λx=>mE sc o x.1&&mE sc i x.2.1&&mE sc e y.2.1&& !hZ y.2.1&&mS sc k y.2.2.2
 | .jx o i j e k=>λl=>on (It l) λy=>on (DM y.1) λx=>j==y.2.1&&mE sc o x.1&&mE sc i x.2.1&&mE sc e y.2.2.1&&mS sc k y.2.2.2.2
 | .bS c t f k=>λl=>on (SX l) λy=>mE sc c y.1&&mS sc t y.2.1&&mS sc f y.2.2.1&&mS sc k y.2.2.2.2
 | .E7 c b k=>λl=>on (Oa l) λy=>mE sc c y.1&&mS sc b y.2.1&&mS sc k y.2.2.2
 | .cb t it b k=>λl=>on (Ob l) λy=>mT sc t y.1&&mE sc it y.2.1&& !gy y.2.1&&mS sc b y.2.2.1&&mS sc k y.2.2.2.2
 | .ret e=>λl=>on (LZ l) λy=>on y.1 λv=>mE sc e v
 | .yx=>λl=>on (LZ l) λy=>y.1.isNone
 | .expr e k=>λl=>on (Mb l) λy=>mE sc e y.1&& !hZ y.1&&mS sc k y.2.2
 | .brk=>λl=>on (Oc l) λZ=>true
 | .cont=>λl=>on (Od l) λZ=>true
 | .iE x t=>λl=>on (Oe l) λy=>on (Lj y.1) λz=>on (yz z.2.1) λa=>on (LQ a) λc=>on (Og c.1) λG=>x==z.1&&t==G&&dg sc z.1
 | .w4 b x h k=>λl=>on (Of l) λy=>on (Oh y.2.1) λd=>on (w8 d.1) λD=>x==D.1&&dg sc D.1&&mS sc b y.1&&mS sc h d.2.1&&mS sc k y.2.2.2
def bQ(a:Arguments):List Str:=a.args.map (·.arg)
def mq(a:Arguments):Bool:=a.posonlyargs.isEmpty&&a.vararg.isNone&&a.kwonlyargs.isEmpty&&a.kw_defaults.isEmpty&&a.kwarg.isNone&&a.defaults.isEmpty
def gZ(sc:Scope):Nat->List Str->Bool
 | _,[]=>true
 | i,x::r=>iF sc i x&&gZ sc (i+1) r
def AR(sc:Scope):Bool:=sc.names.all λx=>x.2==.local||x.2==.cell||x.2==.globalImplicit
def bz(f i m:Nat)(c:CS):Bool:=on nC[f]? λy=>mS y.2.2.2 c y.2.2.1&&mq y.2.1&&gZ y.2.2.2 0 (bQ y.2.1)&&cY y.2.2.2.names&&AR y.2.2.2&&y.2.2.2.kind==.function&& !y.2.2.2.isGenerator&& !y.2.2.2.isCoroutine&&
   (bQ y.2.1).length==i&&y.2.2.2.names.length==m
structure GI where
 K:Frag
 mg:Str->Option Value
 mb:Str->Option Value
 cls:Nat->Addr
 fn:Nat->Addr
 s6:Nat->Addr
structure Wd where
 prog:Program
 w:World
 gi:GI
 hB:Heap
 os:OsState
def s7(gi:GI)(k:Nat):AV:=match k with
 | 0=>.cn (dB jL)
 | 1=>.cn (dB jM)
 | k=>.ref (gi.s6 k)
def n8(k:Nat):List AV:=if k=2 then Ih cW else Ih f7
abbrev u6 (CE:Addr):List Value:=[.ref CE,.type "Exception",.type "BaseException",.type "object"]
def bN:Nat->List Nat
 | 0=>[0,1,2,3,4,5,6,7,8,9,10,11,12,13]
 | 1=>[14,15,16,17,18,19,20,21,22,3,23,24]
 | 2=>[25,21,20,19]
 | _=>[]
structure Oi(K:Frag)(C:Addr)(fields:List Nat):Prop where
 has:hasDictIn K C=true
 Mg:plainOver K C=true
 sa:findIn K (.ref C) "__setattr__" =some (some (.builtin "object.__setattr__"))
 get:findIn K (.ref C) "__getattribute__" =some (some (.builtin "object.__getattribute__"))/\findIn K (.ref C) "__getattr__" =some none
 none:∀k∈fields,findIn K (.ref C) (b9 k)=some none
structure Oj(fd:FuncData)(params:Arguments)(body:List Stmt)(sc:Scope):Prop where
 params:fd.params=params
 body:fd.body=.stmts body
 scope:fd.scope=sc
 Rl:fd.closure=[]
 s8:fd.globals=mainGlobals
 w9:fd.builtins=builtinsNs
 Rm:fd.defaults=.none
structure GF(W:Wd):Prop where
 X:W.gi.K.In W.hB
 g:W.hB.Ns mainGlobals W.gi.mg
 b:W.hB.Ns builtinsNs W.gi.mb
 nolimit:W.hB.NoLimit
 seer:W.hB.NoSeer
 tree:W.prog.given.tree=none
 blt:∀x∈(["len", "range", "abs"]:List Str),W.gi.mg x=none/\W.gi.mb x=bootBuiltins x
 fns:∀f nm params body sc,nC[f]? =some (nm,params,body,sc)->∃o fd,W.hB.get? (W.gi.fn f)=some o/\o.data=.func fd/\Oj fd params body sc/\W.hB.CodeRec fd.code fd.qualname
 SY:∀f,f<116->∃o fd,W.hB.get? (W.gi.fn f)=some o/\o.data=.func fd
 kp:∀c,c<3->keepIn W.gi.K (.ref (W.gi.cls c))=true
 Rn:∀f,f<112->W.gi.mg (w5 f)=some (.ref (W.gi.fn f))
 NR:∀c,c<3->findIn W.gi.K (.ref (W.gi.cls c)) "__init__" =some (some (.ref (W.gi.fn (113+c))))/\typeIn W.gi.K (.ref (W.gi.fn (113+c)))=some (.type "function")/\makesIn W.gi.K (W.gi.cls c)=true
 cst:∀x i,lu.lookup x=some i->∃t,W.gi.mg x=some (.int i t)
 tabs:∀k,k<4->∃v,W.gi.mg (vO k)=some v/\VR W.hB v (s7 W.gi k)
 Ro:∀k,k=2\/k=3->∃o items n,W.hB.get? (W.gi.s6 k)=some o/\o.cls=.type "list"/\o.data=.seq items n/\eN W.hB items.toList (n8 k)
 cls:∀c,c<3->Oi W.gi.K (W.gi.cls c) (bN c)
 lb:∀c j,c<3->j<3->W.gi.cls c=W.gi.cls j->c=j
 QP:∀c,c<4->W.gi.mg (rA c)=some (.ref (W.gi.cls c))
abbrev Wd.M(W:Wd):Model:=model W.prog W.w
def OR(W:Wd)(h:Heap)(a:Addr):AO->Prop
 | .list _ xs=>∃o items n,h.get? a=some o/\o.cls=.type "list"/\o.dict=none/\o.slots=#[]/\o.data=.seq items n/\eN h items.toList xs
 | .inst c d=>c<3/\h.get? a=some (instObj (W.gi.cls c) d)
 | .dict i=>∃es n,h.get? a=some (dictOf es n)/\i.length<=100/\cP (λ(e:DictEntry)(f:Nat × AV)=>(∃t,e.key=.str (b9 f.1) t)/\f.1<27/\VR h e.val f.2) es i
structure Cx where
 K:Addr->Option Obj
 K2:Addr->Option Obj
 A:Around
 env:Env
 fr:List Env
def FA(env:Env)(a:Addr):Prop:=a=env.locals\/∃x,env.kindOf x=some .cell/\env.cells.lookup x=some a
structure ee(env:Env)(h:Heap)(ρ:Loc)(m:Str->Option Value):Prop where
 ns:h.Ns env.locals m
 len:ρ.length=env.scope.names.length
 DN:∀i x,env.scope.names[i]? =some (x,.local)->EY h (m x) (getL ρ i)
 cell:∀i x k,env.scope.names[i]? =some (x,k)->k=.cell\/k=.free->∃c v,env.cells.lookup x=some c/\h.IsCell c v/\EY h v (getL ρ i)
structure Inv(W:Wd)(C:Cx)(ρ:Loc)(σ:Hp)(s:Shared):Prop where
 keep:∀b o,C.K b=some o->s.heap.get? b=some o
 eh:∀b o,C.K2 b=some o->∃sl,s.heap.get? b=some {o with slots:=sl}
 objs:∀a o,σ a=some o->OR W s.heap a o
 own:∀a o,σ a=some o->o.own=true->C.K a=none/\C.K2 a=none/\¬FA C.env a
 yv:∀a o,σ a=some o->o.own=false->W.hB.get? a≠none
 qp:∃m,ee C.env s.heap ρ m
 gens:s.gens=#[]
 os:s.os=W.os
def T3(n:Nat)(A:Around):Prop:=A.handled=none/\A.depth+4*n<=880/\A.units+12*n<=9000
structure eO(W:Wd)(n:Nat)(C:Cx):Prop where
 base:∀b o,W.hB.get? b=some o->C.K b=some o
 a:T3 n C.A
 kind:C.env.scope.kind=.function
 dh:cY C.env.scope.names=true
 s8:C.env.globals=mainGlobals
 w9:C.env.builtins=builtinsNs
 fa:∀a,FA C.env a->C.K a=none/\C.K2 a=none
 kk:∀a,C.K2 a≠none->C.K a=none
 Mh:∀a o,C.K2 a=some o->∃es n,o.data=.dict es n
 apart:∀x y a,C.env.kindOf x=some .cell->C.env.kindOf y=some .cell->C.env.cells.lookup x=some a->C.env.cells.lookup y=some a->x=y
 s9:∀x a,C.env.kindOf x=some .cell->C.env.cells.lookup x=some a->a≠C.env.locals
 free:∀x a,C.env.kindOf x=some .free->C.env.cells.lookup x=some a->C.K a≠none
 frames:C.A.frames=some C.fr
 Fc:C.fr≠[]
 rB:∀e∈C.fr,e.scope.kind≠.module/\(e.scope.isGenerator=false/\e.scope.isCoroutine=false/\e.builtins=builtinsNs/\e.globals=mainGlobals)/\∃L,e.frame=some L/\(L=C.env.locals\/∃o,C.K2 L=some o/\∀vs,o.data≠.fields vs)
 DO:∃L,C.env.frame=some L/\(L=C.env.locals\/∃o,C.K2 L=some o/\∀vs,o.data≠.fields vs)
 hd:∃e o,C.fr=e::o/\e.frame=C.env.frame
inductive f6 where
 | next | brk | cont
 | ret (v:AV)
def Fd(h:Heap):Flow->f6->Prop
 | .next,.next=>True
 | .brk,.brk=>True
 | .cont,.cont=>True
 | .ret v,.ret av=>VR h v av
 | _,_=>False
@[elab_as_elim]theorem Fd.el{P:Flow->f6->Prop}(x:Fd h f o)(n:P .next .next)(b:P .brk .brk)(c:P .cont .cont)(r:∀v av,VR h v av->P (.ret v) (.ret av)):P f o:=by
 cases f<;>cases o<;>first | exact False.elim x | exact n | exact b | exact c | exact r _ _ x
inductive PV(W:Wd)(C:Cx)(ρ:Loc)(Q:AV->Hp->Prop)(v:Value)(s':Shared):Prop
 | mk (av:AV) (bw:Hp):VR s'.heap v av->Inv W C ρ bw s'->Q av bw->PV W C ρ Q v s'
inductive PB(W:Wd)(C:Cx)(ρ:Loc)(Q:Bool->Hp->Prop)(b:Bool)(s':Shared):Prop
 | mk (bw:Hp):Inv W C ρ bw s'->Q b bw->PB W C ρ Q b s'
inductive Rp(W:Wd)(C:Cx)(ρ:Loc)(Q:List AV->Hp->Prop)(vs:List Value)(s':Shared):Prop
 | mk (l:List AV) (bw:Hp):eN s'.heap vs l->Inv W C ρ bw s'->Q l bw->Rp W C ρ Q vs s'
inductive PS(W:Wd)(C:Cx)(Q:f6->Loc->Hp->Prop)(f:Flow)(s':Shared):Prop
 | mk (o:f6) (ρ':Loc) (bw:Hp):Fd s'.heap f o->Inv W C ρ' bw s'->Q o ρ' bw->PS W C Q f s'
inductive PN(W:Wd)(C:Cx)(Q:Loc->Hp->Prop)(s':Shared):Prop
 | mk (ρ':Loc) (bw:Hp):Inv W C ρ' bw s'->Q ρ' bw->PN W C Q s'
def AWE(W:Wd)(n:Nat)(c:CE)(ρ:Loc)(σ:Hp)(Q:AV->Hp->Prop)(E:Value->Shared->Prop):Prop:=
 ∀C s e,eO W n C->mE C.env.scope c e=true->Inv W C ρ σ s->wpAny W.M C.A (eval e C.env) (PV W C ρ Q) E s
def AWT(W:Wd)(n:Nat)(c:CE)(ρ:Loc)(σ:Hp)(Q:Bool->Hp->Prop)(E:Value->Shared->Prop):Prop:=
 ∀C s e,eO W n C->mE C.env.scope c e=true->Inv W C ρ σ s->wpAny W.M C.A (isTrue e C.env (eval e C.env)) (PB W C ρ Q) E s
def AWEs(W:Wd)(n:Nat)(cs:sX)(ρ:Loc)(σ:Hp)(Q:List AV->Hp->Prop)(E:Value->Shared->Prop):Prop:=
 ∀C s es pos,eO W n C->vP C.env.scope cs es=true->Inv W C ρ σ s->
  wpAny W.M C.A (spliced (backTo pos (starEach es C.env))) (Rp W C ρ Q) E s
def AWS(W:Wd)(n:Nat)(c:CS)(ρ:Loc)(σ:Hp)(Q:f6->Loc->Hp->Prop)(E:Cx->Value->Shared->Prop):Prop:=
 ∀C s st,eO W n C->mS C.env.scope c st=true->Inv W C ρ σ s->
  wpAny W.M C.A (execs st C.env) (PS W C Q) (E C) s
theorem ee.qr(F:ee env h ρ m)(k:∀b o,h.get? b=some o->h'.get? b=some o):ee env h' ρ m:=
 ⟨F.ns.keeps k,F.len,λi x e=>(F.DN i x e).bK λa o j Z=>k a o j,λi x kk e hk=>e23 (F.cell i x kk e hk) λc v e1 e2 e3=>⟨c,v,e1,e2.keeps k,e3.bK λa o j Z=>k a o j⟩⟩
theorem OR.qr(x:OR W h a o)(k:∀b o,h.get? b=some o->h'.get? b=some o):OR W h' a o:=by
 cases o with
 | list w xs=>obtain⟨o,items,n,h1,h2,i,j,h3,z⟩:=x;exact⟨o,items,n,k _ _ h1,h2,i,j,h3,eN.bK z λa o e Z=>k a o e⟩
 | inst c d=>exact⟨x.1,k _ _ x.2⟩
 | dict D=>obtain⟨es,n,h1,h2,h3⟩:=x;exact⟨es,n,k _ _ h1,h2,h3.imp λe f y=>⟨y.1,y.2.1,y.2.2.bK λa o e Z=>k a o e⟩⟩
theorem Inv.qr(I:Inv W C ρ σ s)(k:∀b o,s.heap.get? b=some o->s'.heap.get? b=some o)
  (i:s'.gens=s.gens:=by rfl) (ho:s'.os=s.os:=by rfl):Inv W C ρ σ s':=
 ⟨λb o e=>k _ _ (I.keep b o e),λb o e=>e11 (I.eh b o e) λsl h=>⟨sl,k _ _ h⟩,λa o e=>(I.objs a o e).qr k,I.own,I.yv,
  e11 I.qp λm F=>⟨m,F.qr k⟩,i.trans I.gens,ho.trans I.os⟩
theorem Inv.tok(I:Inv W C ρ σ s)(t:Nat):Inv W C ρ σ {s with toks:=t}:=I.qr (s':={s with toks:=t}) (λZ Z e=>e)
theorem Inv.push(I:Inv W C ρ σ s)(o:Obj):Inv W C ρ σ {s with heap:=s.heap.push o}:=
 I.qr (s':={s with heap:=s.heap.push o}) (λZ Z e=>aA _ e)
theorem Inv.fresh(I:Inv W C ρ σ s):σ s.heap.objs.size=none:=by
 cases h:σ s.heap.objs.size with
 | none=>rfl
 | some o=>
  have:=I.objs _ _ h
  cases o with
  | list w xs=>obtain⟨o,items,n,h1,_⟩:=this;exact absurd (aB h1) (aC _)
  | inst c d=>exact absurd (aB this.2) (aC _)
  | dict i=>obtain⟨es,n,h1,_⟩:=this;exact absurd (aB h1) (aC _)
theorem lx(ρ:Loc)(i:Nat)(v:AV)(h:i<ρ.length):getL (setL ρ i v) i=some v:=by
 induction ρ generalizing i with
 | nil=>exact absurd h (Nat.not_lt_zero _)
 | cons x r j=>
  cases i with
  | zero=>rfl
  | succ i=>exact j i (Nat.lt_of_succ_lt_succ h)
theorem eZ(ρ:Loc)(i j:Nat)(v:AV)(h:i≠j):getL (setL ρ i v) j=getL ρ j:=by
 induction ρ generalizing i j with
 | nil=>rfl
 | cons x r y=>
  cases i with
  | zero=>
   cases j with
   | zero=>exact absurd rfl h
   | succ j=>rfl
  | succ i=>
   cases j with
   | zero=>rfl
   | succ j=>exact y i j λe=>h (ae Nat.succ e)
theorem rC(ρ:Loc)(i:Nat)(v:AV):(setL ρ i v).length=ρ.length:=by
 induction ρ generalizing i with
 | nil=>rfl
 | cons x r j=>
  cases i with
  | zero=>rfl
  | succ i=>exact ae Nat.succ (j i)
theorem n9 (h:cY (p::r)=true):(∀y∈r,y.1≠p.1)/\(p.1==("__classdict__" :Str))=false/\cY r=true:=
 ⟨λy hy e=>absurd (az.mpr e) (List.any_eq_false.mp (hW (bC h).1) y hy),hW (bC (bC h).2).1,(bC (bC h).2).2⟩
theorem eU(D:cY l=true){i j:Nat}(hi:l[i]? =some (x,k))(y:l[j]? =some (x,G)):i=j:=by
 induction l generalizing i j with
 | nil=>exact cxO hi rfl
 | cons p r H=>
  have z:=n9 D
  cases i with
  | zero=>
   cases j with
   | zero=>rfl
   | succ j=>exact absurd (show x=p.1 from(ae Prod.fst (af hi)).symm) (z.1 (x,G) (aD (l:=r) (i:=j) y))
  | succ i=>
   cases j with
   | zero=>exact absurd (show x=p.1 from(ae Prod.fst (af y)).symm) (z.1 (x,k) (aD (l:=r) (i:=i) hi))
   | succ j=>exact ae Nat.succ (H z.2.2 (i:=i) (j:=j) hi y)
theorem bF(j:cY l=true){i:Nat}(hi:l[i]? =some (x,k)):l.lookup x=some k:=by
 induction l generalizing i with
 | nil=>exact cxO hi rfl
 | cons p r y=>
  have z:=n9 j
  cases i with
  | zero=>rw[af hi];exact List.lookup_cons_self
  | succ i=>rw[List.lookup_cons,aE.mpr (show x≠p.1 from z.1 _ (aD (l:=r) (i:=i) hi))];exact y z.2.2 (i:=i) hi
theorem Fe (j:cY l=true) {i:Nat} (hi:l[i]? =some (x,k)):(x==("__classdict__" :Str))=false:=by
 induction l generalizing i with
 | nil=>exact cxO hi rfl
 | cons p r y=>
  have z:=n9 j
  cases i with
  | zero=>rw[af hi]at z;exact z.2.1
  | succ i=>exact y z.2.2 (i:=i) hi
def Ol:List Nat:=[21,28,35,42,49,56,63,70,77,84,91,98,105,112,119,126,188,195,202,209,216,223,230,237,244,251,258,265,272,279,307,314,321,328,335,342,349,356,363,370,377,384,391,398,405,412,419,426,433,440,447,454,461,468,475,482,489,496,503,510,517,524,531,538,545,552,559,566,573,580,587,594,601,608,615,622,629,636,643,650,657,664,671,678,685,692,699,706,713,720,727,734,739,746,753,760,767,774,781,788,795,841,848,855,860,867,874,879,884,891,898,903,140,174,293,809]
def xd(f:Nat):Addr:=(Ol[f]?).getD 0
def lb(c:Nat):Addr:=([177,296,812,156][c]?).getD 0
def Cz(k:Nat):Addr:=if k=2 then 825 else 834
def AS:List Nat:=3::[177,176,296,295,812,811,156,155,143,142,159,160,825,834,817,818,819,820,821,822,823,824,826,827,828,829,830,831,832,833]++[xd 112,xd 113,xd 114,xd 115]
def fragOf(h:Heap)(l:List Nat):Frag:=List.rec [] (λa Z r=>(h.get? a).elim r λo=>(a,o)::r) l
theorem Iu(h:Heap)(l:List Nat):(fragOf h l).In h:=by
 induction l with
 | nil=>exactλa o e=>by cases e
 | cons b l i=>
  intro a o e
  have e:((h.get? b).elim (fragOf h l) λo=>(b,o)::fragOf h l).lookup a=some o:=e
  cases hb:h.get? b with
  | none=>rw[hb]at e;exact i a o e
  | some ob=>
   rw[hb]at e
   have e:(match a==b with | true=>some ob | false=>(fragOf h l).lookup a)=some o:=e
   cases q:a==b with
   | true=>rw[q]at e;cases e;rw[az.mp q];exact hb
   | false=>rw[q]at e;exact i a o e
def Ff(v:Value):Option Addr:=Value.casesOn (motive:=λZ=>Option Addr) v none none none (λZ=>none) (λZ Z=>none) (λZ Z=>none) (λZ Z=>none) (λZ Z=>none) (λZ=>none) (λZ=>none) some
def vInt(v:Value):Option Int:=Value.casesOn (motive:=λZ=>Option Int) v none none none (λZ=>none) (λi Z=>some i) (λZ Z=>none) (λZ Z=>none) (λZ Z=>none) (λZ=>none) (λZ=>none) (λZ=>none)
def vStr(v:Value):Option Str:=Value.casesOn (motive:=λZ=>Option Str) v none none none (λZ=>none) (λZ Z=>none) (λZ Z=>none) (λq Z=>some q) (λZ Z=>none) (λZ=>none) (λZ=>none) (λZ=>none)
def Rq(v:Value):Option String:=Value.casesOn (motive:=λZ=>Option String) v none none none (λZ=>none) (λZ Z=>none) (λZ Z=>none) (λZ Z=>none) (λZ Z=>none) some (λZ=>none) (λZ=>none)
def Om(d:Data):Option (Array Value × Nat):=Data.casesOn (motive:=λZ=>Option (Array Value × Nat)) d none (λZ=>none) (λa n=>some (a,n)) (λZ Z=>none) (λZ Z Z=>none) (λZ Z=>none) (λZ=>none) (λZ=>none) (λZ=>none) (λZ=>none) none
def Oo(d:Data):Option FuncData:=Data.casesOn (motive:=λZ=>Option FuncData) d none (λZ=>none) (λZ Z=>none) (λZ Z=>none) (λZ Z Z=>none) (λZ Z=>none) (λZ=>none) some (λZ=>none) (λZ=>none) none
def Oq(d:Data):Option ClassData:=Data.casesOn (motive:=λZ=>Option ClassData) d none (λZ=>none) (λZ Z=>none) (λZ Z=>none) (λZ Z Z=>none) (λZ Z=>none) (λZ=>none) (λZ=>none) some (λZ=>none) none
def Ot(d:Data):Option (Array Value):=Data.casesOn (motive:=λZ=>Option (Array Value)) d none (λZ=>none) (λZ Z=>none) (λZ Z=>none) (λZ Z Z=>none) (λZ Z=>none) (λZ=>none) (λZ=>none) (λZ=>none) some none
def yA(o:Option (Option Value)):Option Addr:=o.bind λo=>o.bind Ff
def Iv(o:Option (Option Value)):Option Int:=o.bind λo=>o.bind vInt
def yB(o:Option (Option Value)):Bool:=o.elim false λo=>o.elim true λZ=>false
def Fg(g:Addr->Option Obj)(v:Value):Option Str:=(Ff v).bind λc=>(g c).bind λo=>(Ot o.data).bind λvs=>(vs[1]?).bind vStr
structure Fh where
 params:Arguments
 body:FuncBody
 scope:Scope
 closure:List (Str × Addr)
 globals:Addr
 builtins:Addr
 defaults:Value
 code:Bool
def Rr(g:Addr->Option Obj)(a:Addr):Option Fh:=(g a).bind λo=>(Oo o.data).map λfd=>⟨fd.params,fd.body,fd.scope,fd.closure,fd.globals,fd.builtins,fd.defaults,decide (Fg g fd.code=some fd.qualname)⟩
def Ou{α:Type}(f:Value->Option α)(l:List Value):Option (List α):=List.rec (some []) (λv Z r=>(f v).bind λx=>r.map (x::·)) l
def Mi{α:Type}(T:String)(f:Value->Option α)(K:Frag)(a:Addr):Option (List α):=(K.lookup a).bind λo=>(Om o.data).bind λp=>if Rq o.cls=some T/\o.dict=none/\o.slots.size=0 then Ou f p.1.toList else none
def AU (K:Frag) (a:Addr):Option (List Int):=Mi "tuple" vInt K a
def AW (K:Frag) (a:Addr):Option (List (List Int)):=Mi "list" (λv=>(Ff v).bind (AU K)) K a
structure DP where
 keep:Bool
 makes:Bool
 has:Bool
 Mg:Bool
 NR:Option (Option Value)
 Rt:Option Value
 sa:Option (Option Value)
 ga:Option (Option Value)
 gt:Option (Option Value)
 none:List (Option (Option Value))
def Ru (K:Frag) (c:Nat):DP:=⟨keepIn K (.ref (lb c)),makesIn K (lb c),hasDictIn K (lb c),plainOver K (lb c),findIn K (.ref (lb c)) "__init__",typeIn K (.ref (xd (113+c))),findIn K (.ref (lb c)) "__setattr__",
 findIn K (.ref (lb c)) "__getattribute__",findIn K (.ref (lb c)) "__getattr__",(bN c).map λk=>findIn K (.ref (lb c)) (b9 k)⟩
structure Iw where
 Rt:String
 mro:List Value
 has:Bool
 QQ:Bool
 size:Nat
 slot:Option (Option Value)
def S0(K:Frag):Option Iw:=(K.lookup 156).bind λo=>(Rq o.cls).bind λT=>(Oq o.data).map λi=>⟨T,i.mro,i.hasDict,i.hasDel,o.slots.size,o.slots[4]?⟩
structure jO where
 fns:List (Option Fh)
 Iy:List (Option Addr)
 cst:List (Option Int)
 blt:List Bool
 cls:List (Option Addr)
 tab:List (Option Addr)
 cn:List (Option (List Int))
 cI:List (Option (List (List Int)))
 cl:List DP
 x1:Option (Option Value)
 x2:Option Value
 x3:Option (Option Value)
 x4:Option (Option Value)
 x5:Option Iw
def tc(K:Frag)(g:Addr->Option Obj):jO where
 fns:=Ol.map λa=>Rr g a
 Iy:=(List.range 112).map λf=>yA (nsIn K mainGlobals (w5 f))
 cst:=lu.map λx=>Iv (nsIn K mainGlobals x.1)
 blt:=[("len" :Str),("range" :Str),("abs" :Str),("Exception" :Str)].map λx=>yB (nsIn K mainGlobals x)
 cls:=(List.range 4).map λc=>yA (nsIn K mainGlobals (rA c))
 tab:=(List.range 4).map λk=>yA (nsIn K mainGlobals (vO k))
 cn:=[AU K 159,AU K 160]
 cI:=[AW K 825,AW K 834]
 cl:=(List.range 3).map (Ru K)
 x1:=findIn K (.ref 156) "__init__"
 x2:=typeIn K (.ref (xd 112))
 x3:=findIn K (.ref 156) "text"
 x4:=findIn K (.ref 156) "__setattr__"
 x5:=S0 K
def ix:jO where
 fns:=nC.map λd=>some ⟨d.2.1,.stmts d.2.2.1,d.2.2.2,[],mainGlobals,builtinsNs,.none,true⟩
 Iy:=(List.range 112).map λf=>some (xd f)
 cst:=lu.map λx=>some x.2
 blt:=[true,true,true,true]
 cls:=(List.range 4).map λc=>some (lb c)
 tab:=[some 159,some 160,some 825,some 834]
 cn:=[some jL,some jM]
 cI:=[some (cW.map λp=>[p.1,p.2]),some (f7.map λp=>[p.1,p.2])]
 cl:=(List.range 3).map λc=>⟨true,true,true,true,some (some (.ref (xd (113+c)))),some (.type "function"),some (some (.builtin "object.__setattr__")),some (some (.builtin "object.__getattribute__")),some none,(bN c).map λZ=>some none⟩
 x1:=some (some (.ref (xd 112)))
 x2:=some (.type "function")
 x3:=some none
 x4:=some (some (.builtin "object.__setattr__"))
 x5:=some ⟨"type",.ref 156::u6 143,true,false,6,some (some (.builtin "Exception.__new__"))⟩
theorem AX{α:Type}{f g:Nat->α}(h:(List.range n).map f=(List.range n).map g)(hi:i<n):f i=g i:=by
 have:=ae (λl=>l[i]?) h
 simp only[aF,List.getElem?_range hi,Option.map_some,Option.some.injEq]at this
 exact this
theorem vQ{a b:Bool}(h:a=true)(g:b=true):(a&&b)=true:=by subst h;exact g
theorem T4:namesResolve dt.prog=true:=by kernel_rfl
theorem T5:namesMeet dt.prog dt.prog.main.body (λZ n=>attrL n)=true:=by kernel_rfl
theorem T6:noRoadLSs {strict:=!(importedModules dt.prog.main.body).all cThrough.contains,foot:=none,bare:=(["vars", "dir", "locals"]:List Str).filter (readsOut dt.prog dt.prog.main.body)} dt.prog.main.body=true:=by kernel_rfl
theorem T7:(sreFenced dt.prog.main&&((moduleNames dt.prog.main.body).isEmpty||lookedIntoSs (moduleNames dt.prog.main.body) dt.prog.main.body))=true:=by kernel_rfl
theorem T8:dt.prog.boundNames.all (λn=>!worldNames.contains n)=true:=by kernel_rfl
theorem Mj:looksOpen dt.prog=true:=vQ (vQ (vQ (vQ T7 T4) T8) T6) T5
theorem Ov:dt.row.partSaid=true:=by
 unfold OpenRow.partSaid
 rw[show looksOpen dt.row.prog=true from Mj,Bool.true_and]
 kernel_rfl
theorem Rv:dt.row.wellSaid=true:=vQ (vQ Ov (by kernel_rfl)) (by kernel_rfl)
theorem Ow:dt.wellSaid=true:=by
 unfold OpenLaw.wellSaid
 rw[Rv,Bool.true_and]
 kernel_rfl
def m9:Program:=view dt.prog [166]
def yC:List Str:=dt.prog.boundNames.filter λx=>!(x== "law"||x== "__name__")
def Ox(ok:Thread->Bool)(st:SharedT->Thread->Option (SharedT × Thread))(n:Nat):SharedT->Thread->Option SharedT:=
 Nat.rec (motive:=λZ=>SharedT->Thread->Option SharedT) (λZ Z=>none) (λZ r s t=>cond (through t) (some s) (cond (ok t) ((st s t).bind λx=>r x.1 x.2) none)) n
def AY(tb:String->Option Builtin)(p:Program)(w:World)(i:Nat)(ann:Option Value):Nat->SharedT->Thread->Option SharedT:=Ox (stepOk i ann) (stepT (denote tb) p w)
theorem DQ(h:AY tb p w i ann n s t=some r):topRun tb p w i ann n s.abs t=some r.abs:=by
 induction n generalizing s t with
 | zero=>exact cxO h rfl
 | succ n j=>
  have h:cond (through t) (some s) (cond (stepOk i ann t) ((stepT (denote tb) p w s t).bind λx=>AY tb p w i ann n x.1 x.2) none)=some r:=h
  unfold topRun
  cases ht:through t with
  | true=>rw[ht]at h;exact ae (λx:SharedT=>some x.abs) (af h)
  | false=>
   rw[ht]at h
   cases hk:stepOk i ann t with
   | false=>rw[hk]at h;exact cxO h rfl
   | true=>
    rw[hk]at h
    obtain⟨x,hs,h⟩:=aG.mp h
    dsimp only
    rw[stepT_spec hs]
    exact j h
def Oy(p:Program)(w:World)(i:Nat)(ann:Option Value):Nat->SharedT->Thread->Option SharedT:=Ox (PySem.W.Fast.tw6613529449190102663 i ann) (PySem.W.Fast.tw10156331382660048174 (PySem.W.Fast.tw11892475500146522536 PySem.W.Fast.tw14364793385576792824) p w)
theorem xe(n:Nat)(s:SharedT)(t:Thread):AY treeTable p w i ann n s t=Oy p w i ann n s t:=by
 unfold AY Oy
 rw[PySem.W.Fast.te14364793385576792824,PySem.W.Fast.te10156331382660048174,PySem.W.Fast.te11892475500146522536,PySem.W.Fast.te6613529449190102663]
def Oz(P:Params):BT:=((boot_heap P).objs.toList.foldl (λ(x:BT × Nat)o=>(x.1.ins x.2 o,x.2+1)) (BT.nil,0)).1
def sT(w:World)(os:OsState):SharedT:=⟨Oz w.params,(boot_heap w.params).objs.size,(boot_heap w.params).life,#[],boot_drawn,boot_toks,os⟩
theorem Mk(w:World)(os:OsState):(sT w os).abs=⟨boot_heap w.params,#[],boot_drawn,boot_toks,os⟩:=by kernel_rfl
theorem LeftO.Ml{Ya:World->α}
  (j:∀w:World,(fencedOpening treeTable p w N).map (λs=>(s.heap,s.gens,s.drawn,s.toks))=some (boot_heap w.params,#[],boot_drawn,boot_toks))
  (size:∀w:World,((boot_heap w.params).isNs mainGlobals&&(#[]:Array GenState).size==0,(boot_heap w.params).objs.size,(boot_heap w.params).nsMap mainGlobals "__annotations__")=(true,m₀,ann))
  (run:∀(w:World)(os:OsState),(AY treeTable p w m₀ ann N (sT w os) (topStub p)).map (λi=>((staticsOk (importedModules p.main.body) (boot_heap w.params) i.abs.heap&&namesBound p i.abs.heap&&gensDone i.abs&&laidKept (boot_heap w.params) i.abs.heap),openSeen q loose (importedModules p.main.body) Xt g0 i.abs,Yf i.abs))=some (true,openGood q loose,Ya w)):
  LeftO p q loose Xt Yf Ya N g0:=λw=>by
 obtain⟨⟨h,gs,d,k,os⟩,e,y⟩:=aH.mp (j w)
 obtain⟨rfl,rfl,rfl,rfl⟩:h=boot_heap w.params/\gs=#[]/\d=boot_drawn/\k=boot_toks:=by simpa using y
 obtain⟨z,D,G⟩:_/\_/\_:=by simpa only[Prod.mk.injEq]using size w
 obtain⟨i,r,l⟩:=aH.mp (run w os)
 obtain⟨H,I,J⟩:_/\_/\_:=by simpa only[Prod.mk.injEq]using l
 have r:=DQ r
 rw[Mk]at r
 have t:topFrom treeTable p w N ⟨boot_heap w.params,#[],boot_drawn,boot_toks,os⟩=some i.abs:=by
  unfold topFrom
  dsimp only
  rw[z,D,G,r]
  show(match staticsOk (importedModules p.main.body) (boot_heap w.params) i.abs.heap&&namesBound p i.abs.heap&&gensDone i.abs&&laidKept (boot_heap w.params) i.abs.heap with | true=>some i.abs | false=>none)=_
  rw[H]
 unfold openEnds
 rw[e]
 show(topFrom treeTable p w N _).map _=_
 rw[t]
 exact ae some (Prod.ext I J)
def AZ (w:World) (os:OsState):Option SharedT:=AY treeTable dt.prog w 11 ((boot_heap w.params).nsMap mainGlobals "__annotations__") 10844 (sT w os) (topStub dt.prog)
theorem Rx(w:World)(os:OsState):(AZ w os).map (λi=>((staticsOk (importedModules dt.prog.main.body) (boot_heap w.params) i.abs.heap&&namesBound dt.prog i.abs.heap&&gensDone i.abs&&laidKept (boot_heap w.params) i.abs.heap),openSeen m9 yC (importedModules dt.prog.main.body) (λs=>xlAt m9 [] s&&recOk (RowW.records dt.row.toRowW) s) true i.abs))=some (true,openGood m9 yC):=by
 unfold AZ
 rw[xe,PySem.W.Fast.te4187177175401517315]
 kernel_rfl
theorem Ry(w:World)(os:OsState):(AZ w os).map (λi=>(tc (fragOf i.abs.heap AS) i.abs.heap.get?).fns)=some ix.fns:=by
 unfold AZ
 rw[xe]
 kernel_rfl
theorem runC(w:World)(os:OsState):(AZ w os).map (λi=>let T:=tc (fragOf i.abs.heap AS) i.abs.heap.get?;(T.Iy,T.cst,T.blt,T.cls,T.tab,T.cn,T.cI,T.cl,T.x1,T.x2,T.x3,T.x4,T.x5))=some (ix.Iy,ix.cst,ix.blt,ix.cls,ix.tab,ix.cn,ix.cI,ix.cl,ix.x1,ix.x2,ix.x3,ix.x4,ix.x5):=by
 unfold AZ
 rw[xe]
 kernel_rfl
def Rz(a:List (Option Fh))(p:List (Option Addr) × List (Option Int) × List Bool × List (Option Addr) × List (Option Addr) × List (Option (List Int)) × List (Option (List (List Int))) × List DP × Option (Option Value) × Option Value × Option (Option Value) × Option (Option Value) × Option Iw):jO:=⟨a,p.1,p.2.1,p.2.2.1,p.2.2.2.1,p.2.2.2.2.1,p.2.2.2.2.2.1,p.2.2.2.2.2.2.1,p.2.2.2.2.2.2.2.1,p.2.2.2.2.2.2.2.2.1,p.2.2.2.2.2.2.2.2.2.1,p.2.2.2.2.2.2.2.2.2.2.1,p.2.2.2.2.2.2.2.2.2.2.2.1,p.2.2.2.2.2.2.2.2.2.2.2.2⟩
theorem Fi{T U:jO}(h1:T.fns=U.fns)(h2:(T.Iy,T.cst,T.blt,T.cls,T.tab,T.cn,T.cI,T.cl,T.x1,T.x2,T.x3,T.x4,T.x5)=(U.Iy,U.cst,U.blt,U.cls,U.tab,U.cn,U.cI,U.cl,U.x1,U.x2,U.x3,U.x4,U.x5)):T=U:=
 congr (ae Rz h1) h2
theorem RA (w:World) (os:OsState):(AY treeTable dt.prog w 11 ((boot_heap w.params).nsMap mainGlobals "__annotations__") 10844 (sT w os) (topStub dt.prog)).map (λi=>((staticsOk (importedModules dt.prog.main.body) (boot_heap w.params) i.abs.heap&&namesBound dt.prog i.abs.heap&&gensDone i.abs&&laidKept (boot_heap w.params) i.abs.heap),openSeen m9 yC (importedModules dt.prog.main.body) (λs=>xlAt m9 [] s&&recOk (RowW.records dt.row.toRowW) s) true i.abs,tc (fragOf i.abs.heap AS) i.abs.heap.get?))=some (true,openGood m9 yC,ix):=by
 show(AZ w os).map _=_
 obtain⟨s,e,h⟩:=aH.mp (Rx w os)
 have hb:=Ry w os
 have hc:=runC w os
 rw[e]at hb hc ⊢
 rw[Option.map_some,Fi (af hb) (af hc)]
 exact ae (λz=>some (z.1,z.2,ix)) h
theorem OA (P:Params) (Q:Params):(boot_heap P).nsMap mainGlobals "__annotations__" =(boot_heap Q).nsMap mainGlobals "__annotations__":=by kernel_rfl
theorem OB(w:World):((boot_heap w.params).isNs mainGlobals&&(#[]:Array GenState).size==0,(boot_heap w.params).objs.size)=(true,11):=by kernel_rfl
theorem OC:LeftO dt.prog m9 yC (λs=>xlAt m9 [] s&&recOk (RowW.records dt.row.toRowW) s) (λs=>tc (fragOf s.heap AS) s.heap.get?) (λZ=>ix) 10844:=λw=>
 LeftO.Ml (p:=dt.prog) (q:=m9) (loose:=yC) (Xt:=λs=>xlAt m9 [] s&&recOk (RowW.records dt.row.toRowW) s) (Yf:=λs=>tc (fragOf s.heap AS) s.heap.get?) (Ya:=λZ=>ix) (N:=10844) (g0:=true) (ann:=(boot_heap w.params).nsMap mainGlobals "__annotations__") (m₀:=11)
  (boot_open (by kernel_rfl) (by decide) (λs=>by kernel_rfl)) (λi=>by
  have h1:=OB i
  have h2:=OA i.params w.params
  simp only[Prod.mk.injEq]at h1 ⊢
  exact⟨h1.1,h1.2,h2⟩) (λi os=>by
  have:=RA i os
  rw[OA i.params w.params]at this
  exact this) w
theorem T9:(chainsOk m9&&opensWell dt.row.prog&&(frees dt.row.toRowW&&dt.row.within.isEmpty))=true:=by decide +kernel
theorem OD:dt.row.prog.bare:=⟨rfl,rfl,rfl,rfl,rfl,by decide +kernel⟩
def binI:Operator->Int->Int->Option Int
 | .Add,a,b=>some (a+b)
 | .Sub,a,b=>some (a-b)
 | .Mult,a,b=>if -(2^64)<a/\a<2^64 then some (a*b)else none
 | .FloorDiv,a,b=>if b=0 then none else some (a.fdiv b)
 | .Mod,a,b=>if b=0 then none else some (a.fmod b)
 | .LShift,a,b=>if(0<=b/\b<=1000)/\-(2^64)<a/\a<2^64 then some (a*2^b.toNat)else none
 | .RShift,a,b=>if 0<=b then some (a.fdiv (2^b.toNat))else none
 | .BitAnd,a,b=>some (Builtin.bitAnd a b)
 | .BitOr,a,b=>some (Builtin.bitOr a b)
 | .BitXor,a,b=>some (Builtin.bitXor a b)
 | _,_,_=>none
def u7(v:AV):Option Int:=AV.casesOn (motive_1:=λZ=>Option Int) v none (λZ=>none) some (λZ=>none) (λZ=>none) λZ Z Z=>none
theorem fy(h:u7 v=some i):v=.int i:=by
 cases v<;>first | exact ae AV.int (af h) | exact cxO h rfl
def fA(o:Operator)(a b:AV):Option AV:=(u7 a).bind λi=>(u7 b).bind λj=>(binI o i j).map .int
section
variable{W:Wd}{A:Around}{s:Shared}{E:Value->Shared->Prop}
abbrev DS(s:Shared)(v:AV):Value->Shared->Prop:=λr s'=>(∀h,VR h r v)/\∃t,s'={s with toks:=t}
theorem RB(h1:-2^64<a)(h2:a<2^64):a.natAbs<2^64:=by
 rcases Int.natAbs_eq a with h | h
 .exact aq.mp (Int.lt_of_le_of_lt (Int.le_of_eq h.symm) (ao h2 (by decide)))
 .exact aq.mp (ao (Int.neg_lt_neg_iff.mp (ao h1 (Int.le_of_eq h))) (by decide))
theorem Iz(i:PylongRoom W.M A s)(e:binI o a b=some v):
  wpAny W.M A (binaryOp o (.int a t) (.int b u)) (DS s (.int v)) E s:=by
 cases o<;>first | (first | exact ff e | (cases e;done)) | skip
 case Add=>cases e;with_reducible exact P.add_int ⟨λZ=>.int _ _,_,rfl⟩
 case Sub=>cases e;with_reducible exact P.sub_int ⟨λZ=>.int _ _,_,rfl⟩
 case Mult=>
  obtain⟨hc,rfl⟩:=Ct e
  with_reducible exact P.mul_int ⟨λZ=>.int _ _,_,rfl⟩ (IntMulOk.of_left (intBits_le_64 hc.1 hc.2))
 case Mod=>
  obtain⟨hc,rfl⟩:=NQ e
  with_reducible exact PyProof.Rows.mod_int' hc ⟨λZ=>.int _ _,_,rfl⟩
 case LShift=>
  obtain⟨hc,rfl⟩:=Ct e
  with_reducible exact PyProof.Rows.lshift_int_small hc.1.1 (by omega) (RB hc.2.1 hc.2.2) ⟨λZ=>.int _ _,_,rfl⟩
 case RShift=>
  obtain⟨hc,rfl⟩:=Ct e
  with_reducible exact PyProof.Rows.rshift_int hc ⟨λZ=>.int _ _,_,rfl⟩
 case BitOr=>cases e;with_reducible exact PyProof.Rows.or_int ⟨λZ=>.int _ _,_,rfl⟩
 case BitXor=>cases e;with_reducible exact PyProof.Rows.xor_int ⟨λZ=>.int _ _,_,rfl⟩
 case BitAnd=>cases e;with_reducible exact PyProof.Rows.and_int ⟨λZ=>.int _ _,_,rfl⟩
 case FloorDiv=>
  obtain⟨hc,rfl⟩:=NQ e
  with_reducible exact PyProof.Rows.floordiv_int hc ⟨λZ=>.int _ _,_,rfl⟩ (.inr i)
end
section
open Classical in
def Ii(C:Cx)(σ:Hp)(s:Shared):Addr->Option Obj:=λb=>
 if(∃o,σ b=some o/\o.own=true)\/FA C.env b\/C.K2 b≠none then none else s.heap.get? b
abbrev Cx.fz(C:Cx)(σ:Hp)(s:Shared):Cx:={C with K:=Ii C σ s}
theorem o6(h:(∃o,σ b=some o/\o.own=true)\/FA C.env b\/C.K2 b≠none):Ii C σ s b=none:=by
 unfold Ii;rw[ag h]
theorem sJ(h:¬((∃o,σ b=some o/\o.own=true)\/FA C.env b\/C.K2 b≠none)):Ii C σ s b=s.heap.get? b:=by
 unfold Ii;rw[ah h]
theorem Fj(h:Ii C σ s b=some o):s.heap.get? b=some o:=by
 by_cases q:(∃o,σ b=some o/\o.own=true)\/FA C.env b\/C.K2 b≠none
 .rw[o6 q]at h;cases h
 .rwa[sJ q]at h
section
variable{W:Wd}{n:Nat}{C:Cx}{ρ ρ':Loc}{σ bw:Hp}{s s':Shared}
theorem sL(K:eO W n C)(I:Inv W C ρ σ s)(h:C.K b=some o):Ii C σ s b=some o:=by
 rw[sJ,I.keep b o h]
 rintro(⟨o',e,ho⟩ | q | q)
 .rw[(I.own b o' e ho).1]at h;cases h
 .rw[(K.fa b q).1]at h;cases h
 .rw[K.kk b q]at h;cases h
theorem eO.fz(K:eO W n C)(I:Inv W C ρ σ s):eO W n (C.fz σ s):=
 {K with
  base:=λb o e=>sL K I (K.base b o e)
  fa:=λa h=>⟨o6 (.inr (.inl h)),(K.fa a h).2⟩
  kk:=λa h=>o6 (.inr (.inr h))
  free:=λx a h1 h2=>by
   cases h:C.K a with
   | none=>exact absurd h (K.free x a h1 h2)
   | some o=>intro q;rw[show(C.fz σ s).K a=Ii C σ s a from rfl,sL K I h]at q;cases q}
theorem Inv.fz(I:Inv W C ρ σ s):Inv W (C.fz σ s) ρ σ s:=
 {I with keep:=λb o h=>Fj h,own:=λa o e h=>⟨o6 (.inl ⟨o,e,h⟩),(I.own a o e h).2⟩}
theorem Inv.Fl(K:eO W n C)(I:Inv W C ρ σ s)(J:Inv W (C.fz σ s) ρ' bw s'):Inv W C ρ' bw s':=
 {J with
  keep:=λb o h=>J.keep b o (sL K I h)
  own:=λa o e h=>⟨(by
   cases q:C.K a with
   | none=>rfl
   | some o'=>have:=(J.own a o e h).1;rw[show(C.fz σ s).K a=Ii C σ s a from rfl,sL K I q]at this;cases this),(J.own a o e h).2⟩}
def vR(C:Cx)(σ:Hp)(s s':Shared):Prop:=∀b o,s.heap.get? b=some o->¬((∃o,σ b=some o/\o.own=true)\/FA C.env b\/C.K2 b≠none)->s'.heap.get? b=some o
theorem Inv.Fm(J:Inv W (C.fz σ s) ρ' bw s'):vR C σ s s':=λb o h q=>J.keep b o ((sJ q).trans h)
theorem OR.fb{ob:Obj}(x:OR W s.heap a o)(h:s.heap.get? a=some ob):¬c9 ob:=by
 intro k
 cases o with
 | list w xs=>obtain⟨o',items,m,h1,h2,_,_,h3,_⟩:=x;rw[h1]at h;cases h;rcases k with ⟨k,_⟩ | ⟨k,_⟩<;>(rw[h2]at k;simp at k)
 | inst c d=>rw[x.2]at h;cases h;rcases k with ⟨k,_⟩ | ⟨k,_⟩<;>simp at k
 | dict i=>obtain⟨es,m,h1,_⟩:=x;rw[h1]at h;cases h;rcases k with ⟨k,_⟩ | ⟨k,_⟩<;>simp at k
theorem Inv.fb(K:eO W n C)(I:Inv W C ρ σ s)(h:s.heap.get? b=some o)(k:c9 o):¬((∃o,σ b=some o/\o.own=true)\/FA C.env b\/C.K2 b≠none):=by
 rintro(⟨o',e,_⟩ | q | q)
 .exact(I.objs b o' e).fb h k
 .obtain⟨m,F⟩:=I.qp
  rcases q with rfl | ⟨x,hx,hc⟩
  .obtain⟨j,es,y,h1,h2,_⟩:=F.ns
   rw[h1]at h;cases h
   rcases k with ⟨_,_,_,k⟩ | ⟨_,_,k⟩<;>(rw[h2]at k;cases k)
  .obtain⟨i,hi⟩:∃i:Nat,C.env.scope.names[i]? =some (x,.cell):=by
    have:=mem_of_lookup (show C.env.scope.names.lookup x=some .cell from hx)
    obtain⟨i,hi,e⟩:=aI this
    exact⟨i,by rw[aJ hi,e]⟩
   obtain⟨c,v,e1,⟨oc,e2,e3⟩,_⟩:=F.cell i x .cell hi (.inl rfl)
   rw[e1]at hc;cases hc
   rw[e2]at h;cases h
   rcases k with ⟨_,_,_,k⟩ | ⟨_,_,k⟩<;>(rw[e3]at k;cases k)
 .cases hk:C.K2 b with
  | none=>exact q hk
  | some j=>
   obtain⟨sl,h1⟩:=I.eh b j hk
   obtain⟨es,m,h2⟩:=K.Mh b j hk
   rw[h1]at h;cases h
   rcases k with ⟨_,_,_,k⟩ | ⟨_,_,k⟩<;>(dsimp only at k;rw[h2]at k;cases k)
theorem vR.vr(K:eO W n C)(I:Inv W C ρ σ s)(S:vR C σ s s')(x:VR s.heap v av):VR s'.heap v av:=
 x.bK λa o h k=>S a o h (I.fb K h k)
end
inductive RC(W:Wd)(C:Cx)(ρ:Loc)(σ:Hp)(s:Shared)(Q:AV->Hp->Prop)(v:Value)(s':Shared):Prop
 | mk (av:AV) (bw:Hp):VR s'.heap v av->Inv W C ρ bw s'->vR C σ s s'->Q av bw->RC W C ρ σ s Q v s'
inductive Ua(W:Wd)(C:Cx)(ρ:Loc)(σ:Hp)(s:Shared)(Q:Bool->Hp->Prop)(b:Bool)(s':Shared):Prop
 | mk (bw:Hp):Inv W C ρ bw s'->vR C σ s s'->Q b bw->Ua W C ρ σ s Q b s'
inductive OE(W:Wd)(C:Cx)(ρ:Loc)(σ:Hp)(s:Shared)(Q:List AV->Hp->Prop)(vs:List Value)(s':Shared):Prop
 | mk (l:List AV) (bw:Hp):eN s'.heap vs l->Inv W C ρ bw s'->vR C σ s s'->Q l bw->OE W C ρ σ s Q vs s'
section
variable{W:Wd}{n:Nat}{C:Cx}{ρ:Loc}{σ:Hp}{s:Shared}{c:CE}{cs:sX}{e:Expr}{es:List Expr}
theorem AWE.run(h:AWE W n c ρ σ Q E)(K:eO W n C)(hm:mE C.env.scope c e=true)(I:Inv W C ρ σ s):
  wpAny W.M C.A (eval e C.env) (RC W C ρ σ s Q) E s:=
 aK (h (C.fz σ s) s e (K.fz I) hm I.fz) (λZ Z i=>by obtain⟨av,bw,r,J,q⟩:=i;exact⟨av,bw,r,I.Fl K J,J.Fm,q⟩) λZ Z x=>x
theorem AWEs.run(h:AWEs W n cs ρ σ Q E)(K:eO W n C)(hm:vP C.env.scope cs es=true)(I:Inv W C ρ σ s):
  wpAny W.M C.A (spliced (backTo pos (starEach es C.env))) (OE W C ρ σ s Q) E s:=
 aK (h (C.fz σ s) s es pos (K.fz I) hm I.fz) (λZ Z i=>by obtain⟨l,bw,r,J,q⟩:=i;exact⟨l,bw,r,I.Fl K J,J.Fm,q⟩) λZ Z x=>x
theorem AWE.bK{Q i:AV->Hp->Prop}(h:AWE W n c ρ σ Q E)(j:∀v σ,Q v σ->i v σ):AWE W n c ρ σ i E:=
 λC s e K m I=>aK (h C s e K m I) (λZ Z y=>by obtain⟨av,bw,r,J,q⟩:=y;exact⟨av,bw,r,J,j _ _ q⟩) λZ Z x=>x
theorem eO.Fn(G:GF W)(K:eO W n C)(I:Inv W C ρ σ s):PylongRoom W.M C.A s:=by
 have i:∀b o,W.hB.get? b=some o->s.heap.get? b=some o:=λb o e=>I.keep b o (K.base b o e)
 refine PylongRoom.of (G.nolimit.keeps i) ?_ ?_
 .exact aj (Nat.add_le_add_right (ai (Nat.le_add_right _ _) K.a.2.1) 100) (by decide)
 .cases h:C.fr with
  | nil=>exact absurd h K.Fc
  | cons e l=>
   have:=(K.rB e (by rw[h];exact .head _)).2.1
   exact SeerAt.of (G.seer.keeps i) G.tree (by rw[K.frames,h]) this.1 this.2.1 this.2.2.1 this.2.2.2
end
end
theorem rF:false=false:=rfl
theorem Ll{x a b:α}{c:Bool}(e:x=cond c b a)(h:c=false):x=a:=by rw[h]at e;exact e
theorem fo{α:Type}{a:α}{P:Prop}(h:none=some a):P:=by cases h
theorem iG{α:Type}{P:α->Prop}{e x:α}(h:e=x)(k:P x):P e:=by rw[h];exact k
theorem A0(h:Nat.blt a b=true):a<b:=Nat.le_of_ble_eq_true h
theorem cG{x:T}(h:ci c k f=some x):∃g,f g=some x:=by
 unfold ci at h
 split at h
 .exact⟨_,h⟩
 .exact fo h
theorem h9{x:α}(h:yz l=some x):l=[x]:=by
 obtain _ | ⟨y,_ | ⟨z,r⟩⟩:=l<;>first | exact fo h | (cases h;rfl)
theorem A1{x:α × α}(h:QN l=some x):l=[x.1,x.2]:=by
 obtain _ | ⟨y,_ | ⟨z,_ | ⟨w,r⟩⟩⟩:=l<;>first | exact fo h | (cases h;rfl)
theorem CA(h:LS c=some i):c=.int i:=by
 cases c<;>first | exact fo h | (cases h;rfl)
theorem IA(h:N7 c=some i):c=.bool i:=by
 cases c<;>first | exact fo h | (cases h;rfl)
theorem IB(h:N8 c=true):c=.none:=by
 cases c<;>first | exact ff h | rfl
theorem CB(h:Io e=some x):e=.BoolOp x.1 x.2.1 x.2.2:=by
 obtain⟨g,_⟩:=cG h
 exact Expr.BoolOp.elim (motive_1:=λe=>Io e=some x->e=.BoolOp x.1 x.2.1 x.2.2) e g (λZ Z Z h=>by cases h;rfl) h
theorem IC(h:LO e=some x):e=.BinOp x.1 x.2.1 x.2.2.1 x.2.2.2:=by
 obtain⟨g,_⟩:=cG h
 exact Expr.BinOp.elim (motive_1:=λe=>LO e=some x->e=.BinOp x.1 x.2.1 x.2.2.1 x.2.2.2) e g (λZ Z Z Z h=>by cases h;rfl) h
theorem xf(h:E8 e=some x):e=.UnaryOp x.1 x.2.1 x.2.2:=by
 obtain⟨g,_⟩:=cG h
 exact Expr.UnaryOp.elim (motive_1:=λe=>E8 e=some x->e=.UnaryOp x.1 x.2.1 x.2.2) e g (λZ Z Z h=>by cases h;rfl) h
theorem ID(h:LP e=some x):e=.IfExp x.1 x.2.1 x.2.2.1 x.2.2.2:=by
 obtain⟨g,_⟩:=cG h
 exact Expr.IfExp.elim (motive_1:=λe=>LP e=some x->e=.IfExp x.1 x.2.1 x.2.2.1 x.2.2.2) e g (λZ Z Z Z h=>by cases h;rfl) h
theorem IE(h:Ip e=some x):e=.ListComp x.1 x.2.1 x.2.2.1 x.2.2.2:=by
 obtain⟨g,_⟩:=cG h
 exact Expr.ListComp.elim (motive_1:=λe=>Ip e=some x->e=.ListComp x.1 x.2.1 x.2.2.1 x.2.2.2) e g (λZ Z Z Z h=>by cases h;rfl) h
theorem CC(h:Iq e=some x):e=.Compare x.1 x.2.1 x.2.2.1 x.2.2.2:=by
 obtain⟨g,_⟩:=cG h
 exact Expr.Compare.elim (motive_1:=λe=>Iq e=some x->e=.Compare x.1 x.2.1 x.2.2.1 x.2.2.2) e g (λZ Z Z Z h=>by cases h;rfl) h
theorem CD(h:AN e=some x):e=.Call x.1 x.2.1 x.2.2.1 x.2.2.2:=by
 obtain⟨g,_⟩:=cG h
 exact Expr.Call.elim (motive_1:=λe=>AN e=some x->e=.Call x.1 x.2.1 x.2.2.1 x.2.2.2) e g (λZ Z Z Z h=>by cases h;rfl) h
theorem td(h:LQ e=some x):e=.Constant x.1 x.2.1 x.2.2:=by
 obtain⟨g,_⟩:=cG h
 exact Expr.Constant.elim (motive_1:=λe=>LQ e=some x->e=.Constant x.1 x.2.1 x.2.2) e g (λZ Z Z h=>by cases h;rfl) h
theorem mu(h:yy e=some x):e=.Attribute x.1 x.2.1 x.2.2:=by
 obtain⟨g,_⟩:=cG h
 exact Expr.Attribute.elim (motive_1:=λe=>yy e=some x->e=.Attribute x.1 x.2.1 x.2.2) e g (λZ Z Z h=>by cases h;rfl) h
theorem sM(h:DM e=some x):e=.Subscript x.1 x.2.1 x.2.2:=by
 obtain⟨g,_⟩:=cG h
 exact Expr.Subscript.elim (motive_1:=λe=>DM e=some x->e=.Subscript x.1 x.2.1 x.2.2) e g (λZ Z Z h=>by cases h;rfl) h
theorem fC(h:w8 e=some x):e=.Name x.1 x.2:=by
 obtain⟨g,_⟩:=cG h
 exact Expr.Name.elim (motive_1:=λe=>w8 e=some x->e=.Name x.1 x.2) e g (λZ Z h=>by cases h;rfl) h
theorem IF(h:LR e=some x):e=.List x.1 x.2:=by
 obtain⟨g,_⟩:=cG h
 exact Expr.List.elim (motive_1:=λe=>LR e=some x->e=.List x.1 x.2) e g (λZ Z h=>by cases h;rfl) h
theorem xg(h:E9 e=some x):e=.Tuple x.1 x.2.1 x.2.2:=by
 obtain⟨g,_⟩:=cG h
 exact Expr.Tuple.elim (motive_1:=λe=>E9 e=some x->e=.Tuple x.1 x.2.1 x.2.2) e g (λZ Z Z h=>by cases h;rfl) h
theorem CF(h:AP e=some x):e=.Slice x.1 x.2.1 x.2.2.1 x.2.2.2:=by
 obtain⟨g,_⟩:=cG h
 exact Expr.Slice.elim (motive_1:=λe=>AP e=some x->e=.Slice x.1 x.2.1 x.2.2.1 x.2.2.2) e g (λZ Z Z Z h=>by cases h;rfl) h
theorem ly(h:Lj e=some x):e=.Call (.Name x.1 x.2.2.1) x.2.1 [] x.2.2.2:=by
 unfold Lj at h
 cases hc:AN e with
 | none=>rw[hc]at h;exact fo h
 | some y=>
  rw[hc]at h
  obtain⟨f,l,k,p⟩:=y
  cases k with
  | cons _ _=>exact fo h
  | nil=>
   dsimp only at h
   cases i:w8 f with
   | none=>rw[i]at h;exact fo h
   | some z=>rw[i]at h;cases h;rw[CD hc,fC i]
theorem Fo(h:QO e=some x):e=.Call (.Attribute x.1 x.2.1 x.2.2.1) x.2.2.2.1 [] x.2.2.2.2:=by
 unfold QO at h
 cases hc:AN e with
 | none=>rw[hc]at h;exact fo h
 | some y=>
  rw[hc]at h
  obtain⟨f,l,k,p⟩:=y
  cases k with
  | cons _ _=>exact fo h
  | nil=>
   dsimp only at h
   cases i:yy f with
   | none=>rw[i]at h;exact fo h
   | some z=>rw[i]at h;cases h;rw[CD hc,mu i]
theorem CG(h:mM e nm f=true):∃v p l pos,e=.Call (.Attribute v nm p) l [] pos/\eT v=false/\(p.endLine==pos.line)=true/\f v l=true:=by
 obtain⟨x,hx,h⟩:=bu h
 have i:=bC h;have h1:=bC i.1;have h2:=bC h1.1
 exact⟨_,_,_,_,(Fo hx).trans (by rw[az.mp h2.1]),hW h2.2,h1.2,i.2⟩
theorem Lm(h:mC sc e G D m f=true):∃j t y z i pos,e=.ListComp j [⟨t,y,z,0⟩] i pos/\mT (la sc i) G t=true/\
  kr sc i D=true/\cY i.names=true/\i.kind=.function/\i.names.length=m/\f (la sc i) j y z=true:=by
 obtain⟨x,hx,h⟩:=bu h
 obtain⟨⟨t,y,z,a⟩,L,h⟩:=bu h
 have H:=bC h;have h1:=bC H.1;have h2:=bC h1.1;have h3:=bC h2.1;have I:=bC h3.1;have J:=bC I.1
 exact⟨_,_,_,_,_,_,(IE hx).trans (by rw[h9 L,az.mp J.1]),I.2,h3.2,h2.2,az.mp h1.2,az.mp J.2,H.2⟩
section
variable{sc:Scope}{e:Expr}
@[elab_as_elim]theorem CH(h:mE sc (.int i) e=true){P:Expr->Prop}(k:∀k pos,P (.Constant (.int i) k pos)):P e:=by
 obtain⟨x,hx,h⟩:=bu h
 obtain⟨j,y,h⟩:=bu h
 have hi:=CA y
 rw[<-az.mp h]at hi
 exact iG ((td hx).trans (by rw[hi])) (k _ _)
@[elab_as_elim]theorem te(h:mE sc (.bool b) e=true){P:Expr->Prop}(k:∀k pos,P (.Constant (.bool b) k pos)):P e:=by
 obtain⟨x,hx,h⟩:=bu h
 obtain⟨j,i,h⟩:=bu h
 have hi:=IA i
 rw[<-az.mp h]at hi
 exact iG ((td hx).trans (by rw[hi])) (k _ _)
@[elab_as_elim]theorem yD(h:mE sc .none e=true){P:Expr->Prop}(k:∀k pos,P (.Constant .none k pos)):P e:=by
 obtain⟨x,hx,h⟩:=bu h
 exact iG ((td hx).trans (by rw[IB h])) (k _ _)
@[elab_as_elim]theorem CI (h:mE sc (.var i) e=true) {P:Expr->Prop} (k:∀x pos,(sY sc i x=true)->((x==("__debug__" :Str))=false)->P (.Name x pos)):P e:=by
 obtain⟨x,hx,h⟩:=bu h
 exact iG (fC hx) (k _ _ ((bC h).1) (hW (bC h).2))
@[elab_as_elim]theorem yE (h:mE sc (.bD x i) e=true) {P:Expr->Prop} (k:∀pos,(dg sc x=true)->(lu.lookup x=some i)->((x==("__debug__" :Str))=false)->P (.Name x pos)):P e:=by
 obtain⟨j,hx,h⟩:=bu h
 have h1:=bC h;have h2:=bC h1.1;have h3:=bC h2.1
 have e1:=az.mp h3.1
 rw[<-e1]at h1 h3
 exact iG ((fC hx).trans (by rw[e1])) (k _ h3.2 (az.mp h2.2) (hW h1.2))
@[elab_as_elim]theorem Fp (h:mE sc (.ko x k) e=true) {P:Expr->Prop} (k:∀pos,(dg sc x=true)->(vO k=x)->(k<4)->((x==("__debug__" :Str))=false)->P (.Name x pos)):P e:=by
 obtain⟨j,hx,h⟩:=bu h
 have h1:=bC h;have h2:=bC h1.1;have h3:=bC h2.1;have i:=bC h3.1
 have e1:=az.mp i.1
 rw[<-e1]at h1 i
 exact iG ((fC hx).trans (by rw[e1])) (k _ i.2 (az.mp h3.2) (A0 h2.2) (hW h1.2))
@[elab_as_elim]theorem sN(h:mE sc (.bx o l r) e=true){P:Expr->Prop}(k:∀i j pos,(mE sc l i=true)->(mE sc r j=true)->P (.BinOp i o j pos)):P e:=by
 obtain⟨x,hx,h⟩:=bu h
 have y:=bC h;have h1:=bC y.1
 exact iG ((IC hx).trans (by rw[az.mp h1.1])) (k _ _ _ h1.2 y.2)
@[elab_as_elim]theorem CJ(h:mE sc (.bM o l r) e=true){P:Expr->Prop}(k:∀j i pos,(mE sc l j=true)->(mE sc r i=true)->(gy i=false)->P (.Compare j [o] [i] pos)):P e:=by
 obtain⟨x,hx,h⟩:=bu h
 obtain⟨o',ho,h⟩:=bu h
 obtain⟨i,z,h⟩:=bu h
 have y:=bC h;have h1:=bC y.1;have h2:=bC h1.1
 exact iG ((CC hx).trans (by rw[h9 ho,h9 z,az.mp h2.1])) (k _ _ _ h2.2 h1.2 (hW y.2))
@[elab_as_elim]theorem IG(h:mE sc (.chn H I a b c) e=true){P:Expr->Prop}(k:∀y i j pos,(mE sc a y=true)->(mE sc b i=true)->(mE sc c j=true)->(gy i=false)->(gy j=false)->P (.Compare y [H,I] [i,j] pos)):P e:=by
 obtain⟨x,hx,h⟩:=bu h
 obtain⟨o',ho,h⟩:=bu h
 obtain⟨L,J,h⟩:=bu h
 have z:=bC h;have h1:=bC z.1;have h2:=bC h1.1;have h3:=bC h2.1;have D:=bC h3.1;have G:=bC D.1
 exact iG ((CC hx).trans (by rw[A1 ho,A1 J,az.mp G.1,az.mp G.2])) (k _ _ _ _ D.2 h3.2 h2.2 (hW h1.2) (hW z.2))
@[elab_as_elim]theorem CK{l r:CE}(h:mE sc (.and l r) e=true){P:Expr->Prop}(k:∀x y i pos,(mE sc l x=true)->((match i with | []=>mE sc r y | _=>mE sc r (.BoolOp .And (y::i) pos))=true)->P (.BoolOp .And (x::y::i) pos)):P e:=by
 obtain⟨x,hx,h⟩:=bu h
 obtain⟨j,vs,p⟩:=x
 cases j<;>first | exact ff h | skip
 obtain _ | ⟨x,_ | ⟨y,i⟩⟩:=vs<;>first | exact ff h | skip
 exact iG (CB hx) (k _ _ _ _ ((bC h).1) ((bC h).2))
@[elab_as_elim]theorem Fs{l r:CE}(h:mE sc (.or l r) e=true){P:Expr->Prop}(k:∀x y i pos,(mE sc l x=true)->((match i with | []=>mE sc r y | _=>mE sc r (.BoolOp .Or (y::i) pos))=true)->P (.BoolOp .Or (x::y::i) pos)):P e:=by
 obtain⟨x,hx,h⟩:=bu h
 obtain⟨j,vs,p⟩:=x
 cases j<;>first | exact ff h | skip
 obtain _ | ⟨x,_ | ⟨y,i⟩⟩:=vs<;>first | exact ff h | skip
 exact iG (CB hx) (k _ _ _ _ ((bC h).1) ((bC h).2))
@[elab_as_elim]theorem CL(h:mE sc (.not a) e=true){P:Expr->Prop}(k:∀x pos,(mE sc a x=true)->P (.UnaryOp .Not x pos)):P e:=by
 obtain⟨⟨i,y,p⟩,hx,h⟩:=bu h
 cases i<;>first | exact ff h | exact iG (xf hx) (k _ _ h)
@[elab_as_elim]theorem CM(h:mE sc (.neg a) e=true){P:Expr->Prop}(k:∀x pos,(mE sc a x=true)->P (.UnaryOp .USub x pos)):P e:=by
 obtain⟨⟨i,y,p⟩,hx,h⟩:=bu h
 cases i<;>first | exact ff h | exact iG (xf hx) (k _ _ h)
@[elab_as_elim]theorem CN(h:mE sc (.inv a) e=true){P:Expr->Prop}(k:∀x pos,(mE sc a x=true)->P (.UnaryOp .Invert x pos)):P e:=by
 obtain⟨⟨i,y,p⟩,hx,h⟩:=bu h
 cases i<;>first | exact ff h | exact iG (xf hx) (k _ _ h)
@[elab_as_elim]theorem IH(h:mE sc (.ite c t f) e=true){P:Expr->Prop}(k:∀i j y pos,(mE sc c i=true)->(mE sc t j=true)->(mE sc f y=true)->P (.IfExp i j y pos)):P e:=by
 obtain⟨x,hx,h⟩:=bu h
 have z:=bC h;have h1:=bC z.1
 exact iG (ID hx) (k _ _ _ _ h1.1 h1.2 z.2)
@[elab_as_elim]theorem yF(h:mE sc (.bt o k) e=true){P:Expr->Prop}(k:∀v pos,(k<27)->(eT v=false)->(mE sc o v=true)->P (.Attribute v (b9 k) pos)):P e:=by
 obtain⟨x,hx,h⟩:=bu h
 have i:=bC h;have h1:=bC i.1;have h2:=bC h1.2
 exact iG ((mu hx).trans (by rw[az.mp h1.1])) (k _ _ (A0 h2.1) (hW h2.2) i.2)
theorem OF:mE sc c (.Slice a b d p)=false:=by cases c<;>first | exact rF | (rename_i q _ _;cases q<;>exact rF)
theorem II(h:mE sc c (.Slice a b d p)=true):False:=ff (OF.symm.trans h)
theorem OG(h:mE sc c e=true):(AP e).isSome=false:=by
 cases q:AP e with
 | none=>rfl
 | some x=>rw[CF q]at h;exact(II h).elim
@[elab_as_elim]theorem CO(h:mE sc (.sub o i) e=true){P:Expr->Prop}(k:∀v x pos,(mE sc o v=true)->(mE sc i x=true)->P (.Subscript v x pos)):P e:=by
 obtain⟨x,hx,h⟩:=bu h
 exact iG (sM hx) (k _ _ _ ((bC h).1) ((bC h).2))
@[elab_as_elim]theorem IJ(h:mE sc (.cn es) e=true){P:Expr->Prop}(k:∀l k pos,(vP sc es l=true)->P (.Tuple l k pos)):P e:=by
 obtain⟨x,hx,h⟩:=bu h
 exact iG (xg hx) (k _ _ _ h)
@[elab_as_elim]theorem IK(h:mE sc (.cI es) e=true){P:Expr->Prop}(k:∀l pos,(vP sc es l=true)->P (.List l pos)):P e:=by
 obtain⟨x,hx,h⟩:=bu h
 exact iG (IF hx) (k _ _ h)
@[elab_as_elim]theorem CP (h:mE sc (.len a) e=true) {P:Expr->Prop} (k:∀p x pos,(dg sc "len" =true)->(mE sc a x=true)->P (.Call (.Name "len" p) [x] [] pos)):P e:=by
 obtain⟨x,hx,h⟩:=bu h
 obtain⟨y,hy,h⟩:=bu h
 have i:=bC h;have h1:=bC i.1
 have e1:=az.mp h1.1
 rw[e1]at h1
 exact iG ((ly hx).trans (by rw[e1,h9 hy])) (k _ _ _ h1.2 i.2)
@[elab_as_elim]theorem CQ (h:mE sc (.abs a) e=true) {P:Expr->Prop} (k:∀p x pos,(dg sc "abs" =true)->(mE sc a x=true)->P (.Call (.Name "abs" p) [x] [] pos)):P e:=by
 obtain⟨x,hx,h⟩:=bu h
 obtain⟨y,hy,h⟩:=bu h
 have i:=bC h;have h1:=bC i.1
 have e1:=az.mp h1.1
 rw[e1]at h1
 exact iG ((ly hx).trans (by rw[e1,h9 hy])) (k _ _ _ h1.2 i.2)
@[elab_as_elim]theorem IL (h:mE sc (.c8 es) e=true) {P:Expr->Prop} (k:∀p l pos,(dg sc "range" =true)->(l.isEmpty=false)->(vP sc es l=true)->P (.Call (.Name "range" p) l [] pos)):P e:=by
 obtain⟨x,hx,h⟩:=bu h
 have i:=bC h;have h1:=bC i.1
 have e1:=az.mp h1.1
 rw[e1]at h1
 exact iG ((ly hx).trans (by rw[e1])) (k _ _ _ ((bC h1.2).1) (hW (bC h1.2).2) i.2)
@[elab_as_elim]theorem tf (h:mE sc (.call f es) e=true) {P:Expr->Prop} (k:∀p l pos,(dg sc (w5 f)=true)->(l.isEmpty=false)->(f<112)->((w5 f==("__debug__" :Str))=false)->(l.length<20)->(vP sc es l=true)->P (.Call (.Name (w5 f) p) l [] pos)):P e:=by
 obtain⟨x,hx,h⟩:=bu h
 have j:=bC h;have h1:=bC j.1;have h2:=bC h1.1;have h3:=bC h2.1;have i:=bC h3.1
 have e1:=az.mp i.1
 rw[e1]at i h2
 exact iG ((ly hx).trans (by rw[e1])) (k _ _ _ ((bC i.2).1) (hW (bC i.2).2) (A0 h3.2) (hW h2.2) (A0 h1.2) j.2)
@[elab_as_elim]theorem IM(h:mE sc (.new c es) e=true){P:Expr->Prop}(k:∀p l pos,(dg sc (rA c)=true)->(l.isEmpty=false)->(c<4)->(vP sc es l=true)->P (.Call (.Name (rA c) p) l [] pos)):P e:=by
 obtain⟨x,hx,h⟩:=bu h
 have i:=bC h;have h1:=bC i.1;have h2:=bC h1.1
 have e1:=az.mp h2.1
 rw[e1]at h2
 exact iG ((ly hx).trans (by rw[e1])) (k _ _ _ ((bC h2.2).1) (hW (bC h2.2).2) (A0 h1.2) i.2)
@[elab_as_elim]theorem DT{lo hi:Option Nat}(h:mE sc (.slice o lo hi) e=true){P:Expr->Prop}(k:∀v l u p pos,(sZ lo l=true)->(sZ hi u=true)->(mE sc o v=true)->P (.Subscript v (.Slice l u none p) pos)):P e:=by
 obtain⟨x,hx,h⟩:=bu h
 obtain⟨y,hy,h⟩:=bu h
 have i:=bC h;have h1:=bC i.2;have h2:=bC h1.1
 exact iG ((sM hx).trans (by rw[CF hy,Option.isNone_iff_eq_none.mp i.1])) (k _ _ _ _ _ h2.1 h2.2 h1.2)
@[elab_as_elim]theorem A2 (h:mE sc (.append o a) e=true) {P:Expr->Prop} (k:∀v p x pos,(eT v=false)->((p.endLine==pos.line)=true)->(mE sc o v=true)->(mE sc a x=true)->P (.Call (.Attribute v "append" p) [x] [] pos)):P e:=by
 obtain⟨v,p,l,q,he,h1,h2,h⟩:=CG (nm:= "append") (f:=λv l=>on (yz l) λy=>mE sc o v&&mE sc a y) h
 obtain⟨y,hy,h⟩:=bu h
 exact iG (he.trans (by rw[h9 hy])) (k _ _ _ _ h1 h2 ((bC h).1) ((bC h).2))
@[elab_as_elim]theorem vS (h:mE sc (.index o a) e=true) {P:Expr->Prop} (k:∀v p x pos,(eT v=false)->((p.endLine==pos.line)=true)->(mE sc o v=true)->(mE sc a x=true)->P (.Call (.Attribute v "index" p) [x] [] pos)):P e:=by
 obtain⟨v,p,l,q,he,h1,h2,h⟩:=CG (nm:= "index") (f:=λv l=>on (yz l) λy=>mE sc o v&&mE sc a y) h
 obtain⟨y,hy,h⟩:=bu h
 exact iG (he.trans (by rw[h9 hy])) (k _ _ _ _ h1 h2 ((bC h).1) ((bC h).2))
@[elab_as_elim]theorem vT (h:mE sc (.count o a) e=true) {P:Expr->Prop} (k:∀v p x pos,(eT v=false)->((p.endLine==pos.line)=true)->(mE sc o v=true)->(mE sc a x=true)->P (.Call (.Attribute v "count" p) [x] [] pos)):P e:=by
 obtain⟨v,p,l,q,he,h1,h2,h⟩:=CG (nm:= "count") (f:=λv l=>on (yz l) λy=>mE sc o v&&mE sc a y) h
 obtain⟨y,hy,h⟩:=bu h
 exact iG (he.trans (by rw[h9 hy])) (k _ _ _ _ h1 h2 ((bC h).1) ((bC h).2))
@[elab_as_elim]theorem IP (h:mE sc (.pop o) e=true) {P:Expr->Prop} (k:∀v p pos,(eT v=false)->((p.endLine==pos.line)=true)->(mE sc o v=true)->P (.Call (.Attribute v "pop" p) [] [] pos)):P e:=by
 obtain⟨v,p,l,q,he,h1,h2,h⟩:=CG (nm:= "pop") (f:=λv l=>l.isEmpty&&mE sc o v) h
 exact iG (he.trans (by rw[List.isEmpty_iff.mp (bC h).1])) (k _ _ _ h1 h2 ((bC h).2))
theorem DU(h:mE sc (.comp z H it none D m) e=true):
  ∃j t y i pos,e=.ListComp j [⟨t,y,[],0⟩] i pos/\mT (la sc i) H t=true/\mE sc it y=true/\mE (la sc i) z j=true/\kr sc i D=true/\cY i.names=true/\
   i.kind=.function/\i.names.length=m:=by
 obtain⟨j,t,y,G,i,pos,he,h1,h2,h3,L,O,h⟩:=Lm (f:=λi j y G=>mE sc it y&&mE i z j&&G.isEmpty) h
 have I:=bC h;have J:=bC I.1
 exact⟨_,_,_,_,_,he.trans (by rw[List.isEmpty_iff.mp I.2]),h1,J.1,J.2,h2,h3,L,O⟩
theorem DV(h:mE sc (.comp z I it (some c) D m) e=true):
  ∃j t y G i pos,e=.ListComp j [⟨t,y,[G],0⟩] i pos/\mT (la sc i) I t=true/\mE sc it y=true/\mE (la sc i) z j=true/\kr sc i D=true/\cY i.names=true/\
   i.kind=.function/\i.names.length=m/\mE (la sc i) c G=true:=by
 obtain⟨j,t,y,H,i,pos,he,h1,h2,h3,O,U,h⟩:=Lm (f:=λi j y H=>mE sc it y&&mE i z j&&on (yz H) λG=>mE i c G) h
 have J:=bC h;have L:=bC J.1
 obtain⟨G,hc,h⟩:=bu J.2
 exact⟨_,_,_,_,_,_,he.trans (by rw[h9 hc]),h1,L.1,L.2,h2,h3,O,U,h⟩
theorem sO(h:vP sc .nil l=true):l=[]:=by cases l<;>first | rfl | cases h
theorem o7(h:vP sc (.cons c cs) l=true):∃x r,l=x::r/\mE sc c x=true/\vP sc cs r=true:=by
 cases l with
 | nil=>cases h
 | cons x r=>exact⟨_,_,rfl,(bC h).1,(bC h).2⟩
theorem OH:mE sc c (.Starred a p)=false:=by cases c<;>first | exact rF | (rename_i q _ _;cases q<;>exact rF)
theorem OI:starEach (x::r) env=cond (Nat.beq x.ctorIdx 22) (starEach (x::r) env) ((false,eval x env)::starEach r env):=by cases x<;>rfl
theorem noStar(h:mE sc c x=true)(env:Env)(r:List Expr):starEach (x::r) env=(false,eval x env)::starEach r env:=by
 refine Ll OI ?_
 cases q:Nat.beq x.ctorIdx 22 with
 | false=>rfl
 | true=>
  exact Expr.Starred.elim (motive_1:=λx=>mE sc c x=true->true=false) x (aL q) (λZ Z h=>ff (OH.symm.trans h)) h
end
open PySem.SeqAt
section
variable{W:Wd}{A:Around}{s:Shared}{E:Value->Shared->Prop}
theorem Ft(i:PylongRoom W.M A s)(e:binI o a b=some v):
  wpAny W.M A (inplaceOp o (.int a t) (.int b u)) (DS s (.int v)) E s:=by
 cases o<;>first | (first | exact ff e | (cases e;done)) | skip
 case Add=>cases e;with_reducible exact P.iadd_int ⟨λZ=>.int _ _,_,rfl⟩
 case Sub=>cases e;with_reducible exact P.isub_int ⟨λZ=>.int _ _,_,rfl⟩
 case Mult=>
  obtain⟨hc,rfl⟩:=Ct e
  with_reducible exact P.imul_int ⟨λZ=>.int _ _,_,rfl⟩ (IntMulOk.of_left (intBits_le_64 hc.1 hc.2))
 case Mod=>
  obtain⟨hc,rfl⟩:=NQ e
  with_reducible exact PyProof.Rows.imod_int hc ⟨λZ=>.int _ _,_,rfl⟩
 case LShift=>
  obtain⟨hc,rfl⟩:=Ct e
  with_reducible exact PyProof.Rows.ilshift_int_small hc.1.1 (by omega) (by omega) ⟨λZ=>.int _ _,_,rfl⟩
 case RShift=>
  obtain⟨hc,rfl⟩:=Ct e
  with_reducible exact PyProof.Rows.irshift_int hc ⟨λZ=>.int _ _,_,rfl⟩
 case BitOr=>cases e;with_reducible exact PyProof.Rows.ior_int ⟨λZ=>.int _ _,_,rfl⟩
 case BitXor=>cases e;with_reducible exact PyProof.Rows.ixor_int ⟨λZ=>.int _ _,_,rfl⟩
 case BitAnd=>cases e;with_reducible exact PyProof.Rows.iand_int ⟨λZ=>.int _ _,_,rfl⟩
 case FloorDiv=>
  obtain⟨hc,rfl⟩:=NQ e
  with_reducible exact PyProof.Rows.ifloordiv_int hc ⟨λZ=>.int _ _,_,rfl⟩ (.inr i)
theorem binv_inv(e:fA o a b=some v):∃i j k,a=.int i/\b=.int j/\v=.int k/\binI o i j=some k:=by
 obtain⟨i,e1,e⟩:=aG.mp e
 obtain⟨j,e2,e⟩:=aG.mp e
 obtain⟨k,h,rfl⟩:=aH.mp e
 exact⟨i,j,k,fy e1,fy e2,rfl,h⟩
theorem Mm(y:PylongRoom W.M A s)(e:fA o a b=some v)(z:VR s.heap D a)(hb:VR s.heap G b):
  wpAny W.M A (binaryOp o D G) (DS s v) E s:=by
 obtain⟨i,j,k,rfl,rfl,rfl,h⟩:=binv_inv e
 cases z;cases hb;with_reducible exact Iz y h
theorem A3(y:PylongRoom W.M A s)(e:fA o a b=some v)(z:VR s.heap D a)(hb:VR s.heap G b):
  wpAny W.M A (inplaceOp o D G) (DS s v) E s:=by
 obtain⟨i,j,k,rfl,rfl,rfl,h⟩:=binv_inv e
 cases z;cases hb;with_reducible exact Ft y h
def DW:CmpOp->Int->Int->Option Bool
 | .Eq,a,b=>some (a==b)
 | .NotEq,a,b=>some (a != b)
 | .Lt,a,b=>some (decide (a<b))
 | .LtE,a,b=>some (decide (a<=b))
 | .Gt,a,b=>some (decide (b<a))
 | .GtE,a,b=>some (decide (b<=a))
 | _,_,_=>none
def qs:List AV->Option (List Int)
 | []=>some []
 | .int i::r=>(qs r).map (i::·)
 | _::_=>none
def o8:AV->Bool
 | .none=>true
 | _=>false
def dM(σ:Hp):AV->Option (List Int)
 | .cn l=>qs l
 | .ref a=>match σ a with
  | some (.list _ xs)=>qs xs
  | _=>none
 | _=>none
def QR(o:CmpOp):Nat:=CmpOp.casesOn (motive:=λZ=>Nat) o 4 4 4 4 4 4 0 1 2 3
def o9(σ:Hp)(o:CmpOp)(a b:AV):Option Bool:=
 if QR o=0 then(if o8 b=true then some (o8 a)else none)else
 if QR o=1 then(if o8 b=true then some (!o8 a)else none)else
 if QR o=2 then(u7 a).bind λi=>(dM σ b).map λl=>l.contains i else
 if QR o=3 then(u7 a).bind λi=>(dM σ b).map λl=>!l.contains i else(u7 a).bind λi=>(u7 b).bind λj=>DW o i j
theorem IQ:o9 σ .In (.int i) b=(dM σ b).map λl=>l.contains i:=rfl
theorem yG:o9 σ .NotIn (.int i) b=(dM σ b).map λl=>!l.contains i:=rfl
theorem th(h:o8 a=true):a=.none:=by cases a<;>first | rfl | exact ff h
theorem VR.IS(r:VR h v (.int i)):∃t,v=.int i t:=by cases r;exact⟨_,rfl⟩
theorem VR.Ln(r:VR h v .none):v=.none:=by cases r;rfl
def iH(σ:Hp):AV->Option Bool
 | .bool b=>some b
 | .int i=>some (i != 0)
 | .none=>some false
 | .ref a=>match σ a with
  | some (.list _ xs)=>if xs.length<2^40 then some (!xs.isEmpty)else none
  | _=>none
 | _=>none
theorem IT(e:DW o a b=some k):
  wpAny W.M A (compareOp o (.int a t) (.int b u)) (λr s'=>r=.bool k/\s'=s) E s:=by
 cases o<;>first | (first | exact ff e | (cases e;done)) | skip
 case Eq=>cases e;with_reducible exact P.eq_int ⟨rfl,rfl⟩
 case NotEq=>cases e;with_reducible exact P.ne_int ⟨rfl,rfl⟩
 case Lt=>cases e;with_reducible exact P.lt_int ⟨rfl,rfl⟩
 case LtE=>cases e;with_reducible exact P.le_int ⟨rfl,rfl⟩
 case Gt=>cases e;with_reducible exact P.gt_int ⟨rfl,rfl⟩
 case GtE=>cases e;with_reducible exact P.ge_int ⟨rfl,rfl⟩
theorem eN.ints(x:eN h vs l):∀{is:List Int},qs l=some is->cP (λv i=>∃t,v=Value.int i t) vs is:=by
 induction x with
 | nil=>intro is e;cases(af e);exact .nil
 | cons h _ j=>
  intro is e
  cases h<;>first | exact ff e | exact fo e | skip
  obtain⟨y,z,rfl⟩:=aH.mp e
  exact .cons ⟨_,rfl⟩ (j z)
def qt(i:Int):Value->Bool
 | .int j _=>j==i
 | _=>false
theorem Fu(h:cP (λv i=>∃t,v=Value.int i t) vs is):vs.any (qt i)=is.contains i:=by
 induction h with
 | nil=>rfl
 | cons e _ j=>exact e.elim λt e=>by subst e;exact congr (ae or (Bool.beq_comm (a:=_) (b:=i))) j
theorem IU(h:cP (λv i=>∃t,v=Value.int i t) vs is):∀y∈vs,EqAt A s y (.int i t) (qt i y):=by
 intro y hy
 obtain⟨k,hk,rfl⟩:=aI hy
 obtain⟨j,z,D,e⟩:=h.AL (aJ hk)
 rw[e];exact MeetsSeq.EqGives.at (MeetsSeq.EqGives.int _ _ _ _) _ _
theorem ti(e:dM σ (.ref a)=some is):∃w xs,σ a=some (.list w xs)/\qs xs=some is:=by
 unfold dM at e;dsimp only at e
 generalize hs:σ a=o at e
 cases o with
 | none=>exact nomatch e
 | some o=>cases o with
  | list w xs=>exact⟨w,xs,rfl,e⟩
  | _=>exact nomatch e
theorem IV(h:σ a=some (.list w xs))(e:(if xs.length<2^40 then some (!xs.isEmpty)else none)=some k):iH σ (.ref a)=some k:=by
 unfold iH;dsimp only;rw[h];exact e
theorem yH(e:iH σ (.ref a)=some k):∃w xs,σ a=some (.list w xs)/\(if xs.length<2^40 then some (!xs.isEmpty)else none)=some k:=by
 unfold iH at e;dsimp only at e
 generalize hs:σ a=o at e
 cases o with
 | none=>exact nomatch e
 | some o=>cases o with
  | list w xs=>exact⟨w,xs,rfl,e⟩
  | _=>exact nomatch e
theorem yI{σ:Hp}(hb:VR h D b)(ho:∀a o,σ a=some o->OR W h a o)(e:dM σ b=some is):
  ∃a items,D=.ref a/\(h.IsList a items\/h.IsTuple a items)/\cP (λv i=>∃t,v=Value.int i t) items.toList is:=by
 have Cu:=hb.Cu
 cases b with
 | ref a=>
  obtain⟨w,xs,hs,e⟩:=ti e
  obtain⟨o,items,m,h1,h2,_,_,h3,G⟩:=ho a _ hs
  exact⟨a,items,Cu,.inl ⟨o,h1,h2,m,h3⟩,eN.ints G e⟩
 | cn l=>
  obtain⟨H,j,I,e1,y,z⟩:=VR.iu hb
  exact⟨H,j,e1,.inr ⟨_,y,rfl,I,rfl⟩,eN.ints z e⟩
 | _=>exact cxO e rfl
theorem Mn(e:o9 σ o a b=some k)(z:VR s.heap J a)(hb:VR s.heap I b)(ho:∀a o,σ a=some o->OR W s.heap a o):
  wpAny W.M A (compareOp o J I) (λr s'=>r=.bool k/\s'=s) E s:=by
 have D:∀(i:Int)(t:Tok)(is:List Int),dM σ b=some is->wpAny W.M A (compareOp .In (.int i t) I) (λr s'=>r=.bool (is.contains i)/\s'=s) E s/\
   wpAny W.M A (compareOp .NotIn (.int i t) I) (λr s'=>r=.bool (!is.contains i)/\s'=s) E s:=by
  intro i t is G
  obtain⟨L,items,rfl,hl,hi⟩:=yI hb ho G
  have e2:items.any (qt i)=is.contains i:=by rw[<-Array.any_toList];exact Fu hi
  have e3:∀A:Around,∀y,y∈items->EqAt A s y (.int i t) (qt i y):=λA y hy=>IU hi y (Array.mem_toList_iff.mpr hy)
  rcases hl with hl | hl
  .constructor
   .with_reducible exact in_listAt (qt i) hl (e3 _) ⟨by rw[e2],rfl⟩
   .with_reducible exact notIn_listAt (qt i) hl (e3 _) ⟨by rw[e2],rfl⟩
  .constructor
   .with_reducible exact in_tupleAt (qt i) hl (e3 _) ⟨by rw[e2],rfl⟩
   .with_reducible exact notIn_tupleAt (qt i) hl (e3 _) ⟨by rw[e2],rfl⟩
 have H:(u7 a).bind (λi=>(u7 b).bind λj=>DW o i j)=some k->wpAny W.M A (compareOp o J I) (λr s'=>r=.bool k/\s'=s) E s:=by
  intro e
  obtain⟨i,e1,e⟩:=aG.mp e
  obtain⟨j,e2,e⟩:=aG.mp e
  rw[fy e1]at z
  rw[fy e2]at hb
  obtain⟨t,rfl⟩:=z.IS
  obtain⟨u,rfl⟩:=hb.IS
  exact IT e
 cases o
 case In=>
  obtain⟨i,e1,e⟩:=aG.mp e
  obtain⟨is,G,rfl⟩:=aH.mp e
  rw[fy e1]at z
  obtain⟨t,rfl⟩:=z.IS
  exact(D _ _ _ G).1
 case NotIn=>
  obtain⟨i,e1,e⟩:=aG.mp e
  obtain⟨is,G,rfl⟩:=aH.mp e
  rw[fy e1]at z
  obtain⟨t,rfl⟩:=z.IS
  exact(D _ _ _ G).2
 case Is=>
  replace e:=Option.ite_none_right_eq_some.mp e
  rw[th e.1]at hb
  cases e.2
  rw[hb.Ln]
  with_reducible refine PyProof.Rows.is_none_gen ⟨?_,rfl⟩
  cases z<;>rfl
 case IsNot=>
  replace e:=Option.ite_none_right_eq_some.mp e
  rw[th e.1]at hb
  cases e.2
  rw[hb.Ln]
  with_reducible refine PyProof.Rows.isnot_none_gen ⟨?_,rfl⟩
  cases z<;>rfl
 all_goals exact H e
theorem xh(e:iH σ v=some k)(H:VR s.heap j v)(ho:∀a o,σ a=some o->OR W s.heap a o):
  wpAny W.M A (truthy j) (λb s'=>b=k/\∃t,s'={s with toks:=t}) E s:=by
 have Cu:=H.Cu
 cases v with
 | none=>rw[show j=.none from Cu,<-af e];with_reducible exact PyProof.Rows.truthy_none ⟨rfl,s.toks,rfl⟩
 | bool b=>rw[show j=.bool b from Cu,<-af e];exact wpAny_truthy_bool ⟨rfl,s.toks,rfl⟩
 | int i=>
  obtain⟨t,h⟩:=(show ∃t,j=.int i t from Cu)
  rw[h,<-af e];with_reducible exact P.truthy_int ⟨rfl,s.toks,rfl⟩
 | cn l=>exact cxO e rfl
 | c8 x y z=>exact cxO e rfl
 | ref a=>
  rw[show j=.ref a from Cu]
  obtain⟨w,xs,hs,e⟩:=yH e
  obtain⟨D,rfl⟩:=Ct e
  obtain⟨o,items,m,h1,h2,_,_,h3,G⟩:=ho a _ hs
  have hl:items.size=xs.length:=Array.length_toList.symm.trans G.length
  have I:s.heap.IsList a items:=⟨o,h1,h2,m,h3⟩
  with_reducible refine wpAny_truthy_list I (ao (aq.mpr (aj (aw hl) D)) (by decide)) ⟨?_,_,rfl⟩
  obtain⟨l⟩:=items
  cases G<;>rfl
end
class inductive nc (σ:Hp):Nat->AV->AV->Bool->Prop
 | int (d:Nat) (i j:Int):nc σ d (.int i) (.int j) (i==j)
 | cn (d:Nat) (l m:List AV) (f:Nat->Bool):l.length=m.length->(∀(k:Nat)(a b:AV),l[k]? =some a->m[k]? =some b->nc σ d a b (f k))->nc σ (d+1) (.cn l) (.cn m) ((List.range l.length).all f)
 | cI (d:Nat) (a b:Addr) (w u:Bool) (l m:List AV) (f:Nat->Bool):σ a=some (.list w l)->σ b=some (.list u m)->l.length=m.length->
   (∀(k:Nat)(a b:AV),l[k]? =some a->m[k]? =some b->nc σ d a b (f k))->nc σ (d+1) (.ref a) (.ref b) ((List.range l.length).all f)
 | len (d:Nat) (a b:Addr) (w u:Bool) (l m:List AV):σ a=some (.list w l)->σ b=some (.list u m)->l.length≠m.length->nc σ (d+1) (.ref a) (.ref b) false
section
variable{W:Wd}{A:Around}{s:Shared}{E:Value->Shared->Prop}{σ:Hp}
theorem nc.CR(ho:∀a o,σ a=some o->OR W s.heap a o)(h:nc σ d x y b):∀{v:Value},VR s.heap v x->VR s.heap v y->b=true:=by
 induction h with
 | int d i j=>intro v hx hy;cases hx;cases hy;simp
 | cn d l m f hl hf G=>
  intro v hx hy
  obtain⟨a,items,n,e1,h1,H⟩:=hx.iu
  obtain⟨V,z,Y,e2,h2,L⟩:=hy.iu
  rw[e1]at e2;cases e2
  have h3:=Eq.trans (Eq.symm (show s.heap.get? a=some _ from h1)) h2
  cases h3
  rw[aM]
  intro k hk
  have hk:=aN.mp hk
  obtain⟨O,I,D⟩:=H.get (aJ hk)
  obtain⟨v2,J,U⟩:=L.get (aJ (hl▸hk))
  rw[I]at J;cases J
  exact G k _ _ (aJ hk) (aJ (hl▸hk)) D U
 | cI d a b w u l m f h1 h2 hl hf G=>
  intro v hx hy
  cases hx;cases hy
  rw[h1]at h2;cases h2
  rw[aM]
  intro k hk
  have hk:=aN.mp hk
  obtain⟨o,items,n,g1,_,_,_,g2,H⟩:=ho _ _ h1
  obtain⟨O,I,D⟩:=H.get (aJ hk)
  exact G k _ _ (aJ hk) (aJ (hl▸hk)) D D
 | len d a b w u l m h1 h2 hl=>
  intro v hx hy
  cases hx;cases hy
  rw[h1]at h2;cases h2
  exact absurd rfl hl
theorem eN.item{items:Array Value}(r:eN h items.toList l)(q:j<items.size)(p:j<l.length):VR h items[j] l[j]:=by
 obtain⟨v,e,r⟩:=r.get (aJ p)
 rw[Array.getElem?_toList,Array.getElem?_eq_getElem q]at e
 cases e;exact r
theorem eN.sz{items:Array Value}(r:eN h items.toList l):items.size=l.length:=by simpa using r.length
theorem Lp{items i:Array Value}(j:eN h items.toList l)(y:eN h i.toList m)(hl:l.length≠m.length):(items.size != i.size)=true:=by
 rw[eN.sz j,eN.sz y];exact aP.mpr hl
theorem nc.OJ{P:Bool->Prop}(e:nc σ n x y k)(hx:x=.ref a)(hy:y=.ref b)(z:n=d+1)
  (h1:∀w u l m f,σ a=some (.list w l)->σ b=some (.list u m)->l.length=m.length->(∀(k:Nat)(a b:AV),l[k]? =some a->m[k]? =some b->nc σ d a b (f k))->P ((List.range l.length).all f))
  (h2:∀w u l m,σ a=some (.list w l)->σ b=some (.list u m)->l.length≠m.length->P false):P k:=by
 rcases e with ⟨d,i,j⟩ | ⟨d,l,m,f,hl,hf⟩ | ⟨d,a,b,w,u,l,m,f,g1,D,hl,hf⟩ | ⟨d,a,b,w,u,l,m,g1,D,hl⟩
 .cases hx
 .cases hx
 .cases hx;cases hy
  have z:=Nat.succ.inj z;subst z
  exact h1 _ _ _ _ _ g1 D hl hf
 .cases hx;cases hy
  exact h2 _ _ _ _ g1 D hl
theorem A4(A:Around):A.in1.units<=A.units+1:=Nat.le_refl _
theorem nc.at(ho:∀a o,σ a=some o->OR W s.heap a o)(h:nc σ d x y b):∀{A:Around}{v w:Value},A.units+d<cLine->VR s.heap v x->VR s.heap w y->EqAt A s v w b:=by
 induction h with
 | int d i j=>intro A v w hu hx hy;cases hx;cases hy;exact EqAt.int_int _ _ _ _
 | cn d l m f hl hf ih=>
  intro A v w hu hx hy
  have G:=(nc.cn (σ:=σ) d l m f hl hf).CR ho (v:=v) hx
  have VU:=hx;have Ub:=hy
  obtain⟨a,items,n,e1,h1,L⟩:=hx.iu
  obtain⟨a',D,n',e2,h2,O⟩:=hy.iu
  have J:=eN.sz L
  have U:=eN.sz O
  subst e1 e2
  by_cases q:a=a'
  .subst q
   rw[G Ub];exact EqAt.same _
  .refine EqAt.of_refs q ?_
   have:=RcAt.tuples (A:=A) (s:=s) (l:=a) (b:=a') (items:=items) (items2:=D) (e:=f) ⟨_,h1,rfl,n,rfl⟩ ⟨_,h2,rfl,n',rfl⟩ (by lia) (λj k1 k2=>by
    have H:j<l.length:=J▸k1
    have I:j<m.length:=U▸k2
    exact ih j _ _ (aJ H) (aJ I) (by first | exact(show A.units+1+d<cLine by rw[Nat.add_right_comm];exact hu) | (have:=A4 A;lia)) (L.item k1 H) (O.item k2 I))
   have e3:min items.size D.size=l.length:=by rw[<-J.trans (hl.trans U.symm),Nat.min_self];exact J
   have e4:(items.size==D.size)=true:=az.mpr (J.trans (hl.trans U.symm))
   rw[e3,e4,Bool.and_true]at this
   exact this
 | cI d a b w u l m f h1 h2 hl hf ih=>
  intro A v w hu hx hy
  cases hx;cases hy
  have G:=(nc.cI (σ:=σ) d a b _ u l m f h1 h2 hl hf).CR ho (v:=.ref a) (.ref a)
  by_cases q:a=b
  .subst q
   rw[G (.ref a)];exact EqAt.same _
  .refine EqAt.of_refs q ?_
   obtain⟨o1,items,n1,g1,V,_,_,Y,L⟩:=ho _ _ h1
   obtain⟨o2,D,n2,g2,RD,_,_,RE,O⟩:=ho _ _ h2
   have J:=eN.sz L
   have U:=eN.sz O
   have:=RcAt.lists (A:=A) (s:=s) (l:=a) (b:=b) (items:=items) (items2:=D) (e:=f) ⟨o1,g1,V,n1,Y⟩ ⟨o2,g2,RD,n2,RE⟩ (by lia) (by lia) (λj k1 k2=>by
    have H:j<l.length:=J▸k1
    have I:j<m.length:=U▸k2
    exact ih j _ _ (aJ H) (aJ I) (by first | exact(show A.units+1+d<cLine by rw[Nat.add_right_comm];exact hu) | (have:=A4 A;lia)) (L.item k1 H) (O.item k2 I))
   rw[J]at this
   exact this
 | len d a b w u l m h1 h2 hl=>
  intro A v w hu hx hy
  cases hx;cases hy
  have q:a≠b:=by rintro rfl;rw[h1]at h2;cases h2;exact hl rfl
  refine EqAt.of_refs q ?_
  obtain⟨o1,items,n1,g1,V,_,_,Y,L⟩:=ho _ _ h1
  obtain⟨o2,D,n2,g2,RD,_,_,RE,O⟩:=ho _ _ h2
  have J:=eN.sz L
  have U:=eN.sz O
  exact RcAt.lists_lengths ⟨o1,g1,V,n1,Y⟩ ⟨o2,g2,RD,n2,RE⟩ (by simp;exactλz=>hl (J.symm.trans (z.trans U))) (by lia)
inductive dR(σ:Hp):CmpOp->AV->AV->Bool->Prop
 | val {o:CmpOp} {a b:AV} {k:Bool}:o9 σ o a b=some k->dR σ o a b k
 | S3 (x y:Bool):dR σ .NotEq (.bool x) (.bool y) (x != y)
 | eq {a b:Addr} {k:Bool}:nc σ 9 (.ref a) (.ref b) k->dR σ .Eq (.ref a) (.ref b) k
 | ne {a b:Addr} {k:Bool}:nc σ 9 (.ref a) (.ref b) k->dR σ .NotEq (.ref a) (.ref b) !k
theorem sP(hu:A.units<=9000)(e:dR σ o a b k)(ha:VR s.heap va a)(hb:VR s.heap vb b)(ho:∀a o,σ a=some o->OR W s.heap a o):
  wpAny W.M A (compareOp o va vb) (λr s'=>r=.bool k/\s'=s) E s:=by
 have hc:cLine=9900:=rfl
 have h3:A.units<cLine:=by lia
 have h4:A.in1.units+8<cLine:=by have:=A4 A;lia
 cases e with
 | val e=>exact Mn e ha hb ho
 | S3 x y=>
  cases ha;cases hb
  refine RcNeAt.bool_bool x y _ _ _ _ ⟨?_,rfl⟩
  cases x<;>cases y<;>rfl
 | eq e=>
  cases ha;cases hb
  refine e.OJ (P:=λk=>wpAny W.M A (compareOp .Eq (.ref _) (.ref _)) (λr s'=>r=.bool k/\s'=s) E s) rfl rfl rfl (λw u l m f g1 U hl hf=>?_) λw u l m g1 U hl=>?_
  .obtain⟨V,items,Y,k1,z,_,_,D,L⟩:=ho _ _ g1
   obtain⟨o2,i,n2,k2,G,_,_,H,O⟩:=ho _ _ U
   have z1:=eN.sz L
   have z2:=eN.sz O
   refine eq_listAt (e:=f) ⟨V,k1,z,Y,D⟩ ⟨o2,k2,G,n2,H⟩ (z1.trans (hl.trans z2.symm)) h3 (λj q1 q2=>?_) ⟨by rw[z1],rfl⟩
   have I:j<l.length:=z1▸q1
   have J:j<m.length:=z2▸q2
   exact(hf j _ _ (aJ I) (aJ J)).at ho h4 (L.item q1 I) (O.item q2 J)
  .obtain⟨V,items,Y,k1,z,_,_,D,L⟩:=ho _ _ g1
   obtain⟨o2,i,n2,k2,G,_,_,H,O⟩:=ho _ _ U
   exact eq_list_lengthsAt ⟨V,k1,z,Y,D⟩ ⟨o2,k2,G,n2,H⟩ (Lp L O hl) h3 ⟨rfl,rfl⟩
 | ne e=>
  cases ha;cases hb
  refine e.OJ (P:=λk=>wpAny W.M A (compareOp .NotEq (.ref _) (.ref _)) (λr s'=>r=.bool !k/\s'=s) E s) rfl rfl rfl (λw u l m f g1 U hl hf=>?_) λw u l m g1 U hl=>?_
  .obtain⟨V,items,Y,k1,z,_,_,D,L⟩:=ho _ _ g1
   obtain⟨o2,i,n2,k2,G,_,_,H,O⟩:=ho _ _ U
   have z1:=eN.sz L
   have z2:=eN.sz O
   refine RcNeAt.lists (e:=f) ⟨V,k1,z,Y,D⟩ ⟨o2,k2,G,n2,H⟩ (z1.trans (hl.trans z2.symm)) h3 (λj q1 q2=>?_) _ _ _ _ ⟨by rw[z1],rfl⟩
   have I:j<l.length:=z1▸q1
   have J:j<m.length:=z2▸q2
   exact(hf j _ _ (aJ I) (aJ J)).at ho h4 (L.item q1 I) (O.item q2 J)
  .obtain⟨V,items,Y,k1,z,_,_,D,L⟩:=ho _ _ g1
   obtain⟨o2,i,n2,k2,G,_,_,H,O⟩:=ho _ _ U
   exact RcNeAt.lists_lengths ⟨V,k1,z,Y,D⟩ ⟨o2,k2,G,n2,H⟩ (Lp L O hl) h3 _ _ _ _ ⟨rfl,rfl⟩
end
section
variable{W:Wd}{n:Nat}{ρ:Loc}{σ:Hp}{Q:AV->Hp->Prop}{E:Value->Shared->Prop}
theorem AWE.go(h:AWE W n c ρ σ Q E)(K:eO W n C)(hm:mE C.env.scope c e=true)(I:Inv W C ρ σ s):
  wpAny W.M C.A (eval e C.env) (PV W C ρ Q) E s:=h C s e K hm I
theorem AWT.go{Q:Bool->Hp->Prop}(h:AWT W n c ρ σ Q E)(K:eO W n C)(hm:mE C.env.scope c e=true)(I:Inv W C ρ σ s):
  wpAny W.M C.A (isTrue e C.env (eval e C.env)) (PB W C ρ Q) E s:=h C s e K hm I
theorem AWEs.go{Q:List AV->Hp->Prop}(h:AWEs W n cs ρ σ Q E)(K:eO W n C)(hm:vP C.env.scope cs es=true)(I:Inv W C ρ σ s):
  wpAny W.M C.A (spliced (backTo pos (starEach es C.env))) (Rp W C ρ Q) E s:=h C s es pos K hm I
theorem AWS.go{st:List Stmt}{Q:f6->Loc->Hp->Prop}{E:Cx->Value->Shared->Prop}(h:AWS W n c ρ σ Q E)(K:eO W n C)(hm:mS C.env.scope c st=true)(I:Inv W C ρ σ s):
  wpAny W.M C.A (execs st C.env) (PS W C Q) (E C) s:=h C s st K hm I
theorem A5(h:sY sc i x=true):∃k,sc.names[i]? =some (x,k)/\(k=.local\/k=.cell\/k=.free):=by
 obtain⟨k,hk,h⟩:=jN h
 exact⟨k,hk,k3 h⟩
theorem vU{R:Value->Shared->Prop}(K:eO W n C)(I:Inv W C ρ σ s)(h:sY C.env.scope i x=true)(y:getL ρ i=some v)
  (q:∀w,VR s.heap w v->R w s):wpAny W.M C.A (loadName C.env x) R E s:=by
 obtain⟨k,hk,ho⟩:=A5 h
 obtain⟨m,F⟩:=I.qp
 have j:C.env.kindOf x=some k:=bF K.dh hk
 rcases ho with rfl | rfl | rfl
 .have:=F.DN i x hk
  rw[y]at this
  cases hm:m x with
  | none=>rw[hm]at this;exact this.elim
  | some w=>
   rw[hm]at this
   have this:VR s.heap w v:=this
   with_reducible exact wpAny_loadName_local K.kind j F.ns hm (q w this)
 .obtain⟨c,w,e1,e2,e3⟩:=F.cell i x _ hk (.inl rfl)
  rw[y]at e3
  cases w with
  | none=>exact e3.elim
  | some w=>
   have e3:VR s.heap w v:=e3
   with_reducible exact wpAny_loadName_cell K.kind j e1 e2 (q w e3)
 .obtain⟨c,w,e1,e2,e3⟩:=F.cell i x _ hk (.inr rfl)
  rw[y]at e3
  cases w with
  | none=>exact e3.elim
  | some w=>
   have e3:VR s.heap w v:=e3
   with_reducible exact wpAny_loadName_free K.kind j e1 e2 (q w e3) (Fe K.dh hk)
theorem AWE.var(j:getL ρ i=some v)(q:Q v σ):AWE W n (.var i) ρ σ Q E:=by
 intro C s e K hm I
 refine CI hm λx pos h1 h2=>?_
 with_reducible exact wpAny_Name (vU K I h1 j λw r=>⟨v,σ,r,I,q⟩) h2
theorem AWE.int(q:Q (.int i) σ):AWE W n (.int i) ρ σ Q E:=by
 intro C s e K hm I
 refine CH hm λk pos=>?_
 with_reducible exact wpAny_Constant_int ⟨_,σ,.int _ _,I.tok _,q⟩
theorem AWE.bool(q:Q (.bool b) σ):AWE W n (.bool b) ρ σ Q E:=by
 intro C s e K hm I
 refine te hm λk pos=>?_
 with_reducible exact wpAny_Constant_bool ⟨_,σ,.bool _,I,q⟩
theorem AWE.none(q:Q .none σ):AWE W n .none ρ σ Q E:=by
 intro C s e K hm I
 refine yD hm λk pos=>?_
 with_reducible exact wpAny_Constant_none ⟨_,σ,.none,I,q⟩
theorem qu{C:Cx}(h:dg C.env.scope x=true):C.env.kindOf x=some .globalImplicit:=by
 simpa[dg,Env.kindOf]using h
theorem jP(G:GF W)(K:eO W n C)(I:Inv W C ρ σ s)(h:dg C.env.scope x=true)
  (i:W.gi.mg x=some v) (q:R v s) (hd:(x==("__debug__" :Str))=false):wpAny W.M C.A (eval (.Name x pos) C.env) R E s:=by
 with_reducible refine Name_function_global K.kind (qu h) ?_ hd
 have g:s.heap.Ns C.env.globals W.gi.mg:=by rw[K.s8];exact G.g.keeps λb o e=>I.keep b o (K.base b o e)
 with_reducible exact loadGlobal_global g i q
theorem tj(G:GF W)(K:eO W n C)(I:Inv W C ρ σ s)(h:dg C.env.scope x=true)
  (hx:x∈(["len", "range", "abs"]:List Str)) (i:bootBuiltins x=some v) (q:R v s) (hd:(x==("__debug__" :Str))=false):wpAny W.M C.A (eval (.Name x pos) C.env) R E s:=by
 with_reducible refine Name_function_global K.kind (qu h) ?_ hd
 have g:s.heap.Ns C.env.globals W.gi.mg:=by rw[K.s8];exact G.g.keeps λb o e=>I.keep b o (K.base b o e)
 have b:s.heap.Ns C.env.builtins W.gi.mb:=by rw[K.w9];exact G.b.keeps λb o e=>I.keep b o (K.base b o e)
 with_reducible exact loadGlobal_builtin g (G.blt x hx).1 b ((G.blt x hx).2.trans i) q
theorem AWE.bD(G:GF W)(q:Q (.int i) σ):AWE W n (.bD x i) ρ σ Q E:=by
 intro C s e K hm I
 refine yE hm λpos h1 h2 h3=>?_
 obtain⟨t,j⟩:=G.cst x i h2
 with_reducible exact jP G K I h1 j ⟨_,σ,.int _ _,I,q⟩ h3
theorem AWE.ko(G:GF W)(q:Q (s7 W.gi k) σ):AWE W n (.ko x k) ρ σ Q E:=by
 intro C s e K hm I
 refine Fp hm λpos h1 h2 h3 j=>?_
 obtain⟨v,i,r⟩:=G.tabs k h3
 rw[h2]at i
 with_reducible exact jP G K I h1 i ⟨_,σ,r.bK λa o e Z=>I.keep a o (K.base a o e),I,q⟩ j
theorem DS.inv(c:DS s v r s')(I:Inv W C ρ σ s)(q:Q v σ):PV W C ρ Q r s':=by
 obtain⟨h,t,rfl⟩:=c
 exact⟨v,σ,h _,I.tok t,q⟩
theorem AWE.bx(G:GF W){o:Operator}{l r:CE}(h:AWE W n l ρ σ (λa i=>AWE W n r ρ i (λb j=>∃v,fA o a b=some v/\Q v j) E) E):AWE W n (.bx o l r) ρ σ Q E:=by
 intro C s e K hm I
 refine sN hm λV Y pos O mr=>?_
 with_reducible refine wpAny_BinOp (aK (h.go K O I) (λva J y=>?_) λZ Z x=>x)
 obtain⟨a,i,U,z,y⟩:=y
 with_reducible refine aK (y.run K mr z) (λvb L H=>?_) λZ Z x=>x
 obtain⟨b,j,rb,D,S,v,e,q⟩:=H
 with_reducible exact aK (Mm (K.Fn G D) e (S.vr K z U) rb) (λr s' c=>c.inv D q) λZ Z x=>x
theorem eO.au(K:eO W n C):C.A.units<=9000:=by have:=K.a.2.2;lia
theorem tl{sc:Scope}{i:Nat}{e:Expr}(h:mE sc (.var i) e=true):gy e=false:=by
 obtain⟨x,hx,_⟩:=bu h
 rw[fC hx];rfl
theorem pa{sc:Scope}{o:CE}{k:Nat}{e:Expr}(h:mE sc (.bt o k) e=true):gy e=false:=by
 obtain⟨x,hx,_⟩:=bu h
 rw[mu hx];rfl
theorem pb{sc:Scope}{f:Nat}{es:sX}{e:Expr}(h:mE sc (.call f es) e=true):gy e=false:=by
 obtain⟨x,hx,_⟩:=bu h
 rw[ly hx];rfl
theorem qv{sc:Scope}{es:sX}{e:Expr}(h:mE sc (.c8 es) e=true):gy e=false:=by
 obtain⟨x,hx,_⟩:=bu h
 rw[ly hx];rfl
theorem OK:behindInMarks o e=cond (gy e) (behindInMarks o e) false:=by cases e<;>first | exact rF | rfl
theorem A6(h:gy e=false):behindInMarks o e=false:=Ll OK h
theorem AWE.bM{o:CmpOp}{l r:CE}(h:AWE W n l ρ σ (λa j=>AWE W n r ρ j (λb i=>∃k,dR i o a b k/\Q (.bool k) i) E) E):AWE W n (.bM o l r) ρ σ Q E:=by
 intro C s e K hm I
 refine CJ hm λU V pos L mr hs=>?_
 with_reducible refine wpAny_Compare1 (aK (h.go K L I) (λY H y=>?_) λZ Z x=>x) (A6 hs)
 obtain⟨a,j,O,z,y⟩:=y
 with_reducible refine aK (y.run K mr z) (λvb J G=>?_) λZ Z x=>x
 obtain⟨b,i,rb,D,S,k,e,q⟩:=G
 with_reducible refine aK (sP K.au e (S.vr K z O) rb D.objs) (λr s' c=>?_) λZ Z x=>x
 obtain⟨rfl,rfl⟩:=c
 exact⟨_,i,.bool _,D,q⟩
theorem AWE.not(h:AWE W n a ρ σ (λv i=>∃k,iH i v=some k/\Q (.bool !k) i) E):AWE W n (.not a) ρ σ Q E:=by
 intro C s e K hm I
 refine CL hm λx pos m=>?_
 with_reducible refine wpAny_UnaryOp (aK (h.go K m I) (λG z y=>?_) λZ Z x=>x)
 obtain⟨a,i,D,j,k,e,q⟩:=y
 with_reducible refine not_of (aK (xh e D j.objs) (λb s' c=>?_) λZ Z x=>x)
 obtain⟨rfl,t,rfl⟩:=c
 exact⟨_,i,.bool _,j.tok t,q⟩
theorem AWE.neg(h:AWE W n a ρ σ (λv j=>∃i,v=.int i/\Q (.int (-i)) j) E):AWE W n (.neg a) ρ σ Q E:=by
 intro C s e K hm I
 refine CM hm λx pos m=>?_
 with_reducible refine wpAny_UnaryOp (aK (h.go K m I) (λH D y=>?_) λZ Z x=>x)
 obtain⟨a,j,G,z,i,rfl,q⟩:=y
 cases G
 with_reducible exact PyProof.Rows.neg_int ⟨_,j,.int _ _,z.tok _,q⟩
theorem AWE.inv(h:AWE W n a ρ σ (λv j=>∃i,v=.int i/\Q (.int (Builtin.bitNot i)) j) E):AWE W n (.inv a) ρ σ Q E:=by
 intro C s e K hm I
 refine CN hm λx pos m=>?_
 with_reducible refine wpAny_UnaryOp (aK (h.go K m I) (λH D y=>?_) λZ Z x=>x)
 obtain⟨a,j,G,z,i,rfl,q⟩:=y
 cases G
 with_reducible exact PyProof.Rows.invert_int ⟨_,j,.int _ _,z.tok _,q⟩
theorem AWE.ite(h:AWT W n c ρ σ (λb i=>if b then AWE W n t ρ i Q E else AWE W n f ρ i Q E) E):AWE W n (.ite c t f) ρ σ Q E:=by
 intro C s e K hm I
 refine IH hm λH J L pos D mt G=>?_
 with_reducible refine wpAny_IfExp (aK (h.go K D I) (λb z j=>?_) λZ Z x=>x)
 obtain⟨i,y,j⟩:=j
 cases b
 .exact AWE.go j K G y
 .exact AWE.go j K mt y
end
set_option backward.match.sparseCases true
section
variable{W:Wd}{n:Nat}{ρ:Loc}{σ:Hp}{Q:AV->Hp->Prop}{E:Value->Shared->Prop}
theorem AWE.and{l r:CE}(h:AWE W n l ρ σ (λa i=>∃k,iH i a=some k/\if k then AWE W n r ρ i Q E else Q a i) E):AWE W n (.and l r) ρ σ Q E:=by
 intro C s e K hm I
 refine CK hm λx y j pos O mr=>?_
 have e1:eval (.BoolOp .And (x::y::j) pos) C.env=(do
   let v <-eval x C.env
   standAt pos
   let t <-holding [v] (truthy v)
   match BoolOp.And,t with
   | .And,false | .Or,true=>pure v
   | _,_=>boolOp pos .And (evalEach (y::j) C.env)):=rfl
 rw[e1]
 with_reducible refine aQ (aK (h.run K O I) (λU H G=>?_) λZ Z x=>x)
 obtain⟨a,i,J,D,S,k,e,q⟩:=G
 with_reducible refine aQ (wpAny_standAt (aQ (wpAny_holding (aK (xh e J D.objs) (λb L c=>?_) λZ Z x=>x))))
 obtain⟨rfl,t,rfl⟩:=c
 cases b
 .exact aR ⟨a,i,J,D.tok t,q⟩
 .cases j with
  | nil=>exact AWE.go q K mr (D.tok t)
  | cons z j=>exact AWE.go q K mr (D.tok t)
theorem AWE.or{l r:CE}(h:AWE W n l ρ σ (λa i=>∃k,iH i a=some k/\if k then Q a i else AWE W n r ρ i Q E) E):AWE W n (.or l r) ρ σ Q E:=by
 intro C s e K hm I
 refine Fs hm λx y j pos O mr=>?_
 have e1:eval (.BoolOp .Or (x::y::j) pos) C.env=(do
   let v <-eval x C.env
   standAt pos
   let t <-holding [v] (truthy v)
   match BoolOp.Or,t with
   | .And,false | .Or,true=>pure v
   | _,_=>boolOp pos .Or (evalEach (y::j) C.env)):=rfl
 rw[e1]
 with_reducible refine aQ (aK (h.run K O I) (λU H G=>?_) λZ Z x=>x)
 obtain⟨a,i,J,D,S,k,e,q⟩:=G
 with_reducible refine aQ (wpAny_standAt (aQ (wpAny_holding (aK (xh e J D.objs) (λb L c=>?_) λZ Z x=>x))))
 obtain⟨rfl,t,rfl⟩:=c
 cases b
 .cases j with
  | nil=>exact AWE.go q K mr (D.tok t)
  | cons z j=>exact AWE.go q K mr (D.tok t)
 .exact aR ⟨a,i,J,D.tok t,q⟩
variable{T:Bool->Hp->Prop}
def Fw:CE->Bool
 | .var _ | .int _ | .bool _ | .none | .bD .. | .bx .. | .neg _ | .inv _ | .bt .. | .sub .. | .call .. | .len _ | .abs _ | .count .. | .index .. =>true
 | _=>false
theorem ve(hm:mE sc c e=true)(hp:Fw c=true):
  isTrue e env i=(do let v <-i;standAt e.pos;holding [v] (truthy v)):=by
 cases c<;>first | exact ff hp | skip
 case var=>refine CI hm ?_;intros;rfl
 case int=>refine CH hm ?_;intros;rfl
 case bool=>refine te hm ?_;intros;rfl
 case none=>refine yD hm ?_;intros;rfl
 case bD=>refine yE hm ?_;intros;rfl
 case bx=>refine sN hm ?_;intros;rfl
 case neg=>refine CM hm ?_;intros;rfl
 case inv=>refine CN hm ?_;intros;rfl
 case bt=>refine yF hm ?_;intros;rfl
 case sub=>refine CO hm ?_;intros;rfl
 case call=>refine tf hm ?_;intros;rfl
 case len=>refine CP hm ?_;intros;rfl
 case abs=>refine CQ hm ?_;intros;rfl
 case count=>refine vT hm ?_;intros;rfl
 case index=>refine vS hm ?_;intros;rfl
theorem AWT.val(hp:Fw c=true)(h:AWE W n c ρ σ (λv i=>∃k,iH i v=some k/\T k i) E):AWT W n c ρ σ T E:=by
 intro C s e K hm I
 with_reducible refine wpAny_isTrue_value (aK (h.go K hm I) (λH z y=>?_) λZ Z x=>x) (ve hm hp)
 obtain⟨a,i,G,j,k,e,q⟩:=y
 with_reducible refine aK (xh e G j.objs) (λb D c=>?_) λZ Z x=>x
 obtain⟨rfl,t,rfl⟩:=c
 exact⟨i,j.tok t,q⟩
theorem AWT.bM{o:CmpOp}{l r:CE}(h:AWE W n l ρ σ (λa j=>AWE W n r ρ j (λb i=>∃k,dR i o a b k/\T k i) E) E):AWT W n (.bM o l r) ρ σ T E:=by
 intro C s e K hm I
 refine CJ hm λU V pos L mr hs=>?_
 with_reducible refine wpAny_isTrue_Compare1 (aK (h.go K L I) (λY H y=>?_) λZ Z x=>x) (A6 hs)
 obtain⟨a,j,O,z,y⟩:=y
 with_reducible refine aK (y.run K mr z) (λvb J G=>?_) λZ Z x=>x
 obtain⟨b,i,rb,D,S,k,e,q⟩:=G
 with_reducible refine aK (sP K.au e (S.vr K z O) rb D.objs) (λr s' c=>?_) λZ Z x=>x
 obtain⟨rfl,rfl⟩:=c
 with_reducible exact wpAny_truthy_bool ⟨i,D,q⟩
theorem AWT.not(h:AWT W n a ρ σ (λb i=>T (!b) i) E):AWT W n (.not a) ρ σ T E:=by
 intro C s e K hm I
 refine CL hm λx pos m=>?_
 with_reducible refine wpAny_isTrue_Not (aK (h.go K m I) (λb z j=>?_) λZ Z x=>x)
 obtain⟨i,y,q⟩:=j
 exact⟨i,y,q⟩
theorem AWT.and{l r:CE}(h:AWT W n l ρ σ (λb i=>if b then AWT W n r ρ i T E else T false i) E):AWT W n (.and l r) ρ σ T E:=by
 intro C s e K hm I
 refine CK hm λx y D pos J mr=>?_
 with_reducible refine wpAny_isTrue_BoolOp (wpAny_allTrue_And_cons (aK (h.go K J I) (λb H j=>?_) λZ Z x=>x))
 obtain⟨i,G,q⟩:=j
 cases b
 .exact⟨i,G,q⟩
 .cases D with
  | nil=>
   have q:AWT W n r ρ i T E:=q
   show wpAny _ _ _ _ _ _
   with_reducible refine wpAny_allTrue_And_cons (aK (AWT.go q K mr G) (λb H j=>?_) λZ Z x=>x)
   cases b
   .exact j
   .exact wpAny_allTrue_And_nil j
  | cons z D=>exact AWT.go (e:=.BoolOp .And (y::z::D) pos) q K mr G
theorem AWT.or{l r:CE}(h:AWT W n l ρ σ (λb i=>if b then T true i else AWT W n r ρ i T E) E):AWT W n (.or l r) ρ σ T E:=by
 intro C s e K hm I
 refine Fs hm λx y D pos J mr=>?_
 with_reducible refine wpAny_isTrue_BoolOp (wpAny_allTrue_Or_cons (aK (h.go K J I) (λb H j=>?_) λZ Z x=>x))
 obtain⟨i,G,q⟩:=j
 cases b
 .cases D with
  | nil=>
   have q:AWT W n r ρ i T E:=q
   show wpAny _ _ _ _ _ _
   with_reducible refine wpAny_allTrue_Or_cons (aK (AWT.go q K mr G) (λb H j=>?_) λZ Z x=>x)
   cases b
   .exact wpAny_allTrue_Or_nil j
   .exact j
  | cons z D=>exact AWT.go (e:=.BoolOp .Or (y::z::D) pos) q K mr G
 .exact⟨i,G,q⟩
theorem A7
  (h:wpAny M A V (λb y=>wpAny M A (compareOp Y a b) (λc z=>wpAny M A (truthy c) (λt i=>if t then wpAny M A U (λd D=>wpAny M A (compareOp o2 b d) (λc G=>wpAny M A (truthy c) R E G) E D) E i else R false i) E z) E y) E s):
  wpAny M A (testChain pos a [Y,o2] [V,U]) R E s:=by
 have e1:testChain pos a [Y,o2] [V,U]=(do
  let H <-holding [a] V
  standAt pos
  let c <-holding [a,H] (compareOp Y a H)
  release [a,H] [c]
  if <-holding [c,H] (truthy c)then(do
   let rw <-holding [H] U
   standAt pos
   let c <-operate [H,rw] (compareOp o2 H rw)
   holding [c] (truthy c))else pure false):=rfl
 rw[e1]
 with_reducible refine aQ (wpAny_holding (aK h (λb y I=>?_) λZ Z x=>x))
 with_reducible refine aQ (wpAny_standAt (aQ (wpAny_holding (aK I (λc z J=>?_) λZ Z x=>x))))
 with_reducible refine aQ (wpAny_release' (aQ (wpAny_holding (aK J (λt i j=>?_) λZ Z x=>x))))
 cases t
 .exact aR j
 .have j:wpAny M A U _ E i:=j
  show wpAny M A (_ >>= _) R E i
  with_reducible refine aQ (wpAny_holding (aK j (λd D L=>?_) λZ Z x=>x))
  with_reducible refine aQ (wpAny_standAt (aQ (wpAny_operate' (aK L (λc G O=>?_) λZ Z x=>x))))
  with_reducible exact wpAny_holding O
theorem AWT.chn
  (h:AWE W n a ρ σ (λV z=>AWE W n b ρ z (λU i=>∃k,dR i Y V U k/\if k then AWE W n c ρ i (λvc j=>∃k,dR j o2 U vc k/\T k j) E else T false i) E) E):AWT W n (.chn Y o2 a b c) ρ σ T E:=by
 intro C s e K hm I
 refine IG hm λa' b' c' pos ma mb mc hb hc=>?_
 have hl:lastMarks [Y,o2] [b',c']=false:=by simp[lastMarks,A6 hc]
 with_reducible refine isTrue_chain (ops:=[]) (rs:=[]) (aK (h.go K ma I) (λV qw D=>?_) λZ Z x=>x) hl
 obtain⟨xa,z,ra,G,D⟩:=D
 refine A7 ?_
 with_reducible refine aK (D.run K mb G) (λU yJ J=>?_) λZ Z x=>x
 obtain⟨xb,i,rb,y,S,k,e,q⟩:=J
 with_reducible refine aK (sP K.au e (S.vr K G ra) rb y.objs) (λr s' c=>?_) λZ Z x=>x
 obtain⟨rfl,rfl⟩:=c
 with_reducible refine wpAny_truthy_bool ?_
 cases k
 .exact⟨i,y,q⟩
 .have q:AWE W n c ρ i _ E:=q
  show wpAny W.M _ _ _ E _
  with_reducible refine aK (q.run K mc y) (λvc Fx L=>?_) λZ Z x=>x
  obtain⟨xc,j,rc,H,O,k,e,q⟩:=L
  with_reducible refine aK (sP K.au e (O.vr K y rb) rc H.objs) (λr s' c=>?_) λZ Z x=>x
  obtain⟨rfl,rfl⟩:=c
  with_reducible exact wpAny_truthy_bool ⟨j,H,q⟩
end
set_option backward.match.sparseCases false
theorem A8:∀k,k<27->∀j,j<27->b9 k=b9 j->k=j:=by
 have h:((List.range 27).all λk=>(List.range 27).all λj=>!(b9 k==b9 j)||k==j)=true:=by decide +kernel
 intro k hk j i e
 have h1:=aM.mp (aM.mp h k (aN.mpr hk)) j (aN.mpr i)
 rw[e]at h1
 simpa using h1
abbrev DR(h:Heap)(es:List DictEntry)(i:List (Nat × AV)):Prop:=cP (λ(e:DictEntry)(f:Nat × AV)=>(∃t,e.key=.str (b9 f.1) t)/\f.1<27/\VR h e.val f.2) es i
theorem tm{e:DictEntry}(h:e.key=.str (b9 j) t)(i:j<27)(hk:k<27):e.key.isStr (b9 k)=decide (k=j):=by
 rw[h]
 show(b9 j==b9 k)=_
 by_cases q:k=j
 .subst q;simp
 .have:b9 j≠b9 k:=λe=>q (A8 k hk j i e.symm)
  simp[q,this]
theorem DR.get(d:DR h es y)(hk:k<27)(i:lk y k=some v):∃w,PySem.W.getL (b9 k) es=some (some w)/\VR h w v:=by
 induction d with
 | nil=>cases i
 | @cons e f es y x r z=>
  obtain⟨j,w⟩:=f
  obtain⟨⟨t,h1⟩,h2,h3⟩:=x
  unfold PySem.W.getL
  rw[List.find?_cons,tm h1 h2 hk]
  have i:(if k=j then some w else lk y k)=some v:=i
  by_cases q:k=j
  .rw[ag q]at i;cases i
   rw[decide_eq_true q]
   exact⟨e.val,rfl,h3⟩
  .rw[ah q]at i
   rw[decide_eq_false q]
   obtain⟨D,hw,G⟩:=z i
   refine⟨D,?_,G⟩
   unfold PySem.W.getL at hw
   split at hw
   .rename_i e2 H;rw[H];exact hw
   .split at hw<;>cases hw
theorem DR.some:∀{es:List DictEntry}{j:List (Nat × AV)}(k:Nat),DR h es j->k<27->(PySem.W.getL (b9 k) es).isSome=true:=by
 intro es j k r hk
 unfold PySem.W.getL
 have:es.any (·.refKey)=false:=by
  rw[List.any_eq_false]
  intro e he
  obtain⟨i,hi,rfl⟩:=aI he
  obtain⟨f,_,⟨t,h1⟩,_⟩:=r.AL (aJ hi)
  simp[DictEntry.refKey,h1]
 rw[this]
 cases h:es.find? λx=>x.key.isStr (b9 k)<;>rfl
theorem DR.nE(hk:k<27)(y:VR h v av)(d:DR h es i):
  DR h (putL (b9 k) hs (.str (b9 k) t) v es) (hY i k av):=by
 induction d with
 | nil=>exact .cons ⟨⟨t,rfl⟩,hk,y⟩ .nil
 | @cons e f es i x r G=>
  obtain⟨j,w⟩:=f
  obtain⟨⟨D,h1⟩,h2,h3⟩:=x
  show DR h _ (if k=j then(j,av)::i else(j,w)::hY i k av)
  unfold putL
  rw[tm h1 h2 hk]
  by_cases q:k=j
  .rw[decide_eq_true q,ag rfl,ag q]
   exact .cons ⟨⟨D,h1⟩,h2,y⟩ r
  .rw[decide_eq_false q,ah (λz=>nomatch z),ah q]
   exact .cons ⟨⟨D,h1⟩,h2,h3⟩ G
theorem rD(i:List (Nat × AV))(k:Nat)(v:AV):(hY i k v).length<=i.length+1:=by
 induction i with
 | nil=>exact Nat.le_refl _
 | cons p r j=>
  show(if k=p.1 then(p.1,v)::r else(p.1,p.2)::hY r k v).length<=r.length+1+1
  by_cases h:k=p.1
  .rw[ag h];exact Nat.le_succ _
  .rw[ah h];exact Nat.succ_le_succ j
def f9(σ:Hp)(v:AV)(k:Nat):Option AV:=(E6 v).bind λa=>(N4 (σ a)).bind λp=>if(bN p.1).contains k then(LN (σ p.2)).bind λi=>lk i k else none
theorem yK(h1:σ a=some (.inst c d))(hk:(bN c).contains k=true)(h2:σ d=some (.dict i))(h:lk i k=some w):f9 σ (.ref a) k=some w:=
 (ae (λo=>(N4 o).bind λp=>if(bN p.1).contains k then(LN (σ p.2)).bind λi=>lk i k else none) h1).trans ((ag hk).trans ((ae (λo=>(LN o).bind λi=>lk i k) h2).trans h))
def jQ(xs:List AV)(j:Int):Option AV:=if 0<=j/\j<2^60 then xs[j.toNat]? else none
def cw(σ:Hp)(v i:AV):Option AV:=match v,i with
 | .ref a,.int j=>match σ a with
  | some (.list _ xs)=>jQ xs j
  | _=>none
 | .cn l,.int j=>jQ l j
 | _,_=>none
def lg(σ:Hp)(v:AV):Option Int:=match v with
 | .ref a=>match σ a with
  | some (.list _ xs)=>if xs.length<2^40 then some xs.length else none
  | _=>none
 | .cn l=>if l.length<2^40 then some l.length else none
 | _=>none
theorem vV(e:f9 σ v k=some w):∃a c d i,v=.ref a/\σ a=some (.inst c d)/\σ d=some (.dict i)/\lk i k=some w/\k∈bN c:=by
 obtain⟨a,h1,e⟩:=aG.mp e
 obtain⟨p,h2,e⟩:=aG.mp e
 obtain⟨hc,e⟩:=Li e
 obtain⟨i,h3,e⟩:=aG.mp e
 exact⟨a,p.1,p.2,i,o4 h1,Cv h2,Cw h3,e,List.contains_iff_mem.mp hc⟩
section
variable{W:Wd}{n:Nat}{ρ:Loc}{σ:Hp}{Q:AV->Hp->Prop}{E:Value->Shared->Prop}
theorem VR.Mo(x:VR h v av):handedIn v=true:=by cases x<;>rfl
theorem Inv.S4(G:GF W)(K:eO W n C)(I:Inv W C ρ σ s):W.gi.K.In s.heap:=G.X.keeps λb o e=>I.keep b o (K.base b o e)
theorem Fy(I:Inv W C ρ σ s)(h1:σ a=some (.inst c d))(h2:σ d=some (.dict i)):
  c<3/\∃es n,InstAt s.heap a (instObj (W.gi.cls c) d) (W.gi.cls c) (some (dictOf es n))/\i.length<=100/\DR s.heap es i:=by
 obtain⟨hc,j⟩:=I.objs a _ h1
 obtain⟨es,m,hd,hl,hf⟩:=I.objs d _ h2
 exact⟨hc,es,m,⟨j,rfl,rfl,hd⟩,hl,hf⟩
theorem CT(G:GF W)(K:eO W n C)(I:Inv W C ρ σ s)(z:VR s.heap D v)(e:f9 σ v k=some w):
  wpAny W.M C.A (getAttr D (b9 k) b) (λr s'=>VR s'.heap r w/\∃t,s'={s with toks:=t}) E s:=by
 obtain⟨a,c,d,H,rfl,h1,h2,h3,j⟩:=vV e
 cases z
 obtain⟨hc,es,m,J,hl,hf⟩:=Fy I h1 h2
 have F:=G.cls c hc
 have hk:k<27:=by
  have:∀c,c<3->∀k∈bN c,k<27:=by decide
  exact this c hc k j
 obtain⟨x,hx,y⟩:=hf.get hk h3
 have i:findObj W.gi.K (W.gi.cls c) (some (dictOf es m)) (b9 k)=some (.value x):=findObj_own F.has (F.none k j) rfl hx
 with_reducible exact get_value (I.S4 G K) J F.get.1 i y.Mo ⟨y,_,rfl⟩
theorem IW:attributeBase v x env w=cond (eT v) (attributeBase v x env w) w:=by
 cases v<;>first | exact Eq.refl w | skip
 rename_i f args i p
 cases f<;>first | exact Eq.refl w | skip
 cases args<;>first | exact Eq.refl w | skip
 cases i<;>first | exact Eq.refl w | rfl
theorem gE(hb:eT v=false):attributeBase v x env (eval v env)=eval v env:=Ll IW hb
theorem DX(hb:eT v=false):eval (.Attribute v x pos) env=(do
   let o <-eval v env
   standAt pos.atName
   let r <-holding [o] (getAttr o x true)
   letTemporaryGo v o r
   pure r):=by
 show(attributeBase v x env (eval v env) >>= _)=_
 rw[gE hb]
theorem AWE.bt(G:GF W)(h:AWE W n o ρ σ (λv i=>∃w,f9 i v k=some w/\Q w i) E):AWE W n (.bt o k) ρ σ Q E:=by
 intro C s e K hm I
 refine yF hm λx pos hk hb m=>?_
 with_reducible refine Attribute_any_ (aK (h.go K m I) (λL D y=>?_) λZ Z x=>x) (DX hb)
 obtain⟨a,i,J,j,w,e,q⟩:=y
 with_reducible refine aK (CT G K j J e) (λr H z=>?_) λZ Z x=>x
 obtain⟨r,t,rfl⟩:=z
 exact⟨w,i,r,j.tok t,q⟩
theorem Mp:subscripted e false o i=cond (AP e).isSome (subscripted e false o i) (operate [o,i] (getItem o i)):=by cases e<;>first | exact Eq.refl (operate [o,i] (getItem o i)) | rfl
theorem pd(hm:mE sc c e=true):subscripted e false o i=operate [o,i] (getItem o i):=Ll Mp (OG hm)
theorem Fz(e:jQ xs j=some w):0<=j/\j<2^60/\xs[j.toNat]? =some w:=by
 obtain⟨h,e⟩:=Li e
 exact⟨h.1,h.2,e⟩
theorem yL(e:cw σ v i=some w):∃j l,i=.int j/\jQ l j=some w/\((∃a b,v=.ref a/\σ a=some (.list b l))\/v=.cn l):=by
 cases v with
 | ref a=>
  cases i with
  | int j=>
   unfold cw at e;dsimp only at e
   generalize hs:σ a=o at e
   cases o with
   | none=>exact cxO e rfl
   | some o=>cases o with
    | list b l=>exact⟨j,l,rfl,e,.inl ⟨a,b,rfl,hs⟩⟩
    | _=>exact cxO e rfl
  | _=>exact cxO e rfl
 | cn l=>
  cases i with
  | int j=>exact⟨j,l,rfl,e,.inr rfl⟩
  | _=>exact cxO e rfl
 | _=>exact cxO e rfl
theorem IX(h:σ a=some (.list b l))(e:jQ l j=some w):cw σ (.ref a) (.int j)=some w:=by
 unfold cw;dsimp only;rw[h];exact e
theorem FC{s:Shared}(ho:∀a o,σ a=some o->OR W s.heap a o)(J:VR s.heap z v)(hi:VR s.heap U i)(e:cw σ v i=some w):
  (∃a T id,z=.ref a/\s.TypeIs z T/\typeLookup (.type T) "__getitem__" =pure (some (.builtin id)))/\wpAny W.M A (getItem z U) (λr s'=>VR s'.heap r w/\s'=s) E s:=by
 obtain⟨j,l,rfl,e,q⟩:=yL e
 obtain⟨D,hb,hx⟩:=Fz e
 cases hi
 rcases q with ⟨a,w,rfl,hs⟩ | rfl
 .cases J
  obtain⟨o,items,m,h1,h2,_,_,h3,V⟩:=ho a _ hs
  have L:s.heap.IsList a items:=⟨o,h1,h2,m,h3⟩
  obtain⟨x,y,G⟩:=V.get hx
  refine⟨⟨a,_,_,rfl,L.typeIs,slot_list_getitem.lookup⟩,?_⟩
  with_reducible exact wpAny_getItem_list L D (by lia) (by simpa using y) ⟨G,rfl⟩
 .obtain⟨a,items,m,rfl,h1,h2⟩:=J.iu
  obtain⟨x,y,G⟩:=h2.get hx
  have O:IsTup s.heap a items:=⟨_,h1,rfl,m,rfl⟩
  refine⟨⟨a,_,_,rfl,O.typeIs,slot_tuple_getitem.lookup⟩,?_⟩
  have H:j.toNat<l.length:=(aS.mp hx).1
  have I:items.size=l.length:=by simpa using h2.length
  refine PyProof.Rows.getItem_tuple O (by lia) (by lia) (j:=j.toNat) ?_ (by simpa using y) ⟨G,rfl⟩
  unfold seqIndex?
  simp only[show ¬j<0 by lia,if_false]
  rw[ag]
  simp only[ax,decide_eq_true_eq]
  exact⟨D,(Int.toNat_lt D).mp (Nat.lt_of_lt_of_eq H I.symm)⟩
theorem AWE.sub(h:AWE W n o ρ σ (λv D=>AWE W n i ρ D (λj z=>∃w,cw z v j=some w/\Q w z) E) E):AWE W n (.sub o i) ρ σ Q E:=by
 intro C s e K hm I
 refine CO hm λx y pos Y O=>?_
 with_reducible refine Subscript_ (aK (h.go K Y I) (λva U G=>?_) λZ Z x=>x)
 obtain⟨a,D,ra,H,G⟩:=G
 with_reducible refine aK (G.run K O H) (λvb V L=>?_) λZ Z x=>x
 obtain⟨b,z,rb,J,S,w,e,q⟩:=L
 obtain⟨⟨aa,T,id,rfl,hT,hl⟩,hg⟩:=FC (E:=E) (A:=C.A) J.objs (S.vr K H ra) rb e
 with_reducible refine tail_any hT hl (aK hg (λr s' c=>?_) λZ Z x=>x) (pd O)
 obtain⟨r,rfl⟩:=c
 exact⟨w,z,r,J,q⟩
variable{R:List AV->Hp->Prop}
theorem AWEs.nil(q:R [] σ):AWEs W n .nil ρ σ R E:=by
 intro C s es pos K hm I
 cases sO hm
 exact args_nil ⟨[],σ,.nil,I,q⟩
theorem AWEs.cons{c:CE}{cs:sX}(h:AWE W n c ρ σ (λv j=>AWEs W n cs ρ j (λvs i=>R (v::vs) i) E) E):AWEs W n (.cons c cs) ρ σ R E:=by
 intro C s es pos K hm I
 obtain⟨x,r,rfl,H,O⟩:=o7 hm
 with_reducible refine args_cons (aK (h.go K H I) (λV J y=>?_) λZ Z x=>x) (noStar H _ _)
 obtain⟨a,j,U,z,y⟩:=y
 with_reducible refine aK (y.run K O z) (λY L D=>?_) λZ Z x=>x
 obtain⟨l,i,rl,G,S,q⟩:=D
 exact⟨a::l,i,.cons (S.vr K z U) rl,G,q⟩
theorem VR.Mq (r:eN h vs l):VR (h.push {cls:=.type "tuple",data:=.seq vs.toArray}) (.ref h.objs.size) (.cn l):=
 VR.E5 (Heap.get?_push_size _ rfl) (eN.bK r λa o e Z=>aA _ e)
theorem AWE.cn(h:AWEs W n es ρ σ (λl i=>l.length<=1000/\Q (.cn l) i) E):AWE W n (.cn es) ρ σ Q E:=by
 intro C s e K hm I
 refine IJ hm λl k pos m=>?_
 with_reducible refine wpAny_Tuple (aK (h.go K m I) (λvs z j=>?_) λZ Z x=>x)
 obtain⟨l,i,rl,y,hl,q⟩:=j
 refine⟨by rw[rl.length,sizeLine_eq];omega,.cn l,i,VR.Mq rl,y.push _,q⟩
theorem Inv.alloc(K:eO W n C)(I:Inv W C ρ σ s)(hx:OR W (s.heap.push o) s.heap.objs.size x)(hw:x.own=true):
  σ s.heap.objs.size=none/\Inv W C ρ (σ.set s.heap.objs.size x) {s with heap:=s.heap.push o}:=by
 refine⟨I.fresh,?_⟩
 have J:=I.push o
 have y:C.K s.heap.objs.size=none:=by
  cases h:C.K s.heap.objs.size with
  | none=>rfl
  | some o=>exact absurd (aB (I.keep _ _ h)) (aC _)
 have j:C.K2 s.heap.objs.size=none:=by
  cases h:C.K2 s.heap.objs.size with
  | none=>rfl
  | some o=>obtain⟨sl,h'⟩:=I.eh _ _ h;exact absurd (aB h') (aC _)
 have z:¬FA C.env s.heap.objs.size:=by
  obtain⟨m,F⟩:=I.qp
  rintro(q | ⟨x,hx,hc⟩)
  .have:=F.ns.lt;rw[<-q]at this;exact aC _ this
  .obtain⟨i,hi⟩:∃i:Nat,C.env.scope.names[i]? =some (x,.cell):=by
    have:=mem_of_lookup (show C.env.scope.names.lookup x=some .cell from hx)
    obtain⟨i,hi,e⟩:=aI this
    exact⟨i,by rw[aJ hi,e]⟩
   obtain⟨c,v,e1,⟨oc,e2,e3⟩,_⟩:=F.cell i x .cell hi (.inl rfl)
   rw[e1]at hc;cases hc
   exact aC _ (aB e2)
 refine {J with objs:=λa o' e=>?_,own:=λa o' e ho=>?_,yv:=λa o' e ho=>?_}
 .unfold Hp.set at e
  split at e
  .rename_i h;cases e;subst h;exact hx
  .exact J.objs a o' e
 .unfold Hp.set at e
  split at e
  .rename_i h;subst h;exact⟨y,j,z⟩
  .exact J.own a o' e ho
 .unfold Hp.set at e
  split at e
  .cases e;rw[hw]at ho;cases ho
  .exact J.yv a o' e ho
end
set_option backward.match.sparseCases true
section
variable{W:Wd}{n:Nat}{ρ:Loc}{σ:Hp}{Q:AV->Hp->Prop}{E:Value->Shared->Prop}
theorem IY:("len" :Str)∈(["len", "range", "abs"]:List Str):=.head _
theorem IZ:("range" :Str)∈(["len", "range", "abs"]:List Str):=.tail _ (.head _)
theorem I7:("abs" :Str)∈(["len", "range", "abs"]:List Str):=.tail _ (.tail _ (.head _))
theorem jR
  (h:wpAny M A (eval (.Name x p) env) (λf i=>wpAny M A (callWith pos f [] (backTo pos (starEach args env)) []) R E i) E s):wpAny M A (eval (.Call (.Name x p) args [] pos) env) R E s:=Call_ h
theorem iI(pos:Pos):∀{cs:sX}{es:List Expr},vP sc cs es=true->(backTo pos (starEach es env)).any (·.1)=false
 | .nil,es,hm=>by cases sO hm;rfl
 | .cons c cs,es,hm=>by
  obtain⟨x,r,rfl,i,j⟩:=o7 hm
  rw[noStar i]
  show(false||_)=false
  rw[Bool.false_or];exact iI pos j
theorem FD(e:lg σ v=some k):∃xs:List AV,xs.length<2^40/\(xs.length:Int)=k/\((∃a w,v=.ref a/\σ a=some (.list w xs))\/v=.cn xs):=by
 cases v with
 | ref a=>
  unfold lg at e;dsimp only at e
  generalize hs:σ a=o at e
  cases o with
  | none=>exact cxO e rfl
  | some o=>cases o with
   | list w xs=>exact⟨xs,(Ct e).1,(Ct e).2,.inl ⟨a,w,rfl,hs⟩⟩
   | _=>exact cxO e rfl
 | cn l=>exact⟨l,(Ct e).1,(Ct e).2,.inr rfl⟩
 | _=>exact cxO e rfl
theorem AWE.len(G:GF W)(h:AWE W n a ρ σ (λv i=>∃k,lg i v=some k/\Q (.int k) i) E):AWE W n (.len a) ρ σ Q E:=by
 intro C s e K hm I
 refine CP hm λp x pos L m=>?_
 with_reducible refine jR (tj G K I L IY boot_len ?_ (by decide))
 with_reducible refine PyProof.Rows.callWith_builtin1 (args_cons (aK (h.go K m I) (λY y D=>?_) λZ Z x=>x) (noStar m _ _)) (noStar m _ _) rfl
 obtain⟨v,i,J,j,k,e,q⟩:=D
 refine args_nil ?_
 obtain⟨xs,z,rfl,⟨a,w,rfl,hs⟩ | rfl⟩:=FD e
 .cases J
  obtain⟨o,items,H,h1,h2,_,_,h3,O⟩:=j.objs a _ hs
  have U:y.heap.IsList a items:=⟨o,h1,h2,H,h3⟩
  have hl:items.size=xs.length:=Array.length_toList.symm.trans O.length
  with_reducible exact call_len_list U (ao (aq.mpr (aj (aw hl) z)) (by decide)) ⟨.int xs.length,i,by rw[hl];exact .int _ _,j.tok _,q⟩
 .obtain⟨a,items,H,rfl,h1,h2⟩:=J.iu
  have hl:items.size=xs.length:=Array.length_toList.symm.trans h2.length
  have V:IsTup y.heap a items:=⟨_,h1,rfl,H,rfl⟩
  with_reducible exact PyProof.Rows.len_tuple V (ao (aq.mpr (aj (aw hl) z)) (by decide)) ⟨.int xs.length,i,by rw[hl];exact .int _ _,j.tok _,q⟩
theorem AWE.abs(G:GF W)(h:AWE W n a ρ σ (λv j=>∃i,v=.int i/\Q (.int (if i<0 then -i else i)) j) E):AWE W n (.abs a) ρ σ Q E:=by
 intro C s e K hm I
 refine CQ hm λp x pos H m=>?_
 with_reducible refine jR (tj G K I H I7 boot_abs ?_ (by decide))
 with_reducible refine PyProof.Rows.callWith_builtin1 (args_cons (aK (h.go K m I) (λL D y=>?_) λZ Z x=>x) (noStar m _ _)) (noStar m _ _) rfl
 obtain⟨v,j,J,z,i,rfl,q⟩:=y
 cases J
 refine args_nil ?_
 with_reducible exact call_abs_int λu tk=>⟨_,j,.int _ _,z.tok _,q⟩
abbrev QS{T:Type}(l:List AV)(z:T)(f:AV->List AV->T):T:=List.casesOn (motive:=λZ=>T) l z f
def OL(i j:Int)(r:List AV):Option AV:=QS r (some (.c8 i j 1)) λc r=>(u7 c).bind λk=>QS r (if k=0 then none else some (.c8 i j k)) λZ Z=>none
def ON(i:Int)(r:List AV):Option AV:=QS r (some (.c8 0 i 1)) λb r=>(u7 b).bind λj=>OL i j r
def vW(l:List AV):Option AV:=QS l none λa r=>(u7 a).bind λi=>ON i r
inductive pf:List AV->AV->Prop
 | one (b:Int):pf [.int b] (.c8 0 b 1)
 | two (a b:Int):pf [.int a,.int b] (.c8 a b 1)
 | three (a b c:Int):c≠0->pf [.int a,.int b,.int c] (.c8 a b c)
theorem xi{P:AV->Prop}(h:u7 a=some i)(k:P (.int i)):P a:=by rw[fy h];exact k
theorem FE(e:OL i j r=some v):pf (.int i::.int j::r) v:=by
 cases r with
 | nil=>cases e;exact .two _ _
 | cons c r=>
  obtain⟨k,h3,e⟩:=aG.mp e
  refine xi (P:=λb=>pf (_::_::b::r) v) h3 ?_
  cases r with
  | nil=>
   by_cases q:k=0
   .exact cxO ((ag q).symm.trans e) rfl
   .cases(ah q).symm.trans e;exact .three _ _ _ q
  | cons=>cases e
theorem FG(e:ON i r=some v):pf (.int i::r) v:=by
 cases r with
 | nil=>cases e;exact .one _
 | cons b r=>
  obtain⟨j,h2,e⟩:=aG.mp e
  exact xi (P:=λb=>pf (_::b::r) v) h2 (FE e)
theorem qx(e:vW l=some v):pf l v:=by
 cases l with
 | nil=>cases e
 | cons a r=>
  obtain⟨i,h1,e⟩:=aG.mp e
  exact xi (P:=λa=>pf (a::r) v) h1 (FG e)
theorem eN.one(r:eN h vs [a]):∃v,vs=[v]/\VR h v a:=by
 cases r with | cons h t=>cases t;exact⟨_,rfl,h⟩
theorem eN.two(r:eN h vs [a,b]):∃v w,vs=[v,w]/\VR h v a/\VR h w b:=by
 cases r with | cons h t=>obtain⟨w,rfl,hw⟩:=eN.one t;exact⟨_,_,rfl,h,hw⟩
theorem eN.three(r:eN h vs [a,b,c]):∃v w x,vs=[v,w,x]/\VR h v a/\VR h w b/\VR h x c:=by
 cases r with | cons h t=>obtain⟨w,x,rfl,hw,hx⟩:=eN.two t;exact⟨_,_,_,rfl,h,hw,hx⟩
theorem xj(I:Inv W C ρ σ s)(q:Q (.c8 a b c) σ):
  PV W C ρ Q (.ref s.heap.objs.size) {s with heap:=s.heap.push {cls:=.type "range",data:=.fields #[.int a t,.int b u,.int c v]},toks:=tk}:=
 ⟨.c8 a b c,σ,.c8 _ a b c t u v (Heap.get?_push_size _ rfl),(I.push _).tok tk,q⟩
theorem pg(hm:vP sc cs es=true)(z:es.isEmpty=false)
  (h:wpAny W.M A (spliced (backTo pos (starEach es env))) (λvs i=>wpAny W.M A (PySem.call (.type T) vs) R E i) E s):
  wpAny W.M A (callWith pos (.type T) [] (backTo pos (starEach es env)) []) R E s:=by
 cases es with
 | nil=>cases z
 | cons x r=>
  cases cs with
  | nil=>cases hm
  | cons c cs=>
   have hx:=(bC hm).1
   have j:(backTo pos (starEach (x::r) env)).any (·.1)=false:=iI pos hm
   rw[noStar hx]at h j ⊢
   with_reducible refine PySem.callWith_type j ?_
   exact evalArgs_plain (aK h (λvs i y=>by simpa using y) λZ Z x=>x)
theorem AWE.c8(G:GF W)(h:AWEs W n es ρ σ (λl j=>∃v,vW l=some v/\Q v j) E):AWE W n (.c8 es) ρ σ Q E:=by
 intro C s e K hm I
 refine IL hm λp l pos L D m=>?_
 with_reducible refine jR (tj G K I L IZ boot_range ?_ (by decide))
 refine pg m D ?_
 with_reducible refine aK (h.go K m I) (λvs J y=>?_) λZ Z x=>x
 obtain⟨l,j,H,i,v,e,q⟩:=y
 rcases qx e with b | ⟨a,b⟩ | ⟨a,b,c,hc⟩
 .obtain⟨v,rfl,z⟩:=H.one
  cases z
  with_reducible exact call_range_1 (xj i q)
 .obtain⟨v,w,rfl,z,hw⟩:=H.two
  cases z;cases hw
  with_reducible exact call_range_2 (xj i q)
 .obtain⟨v,w,x,rfl,z,hw,hx⟩:=H.three
  cases z;cases hw;cases hx
  with_reducible exact call_range_3 hc (xj i q) (.inr (K.Fn G i))
end
set_option backward.match.sparseCases false
abbrev dZ(σ:Hp)(a:Addr):Prop:=σ a=Option.none
section
variable{W:Wd}{n:Nat}{ρ:Loc}{σ:Hp}{Q:AV->Hp->Prop}{E:Value->Shared->Prop}
theorem OR.FH (r:eN h items.toList l):OR W (h.push {cls:=.type "list",data:=.seq items}) h.objs.size (.list true l):=
 ⟨_,items,0,Heap.get?_push_size _ rfl,rfl,rfl,rfl,rfl,eN.bK r λa o e Z=>aA _ e⟩
def RF(o:Option AO):Option (List AV):=o.bind λo=>AO.casesOn (motive:=λZ=>Option (List AV)) o (λZ xs=>some xs) (λZ Z=>none) λZ=>none
theorem I8(h:RF o=some l):∃w,o=some (.list w l):=by
 cases o with
 | none=>exact cxO h rfl
 | some o=>cases o with
  | list w xs=>exact⟨w,ae (λx=>some (AO.list w x)) (af h)⟩
  | _=>exact cxO h rfl
def gz(σ:Hp)(v:AV):Option (Addr × List AV):=(E6 v).bind λa=>(RF (σ a)).map λxs=>(a,xs)
theorem cB(h:σ a=some (.list w xs)):gz σ (.ref a)=some (a,xs):=(ae (λo=>(RF o).map λxs=>(a,xs)) h :)
theorem fQ(e:gz σ v=some (a,xs)):v=.ref a/\∃w,σ a=some (.list w xs):=by
 obtain⟨b,h1,e⟩:=aG.mp e
 obtain⟨l,h2,e⟩:=aH.mp e
 cases e
 exact⟨o4 h1,I8 h2⟩
theorem fE{s:Shared}(x:OR W s.heap a (.list w xs)):∃items m,IsL s.heap a items m/\eN s.heap items.toList xs:=by
 obtain⟨⟨c,d,z,sl⟩,items,m,h1,h2,h3,i,j,y⟩:=x
 dsimp only at h2 h3 i j
 subst h2 h3 i j
 exact⟨items,m,h1,y⟩
theorem AWE.cI(h:AWEs W n es ρ σ (λl i=>l.length<=1000/\∀a,dZ i a->Q (.ref a) (i.set a (.list true l))) E):AWE W n (.cI es) ρ σ Q E:=by
 intro C s e K hm I
 refine IK hm λl pos m=>?_
 with_reducible refine List_ (aK (h.go K m I) (λvs z j=>?_) λZ Z x=>x)
 obtain⟨l,i,rl,y,hl,q⟩:=j
 have D:vs.length<=sizeLine:=by rw[rl.length,sizeLine_eq];omega
 obtain⟨hf,J⟩:=y.alloc K (OR.FH (items:=vs.toArray) rl) rfl
 with_reducible exact wpAny_newList ⟨_,_,.ref _,J,q _ hf⟩ D
theorem AWE.RG{l r:CE}(h:AWE W n l ρ σ (λv j=>AWE W n r ρ j (λu i=>∃a xs b ys,gz i v=some (a,xs)/\gz i u=some (b,ys)/\xs.length+ys.length<=100000/\
  ∀a,dZ i a->Q (.ref a) (i.set a (.list true (xs++ys)))) E) E):AWE W n (.bx .Add l r) ρ σ Q E:=by
 intro C s e K hm I
 refine sN hm λl' r' pos V mr=>?_
 with_reducible refine wpAny_BinOp (aK (h.go K V I) (λva H y=>?_) λZ Z x=>x)
 obtain⟨a,j,Y,D,y⟩:=y
 with_reducible refine aK (y.run K mr D) (λvb L G=>?_) λZ Z x=>x
 obtain⟨b,i,rb,z,S,a',xs,b',ys,e1,e2,hl,q⟩:=G
 obtain⟨rfl,w1,h1⟩:=fQ e1
 obtain⟨rfl,w2,h2⟩:=fQ e2
 cases Y;cases rb
 obtain⟨i1,m1,g1,O⟩:=fE (z.objs _ _ h1)
 obtain⟨i2,m2,g2,U⟩:=fE (z.objs _ _ h2)
 have z1:i1.size=xs.length:=by simpa using O.length
 have z2:i2.size=ys.length:=by simpa using U.length
 have hz:i1.size+i2.size<=sizeLine:=by rw[sizeLine_eq,z1,z2];omega
 obtain⟨hf,J⟩:=z.alloc K (OR.FH (items:=i1++i2) (l:=xs++ys) (by simpa using O.append U)) rfl
 with_reducible exact P.add_list g1 g2 ⟨_,_,.ref _,J,q _ hf⟩ hz
theorem A9(k:Nat)(items:Array Value):(List.foldl (λx1 x2=>x1++x2) #[] (List.replicate (if items.isEmpty=true then 0 else k) items)).toList=(List.replicate k items.toList).flatten:=by
 have key:∀(k:Nat)(acc:Array Value),(List.foldl (λx1 x2=>x1++x2) acc (List.replicate k items)).toList=acc.toList++(List.replicate k items.toList).flatten:=by
  intro k
  induction k with
  | zero=>intro acc;simp
  | succ k i=>intro acc;rw[List.replicate_succ,List.foldl_cons,i,List.replicate_succ,List.flatten_cons];simp
 split
 .rename_i h
  have:items=#[]:=by simpa using h
  subst this
  simp
 .rw[key];simp
theorem cP.S5{as:List α}{bs:List β}(h:cP R as bs)(k:Nat):cP R (List.replicate k as).flatten (List.replicate k bs).flatten:=by
 induction k with
 | zero=>exact .nil
 | succ k i=>exact h.append i
theorem xk(hl:IsL s.heap l items k)(j:0<=x)(y:x<2^63)(z:items.size*x.toNat<=2^24)
  (h:R (.ref s.heap.objs.size) {s with heap:=s.heap.push {cls:=.type "list",data:=.seq (List.foldl (λx1 x2=>x1++x2) #[] (List.replicate (if items.isEmpty=true then 0 else x.toNat) items))}}):
  wpAny W.M A (binaryOp .Mult (.ref l) (.int x u)) R E s:=by
 have hm:=AutoListH.list___mul___list_int_3 l items k x u (by simp[Builtin.List.listFitsIndex];lia) (by lia) (by simp[Builtin.List.listTooLong,sizeLine];omega)
 have D:∀i,i (.ref s.heap.objs.size) {s with heap:=s.heap.push {cls:=.type "list",data:=.seq (List.foldl (λx1 x2=>x1++x2) #[] (List.replicate (if items.isEmpty=true then 0 else x.toNat) items))}}->
   wpAny W.M A (PySem.call (.builtin "list.__mul__") [.ref l,.int x u]) i E s:=λi q=>
  call_meets F.slot_list_mul ⟨_,hl,rfl⟩ F.entry_list_mul (F.args_list_mul_2 _ _) hm ⟨hl,q⟩
 exact wpAny_binaryOp_repeat_ref (T:= "list") (U:= "int") (by decide) ⟨_,hl,rfl⟩ (λs'=>typeIs_int s' x u) noFill_list_mul F.fills_int_mul F.slot_int_rmul repeat_list F.slot_int_index.lookup
  (call_meets F.slot_int_rmul (typeIs_int s x u) F.entry_int_rmul (F.args_int_rmul_2 _ _) (int___rmul___int_list x u l items k)
   ⟨hl,rfl,⟨_,hl,rfl⟩,D _ h⟩)
theorem AWE.mulL{l r:CE}(h:AWE W n l ρ σ (λv j=>AWE W n r ρ j (λu i=>∃a xs k,gz i v=some (a,xs)/\u=.int k/\0<=k/\k<=10000/\xs.length<=100/\
  ∀a,dZ i a->Q (.ref a) (i.set a (.list true (List.replicate k.toNat xs).flatten))) E) E):AWE W n (.bx .Mult l r) ρ σ Q E:=by
 intro C s e K hm I
 refine sN hm λl' r' pos Y mr=>?_
 with_reducible refine wpAny_BinOp (aK (h.go K Y I) (λva L y=>?_) λZ Z x=>x)
 obtain⟨a,j,ra,D,y⟩:=y
 with_reducible refine aK (y.run K mr D) (λvb O G=>?_) λZ Z x=>x
 obtain⟨b,i,rb,z,S,a',xs,k,e1,rfl,H,RH,hl,q⟩:=G
 obtain⟨rfl,w1,h1⟩:=fQ e1
 cases ra;cases rb
 obtain⟨i1,m1,g1,U⟩:=fE (z.objs _ _ h1)
 have z1:i1.size=xs.length:=by simpa using U.length
 have V:i1.size*k.toNat<=100*10000:=Nat.mul_le_mul (by lia) (by lia)
 obtain⟨hf,J⟩:=z.alloc K (OR.FH (l:=(List.replicate k.toNat xs).flatten) (by rw[A9];exact cP.S5 U _)) rfl
 with_reducible exact xk g1 H (by lia) (by lia) ⟨_,_,.ref _,J,q _ hf⟩
def oo(xs:List AV)(lo hi:Option Nat):List AV:=match lo,hi with
 | none,none=>xs
 | some a,none=>xs.drop a
 | none,some b=>xs.take b
 | some a,some b=>(xs.drop a).take (b-a)
def CU(xs:List AV)(lo hi:Option Nat):Prop:=match lo,hi with
 | none,none=>True
 | some a,none=>a<=xs.length
 | none,some b=>b<=xs.length
 | some a,some b=>a<=b/\b<=xs.length
theorem vX{s:Shared}{R:Value->Shared->Prop}(h:sZ o e=true)(q:∀v t,IsPart v (o.map Int.ofNat)->R v {s with toks:=t}):
  wpAny W.M A (evalPart e env) R E s:=by
 cases o with
 | none=>
  cases e with
  | none=>rw[evalPart_none];exact aR (q _ s.toks .none)
  | some x=>cases h
 | some k=>
  cases e with
  | none=>cases h
  | some x=>
   obtain⟨y,hy,h⟩:=bu h
   obtain⟨i,hi,h⟩:=bu h
   have:=az.mp h;subst this
   rw[td hy,CA hi]
   with_reducible refine wpAny_evalPart_some ?_
   with_reducible exact wpAny_Constant_int (q _ _ (.int _ _))
theorem xl{lo hi:Option Nat}(r:eN h items.toList xs)(hk:CU xs lo hi):eN h (slicePick items (lo.map Int.ofNat) (hi.map Int.ofNat) none).toList (oo xs lo hi):=by
 have z:=r.length
 have drop:∀{vs:List Value}{l:List AV}(k:Nat),eN h vs l->eN h (vs.drop k) (l.drop k):=by
  intro vs l k r
  induction r generalizing k with
  | nil=>simp;exact .nil
  | cons h t i=>cases k with | zero=>exact .cons h t | succ k=>exact i k
 have take:∀{vs:List Value}{l:List AV}(k:Nat),eN h vs l->eN h (vs.take k) (l.take k):=by
  intro vs l k r
  induction r generalizing k with
  | nil=>simp;exact .nil
  | cons h t i=>cases k with | zero=>exact .nil | succ k=>exact .cons h (i k)
 have j:items.size=xs.length:=by simpa using z
 cases lo with
 | none=>
  cases hi with
  | none=>show eN h (slicePick items none none none).toList xs;rw[slicePick_all];exact r
  | some b=>
   show eN h (slicePick items none (some (b:Int)) none).toList (xs.take b)
   rw[slicePick_upto items b (by rw[j];exact hk)];exact take b r
 | some a=>
  cases hi with
  | none=>
   show eN h (slicePick items (some (a:Int)) none none).toList (xs.drop a)
   rw[slicePick_from items a (by rw[j];exact hk)];exact drop a r
  | some b=>
   show eN h (slicePick items (some (a:Int)) (some (b:Int)) none).toList ((xs.drop a).take (b-a))
   rw[slicePick_run items a b (by rw[j];exact hk.2) hk.1];exact take _ (drop a r)
theorem AWE.slice{lo hi:Option Nat}(h:AWE W n o ρ σ (λv i=>∃a xs,gz i v=some (a,xs)/\xs.length<=100000/\CU xs lo hi/\
  ∀a,dZ i a->Q (.ref a) (i.set a (.list true (oo xs lo hi)))) E):AWE W n (.slice o lo hi) ρ σ Q E:=by
 intro C s e K hm I
 refine DT hm λv l u p pos cl V m=>?_
 with_reducible refine Subscript_ (aK (h.go K m I) (λva j z=>?_) λZ Z x=>x)
 obtain⟨x,i,Y,D,a,xs,e1,hl,H,q⟩:=z
 obtain⟨rfl,w1,h1⟩:=fQ e1
 cases Y
 with_reducible refine wpAny_Slice (vX cl λL t1 pl=>vX V λO t2 pu=>?_)
 rw[evalPart_none]
 refine aR ?_
 have G:=D.tok t2
 have y:=G.push {cls:=.type "slice",data:=.fields #[L,O,.none]}
 obtain⟨i1,m1,g1,U⟩:=fE (y.objs _ _ h1)
 have z1:i1.size=xs.length:=by simpa using U.length
 have hz:i1.size<=sizeLine:=by rw[sizeLine_eq,z1];omega
 obtain⟨hf,J⟩:=y.alloc K (OR.FH (xl U H)) rfl
 have hT:=g1.isList.typeIs (s:={j with heap:=j.heap.push {cls:=.type "slice",data:=.fields #[L,O,.none]},toks:=t2})
 refine tail_any hT slot_list_getitem.lookup (wpAny_getItem_list_slice g1.isList (Heap.IsSliceOf.new ..) pl pu .none (by simp) ⟨_,_,.ref _,J,q _ hf⟩ hz) (ops:=[.ref j.heap.objs.size,.ref a]) rfl
end
section
variable{W:Wd}{n:Nat}{ρ:Loc}{σ:Hp}{Q:AV->Hp->Prop}{E:Value->Shared->Prop}
theorem ee.dJ{h h':Heap}(F:ee env h ρ m)(y:¬FA env a)(j:∀v,¬h.IsCell a v)
  (k:∀b o,b≠a->h.get? b=some o->h'.get? b=some o) (kk:∀b o,h.get? b=some o->c9 o->h'.get? b=some o):ee env h' ρ m:=by
 refine⟨?_,F.len,λi x e=>(F.DN i x e).bK kk,λi x z e hk=>?_⟩
 .obtain⟨o,es,D,ho,r⟩:=F.ns
  exact⟨o,es,D,k _ _ (λe=>y (.inl e.symm)) ho,r⟩
 .obtain⟨c,v,e1,e2,e3⟩:=F.cell i x z e hk
  refine⟨c,v,e1,?_,e3.bK kk⟩
  obtain⟨o,ho,hd⟩:=e2
  exact⟨o,k c o (λe=>j v (e▸⟨o,ho,hd⟩)) ho,hd⟩
theorem OR.dJ{h h':Heap}(r:OR W h b x)(k:∀o,h.get? b=some o->h'.get? b=some o)(kk:∀b o,h.get? b=some o->c9 o->h'.get? b=some o):OR W h' b x:=by
 cases x with
 | list w xs=>obtain⟨o,items,n,h1,h2,i,j,h3,z⟩:=r;exact⟨o,items,n,k _ h1,h2,i,j,h3,z.bK kk⟩
 | inst c d=>exact⟨r.1,k _ r.2⟩
 | dict D=>obtain⟨es,n,h1,h2,h3⟩:=r;exact⟨es,n,k _ h1,h2,h3.imp λe f y=>⟨y.1,y.2.1,y.2.2.bK kk⟩⟩
theorem OR.I9(x:OR W h a o)(v:Option Value):¬h.IsCell a v:=by
 rintro⟨ob,h1,h2⟩
 cases o with
 | list w xs=>obtain⟨o,items,m,g1,_,_,_,i,_⟩:=x;rw[g1]at h1;cases h1;rw[i]at h2;cases h2
 | inst c d=>rw[x.2]at h1;cases h1;cases h2
 | dict j=>obtain⟨es,m,g1,_⟩:=x;rw[g1]at h1;cases h1;cases h2
theorem Inv.dJ{h':Heap}(I:Inv W C ρ σ s)(i:σ a=some x)(hx:x.own=true)(hy:y.own=true)
  (k:∀b o,b≠a->s.heap.get? b=some o->h'.get? b=some o) (G:(∀b o,s.heap.get? b=some o->c9 o->h'.get? b=some o)->OR W h' a y):Inv W C ρ (σ.set a y) {s with heap:=h'}:=by
 have kk:∀b o,s.heap.get? b=some o->c9 o->h'.get? b=some o:=by
  intro b o hb hc
  refine k b o ?_ hb
  rintro rfl
  exact(I.objs _ _ i).fb hb hc
 obtain⟨j,z,D⟩:=I.own a x i hx
 refine {I with
  keep:=λb o e=>k b o (λq=>by rw[q,j]at e;cases e) (I.keep b o e)
  eh:=λb o e=>e11 (I.eh b o e) λsl h1=>⟨sl,k b _ (λq=>by rw[q,z]at e;cases e) h1⟩
  objs:=λb o e=>?_
  own:=λb o e ho=>?_
  yv:=λb o e ho=>?_
  qp:=?_}
 .unfold Hp.set at e
  split at e
  .rename_i q;cases e;subst q;exact G kk
  .rename_i q;exact(I.objs b o e).dJ (λob hb=>k b ob q hb) kk
 .unfold Hp.set at e
  split at e
  .rename_i q;subst q;exact⟨j,z,D⟩
  .exact I.own b o e ho
 .unfold Hp.set at e
  split at e
  .cases e;rw[hy]at ho;cases ho
  .exact I.yv b o e ho
 .obtain⟨m,F⟩:=I.qp
  exact⟨m,F.dJ D (λv=>(I.objs _ _ i).I9 v) k kk⟩
def RI(o:Option AO):Option (List AV):=o.bind λo=>AO.casesOn (motive:=λZ=>Option (List AV)) o (λw xs=>if w=true then some xs else none) (λZ Z=>none) λZ=>none
theorem Ja(h:RI o=some l):o=some (.list true l):=by
 cases o with
 | none=>exact cxO h rfl
 | some o=>cases o with
  | list w xs=>obtain⟨rfl,rfl⟩:=Ct h;rfl
  | _=>exact cxO h rfl
def nh(σ:Hp)(v:AV):Option (Addr × List AV):=(E6 v).bind λa=>(RI (σ a)).map λxs=>(a,xs)
theorem ph(h:σ a=some (.list true xs)):nh σ (.ref a)=some (a,xs):=(ae (λo=>(RI o).map λxs=>(a,xs)) h :)
theorem pj(e:nh σ v=some (a,xs)):v=.ref a/\σ a=some (.list true xs):=by
 obtain⟨b,h1,e⟩:=aG.mp e
 obtain⟨l,h2,e⟩:=aH.mp e
 cases e
 exact⟨o4 h1,Ja h2⟩
theorem xm {id:String} (slot:Slot "list" name id)
  (j:typeOf (.builtin id)=pure (.type "method_descriptor")) (g:IsL s.heap a items m) (h:wpAny W.M A (callWith pos (.builtin id) [.ref a] i []) R E s):
  MethodOn W.prog W.w A name pos (.ref a) i R E s:=
 ⟨"list",id,F.plainAttrs_list,slot,j,g.isList.typeIs,λb e=>by cases e;exact⟨_,g,rfl⟩,h⟩
theorem Inv.setL(I:Inv W C ρ σ s)(i:σ a=some (.list true xs))(g:IsL s.heap a items m)(f:Array Value->Array Value)
  (j:eN s.heap (f items).toList ys):Inv W C ρ (σ.set a (.list true ys)) {s with heap:=s.heap.update a (Obj.mapSeq f)}:=by
 refine I.dJ i rfl rfl (λb o q hb=>by rw[Heap.get?_update_other _ _ (Ne.symm q)];exact hb) λkk=>?_
 have y:=g.update f
 exact⟨_,_,_,y,rfl,rfl,rfl,rfl,j.bK kk⟩
theorem AWE.append(h:AWE W n o ρ σ (λv i=>∃p G,gz i v=some (p,G)/\AWE W n a ρ i (λu j=>∃xs,j p=some (.list true xs)/\xs.length<=100000/\
  Q .none (j.set p (.list true (xs++[u])))) E) E):AWE W n (.append o a) ρ σ Q E:=by
 intro C s e K hm I
 refine A2 hm λv p x pos hb hl m1 J=>?_
 have L:backTo pos (starEach [x] C.env)=[(false,eval x C.env)]:=by rw[noStar J];rfl
 with_reducible refine wpAny_Call_method1_late (gE hb) hl L (aK (h.go K m1 I) (λva U y=>?_) λZ Z x=>x)
 obtain⟨a',i,ra,z,p,G,e1,y⟩:=y
 obtain⟨rfl,w,h2⟩:=fQ e1
 cases ra
 obtain⟨items,m,g,r⟩:=fE (z.objs _ _ h2)
 refine xm F.slot_list_append F.type_list_append g ?_
 with_reducible refine P.append_list (aK (y.go K J z) (λO V H=>?_) λZ Z x=>x)
 obtain⟨u,j,ru,D,xs,Y,hlen,q⟩:=H
 obtain⟨items2,J,g2,r2⟩:=fE (D.objs _ _ Y)
 have z2:items2.size=xs.length:=by simpa using r2.length
 refine⟨items2,J,by rw[sizeLine_eq];lia,g2,.none,_,.none,D.setL Y g2 (λxs=>xs.push O) ?_,q⟩
 have e:(items2.push O).toList=items2.toList++[O]:=by simp
 rw[e]
 exact r2.append (.cons ru .nil)
theorem AWE.pop(h:AWE W n o ρ σ (λv j=>∃p xs u,v=.ref p/\j p=some (.list true (xs++[u]))/\xs.length<=100000/\Q u (j.set p (.list true xs))) E):AWE W n (.pop o) ρ σ Q E:=by
 intro C s e K hm I
 refine IP hm λv p pos hb hl m1=>?_
 with_reducible refine wpAny_Call_method0_late (gE hb) hl (aK (h.go K m1 I) (λva H J=>?_) λZ Z x=>x)
 obtain⟨a',j,ra,D,p,xs,u,rfl,h2,U,q⟩:=J
 cases ra
 obtain⟨items,m,g,r⟩:=fE (D.objs _ _ h2)
 refine xm F.slot_list_pop F.type_list_pop g ?_
 have z:items.size=xs.length+1:=by simpa using r.length
 have G:(xs++[u])[xs.length]? =some u:=by simp
 obtain⟨y,hy,ry⟩:=r.get G
 have L:items[items.size-1]? =some y:=by rw[z];simpa using hy
 have hr:eN H.heap ((λxs:Array Value=>xs.eraseIdxIfInBounds (items.size-1)) items).toList xs:=by
  refine cP.E4 ?_ ?_
  .have z':items.toList.length=xs.length+1:=by simpa using z
   simp[Array.eraseIdxIfInBounds,z,List.length_eraseIdx]
  .intro i v av V Y
   have hi:i<xs.length:=by
    have:=(aS.mp Y).1;exact this
   have h7:(xs++[u])[i]? =some av:=by rw[List.getElem?_append_left hi];exact Y
   obtain⟨v',O,rv⟩:=r.get h7
   have h8:((λxs:Array Value=>xs.eraseIdxIfInBounds (items.size-1)) items).toList[i]? =items.toList[i]?:=by
    simp only[Array.eraseIdxIfInBounds]
    rw[dif_pos (Nat.sub_lt (Nat.lt_of_lt_of_eq (Nat.succ_pos _) z.symm) Nat.one_pos)]
    simp only[Array.toList_eraseIdx,z]
    rw[List.getElem?_eraseIdx_of_lt (by lia)]
   rw[h8,O]at V
   cases V;exact rv
 with_reducible exact P.pop_list g L ⟨u,_,ry.bK λb o hb hc=>(by
  have q:p≠b:=λe=>absurd hc (OR.fb (D.objs _ _ h2) (ob:=o) (by rw[e];exact hb))
  rw[Heap.get?_update_other _ _ q];exact hb),D.setL h2 g _ hr,q⟩ (by rw[sizeLine_eq];lia)
theorem tn(h:cP (λv i=>∃t,v=Value.int i t) vs is):∀y∈vs,MeetsSeq.EqGives y (.int i t) (qt i y):=by
 intro y hy
 obtain⟨k,hk,rfl⟩:=aI hy
 obtain⟨j,z,D,e⟩:=h.AL (aJ hk)
 rw[e];exact MeetsSeq.EqGives.int _ _ _ _
theorem yM(h:cP (λv i=>∃t,v=Value.int i t) vs is):vs.countP (qt i)=is.count i:=by
 induction h with
 | nil=>rfl
 | cons h _ j=>exact h.elim λt e=>by subst e;rw[List.countP_cons,List.count_cons,j];rfl
theorem AWE.count(h:AWE W n o ρ σ (λv j=>∃p J,gz j v=some (p,J)/\AWE W n a ρ j (λu z=>∃i is,u=.int i/\dM z (.ref p)=some is/\Q (.int (is.count i:Nat)) z) E) E):
  AWE W n (.count o a) ρ σ Q E:=by
 intro C s e K hm I
 refine vT hm λv p x pos hb hl m1 O=>?_
 have U:backTo pos (starEach [x] C.env)=[(false,eval x C.env)]:=by rw[noStar O];rfl
 with_reducible refine wpAny_Call_method1_late (gE hb) hl U (aK (h.go K m1 I) (λva Y D=>?_) λZ Z x=>x)
 obtain⟨a',j,ra,G,p,J,e1,D⟩:=D
 obtain⟨rfl,w,h2⟩:=fQ e1
 cases ra
 obtain⟨items,m,g,r⟩:=fE (G.objs _ _ h2)
 refine xm F.slot_list_count F.type_list_count g ?_
 with_reducible refine P.count_list (aK (D.go K O G) (λvb yJ L=>?_) λZ Z x=>x)
 obtain⟨u,z,ru,H,i,is,rfl,V,q⟩:=L
 cases ru
 obtain⟨w2,xs,h5,V⟩:=ti V
 obtain⟨items2,O,g2,r2⟩:=fE (H.objs _ _ h5)
 have ri:=eN.ints r2 V
 refine⟨items2,O,qt i,g2,λy hy=>tn ri y (Array.mem_toList_iff.mpr hy),_,_,.int _ _,H.tok _,?_⟩
 rw[yM ri];exact q
theorem vY{is:List Int}(h:i∈is):is[is.idxOf i]? =some i:=by
 have:=List.idxOf_lt_length_iff.mpr h
 rw[aJ this,List.getElem_idxOf]
theorem AWE.index(h:AWE W n o ρ σ (λv z=>∃p O,gz z v=some (p,O)/\AWE W n a ρ z (λu D=>∃i is,u=.int i/\dM D (.ref p)=some is/\is.length<=100000/\i∈is/\Q (.int (is.idxOf i:Nat)) D) E) E):
  AWE W n (.index o a) ρ σ Q E:=by
 intro C s e K hm I
 refine vS hm λv p x pos hb hl m1 Y=>?_
 have Uc:backTo pos (starEach [x] C.env)=[(false,eval x C.env)]:=by rw[noStar Y];rfl
 with_reducible refine wpAny_Call_method1_late (gE hb) hl Uc (aK (h.go K m1 I) (λva qw G=>?_) λZ Z x=>x)
 obtain⟨a',z,ra,H,p,O,e1,G⟩:=G
 obtain⟨rfl,w,h2⟩:=fQ e1
 cases ra
 obtain⟨items,m,g,r⟩:=fE (H.objs _ _ h2)
 refine xm F.slot_list_index F.type_list_index g ?_
 with_reducible refine P.index_list (aK (G.go K Y H) (λvb yJ U=>?_) λZ Z x=>x)
 obtain⟨u,D,ru,J,i,is,rfl,h4,hlen,L,q⟩:=U
 cases ru
 obtain⟨w2,xs,h5,h4⟩:=ti h4
 obtain⟨items2,Y,g2,r2⟩:=fE (J.objs _ _ h5)
 have ri:=eN.ints r2 h4
 have zi:items2.size=is.length:=by simpa using ri.length
 have hj:is.idxOf i<is.length:=List.idxOf_lt_length_iff.mpr L
 have V:∀(j:Nat)(hj:j<items2.size)(k:Int),is[j]? =some k->qt i items2[j]=(k==i):=by
  intro j hj k hk
  obtain⟨v,hv,t,e⟩:=ri.get hk
  have:items2[j]=v:=by
   have:items2[j]? =some v:=by simpa using hv
   rw[Array.getElem?_eq_getElem hj]at this;exact af this
  rw[this,e];rfl
 refine⟨items2,Y,qt i,is.idxOf i,by lia,g2,λy hy=>tn ri y (Array.mem_toList_iff.mpr hy),by lia,?_,?_,_,_,.int _ _,J.tok _,q⟩
 .rw[V _ (by lia) i (vY L)];simp
 .intro k hk yw
  have FJ:k<is.length:=by lia
  rw[V k hk is[k] (aJ FJ)]
  have:=List.not_of_lt_findIdx (p:=λx=>x==i) (xs:=is) (i:=k) yw
  simpa using this
end
section
variable{W:Wd}{n:Nat}{ρ ρ':Loc}{σ:Hp}{Q:AV->Hp->Prop}{E:Value->Shared->Prop}
theorem Inv.frame{h':Heap}(K:eO W n C)(I:Inv W C ρ σ s)(i:FA C.env a)(hs:∀b o,b≠a->s.heap.get? b=some o->h'.get? b=some o)
  (hf:(∀b o,s.heap.get? b=some o->c9 o->h'.get? b=some o)->∃m,ee C.env h' ρ' m):Inv W C ρ' σ {s with heap:=h',toks:=t}:=by
 have kk:∀b o,s.heap.get? b=some o->c9 o->h'.get? b=some o:=by
  intro b o hb hc
  refine hs b o ?_ hb
  rintro rfl
  exact I.fb K hb hc (.inr (.inl i))
 obtain⟨j,y⟩:=K.fa a i
 refine {I with
  keep:=λb o e=>hs b o (λq=>by rw[q,j]at e;cases e) (I.keep b o e)
  eh:=λb o e=>e11 (I.eh b o e) λsl h1=>⟨sl,hs b _ (λq=>by rw[q,y]at e;cases e) h1⟩
  objs:=λb o e=>(I.objs b o e).dJ (λob hb=>hs b ob ?_ hb) kk
  qp:=hf kk}
 rintro rfl
 cases ho:o.own with
 | true=>exact(I.own b o e ho).2.2 i
 | false=>
  have:=I.yv b o e ho
  cases hB:W.hB.get? b with
  | none=>exact this hB
  | some ob=>have:=K.base b ob hB;rw[j]at this;cases this
theorem tp(h:iF sc i x=true):∃k,sc.names[i]? =some (x,k)/\(k=.local\/k=.cell):=by
 obtain⟨k,hk,h⟩:=jN h
 exact⟨k,hk,k2 h⟩
theorem iJ{R:Unit->Shared->Prop}(K:eO W n C)(I:Inv W C ρ σ s)(h:iF C.env.scope i x=true)(r:VR s.heap w v)
  (q:∀s',Inv W C (Lake.setL ρ i v) σ s'->(∀b o,s.heap.get? b=some o->¬FA C.env b->s'.heap.get? b=some o)->R () s'):wpAny W.M C.A (storeName C.env x w) R E s:=by
 obtain⟨k,hk,ho⟩:=tp h
 obtain⟨m,F⟩:=I.qp
 have D:C.env.kindOf x=some k:=bF K.dh hk
 have hi:i<ρ.length:=by rw[F.len];exact(aS.mp hk).1
 have G:∀(j:Nat)(y:Str)(c:Addr),C.env.scope.names[j]? =some (y,.free)->C.env.cells.lookup y=some c->¬FA C.env c:=λj y c z hc hf=>
  K.free y c (bF K.dh z) hc (K.fa c hf).1
 rcases ho with rfl | rfl
 .have H:FA C.env C.env.locals:=.inl rfl
  refine wpAny_storeName_local D F.ns (λh' Y hs=>q _ (I.frame K H (λb o hb e=>(hs.2 b hb).trans e) λkk=>?_) λb o e hb=>(hs.2 b λe=>hb (e▸H)).trans e) (by rw[K.kind,show(ScopeKind.function==ScopeKind.class)=false by decide,show(ScopeKind.function==ScopeKind.module)=false by decide];simp)
  refine⟨_,Y,by rw[rC];exact F.len,λj y z=>?_,λj y L z hkk=>?_⟩
  .by_cases hy:y=x
   .subst hy
    have:=eU K.dh z hk
    subst this
    rw[ag rfl,lx ρ _ v hi]
    exact r.bK kk
   .rw[ah hy,eZ ρ i j v (λe=>hy (by subst e;rw[hk]at z;cases z;rfl))]
    exact(F.DN j y z).bK kk
  .obtain⟨c,u,e1,e2,e3⟩:=F.cell j y L z hkk
   have J:i≠j:=by
    rintro rfl
    rw[hk]at z;cases z
    rcases hkk with hkk | hkk<;>cases hkk
   rw[eZ ρ i j v J]
   refine⟨c,u,e1,?_,e3.bK kk⟩
   obtain⟨o,g1,O⟩:=e2
   refine⟨o,(hs.2 c ?_).trans g1,O⟩
   rcases hkk with rfl | rfl
   .exact K.s9 y c (bF K.dh z) e1
   .rintro rfl;exact G j y _ z e1 H
 .obtain⟨c,u,e1,e2,e3⟩:=F.cell i x .cell hk (.inl rfl)
  have H:FA C.env c:=.inr ⟨x,D,e1⟩
  refine wpAny_storeName_cell K.kind D e1 e2 λh' hv hs=>q _ (I.frame (t:=s.toks) K H (λb o hb e=>(hs.2 b hb).trans e) λkk=>?_) λb o e hb=>(hs.2 b λe=>hb (e▸H)).trans e
  refine⟨m,F.ns.sameBut hs (Ne.symm (K.s9 x c D e1)),by rw[rC];exact F.len,λj y z=>?_,λj y L z hkk=>?_⟩
  .have J:i≠j:=by rintro rfl;rw[hk]at z;cases z
   rw[eZ ρ i j v J]
   exact(F.DN j y z).bK kk
  .by_cases hy:y=x
   .subst hy
    have:=eU K.dh z hk
    subst this
    rw[hk]at z;cases z
    rw[lx ρ _ v hi]
    exact⟨c,_,e1,hv,r.bK kk⟩
   .obtain⟨V,u',U,f2,f3⟩:=F.cell j y L z hkk
    rw[eZ ρ i j v (λe=>hy (by subst e;rw[hk]at z;cases z;rfl))]
    refine⟨V,u',U,?_,f3.bK kk⟩
    obtain⟨o,g1,O⟩:=f2
    refine⟨o,(hs.2 V ?_).trans g1,O⟩
    rcases hkk with rfl | rfl
    .rintro rfl;exact hy (K.apart y x _ (bF K.dh z) D U e1)
    .rintro rfl;exact G j y _ z U H
end
@[reducible]def sq(W:Wd)(n:Nat)(k:CS)(Q:f6->Loc->Hp->Prop)(E:Cx->Value->Shared->Prop)(o:f6)(ρ:Loc)(σ:Hp):Prop:=match o with
 | .next=>AWS W n k ρ σ Q E
 | o=>Q o ρ σ
abbrev b7:Value->Shared->Prop:=λZ Z=>False
theorem xn{l:List α}(h:N9 l=some x):l=[]:=by
 cases l<;>first | rfl | exact fo h
theorem Mr{l:Option α}(h:SW l=some x):l=none:=by
 cases l<;>first | rfl | exact fo h
theorem Jb(h:LU s=some x):s=.Assign x.1 x.2.1 x.2.2:=by
 obtain⟨g,_⟩:=cG h
 exact Stmt.Assign.elim (motive_2:=λs=>LU s=some x->s=.Assign x.1 x.2.1 x.2.2) s g (λZ Z Z h=>by cases h;rfl) h
theorem mw(h:AQ l=some x):l=.Assign [x.1] x.2.1 x.2.2.1::x.2.2.2:=by
 cases l with
 | nil=>exact fo h
 | cons s r=>
  obtain⟨y,i,h⟩:=aG.mp h
  obtain⟨j,e1,h⟩:=aH.mp h
  cases h;rw[Jb i,h9 e1]
theorem Jc(h:LV s=some x):s=.AugAssign x.1 x.2.1 x.2.2.1 x.2.2.2:=by
 obtain⟨g,_⟩:=cG h
 exact Stmt.AugAssign.elim (motive_2:=λs=>LV s=some x->s=.AugAssign x.1 x.2.1 x.2.2.1 x.2.2.2) s g (λZ Z Z Z h=>by cases h;rfl) h
theorem xo(h:It l=some x):l=.AugAssign x.1 x.2.1 x.2.2.1 x.2.2.2.1::x.2.2.2.2:=by
 cases l with
 | nil=>exact fo h
 | cons s r=>
  obtain⟨y,i,h⟩:=aH.mp h
  cases h;rw[Jc i]
theorem Ms(h:Rk s=some x):s=.If x.1 x.2.1 x.2.2.1 x.2.2.2:=by
 obtain⟨g,_⟩:=cG h
 exact Stmt.If.elim (motive_2:=λs=>Rk s=some x->s=.If x.1 x.2.1 x.2.2.1 x.2.2.2) s g (λZ Z Z Z h=>by cases h;rfl) h
theorem Mt(h:SX l=some x):l=.If x.1 x.2.1 x.2.2.1 x.2.2.2.1::x.2.2.2.2:=by
 cases l with
 | nil=>exact fo h
 | cons s r=>
  obtain⟨y,i,h⟩:=aH.mp h
  cases h;rw[Ms i]
theorem Jd(h:LW s=some x):s=.While x.1 x.2.1 x.2.2.1 x.2.2.2:=by
 obtain⟨g,_⟩:=cG h
 exact Stmt.While.elim (motive_2:=λs=>LW s=some x->s=.While x.1 x.2.1 x.2.2.1 x.2.2.2) s g (λZ Z Z Z h=>by cases h;rfl) h
theorem Je(h:Oa l=some x):l=.While x.1 x.2.1 [] x.2.2.1::x.2.2.2:=by
 cases l with
 | nil=>exact fo h
 | cons s r=>
  obtain⟨y,i,h⟩:=aG.mp h
  obtain⟨j,e1,h⟩:=aH.mp h
  cases h;rw[Jd i,xn e1]
theorem Jf(h:LX s=some x):s=.For x.1 x.2.1 x.2.2.1 x.2.2.2.1 x.2.2.2.2:=by
 obtain⟨g,_⟩:=cG h
 exact Stmt.For.elim (motive_2:=λs=>LX s=some x->s=.For x.1 x.2.1 x.2.2.1 x.2.2.2.1 x.2.2.2.2) s g (λZ Z Z Z Z h=>by cases h;rfl) h
theorem Jg(h:Ob l=some x):l=.For x.1 x.2.1 x.2.2.1 [] x.2.2.2.1::x.2.2.2.2:=by
 cases l with
 | nil=>exact fo h
 | cons s r=>
  obtain⟨y,i,h⟩:=aG.mp h
  obtain⟨j,e1,h⟩:=aH.mp h
  cases h;rw[Jf i,xn e1]
theorem Jh(h:LY s=some x):s=.Return x.1 x.2:=by
 obtain⟨g,_⟩:=cG h
 exact Stmt.Return.elim (motive_2:=λs=>LY s=some x->s=.Return x.1 x.2) s g (λZ Z h=>by cases h;rfl) h
theorem CV(h:LZ l=some x):l=.Return x.1 x.2.1::x.2.2:=by
 cases l with
 | nil=>exact fo h
 | cons s r=>
  obtain⟨y,i,h⟩:=aH.mp h
  cases h;rw[Jh i]
theorem Ji(h:Ma s=some x):s=.Expr x.1 x.2:=by
 obtain⟨g,_⟩:=cG h
 exact Stmt.Expr.elim (motive_2:=λs=>Ma s=some x->s=.Expr x.1 x.2) s g (λZ Z h=>by cases h;rfl) h
theorem CW(h:Mb l=some x):l=.Expr x.1 x.2.1::x.2.2:=by
 cases l with
 | nil=>exact fo h
 | cons s r=>
  obtain⟨y,i,h⟩:=aH.mp h
  cases h;rw[Ji i]
theorem Jj(h:Mc s=some x):s=.Break x:=by
 obtain⟨g,_⟩:=cG h
 exact Stmt.Break.elim (motive_2:=λs=>Mc s=some x->s=.Break x) s g (λZ h=>by cases h;rfl) h
theorem Jk(h:Oc l=some x):l=.Break x.1::x.2:=by
 cases l with
 | nil=>exact fo h
 | cons s r=>
  obtain⟨y,i,h⟩:=aH.mp h
  cases h;rw[Jj i]
theorem Jl(h:Md s=some x):s=.Continue x:=by
 obtain⟨g,_⟩:=cG h
 exact Stmt.Continue.elim (motive_2:=λs=>Md s=some x->s=.Continue x) s g (λZ h=>by cases h;rfl) h
theorem Jm(h:Od l=some x):l=.Continue x.1::x.2:=by
 cases l with
 | nil=>exact fo h
 | cons s r=>
  obtain⟨y,i,h⟩:=aH.mp h
  cases h;rw[Jl i]
section
variable{W:Wd}{n:Nat}{ρ ρ':Loc}{σ:Hp}{Q:f6->Loc->Hp->Prop}{E:Cx->Value->Shared->Prop}
theorem FK{st:List Stmt}(h:mS sc .skip st=true):st=[]:=List.isEmpty_iff.mp h
@[elab_as_elim]theorem Jn{st:List Stmt}(h:mS sc (.bL i e k) st=true){P:List Stmt->Prop}(k:∀x p v q r,(iF sc i x=true)->(mE sc e v=true)->(hZ v=false)->(mS sc k r=true)->P (.Assign [.Name x p] v q::r)):P st:=by
 obtain⟨y,hy,h⟩:=bu h
 obtain⟨x,hx,h⟩:=bu h
 have j:=bC h;have h1:=bC j.1;have h2:=bC h1.1
 exact iG ((mw hy).trans (by rw[fC hx])) (k _ _ _ _ _ h2.1 h2.2 (hW h1.2) j.2)
@[elab_as_elim]theorem FL{st:List Stmt}(h:mS sc (.o5 is e k) st=true){P:List Stmt->Prop}(k:∀i c p v q r,(Ir sc is i=true)->(mE sc e v=true)->(hZ v=false)->(AM v=false)->(mS sc k r=true)->P (.Assign [.Tuple i c p] v q::r)):P st:=by
 obtain⟨y,hy,h⟩:=bu h
 obtain⟨x,hx,h⟩:=bu h
 have j:=bC h;have h1:=bC j.1;have h2:=bC h1.1;have h3:=bC h2.1
 exact iG ((mw hy).trans (by rw[xg hx])) (k _ _ _ _ _ _ h3.1 h3.2 (hW h2.2) (hW h1.2) j.2)
@[elab_as_elim]theorem FN{st:List Stmt}(h:mS sc (.cg o f e k) st=true){P:List Stmt->Prop}(k:∀ov p v q r,(f<27)->(mE sc o ov=true)->(mE sc e v=true)->(hZ v=false)->(mS sc k r=true)->P (.Assign [.Attribute ov (b9 f) p] v q::r)):P st:=by
 obtain⟨y,hy,h⟩:=bu h
 obtain⟨x,hx,h⟩:=bu h
 have i:=bC h;have h1:=bC i.1;have h2:=bC h1.1;have h3:=bC h2.1;have j:=bC h3.1
 exact iG ((mw hy).trans (by rw[mu hx,az.mp j.1])) (k _ _ _ _ _ (A0 j.2) h3.2 h2.2 (hW h1.2) i.2)
@[elab_as_elim]theorem FP{st:List Stmt}(h:mS sc (.eK o i e k) st=true){P:List Stmt->Prop}(k:∀ov j p v q r,(mE sc o ov=true)->(mE sc i j=true)->(mE sc e v=true)->(hZ v=false)->(mS sc k r=true)->P (.Assign [.Subscript ov j p] v q::r)):P st:=by
 obtain⟨y,hy,h⟩:=bu h
 obtain⟨x,hx,h⟩:=bu h
 have z:=bC h;have h1:=bC z.1;have h2:=bC h1.1;have h3:=bC h2.1
 exact iG ((mw hy).trans (by rw[sM hx])) (k _ _ _ _ _ _ h3.1 h3.2 h2.2 (hW h1.2) z.2)
@[elab_as_elim]theorem Jo{st:List Stmt}(h:mS sc (.iw i o e k) st=true){P:List Stmt->Prop}(k:∀x p v q r,(iF sc i x=true)->(mE sc e v=true)->(mS sc k r=true)->P (.AugAssign (.Name x p) o v q::r)):P st:=by
 obtain⟨y,hy,h⟩:=bu h
 obtain⟨x,hx,h⟩:=bu h
 have j:=bC h;have h1:=bC j.1;have h2:=bC h1.1
 exact iG ((xo hy).trans (by rw[fC hx,az.mp h2.2])) (k _ _ _ _ _ h2.1 h1.2 j.2)
@[elab_as_elim]theorem FQ{st:List Stmt}(h:mS sc (.fZ c f o e k) st=true){P:List Stmt->Prop}(k:∀ov p v q r,(f<27)->(mE sc c ov=true)->(mE sc e v=true)->(mS sc k r=true)->P (.AugAssign (.Attribute ov (b9 f) p) o v q::r)):P st:=by
 obtain⟨y,hy,h⟩:=bu h
 obtain⟨x,hx,h⟩:=bu h
 have i:=bC h;have h1:=bC i.1;have h2:=bC h1.1;have h3:=bC h2.1;have j:=bC h3.1
 exact iG ((xo hy).trans (by rw[mu hx,az.mp j.1,az.mp h3.2])) (k _ _ _ _ _ (A0 j.2) h2.2 h1.2 i.2)
@[elab_as_elim]theorem FT{st:List Stmt}(h:mS sc (.jx c i o e k) st=true){P:List Stmt->Prop}(k:∀ov j p v q r,(mE sc c ov=true)->(mE sc i j=true)->(mE sc e v=true)->(mS sc k r=true)->P (.AugAssign (.Subscript ov j p) o v q::r)):P st:=by
 obtain⟨y,hy,h⟩:=bu h
 obtain⟨x,hx,h⟩:=bu h
 have z:=bC h;have h1:=bC z.1;have h2:=bC h1.1;have h3:=bC h2.1
 exact iG ((xo hy).trans (by rw[sM hx,az.mp h3.1])) (k _ _ _ _ _ _ h3.2 h2.2 h1.2 z.2)
@[elab_as_elim]theorem Jp{st:List Stmt}(h:mS sc (.bS c t f k) st=true){P:List Stmt->Prop}(k:∀i j z q r,(mE sc c i=true)->(mS sc t j=true)->(mS sc f z=true)->(mS sc k r=true)->P (.If i j z q::r)):P st:=by
 obtain⟨y,hy,h⟩:=bu h
 have D:=bC h;have h1:=bC D.1;have h2:=bC h1.1
 exact iG (Mt hy) (k _ _ _ _ _ h2.1 h2.2 h1.2 D.2)
@[elab_as_elim]theorem Jq{st:List Stmt}(h:mS sc (.E7 c b k) st=true){P:List Stmt->Prop}(k:∀i j q r,(mE sc c i=true)->(mS sc b j=true)->(mS sc k r=true)->P (.While i j [] q::r)):P st:=by
 obtain⟨y,hy,h⟩:=bu h
 have z:=bC h;have h1:=bC z.1
 exact iG (Je hy) (k _ _ _ _ h1.1 h1.2 z.2)
@[elab_as_elim]theorem Jr{st:List Stmt}(h:mS sc (.cb t i b k) st=true){P:List Stmt->Prop}(k:∀z j D q r,(mT sc t z=true)->(mE sc i j=true)->(gy j=false)->(mS sc b D=true)->(mS sc k r=true)->P (.For z j D [] q::r)):P st:=by
 obtain⟨y,hy,h⟩:=bu h
 have G:=bC h;have h1:=bC G.1;have h2:=bC h1.1;have h3:=bC h2.1
 exact iG (Jg hy) (k _ _ _ _ _ h3.1 h3.2 (hW h2.2) h1.2 G.2)
@[elab_as_elim]theorem CX{st:List Stmt}(h:mS sc (.ret e) st=true){P:List Stmt->Prop}(k:∀v q r,(mE sc e v=true)->P (.Return (some v) q::r)):P st:=by
 obtain⟨y,hy,h⟩:=bu h
 obtain⟨v,i,h⟩:=bu h
 exact iG ((CV hy).trans (by rw[i])) (k _ _ _ h)
@[elab_as_elim]theorem FU{st:List Stmt}(h:mS sc .yx st=true){P:List Stmt->Prop}(k:∀q r,P (.Return Option.none q::r)):P st:=by
 obtain⟨y,hy,h⟩:=bu h
 exact iG ((CV hy).trans (by rw[Option.isNone_iff_eq_none.mp h])) (k _ _)
@[elab_as_elim]theorem yN{st:List Stmt}(h:mS sc (.expr e k) st=true){P:List Stmt->Prop}(k:∀v q r,(mE sc e v=true)->(hZ v=false)->(mS sc k r=true)->P (.Expr v q::r)):P st:=by
 obtain⟨y,hy,h⟩:=bu h
 have i:=bC h;have h1:=bC i.1
 exact iG (CW hy) (k _ _ _ h1.1 (hW h1.2) i.2)
@[elab_as_elim]theorem Js{st:List Stmt}(h:mS sc .brk st=true){P:List Stmt->Prop}(k:∀q r,P (.Break q::r)):P st:=by
 obtain⟨y,hy,h⟩:=bu h
 exact iG (Jk hy) (k _ _)
@[elab_as_elim]theorem FV{st:List Stmt}(h:mS sc .cont st=true){P:List Stmt->Prop}(k:∀q r,P (.Continue q::r)):P st:=by
 obtain⟨y,hy,h⟩:=bu h
 exact iG (Jm hy) (k _ _)
abbrev PF(W:Wd)(C:Cx)(P:Loc->Hp->Prop)(Q:f6->Loc->Hp->Prop)(f:Flow)(s':Shared):Prop:=match f with
 | .next=>PN W C P s'
 | f=>PS W C Q f s'
abbrev dC(W:Wd)(C:Cx)(st:Stmt)(P:Loc->Hp->Prop)(Q:f6->Loc->Hp->Prop)(E:Value->Shared->Prop)(s:Shared):Prop:=
 wpAny W.M C.A (exec st C.env) (PF W C P Q) E s
theorem dC.cons{C:Cx}{s:Shared}{st:Stmt}{r:List Stmt}{k:CS}{P:Loc->Hp->Prop}(K:eO W n C)(hk:mS C.env.scope k r=true)(h:dC W C st P Q (E C) s)
  (hp:∀ρ' bw,P ρ' bw->AWS W n k ρ' bw Q E):wpAny W.M C.A (execs (st::r) C.env) (PS W C Q) (E C) s:=by
 with_reducible refine wpAny_execs_cons (aK h (λf j i=>?_) λZ Z x=>x)
 cases f
 case next=>obtain⟨ρ',bw,I,p⟩:=i;exact(hp ρ' bw p).go K hk I
 all_goals exact i
theorem AWE.Ba{Q:AV->Hp->Prop}{E:Value->Shared->Prop}(h:AWE W n c ρ σ Q b7)(K:eO W n C)(hm:mE C.env.scope c e=true)(I:Inv W C ρ σ s):
  wpAny W.M C.A (eval e C.env) (RC W C ρ σ s Q) E s:=aK (h.run K hm I) (λZ Z x=>x) λZ Z x=>x.elim
theorem AWE.DY{Q:AV->Hp->Prop}{E:Value->Shared->Prop}(h:AWE W n c ρ σ Q b7)(K:eO W n C)(hm:mE C.env.scope c e=true)(I:Inv W C ρ σ s):
  wpAny W.M C.A (eval e C.env) (PV W C ρ Q) E s:=aK (h.go K hm I) (λZ Z x=>x) λZ Z x=>x.elim
theorem AWT.DY{Q:Bool->Hp->Prop}{E:Value->Shared->Prop}(h:AWT W n c ρ σ Q b7)(K:eO W n C)(hm:mE C.env.scope c e=true)(I:Inv W C ρ σ s):
  wpAny W.M C.A (isTrue e C.env (eval e C.env)) (PB W C ρ Q) E s:=aK (h.go K hm I) (λZ Z x=>x) λZ Z x=>x.elim
theorem Mu:swapsWith v t l env=cond (hZ v) (swapsWith v t l env) (pure false):=by cases v<;>first | exact Eq.refl (pure false:Sem Bool) | rfl
theorem jS(h:hZ v=false):swapsWith v t l env=pure false:=Ll Mu h
theorem kO(K:eO W n C):interactive C.env=false:=by
 unfold interactive;rw[K.kind];rfl
theorem AWS.skip(q:Q .next ρ σ):AWS W n .skip ρ σ Q E:=by
 intro C s st K hm I
 cases FK hm
 exact wpAny_execs_nil ⟨.next,ρ,σ,trivial,I,q⟩
theorem AWS.bL(h:AWE W n e ρ σ (λv j=>AWS W n k (Lake.setL ρ i v) j Q E) b7):AWS W n (.bL i e k) ρ σ Q E:=by
 intro C s st K hm I
 refine Jn hm λx p v q r hs G hc H=>?_
 refine dC.cons (P:=λρ' bw=>AWS W n k ρ' bw Q E) K H ?_ λZ Z x=>x
 unfold dC
 with_reducible refine wpAny_Assign_Name (aK (h.DY K G I) (λO D y=>?_) λZ Z x=>x) (jS hc)
 obtain⟨a,j,L,z,y⟩:=y
 with_reducible refine iJ K z hs L λs' J Z=>?_
 exact⟨_,_,J,y⟩
theorem AWS.iw(G:GF W)(O:getL ρ i=some u)(h:AWE W n e ρ σ (λv j=>∃w,fA o u v=some w/\AWS W n k (Lake.setL ρ i w) j Q E) b7):AWS W n (.iw i o e k) ρ σ Q E:=by
 intro C s st K hm I
 refine Jo hm λx p v q r hs U V=>?_
 refine dC.cons (P:=λρ' bw=>AWS W n k ρ' bw Q E) K V ?_ λZ Z x=>x
 unfold dC
 have D:sY C.env.scope i x=true:=by
  obtain⟨k,hk,ho⟩:=tp hs
  exact Cy hk (by rcases ho with rfl | rfl<;>rfl)
 with_reducible refine wpAny_AugAssign_Name (vU K I D O λw rw=>?_)
 with_reducible refine aK (h.Ba K U I) (λva H y=>?_) λZ Z x=>x
 obtain⟨a,j,Y,z,S,w',e',y⟩:=y
 with_reducible refine aK (A3 (K.Fn G z) e' (S.vr K I rw) Y) (λr L c=>?_) λZ Z x=>x
 obtain⟨cr,t,rfl⟩:=c
 with_reducible refine iJ K (z.tok t) hs (cr _) λs' J Z=>?_
 exact⟨_,_,J,y⟩
theorem AWS.bS(h:AWT W n c ρ σ (λb j=>AWS W n (if b then t else f) ρ j (sq W n k Q E) E) b7):AWS W n (.bS c t f k) ρ σ Q E:=by
 intro C s st K hm I
 refine Jp hm λL O U q r G mt H mk=>?_
 refine dC.cons (P:=λρ' bw=>AWS W n k ρ' bw Q E) K mk ?_ λZ Z x=>x
 unfold dC
 with_reducible refine wpAny_If (aK (h.DY K G I) (λb D i=>?_) λZ Z x=>x)
 obtain⟨j,y,i⟩:=i
 have z:∀(f:Flow)(s':Shared),PS W C (sq W n k Q E) f s'->PF W C (λρ' bw=>AWS W n k ρ' bw Q E) Q f s':=by
  rintro f s' ⟨o,ρ',bw,hf,J,q⟩
  revert q
  exact hf.el (λq=>⟨ρ',bw,J,q⟩) (λq=>⟨.brk,ρ',bw,trivial,J,q⟩) (λq=>⟨.cont,ρ',bw,trivial,J,q⟩) λZ Z r q=>⟨.ret _,ρ',bw,r,J,q⟩
 cases b
 .exact aK (AWS.go i K H y) (λf s' x=>z f s' x) λZ Z x=>x
 .exact aK (AWS.go i K mt y) (λf s' x=>z f s' x) λZ Z x=>x
theorem AWS.ret(h:AWE W n e ρ σ (λv i=>Q (.ret v) ρ i) b7):AWS W n (.ret e) ρ σ Q E:=by
 intro C s st K hm I
 refine CX hm λv q r m=>?_
 with_reducible refine wpAny_execs_cons (wpAny_Return_some (aK (h.DY K m I) (λG z j=>?_) λZ Z x=>x))
 obtain⟨a,i,D,y,j⟩:=j
 exact⟨.ret a,ρ,i,D,y,j⟩
theorem AWS.yx(q:Q (.ret .none) ρ σ):AWS W n .yx ρ σ Q E:=by
 intro C s st K hm I
 refine FU hm λp r=>?_
 with_reducible refine wpAny_execs_cons (wpAny_Return_none ?_)
 exact⟨.ret .none,ρ,σ,VR.none,I,q⟩
theorem AWS.brk(q:Q .brk ρ σ):AWS W n .brk ρ σ Q E:=by
 intro C s st K hm I
 refine Js hm λp r=>?_
 with_reducible refine wpAny_execs_cons (wpAny_Break ?_)
 exact⟨.brk,ρ,σ,trivial,I,q⟩
theorem AWS.cont(q:Q .cont ρ σ):AWS W n .cont ρ σ Q E:=by
 intro C s st K hm I
 refine FV hm λp r=>?_
 with_reducible refine wpAny_execs_cons (wpAny_Continue ?_)
 exact⟨.cont,ρ,σ,trivial,I,q⟩
def qy:AV->Prop
 | .none | .int _ | .bool _=>True
 | _=>False
theorem AWS.expr(h:AWE W n e ρ σ (λv i=>qy v/\AWS W n k ρ i Q E) b7):AWS W n (.expr e k) ρ σ Q E:=by
 intro C s st K hm I
 refine yN hm λv q r D hc G=>?_
 refine dC.cons (P:=λρ' bw=>AWS W n k ρ' bw Q E) K G ?_ λZ Z x=>x
 unfold dC
 with_reducible refine wpAny_Expr (aK (h.DY K D I) (λJ z j=>?_) λZ Z x=>x) (kO K) (jS hc)
 obtain⟨a,i,H,y,hp,j⟩:=j
 cases H<;>first | exact⟨ρ,i,y,j⟩ | exact hp.elim
end
section
variable{W:Wd}{n:Nat}{ρ ρ':Loc}{σ:Hp}{Q:f6->Loc->Hp->Prop}{E:Cx->Value->Shared->Prop}
theorem Jt{K:Frag}(X:K.In s.heap)
  (I:InstAt s.heap x G c (some (dictOf es m))) (D:s.heap.get? i=some (dictOf es m)) (hd:G.dict=some i) (hp:plainOver K c=true)
  (ht:takerIn K c name=some none) (hh:hasDictIn K c=true) (hl:(PySem.W.getL name es).isSome=true)
  (V:(putL name (PyData.keyHash w.params name) (.str name s.toks) v es).length<=1000)
  (h:R (.ok (.ret .none)) {s with heap:=s.heap.update i (Obj.putName name (PyData.keyHash w.params name) (.str name s.toks) v),toks:=s.toks+1}):
  codeAny (model prog w) A (.call (.builtin "object.__setattr__") ⟨[.ref x,.str name tk,v],[]⟩) R s:=by
 refine osa_open X I hp ht λb=>?_
 obtain⟨Y,hc,y⟩:=any_some hh
 obtain⟨hx,j,hn,-⟩:=I
 obtain⟨oc,H,J,L⟩:=G
 dsimp only at j hd
 subst j hd
 have O:(s.heap.update i (Obj.putName name (PyData.keyHash w.params name) (.str name s.toks) v)).get? i=some (dictOf (putL name (PyData.keyHash w.params name) (.str name s.toks) v es) (putN name es m)):=by
  rw[Heap.get?_update_self _ D (by rw[putName_dict];rfl),putName_dict]
 refine aQ (aR (aQ (aQ (wpAny_loadPart hx (aQ ((looks_clsIn X hc).here ?_))))))
 rw[y]
 refine aR (a:=some i) (aQ (aR (aQ ?_)))
 unfold nsSet
 refine aQ (aQ (wpAny_askSetting (aR (aQ (wpAny_mkText (aQ (wpAny_loadPart D ?_)))))))
 rw[show(dictOf es m).data=Data.dict es.toArray m from rfl]
 dsimp only
 have c:(!es.toArray.any (·.key.isStr name)&&es.toArray.any (·.refKey))=false:=by
  rw[<-Array.any_toList,<-Array.any_toList]
  unfold PySem.W.getL at hl
  show(!es.any (·.key.isStr name)&&es.any (·.refKey))=false
  split at hl
  .rename_i U he
   rw[aU.mpr ⟨U,List.mem_of_find?_eq_some he,List.find?_some he⟩];rfl
  .split at hl
   .cases hl
   .rename_i z;rw[Bool.not_eq_true]at z;rw[z,Bool.and_false]
 rw[aRefKeyMayBeTheName_at,c]
 refine wpAny_updatePart D ?_
 refine aQ (wpAny_lookBehind O (pastItsLine_dict (by rw[List.size_toArray,sizeLine_eq];omega)) ?_)
 exact aR h
theorem Ju{E:Value->Shared->Prop}{s:Shared}{K:Frag}{Q:Unit->Shared->Prop}(X:K.In s.heap)
  (I:InstAt s.heap x y c (some (dictOf es m))) (i:s.heap.get? j=some (dictOf es m)) (hd:y.dict=some j) (hs:findIn K (.ref c) "__setattr__" =some (some (.builtin "object.__setattr__"))) (hp:plainOver K c=true)
  (ht:takerIn K c name=some none) (hh:hasDictIn K c=true) (hl:(PySem.W.getL name es).isSome=true)
  (z:(putL name (PyData.keyHash w.params name) (.str name (s.toks+1)) v es).length<=1000)
  (h:Q () {s with heap:=s.heap.update j (Obj.putName name (PyData.keyHash w.params name) (.str name (s.toks+1)) v),toks:=s.toks+2}):wpAny (model prog w) A (setAttr (.ref x) name v) Q E s:=
 set_plain X I hs (Jt (s:={s with toks:=s.toks+1}) X I i hd hp ht hh hl z h)
theorem tq(G:GF W){R:Unit->Shared->Prop}{E:Value->Shared->Prop}(K:eO W n C)(I:Inv W C ρ σ s)(h1:σ a=some (.inst c d))(h2:σ d=some (.dict D))
  (hk:k∈bN c) (H:D.length<60) (r:VR s.heap w v) (q:∀s',Inv W C ρ (σ.set d (.dict (hY D k v))) s'->R () s'):wpAny W.M C.A (setAttr (.ref a) (b9 k) w) R E s:=by
 obtain⟨hc,es,m,J,hl,hf⟩:=Fy I h1 h2
 have F:=G.cls c hc
 have i:k<27:=by
  have:∀c,c<3->∀k∈bN c,k<27:=by decide
  exact this c hc k hk
 obtain⟨L,U,hd,_,_⟩:=I.objs d _ h2
 have z:s.heap.get? d=some (dictOf es m):=J.dict
 have ht:takerIn W.gi.K (W.gi.cls c) (b9 k)=some Option.none:=by unfold takerIn;rw[F.none k hk];rfl
 have j:=DR.nE (hs:=PyData.keyHash W.w.params (b9 k)) (t:=s.toks+1) i r hf
 have O:(putL (b9 k) (PyData.keyHash W.w.params (b9 k)) (.str (b9 k) (s.toks+1)) w es).length<=1000:=by
  rw[j.length];have:=rD D k v;lia
 refine Ju (I.S4 G K) J z rfl F.sa F.Mg ht F.has (hf.some k i) O (q _ ?_)
 refine Inv.tok (s:={s with heap:=_}) (I.dJ (h':=s.heap.update d (Obj.putName (b9 k) (PyData.keyHash W.w.params (b9 k)) (.str (b9 k) (s.toks+1)) w)) h2 rfl rfl (λb o hb e=>by rw[Heap.get?_update_other _ _ (Ne.symm hb)];exact e) λkk=>?_) _
 refine⟨_,putN (b9 k) es m,?_,?_,j.imp λe f y=>⟨y.1,y.2.1,y.2.2.bK kk⟩⟩
 .rw[Heap.get?_update_self _ z (by rw[putName_dict];rfl),putName_dict]
 .have:=rD D k v;lia
def qz(σ:Hp)(v:AV)(k:Nat):Option (Addr × List (Nat × AV)):=(E6 v).bind λa=>(N4 (σ a)).bind λp=>if(bN p.1).contains k then(LN (σ p.2)).bind λi=>if i.length<60 then some (p.2,i)else none else none
theorem Bb(h1:σ a=some (.inst c d))(h2:σ d=some (.dict i))(hk:(bN c).contains k=true)(hl:i.length<60):qz σ (.ref a) k=some (d,i):=
 (ae (λo=>(N4 o).bind λp=>if(bN p.1).contains k then(LN (σ p.2)).bind λi=>if i.length<60 then some (p.2,i)else none else none) h1).trans ((ag hk).trans ((ae (λo=>(LN o).bind λi=>if i.length<60 then some (d,i)else none) h2).trans (ag hl)))
theorem tu(e:qz σ v k=some (d,i)):∃a c,v=.ref a/\σ a=some (.inst c d)/\σ d=some (.dict i)/\k∈bN c/\i.length<60:=by
 obtain⟨a,h1,e⟩:=aG.mp e
 obtain⟨p,h2,e⟩:=aG.mp e
 obtain⟨hc,e⟩:=Li e
 obtain⟨gs,h3,e⟩:=aG.mp e
 obtain⟨hl,e⟩:=Ct e
 cases e
 exact⟨a,p.1,o4 h1,Cv h2,Cw h3,List.contains_iff_mem.mp hc,hl⟩
theorem AWS.cg(G:GF W)(h:AWE W n e ρ σ (λv j=>AWE W n o ρ j (λu i=>∃d O,qz i u f=some (d,O)/\AWS W n k ρ (i.set d (.dict (hY O f v))) Q E) b7) b7):
  AWS W n (.cg o f e k) ρ σ Q E:=by
 intro C s st K hm I
 refine FN hm λov p v q r hf Y m2 hc m3=>?_
 refine dC.cons (P:=λρ' bw=>AWS W n k ρ' bw Q E) K m3 ?_ λZ Z x=>x
 with_reducible refine plainObj_wpAny_Assign_Attribute (aK (h.DY K m2 I) (λva U y=>?_) λZ Z x=>x) (jS hc)
 obtain⟨a,j,ra,z,y⟩:=y
 with_reducible refine aK (y.Ba K Y z) (λvb V D=>?_) λZ Z x=>x
 obtain⟨b,i,rb,H,S,d,O,e1,L⟩:=D
 obtain⟨x,c,rfl,g1,g2,g3,g4⟩:=tu e1
 cases rb
 with_reducible refine tq G K H g1 g2 g3 g4 (S.vr K z ra) λs' J=>?_
 exact⟨_,_,J,L⟩
theorem AWS.fZ(G:GF W)(h:AWE W n o ρ σ (λu i=>∃x,f9 i u f=some x/\AWE W n e ρ i (λv j=>∃w d Y,fA op x v=some w/\qz j u f=some (d,Y)/\AWS W n k ρ (j.set d (.dict (hY Y f w))) Q E) b7) b7):
  AWS W n (.fZ o f op e k) ρ σ Q E:=by
 intro C s st K hm I
 refine FQ hm λov p v q r hf m1 m2 m3=>?_
 refine dC.cons (P:=λρ' bw=>AWS W n k ρ' bw Q E) K m3 ?_ λZ Z x=>x
 with_reducible refine wpAny_AugAssign_AttributeAny (aK (h.DY K m1 I) (λva qw z=>?_) λZ Z x=>x)
 obtain⟨a,i,ra,D,x,e1,z⟩:=z
 with_reducible refine aK (CT G K D ra e1) (λold O c=>?_) λZ Z x=>x
 obtain⟨rx,t,rfl⟩:=c
 have H:=D.tok t
 with_reducible refine aK (z.Ba K m2 H) (λvb O U=>?_) λZ Z x=>x
 obtain⟨b,j,rb,L,S,w,d,Y,e2,e3,V⟩:=U
 obtain⟨y,c,rfl,g1,g2,g3,g4⟩:=tu e3
 cases ra
 with_reducible refine aK (A3 (K.Fn G L) e2 (S.vr K H rx) rb) (λr FW c=>?_) λZ Z x=>x
 obtain⟨cr,t',rfl⟩:=c
 with_reducible refine tq G K (L.tok t') g1 g2 g3 g4 (cr _) λs' J=>?_
 exact⟨_,_,J,V⟩
theorem DZ{k:Int}{E:Value->Shared->Prop}(g:IsL s.heap l items m)
  (z:0<=k) (i:k<2^63) (H:k<items.size) (D:R () {s with heap:=s.heap.update l (Obj.mapSeq (·.setIfInBounds k.toNat v))}):wpAny W.M A (setItem (.ref l) (.int k t) v) R E s:=by
 have hl:=g.isList
 obtain⟨o,ho,hc,ne,hd⟩:=id hl
 unfold setItem
 try with_reducible refine wpAny_holding ?_
 first | refine aQ (aR ?_) | skip
 refine aQ (wpAny_sequenceKey hl.typeIs (by decide) ?_)
 refine aQ (wpAny_callSpecial?_slot (name:=Str.ofString "__setitem__") hl.typeIs slot_list_setitem
  (wpAny_call_entry slot_list_setitem hl.typeIs entry_list_setitem ?_ (args_list_setitem _ _ _)))
 show wpAny _ _ (Builtin.List.listSubscript? (.int k t) >>= _) _ _ s
 refine aQ (wpAny_listSubscript_int (fitsIndex_of z i) ?_)
 clear i
 obtain⟨j,rfl⟩:=Int.eq_ofNat_of_zero_le z
 have G:j<items.size:=by omega
 have y:items[j]? =some items[j]:=Array.getElem?_eq_getElem G
 show wpAny _ _ ((seqItemAt l j >>= λr=>pure (r.map (j,·))) >>= _) _ _ s
 refine aQ (aQ (wpAny_seqItemAt ho hd (aR ?_)))
 rw[y]
 show wpAny _ _ (setSeqItemAt l j v >>= _) _ _ s
 refine aQ (wpAny_setSeqItemAt ho hd ?_)
 first
  | exact aQ (aR (aR ⟨.none,rfl,aR D⟩))
  | exact aR ⟨.none,rfl,aR D⟩
theorem tv{i:Int}{R:Unit->Shared->Prop}{E:Value->Shared->Prop}(I:Inv W C ρ σ s)(h1:σ a=some (.list true xs))(y:0<=i)(hb:i<2^60)(hi:i<xs.length)(r:VR s.heap w v)
  (q:∀s',Inv W C ρ (σ.set a (.list true (xs.set i.toNat v))) s'->R () s'):wpAny W.M C.A (setItem (.ref a) (.int i t) w) R E s:=by
 obtain⟨items,m,g,j⟩:=fE (I.objs _ _ h1)
 have z:items.size=xs.length:=by simpa using j.length
 refine DZ g y (by lia) (by omega) (q _ (I.setL h1 g _ ?_))
 simp only[Array.toList_setIfInBounds]
 exact cP.set r _ j
theorem AWS.eK(h:AWE W n e ρ σ (λv z=>AWE W n o ρ z (λu D=>AWE W n i ρ D (λj y=>∃a xs x,nh y u=some (a,xs)/\j=.int x/\0<=x/\x<2^60/\x<xs.length/\
  AWS W n k ρ (y.set a (.list true (xs.set x.toNat v))) Q E) b7) b7) b7):AWS W n (.eK o i e k) ρ σ Q E:=by
 intro C s st K hm I
 refine FP hm λov iv p v q r m1 m2 m3 hc m4=>?_
 refine dC.cons (P:=λρ' bw=>AWS W n k ρ' bw Q E) K m4 ?_ λZ Z x=>x
 with_reducible refine wpAny_Assign_Subscript (aK (h.DY K m3 I) (λva Y G=>?_) λZ Z x=>x) (jS hc)
 obtain⟨a,z,ra,O,G⟩:=G
 with_reducible refine aK (G.Ba K m1 O) (λvb yJ H=>?_) λZ Z x=>x
 obtain⟨b,D,rb,U,S,H⟩:=H
 with_reducible refine aK (H.Ba K m2 U) (λvc Fx L=>?_) λZ Z x=>x
 obtain⟨c,y,rc,V,S',a',xs,x,e1,rfl,g0,g1,g2,L⟩:=L
 obtain⟨rfl,e2⟩:=pj e1
 cases rb;cases rc
 with_reducible refine tv V e2 g0 g1 g2 (S'.vr K U (S.vr K O ra)) λs' J=>?_
 exact⟨_,_,J,L⟩
theorem Mv{ov j new:Value}:augStore i ov j new=cond (AP i).isSome (augStore i ov j new) (do holding [new,ov,j] (setItem ov j new);release [new,ov,j] [];pure .next):=by cases i<;>rfl
theorem tw(hm:mE sc c i=true)(ov j new:Value):augStore i ov j new=(do holding [new,ov,j] (setItem ov j new);release [new,ov,j] [];pure .next):=Ll Mv (OG hm)
theorem AWS.jx(G:GF W)(h:AWE W n o ρ σ (λu H=>AWE W n i ρ H (λj z=>∃y,cw z u j=some y/\AWE W n e ρ z (λv D=>∃w a xs x,fA op y v=some w/\nh D u=some (a,xs)/\
  j=.int x/\0<=x/\x<2^60/\x<xs.length/\AWS W n k ρ (D.set a (.list true (xs.set x.toNat w))) Q E) b7) b7) b7):AWS W n (.jx o i op e k) ρ σ Q E:=by
 intro C s st K hm I
 refine FT hm λov iv p v q r m1 m2 m3 m4=>?_
 refine dC.cons (P:=λρ' bw=>AWS W n k ρ' bw Q E) K m4 ?_ λZ Z x=>x
 with_reducible refine wpAny_AugAssign_SubscriptAny (aK (h.DY K m1 I) (λva qw L=>?_) λZ Z x=>x) (tw m2)
 obtain⟨a,H,ra,Y,L⟩:=L
 with_reducible refine aK (L.Ba K m2 Y) (λvb yJ O=>?_) λZ Z x=>x
 obtain⟨b,z,rb,U,S,y,ey,O⟩:=O
 with_reducible refine aK (FC U.objs (S.vr K Y ra) rb ey).2 (λold Fx c=>?_) λZ Z x=>x
 obtain⟨ry,rfl⟩:=c
 with_reducible refine aK (O.Ba K m3 U) (λvc Fx V=>?_) λZ Z x=>x
 obtain⟨c,D,rc,yO,S',w,a',xs,x,ew,e1,rfl,g0,g1,g2,V⟩:=V
 obtain⟨rfl,e2⟩:=pj e1
 cases ra;cases rb
 with_reducible refine aK (A3 (K.Fn G yO) ew (S'.vr K U ry) rc) (λr FW c=>?_) λZ Z x=>x
 obtain⟨cr,t',rfl⟩:=c
 with_reducible refine tv (yO.tok t') e2 g0 g1 g2 (cr _) λs' J=>?_
 exact⟨_,_,J,V⟩
def setTs:Loc->List Nat->List AV->Loc
 | ρ,i::is,v::vs=>setTs (Lake.setL ρ i v) is vs
 | ρ,_,_=>ρ
theorem yP(h:Ir sc (i::is) es=true):∃x p r,es=.Name x p::r/\iF sc i x=true/\Ir sc is r=true:=by
 cases es with
 | nil=>exact ff h
 | cons e r=>
  obtain⟨x,hx,h⟩:=bu h
  rw[fC hx]
  exact⟨_,_,_,rfl,(bC h).1,(bC h).2⟩
theorem FX:∀{es:List Expr},Ir sc is es=true->∀env,(assignEach es env).length=is.length/\(assignEach es env).findIdx? (·.1)=Option.none:=by
 induction is with
 | nil=>intro es h env;rw[List.isEmpty_iff.mp h];exact⟨rfl,rfl⟩
 | cons i is j=>
  intro es h env
  obtain⟨x,p,r,rfl,_,h⟩:=yP h
  have z:=j h env
  refine⟨ae (·+1) z.1,?_⟩
  show List.findIdx? _ (_::_)=_
  rw[List.findIdx?_cons]
  simp[z.2]
theorem Bc(K:eO W n C):∀{es:List Expr}{vs:List Value}{l:List AV}{ρ:Loc}{s:Shared}{R:Unit->Shared->Prop}{E:Value->Shared->Prop},Ir C.env.scope is es=true->Inv W C ρ σ s->eN s.heap vs l->is.length=l.length->
  (∀s',Inv W C (setTs ρ is l) σ s'->R () s')->wpAny W.M C.A (assignInOrder ((assignEach es C.env).map (·.2)) vs) R E s:=by
 induction is with
 | nil=>
  intro es vs l ρ s R E h I r hl q
  rw[List.isEmpty_iff.mp h]
  cases r with
  | nil=>exact aR (q s I)
  | cons _ _=>cases hl
 | cons i is j=>
  intro es vs l ρ s R E h I r hl q
  obtain⟨x,p,es,rfl,h1,h2⟩:=yP h
  cases r with
  | nil=>cases hl
  | cons z r=>
   rename_i w av vs l
   have e1:assignInOrder ((assignEach (.Name x p::es) C.env).map (·.2)) (w::vs)=(do holding vs (assign (.Name x p) C.env w);assignInOrder ((assignEach es C.env).map (·.2)) vs):=rfl
   rw[e1]
   with_reducible refine aQ (wpAny_holding (PyProof.Rows.assign_Name (iJ K I h1 z λs' J kp=>?_)))
   exact j h2 J (r.imp λa b y=>y.bK λa o e k=>kp a o e λhf=>absurd (Or.inr (Or.inl hf)) (I.fb K e k)) (Nat.succ.inj hl) q
end
set_option backward.match.sparseCases true
section
variable{W:Wd}{n:Nat}{ρ ρ':Loc}{σ:Hp}{Q:f6->Loc->Hp->Prop}{E:Cx->Value->Shared->Prop}
theorem eO.hh(K:eO W n C):C.A.handled=Option.none:=K.a.1
theorem tx{R:Unit->Shared->Prop}{E:Value->Shared->Prop}(K:eO W n C)(I:Inv W C ρ σ s)(h:Ir C.env.scope is i=true)(r:VR s.heap w (.cn l))
  (hl:is.length=l.length) (q:∀s',Inv W C (setTs ρ is l) σ s'->R () s'):wpAny W.M C.A (assign (.Tuple i c p) C.env w) R E s:=by
 obtain⟨a,items,m,rfl,h1,h2⟩:=r.iu
 obtain⟨e1,e2⟩:=FX h C.env
 have j:s.heap.IsTuple a items:=⟨_,h1,rfl,m,rfl⟩
 have z:items.size=l.length:=by simpa using h2.length
 refine wpAny_assign_Tuple K.hh j (by rw[e1,hl,z]) e2 λh' hx=>?_
 have hk:∀b o,s.heap.get? b=some o->h'.get? b=some o:=λb o e=>hx b o (Nat.ne_of_lt (aB e)) e
 exact Bc K h (I.qr (s':={s with heap:=h'}) hk) (eN.bK h2 λa o e Z=>hk a o e) hl q
theorem Mw:swappedStores [.Tuple i c p] v env=cond (AM v) (swappedStores [.Tuple i c p] v env) (pure none):=by cases v<;>rfl
theorem AWS.o5{is:List Nat}(h:AWE W n e ρ σ (λv i=>∃l,v=.cn l/\is.length=l.length/\AWS W n k (setTs ρ is l) i Q E) b7):AWS W n (.o5 is e k) ρ σ Q E:=by
 intro C s st K hm I
 refine FL hm λy c p v q r G H hc ht L=>?_
 refine dC.cons (P:=λρ' bw=>AWS W n k ρ' bw Q E) K L ?_ λZ Z x=>x
 have hw:swappedStores [.Tuple y c p] v C.env=pure Option.none:=Ll Mw ht
 have hs:swapsWithSole [.Tuple y c p] v q.line C.env=pure false:=(jS (t:=some (.Tuple y c p)) hc:swapsWith v (some (.Tuple y c p)) q.line C.env=_)
 with_reducible refine wpAny_Assign_stores (aK (h.DY K H I) (λO D j=>?_) λZ Z x=>x) hs hw
 obtain⟨a,i,U,z,l,rfl,hl,j⟩:=j
 show wpAny W.M C.A (assign (.Tuple y c p) C.env O) _ _ _
 exact tx K z G U hl λs' J=>⟨_,_,J,j⟩
def yQ(a b c:Int):Option (List AV):=
 if -(2^40)<=a/\a<2^40/\-(2^40)<=b/\b<2^40 then
  (if c=1 then some ((List.range (b-a).toNat).map λ(i:Nat)=>AV.int (a+i))else if c=-1 then some ((List.range (a-b).toNat).map λ(i:Nat)=>AV.int (a-i))else none)
 else none
def bO(σ:Hp):AV->Option (List AV)
 | .ref a=>match σ a with
  | some (.list _ xs)=>some xs
  | _=>none
 | .cn l=>some l
 | .c8 a b c=>yQ a b c
 | _=>none
def vZ(h:Heap)(it:Addr)(v:AV)(xs:List AV)(i:Nat):Prop:=match v with
 | .ref l=>h.IsListIter it l i/\l≠it
 | .cn _=>∃t items,h.IsTupleIter it t i/\h.IsTuple t items/\eN h items.toList xs/\t≠it
 | .c8 a b c=>(c=1\/c=-1)/\IsRangeIter h it (a+(i:Nat)*c) ((xs.length:Int)-(i:Nat)) c/\∀j,j<xs.length->xs[j]? =some (.int (a+(j:Nat)*c))
 | _=>False
theorem yR(e:yQ a b c=some xs):(c=1\/c=-1)/\Builtin.Range.small a b c=true/\Builtin.Range.rangeSize a b c=xs.length/\∀j,j<xs.length->xs[j]? =some (.int (a+(j:Nat)*c)):=by
 unfold yQ at e
 split at e
 .rename_i hb
  split at e
  .rename_i hc;subst hc
   cases e
   refine⟨.inl rfl,small_one (Int.le_trans (by decide) hb.1) (ao hb.2.1 (by decide)) (Int.le_trans (by decide) hb.2.2.1) (ao hb.2.2.2 (by decide)),?_,λj i=>?_⟩
   .rw[rangeSize_nat];simp
   .simp only[aV,aW]at i
    rw[aF,List.getElem?_range i];simp
  .split at e
   .rename_i hc;subst hc
    cases e
    have e1:Builtin.Range.rangeSize a b (-1)=((a-b).toNat:Int):=by
     unfold Builtin.Range.rangeSize
     rw[ah (by lia)]
     split
     .rename_i h
      rw[show(- (-1:Int))=1 by rfl,Int.ediv_one,Int.sub_add_cancel,Int.toNat_of_nonneg (Int.sub_nonneg_of_le (Int.le_of_lt h))]
     .rename_i h
      rw[Int.toNat_of_nonpos (Int.sub_nonpos_of_le (Int.not_lt.mp h))];rfl
    refine⟨.inr rfl,?_,?_,λj i=>?_⟩
    .unfold Builtin.Range.small Builtin.Range.rangeFitsLong
     rw[e1]
     simp
     obtain⟨y,z,D,G⟩:=hb
     exact⟨⟨⟨⟨by omega,by omega⟩,by omega,by omega⟩,Int.le_trans (by decide) (Int.le_max_right _ _),Int.max_lt.mpr ⟨by omega,by decide⟩⟩,.inr ⟨by omega,by omega⟩⟩
    .rw[e1];simp
    .simp only[aV,aW]at i
     rw[aF,List.getElem?_range i];simp;lia
   .cases e
 .cases e
theorem vZ.keep{h h':Heap}(x:vZ h it v xs i)(k:∀o,h.get? it=some o->h'.get? it=some o)(kk:∀b o,h.get? b=some o->c9 o->h'.get? b=some o):vZ h' it v xs i:=by
 cases v with
 | ref l=>exact⟨x.1.at k,x.2⟩
 | cn l=>
  obtain⟨t,items,h1,h2,h3,y⟩:=x
  refine⟨t,items,h1.at k,h2.at λo e=>?_,h3.bK kk,y⟩
  obtain⟨o',j,hc,m,hd⟩:=h2
  rw[j]at e;cases e
  exact kk _ _ j (.inl ⟨hc,_,_,hd⟩)
 | c8 a b c=>exact⟨x.1,k _ x.2.1,x.2.2⟩
 | none=>exact x
 | bool _=>exact x
 | int _=>exact x
theorem qA(e:bO σ (.ref a)=some xs):∃w,σ a=some (.list w xs):=by
 unfold bO at e;dsimp only at e
 generalize hs:σ a=o at e
 cases o with
 | none=>exact cxO e rfl
 | some o=>cases o with
  | list w l=>exact⟨w,ae (λx=>some (AO.list w x)) (af e)⟩
  | _=>exact cxO e rfl
theorem v5{s:Shared}{E:Value->Shared->Prop}(ho:∀a o,σ a=some o->OR W s.heap a o)(r:VR s.heap D v)(e:bO σ v=some xs):
  wpAny W.M A (pyIter D) (λit s'=>it=.ref s.heap.objs.size/\(∃o,s'={s with heap:=s.heap.push o})/\vZ s'.heap s.heap.objs.size v xs 0) E s:=by
 cases(r)<;>first | (first | exact ff e | (cases e;done)) | skip
 case ref a=>
  obtain⟨w,hs⟩:=qA e
  obtain⟨items,m,g,j⟩:=fE (ho a _ hs)
  with_reducible refine wpAny_pyIter_list g.isList ⟨rfl,⟨_,rfl⟩,?_⟩
  exact⟨⟨_,Heap.get?_push_size _ rfl,rfl,rfl⟩,Nat.ne_of_lt (aB g)⟩
 case cn a items m l h1 h2 h3=>
  cases e
  obtain⟨y,i,G,e1,g,j⟩:=VR.iu (VR.cn a items m xs h1 h2 h3)
  have z:s.heap.IsTuple y i:=⟨_,g,rfl,G,rfl⟩
  rw[e1]
  with_reducible refine wpAny_pyIter_tuple z ⟨rfl,⟨_,rfl⟩,?_⟩
  exact⟨y,i,⟨_,Heap.get?_push_size _ rfl,rfl,rfl⟩,z.at λo e=>aA _ e,eN.bK j λb o e Z=>aA _ e,Nat.ne_of_lt (aB g)⟩
 case c8 I a b c t u v h1=>
  obtain⟨hc,hs,H,hx⟩:=yR e
  with_reducible refine wpAny_pyIter_range h1 hs ⟨rfl,⟨_,rfl⟩,?_⟩
  refine⟨hc,?_,hx⟩
  rw[H]
  show Heap.get? _ _=_
  rw[Heap.get?_push_size _ rfl]
  simp[rawInt]
theorem yS{s:Shared}{E:Value->Shared->Prop}{R:Option Value->Shared->Prop}(ho:∀a o,σ a=some o->OR W s.heap a o)(e:bO σ v=some xs)(S:vZ s.heap it v xs i)(hx:xs[i]? =some x)
  (q:∀w h' tk,VR s.heap w x->vZ h' it v xs (i+1)->Heap.SameBut it s.heap h'->R (some w) {s with heap:=h',toks:=tk}):wpAny W.M A (pyNext (.ref it)) R E s:=by
 cases v<;>first | (first | exact ff e | (cases e;done)) | skip
 case ref l=>
  obtain⟨S,G⟩:=S
  obtain⟨w,hs⟩:=qA e
  obtain⟨items,m,g,L⟩:=fE (ho l _ hs)
  obtain⟨y,hy,H⟩:=L.get hx
  with_reducible refine wpAny_pyNext_list_item S g.isList (x:=y) (by simpa using hy) λh' j z=>?_
  exact q y h' s.toks H ⟨j,G⟩ z
 case cn l=>
  cases e
  obtain⟨t,items,h1,h2,h3,J⟩:=S
  obtain⟨y,hy,H⟩:=h3.get hx
  with_reducible refine wpAny_pyNext_tuple_item h1 h2 (x:=y) (by simpa using hy) λh' j z=>?_
  have kk:∀b o,s.heap.get? b=some o->c9 o->h'.get? b=some o:=by
   intro b o hb hc
   refine(z.2 b ?_).trans hb
   rintro rfl
   obtain⟨o',D,I,_⟩:=h1
   rw[hb]at D;cases D
   rcases hc with ⟨hc,_⟩ | ⟨hc,_⟩<;>(rw[I]at hc;simp at hc)
  exact q y h' s.toks H ⟨t,items,j,h2.at λo e=>(z.2 t J).trans e,h3.bK kk,J⟩ z
 case c8 a b c=>
  obtain⟨hc,h1,h2⟩:=S
  have hi:i<xs.length:=(aS.mp hx).1
  have:=h2 i hi
  rw[hx]at this
  cases this
  with_reducible refine wpAny_pyNext_range_item h1 (by omega) λh' j z=>?_
  refine q _ h' _ (.int _ _) ⟨hc,?_,h2⟩ z
  have e1:a+((i+1:Nat):Int)*c=a+(i:Int)*c+c:=by push_cast;rw[Int.add_mul,Int.one_mul,Int.add_assoc]
  have e2:(xs.length:Int)-((i+1:Nat):Int)=(xs.length:Int)-(i:Int)-1:=by push_cast;lia
  rw[e1,e2];exact j
theorem Be{s:Shared}{E:Value->Shared->Prop}{R:Option Value->Shared->Prop}(hh:A.handled=Option.none)(ho:∀a o,σ a=some o->OR W s.heap a o)(e:bO σ v=some xs)(S:vZ s.heap it v xs xs.length)
  (q:∀h',Heap.ExtBut it s.heap h'->R Option.none {s with heap:=h'}):wpAny W.M A (pyNext (.ref it)) R E s:=by
 cases v<;>first | (first | exact ff e | (cases e;done)) | skip
 case ref l=>
  obtain⟨S,i⟩:=S
  obtain⟨w,hs⟩:=qA e
  obtain⟨items,m,g,j⟩:=fE (ho l _ hs)
  have z:items.size=xs.length:=by simpa using j.length
  with_reducible exact wpAny_pyNext_list_end hh S g.isList (by simp[z]) q
 case cn l=>
  cases e
  obtain⟨t,items,h1,h2,h3,y⟩:=S
  have z:items.size=xs.length:=by simpa using h3.length
  with_reducible exact wpAny_pyNext_tuple_end hh h1 h2 (by simp[z]) q
 case c8 a b c=>
  obtain⟨hc,h1,h2⟩:=S
  with_reducible exact wpAny_pyNext_range_end hh h1 (by lia) q
theorem rE{E:Value->Shared->Prop}(S:vZ s.heap it v xs i)(q:R () s):wpAny W.M A (letOwnedTupleGo t (.ref it) w) R E s:=by
 have key:∃o nm vs,s.heap.get? it=some o/\o.cls=.type nm/\o.data=.fields vs/\(["enumerate", "zip", "dict_itemiterator", "dict_reverseitemiterator", "odict_iterator", "itertools.zip_longest", "itertools.pairwise"].contains nm)=false:=by
  cases v<;>first | exact S.elim | skip
  case ref l=>obtain⟨⟨o,h1,h2,h3⟩,_⟩:=S;exact⟨o,_,_,h1,h2,h3,by decide⟩
  case cn l=>obtain⟨_,_,⟨o,h1,h2,h3⟩,_⟩:=S;exact⟨o,_,_,h1,h2,h3,by decide⟩
  case c8=>obtain⟨_,h1,_⟩:=S;exact⟨_,_,_,h1,rfl,rfl,by decide⟩
 obtain⟨o,nm,vs,h1,h2,h3,j⟩:=key
 have main:wpAny W.M A (match(Value.ref it),w with
  | .ref r,.ref a=>do
   let o <-load r
   match o.cls,o.data with
   | .type n,.fields vs=>
    if["enumerate", "zip", "dict_itemiterator", "dict_reverseitemiterator", "odict_iterator", "itertools.zip_longest", "itertools.pairwise"].contains n&&vs[0]? ==some (rawInt a)then do
     rule "for.unpacks-the-owned-tuple"
     updateField r 0 .none
    else pure ()
   | _,_=>pure ()
  | _,_=>pure ()) R E s:=by
  cases w<;>first | exact aR q | skip
  refine aQ (wpAny_load h1 ?_)
  rw[h2,h3]
  show wpAny _ A (if _ then _ else _) R E s
  rw[j,Bool.false_and,ah Bool.false_ne_true]
  exact aR q
 cases t<;>first | exact aR q | skip
 .cases w<;>first | exact aR q | exact main
 .cases w<;>first | exact aR q | exact main
end
set_option backward.match.sparseCases false
structure b0(W:Wd)(n:Nat)(E:Cx->Value->Shared->Prop):Prop where
 EZ:∃i:Cx->Value->Shared->Prop,(∀C e s,eO W n C->E C e s->notedBy W.M C.A C.env (i C) e s)/\(∀C e s,eO W n C->i C e s->cameBackBy W.M C.A C.env (E C) e s)
 fz:∀C ρ σ s e s',eO W n C->Inv W C ρ σ s->E (C.fz σ s) e s'->E C e s'
theorem b0.none:b0 W n λZ=>b7:=⟨⟨λZ=>b7,λZ Z Z Z h=>h.elim,λZ Z Z Z h=>h.elim⟩,λZ Z Z Z Z Z Z Z h=>h.elim⟩
@[reducible]def lq(W:Wd)(n:Nat)(k:CS)(Q:f6->Loc->Hp->Prop)(E:Cx->Value->Shared->Prop)(N:Loc->Hp->Prop)(o:f6)(ρ:Loc)(σ:Hp):Prop:=match o with
 | .next=>N ρ σ
 | .cont=>N ρ σ
 | .brk=>AWS W n k ρ σ Q E
 | .ret v=>Q (.ret v) ρ σ
section
variable{W:Wd}{n:Nat}{ρ ρ':Loc}{σ:Hp}{Q:f6->Loc->Hp->Prop}{E:Cx->Value->Shared->Prop}
theorem AWS.wh(N:b0 W n E)(J:Nat->Loc->Hp->Prop)(m:Nat)(h0:J m ρ σ)
  (h:∀m ρ σ,J m ρ σ->AWT W n c ρ σ (λt i=>if t then AWS W n b ρ i (lq W n k Q E λρ' bw=>∃O,O<m/\J O ρ' bw) E else AWS W n k ρ i Q E) b7):AWS W n (.E7 c b k) ρ σ Q E:=by
 intro C s st K hm I
 refine Jq hm λc' b' q r mc mb mk=>?_
 obtain⟨E',N1,N2⟩:=N.EZ
 refine dC.cons (P:=λρ' bw=>AWS W n k ρ' bw Q E) K mk ?_ λZ Z x=>x
 refine wpAny_While (codeAny_mono (R:=λr s'=>match r with
  | .ok f=>PF W C (λρ' bw=>AWS W n k ρ' bw Q E) Q f s'
  | .error e=>E' C e s') ?_ λr s' x=>?_)
 .refine codeAny_whileLoop (A:=C.A) (λm s=>∃ρ σ,J m ρ σ/\Inv W C ρ σ s) (λm s U=>?_) m ⟨ρ,σ,h0,I⟩
  obtain⟨ρ,σ,j,I⟩:=U
  refine aK ((h m ρ σ j).DY K mc I) (λt Y z=>?_) λZ Z x=>x
  obtain⟨i,G,z⟩:=z
  cases t
  .exact wpAny_execs_nil ⟨ρ,i,G,z⟩
  .refine aK (AWS.go z K mb G) (λf H y=>?_) λe H y=>N1 C e H K y
   obtain⟨o,ρ',bw,hf,D,y⟩:=y
   revert y
   exact hf.el (λU=>by obtain⟨O,L,V⟩:=U;exact⟨O,L,ρ',bw,V,D⟩) (λq=>⟨ρ',bw,D,q⟩) (λU=>by obtain⟨O,L,V⟩:=U;exact⟨O,L,ρ',bw,V,D⟩) λZ Z r q=>⟨.ret _,ρ',bw,r,D,q⟩
 .cases r with
  | error e=>exact N2 C e s' K x
  | ok f=>exact x
theorem Inv.Jv{h':Heap}(K:eO W n C)(I:Inv W C ρ σ s)(y:C.K a=none)(j:C.K2 a=none)(hf:¬FA C.env a)(hs:σ a=none)
  (z:∀o,s.heap.get? a=some o->¬c9 o) (k:∀b o,b≠a->s.heap.get? b=some o->h'.get? b=some o):Inv W C ρ σ {s with heap:=h',toks:=t}:=by
 have kk:∀b o,s.heap.get? b=some o->c9 o->h'.get? b=some o:=by
  intro b o hb hc
  refine k b o ?_ hb
  rintro rfl
  exact z o hb hc
 refine {I with
  keep:=λb o e=>k b o (λq=>by rw[q,y]at e;cases e) (I.keep b o e)
  eh:=λb o e=>e11 (I.eh b o e) λsl h1=>⟨sl,k b _ (λq=>by rw[q,j]at e;cases e) h1⟩
  objs:=λb o e=>(I.objs b o e).dJ (λob hb=>k b ob (λq=>by rw[q,hs]at e;cases e) hb) kk
  qp:=?_}
 obtain⟨m,F⟩:=I.qp
 refine⟨m,?_,F.len,λi x e=>(F.DN i x e).bK kk,λi x D e hk=>?_⟩
 .obtain⟨o,es,G,ho,r⟩:=F.ns
  exact⟨o,es,G,k _ _ (λe=>hf (.inl e.symm)) ho,r⟩
 .obtain⟨c,v,e1,e2,e3⟩:=F.cell i x D e hk
  refine⟨c,v,e1,?_,e3.bK kk⟩
  obtain⟨o,ho,hd⟩:=e2
  refine⟨o,k c o ?_ ho,hd⟩
  rintro rfl
  rcases hk with rfl | rfl
  .exact hf (.inr ⟨x,bF K.dh e,e1⟩)
  .exact K.free x c (bF K.dh e) e1 y
theorem vZ.fb(S:vZ h it v xs i):∃o,h.get? it=some o/\¬c9 o:=by
 have key:∃o nm,h.get? it=some o/\o.cls=.type nm/\nm≠ "tuple"/\nm≠ "range":=by
  cases v<;>first | exact S.elim | skip
  case ref l=>obtain⟨⟨o,h1,h2,h3⟩,_⟩:=S;exact⟨o,_,h1,h2,by decide,by decide⟩
  case cn l=>obtain⟨_,_,⟨o,h1,h2,h3⟩,_⟩:=S;exact⟨o,_,h1,h2,by decide,by decide⟩
  case c8=>obtain⟨_,h1,_⟩:=S;exact⟨_,_,h1,rfl,by decide,by decide⟩
 obtain⟨o,nm,h1,h2,h3,j⟩:=key
 refine⟨o,h1,?_⟩
 rintro(⟨hc,_⟩ | ⟨hc,_⟩)<;>(rw[h2]at hc;cases hc)
 .exact h3 rfl
 .exact j rfl
theorem Jw(I:Inv W C ρ σ s):C.K s.heap.objs.size=none/\C.K2 s.heap.objs.size=none/\¬FA C.env s.heap.objs.size:=by
 refine⟨?_,?_,?_⟩
 .cases h:C.K s.heap.objs.size with
  | none=>rfl
  | some o=>exact absurd (aB (I.keep _ _ h)) (aC _)
 .cases h:C.K2 s.heap.objs.size with
  | none=>rfl
  | some o=>obtain⟨sl,h'⟩:=I.eh _ _ h;exact absurd (aB h') (aC _)
 .obtain⟨m,F⟩:=I.qp
  rintro(q | ⟨x,hx,hc⟩)
  .have:=F.ns.lt;rw[<-q]at this;exact aC _ this
  .obtain⟨i,hi⟩:∃i:Nat,C.env.scope.names[i]? =some (x,.cell):=by
    have:=mem_of_lookup (show C.env.scope.names.lookup x=some .cell from hx)
    obtain⟨i,hi,e⟩:=aI this
    exact⟨i,by rw[aJ hi,e]⟩
   obtain⟨c,v,e1,⟨oc,e2,e3⟩,_⟩:=F.cell i x .cell hi (.inl rfl)
   rw[e1]at hc;cases hc
   exact aC _ (aB e2)
theorem Inv.D0(K:eO W n C)(I:Inv W C ρ σ s)(h:C.K a≠none)(hB:W.hB.get? a=none):σ a=none:=by
 cases e:σ a with
 | none=>rfl
 | some o=>
  cases ho:o.own with
  | true=>exact absurd (I.own a o e ho).1 h
  | false=>exact absurd hB (I.yv a o e ho)
def xp(is:List Nat)(ρ:Loc)(x:AV):Option Loc:=List.casesOn (motive:=λZ=>Option Loc) is none λi r=>List.casesOn (motive:=λZ=>Option Loc) r (some (Lake.setL ρ i x)) λj r=>
 AV.casesOn (motive_1:=λZ=>Option Loc) x none (λZ=>none) (λZ=>none) (λZ=>none) (λl=>if(i::j::r).length=l.length then some (setTs ρ (i::j::r) l)else none) λZ Z Z=>none
theorem sQ{P:Prop}(e:xp is ρ x=some y)(k:∀i,is=[i]->Lake.setL ρ i x=y->P)(q:∀i j r l,is=i::j::r->x=.cn l->(i::j::r).length=l.length->setTs ρ (i::j::r) l=y->P):P:=by
 cases is with
 | nil=>exact fo e
 | cons i r=>
  cases r with
  | nil=>exact k i rfl (af e)
  | cons j r=>
   cases x<;>first | exact fo e | skip
   rename_i l
   by_cases h:(i::j::r).length=l.length
   .exact q i j r l rfl rfl h (af ((ag h).symm.trans e))
   .exact fo ((ah h).symm.trans e)
theorem tA{R:Unit->Shared->Prop}{E:Value->Shared->Prop}(K:eO W n C)(I:Inv W C ρ σ s)(h:mT C.env.scope t G=true)(r:VR s.heap w x)(e:xp t ρ x=some y)
  (q:∀s',Inv W C y σ s'->R () s'):wpAny W.M C.A (assign G C.env w) R E s:=by
 refine sQ e (λi e1 e2=>?_) (λi j r l e1 e2 hl e3=>?_)
 .subst e1 e2
  obtain⟨z,D,h⟩:=bu h
  rw[fC D]
  with_reducible exact wpAny_assign_Name (iJ K I h r λs' J Z=>q s' J)
 .subst e1 e2 e3
  obtain⟨z,D,h⟩:=bu h
  rw[xg D]
  exact tx K I h r hl q
theorem Jx:foldedSetIterable i env x=cond (gy i) (foldedSetIterable i env x) (pure x):=by cases i<;>rfl
theorem qB(h:gy i=false):foldedSetIterable i env x=pure x:=Ll Jx h
end
structure QT(W:Wd)(C:Cx)(it:Addr):Prop where
 k:C.K it=none
 k2:C.K2 it=none
 f:¬FA C.env it
 b:W.hB.get? it=none
section
variable{W:Wd}{n:Nat}{ρ:Loc}{σ:Hp}{C:Cx}{s:Shared}{it:Addr}{v:AV}{xs:List AV}{A:Around}{R:Option Value->Shared->Prop}{E:Value->Shared->Prop}
theorem vZ.nk(S:vZ s.heap it v xs i)(o:Obj)(e:s.heap.get? it=some o):¬c9 o:=by
 obtain⟨o',g1,j⟩:=S.fb
 rw[g1]at e;cases e;exact j
theorem CY(K:eO W n C)(F:QT W C it)(I:Inv W C ρ σ s)(ev:bO σ v=some xs)(S:vZ s.heap it v xs i)(O:σ it=none)(hx:xs[i]? =some x)
  (q:∀w j,Inv W C ρ σ j->Inv W (C.fz σ j) ρ σ j->eO W n (C.fz σ j)->VR j.heap w x->vZ j.heap it v xs (i+1)->
   (∀H G y,Inv W (C.fz σ j) G y H->Inv W C G y H/\vZ H.heap it v xs (i+1)/\y it=none)->R (some w) j):wpAny W.M A (pyNext (.ref it)) R E s:=by
 refine yS I.objs ev S hx λw h' tk rw U hs=>?_
 have D:Inv W C ρ σ {s with heap:=h',toks:=tk}:=I.Jv K F.k F.k2 F.f O S.nk λb o hb e=>(hs.2 b hb).trans e
 have r':VR h' w x:=rw.bK λb o hb hc=>(hs.2 b λe=>S.nk o (e▸hb) hc).trans hb
 have V:Ii C σ {s with heap:=h',toks:=tk} it=h'.get? it:=sJ (by
  rintro(⟨o,e,_⟩ | e | e)
  .rw[O]at e;cases e
  .exact F.f e
  .exact e F.k2)
 obtain⟨oi,L,_⟩:=U.fb
 have Y:=K.fz D
 refine q w _ D D.fz Y r' U λH G y J=>⟨Inv.Fl K D J,?_,?_⟩
 .exact U.keep (λo e=>(L.symm.trans e)▸J.keep it oi (V.trans L)) λb o hb hc=>J.Fm b o hb (D.fb K hb hc)
 .exact J.D0 Y (λz=>nomatch (V.trans L).symm.trans z) F.b
theorem FY(hh:A.handled=Option.none)(K:eO W n C)(F:QT W C it)(I:Inv W C ρ σ s)(y:bO σ v=some xs)(S:vZ s.heap it v xs xs.length)(j:σ it=none)
  (q:∀i,Inv W C ρ σ i->R Option.none i):wpAny W.M A (pyNext (.ref it)) R E s:=
 Be hh I.objs y S λh' hs=>q _ (I.Jv (t:=s.toks) K F.k F.k2 F.f j S.nk λb o hb e=>hs b o hb e)
end
inductive S6(W:Wd)(C:Cx)(J:Nat->Loc->Hp->Prop)(it:Addr)(v:AV)(xs:List AV)(m:Nat)(s:Shared):Prop
 | mk (i:Nat) (ρ:Loc) (σ:Hp):J i ρ σ->Inv W C ρ σ s->vZ s.heap it v xs i->σ it=none->i<=xs.length->m=xs.length-i->S6 W C J it v xs m s
inductive TG(W:Wd)(n:Nat)(t:List Nat)(b:CS)(ρ:Loc)(x:AV)(σ:Hp)(R:f6->Loc->Hp->Prop)(E:Cx->Value->Shared->Prop):Prop
 | mk (i:Loc):xp t ρ x=some i->AWS W n b i σ R E->TG W n t b ρ x σ R E
inductive S7(W:Wd)(n:Nat)(t:List Nat)(b k:CS)(Q:f6->Loc->Hp->Prop)(E:Cx->Value->Shared->Prop)(v:AV)(xs:List AV)(J:Nat->Loc->Hp->Prop)(i:Nat)(ρ:Loc)(σ:Hp):Prop
 | mk:bO σ v=some xs->(i=xs.length->AWS W n k ρ σ Q E)->(∀x,xs[i]? =some x->TG W n t b ρ x σ (lq W n k Q E (J (i+1))) E)->S7 W n t b k Q E v xs J i ρ σ
inductive FR(W:Wd)(n:Nat)(t:List Nat)(b k:CS)(Q:f6->Loc->Hp->Prop)(E:Cx->Value->Shared->Prop)(ρ:Loc)(v:AV)(σ:Hp):Prop
 | mk (xs:List AV) (J:Nat->Loc->Hp->Prop):bO σ v=some xs->J 0 ρ σ->(∀i ρ σ,J i ρ σ->S7 W n t b k Q E v xs J i ρ σ)->FR W n t b k Q E ρ v σ
section
variable{W:Wd}{n:Nat}{ρ ρ':Loc}{σ:Hp}{Q:f6->Loc->Hp->Prop}{E:Cx->Value->Shared->Prop}
theorem AWS.fr(N:b0 W n E)(h:AWE W n it ρ σ (FR W n t b k Q E ρ) b7):AWS W n (.cb t it b k) ρ σ Q E:=by
 intro C s st K hm I
 refine Jr hm λt' i' b' q r mt mi RJ mb mk=>?_
 obtain⟨E',N1,N2⟩:=N.EZ
 refine dC.cons (P:=λρ' bw=>AWS W n k ρ' bw Q E) K mk ?_ λZ Z x=>x
 refine wpAny_For (aK (h.DY K mi I) (λva y L=>?_) λZ Z x=>x) λx=>qB RJ
 obtain⟨v,Lq,rv,z,L⟩:=L
 obtain⟨xs,J,ev,j0,hj⟩:=L
 refine aK (v5 z.objs rv ev) (λUd yJ D1=>?_) λZ Z x=>x
 obtain⟨rfl,⟨o,rfl⟩,S⟩:=D1
 obtain⟨f1,f2,f3⟩:=Jw z
 have fB:W.hB.get? y.heap.objs.size=none:=by
  cases hq:W.hB.get? y.heap.objs.size with
  | none=>rfl
  | some o=>have:=K.base _ _ hq;rw[f1]at this;cases this
 have f4:=z.fresh
 have F:QT W C y.heap.objs.size:=⟨f1,f2,f3,fB⟩
 have Mx:=z.push o
 generalize y.heap.objs.size=it at F f4 S ⊢
 refine codeAny_mono (R:=λr s'=>match r with
  | .ok f=>PF W C (λρ' bw=>AWS W n k ρ' bw Q E) Q f s'
  | .error e=>E' C e s') ?_ λr s' x=>?_
 rotate_left
 .cases r with
  | error e=>exact N2 C e s' K x
  | ok f=>exact x
 refine codeAny_forLoop_any (A:=C.A) (S6 W C J it v xs) (λm s' hh=>?_) xs.length ⟨0,ρ,Lq,j0,Mx,S,f4,Nat.zero_le _,rfl⟩
 refine hd λG un=>?_
 obtain⟨i,ρ,σ,j,I,S,OO,hi,hm⟩:=hh
 obtain⟨OP,My,FZ⟩:=hj i ρ σ j
 rcases ay i xs.length with O | hge
 .obtain⟨yT,et,hb⟩:=FZ _ (aJ O)
  refine un (CY K F I OP S OO (aJ O) λw y z If K' rw S' fin=>rE S' (tA (C:=C.fz σ y) K' If mt rw et λFW Mz=>?_))
  refine aK (AWS.go (C:=C.fz σ y) hb K' mb Mz) (λf U D=>?_) λe U D=>N1 C e U K (N.fz C _ _ _ e U K z D)
  obtain⟨o,ρ',bw,hf,Jy,D⟩:=D
  obtain⟨H,V,Y⟩:=fin _ _ _ Jy
  have lt:xs.length-(i+1)<m:=hm▸Nat.sub_succ_lt_self _ _ O
  revert D
  exact hf.el (λq=>⟨_,lt,i+1,ρ',bw,q,H,V,Y,O,rfl⟩) (λq=>⟨ρ',bw,H,q⟩) (λq=>⟨_,lt,i+1,ρ',bw,q,H,V,Y,O,rfl⟩) λZ Z r q=>⟨.ret _,ρ',bw,r,H,q⟩
 .have NS:=Nat.le_antisymm hi hge
  exact un (FY K.hh K F I OP (NS▸S) OO λy z=>wpAny_execs_nil ⟨ρ,σ,z,My NS⟩)
end
section
theorem tB{ps:List Str}(y:ps.Nodup){i:Nat}{v:Value}(h:ps[i]? =some x)(h':vs[i]? =some v):(ps.zip vs).lookup x=some v:=by
 induction ps generalizing vs i with
 | nil=>exact cxO h rfl
 | cons p ps z=>
  cases vs with
  | nil=>exact cxO h' rfl
  | cons w vs=>
   cases i with
   | zero=>cases(af h);cases(af h');exact List.lookup_cons_self
   | succ i=>
    have j:(x==p)=false:=aE.mpr λe=>(List.nodup_cons.mp y).1 (e▸aD h)
    rw[List.zip_cons_cons,List.lookup_cons,j]
    exact z (List.nodup_cons.mp y).2 h h'
theorem vf{ps:List Str}(f:Str->Option Value)(hl:vs.length=ps.length)(h:∀(i:Nat)(x:Str)(v:Value),ps[i]? =some x->vs[i]? =some v->f x=some v):ps.filterMap (λn=>(f n).map (n,·))=ps.zip vs:=by
 induction ps generalizing vs with
 | nil=>rfl
 | cons p ps j=>
  cases vs with
  | nil=>exact absurd hl (Nat.succ_ne_zero _).symm
  | cons w vs=>
   rw[List.filterMap_cons,h 0 p w rfl rfl]
   exact ae ((p,w)::·) (j (Nat.succ.inj hl) λi x v h1 h2=>h (i+1) x v h1 h2)
theorem iK(hp:mq fd.params=true)(hd:fd.defaults=.none)(j:(bQ fd.params).Nodup)(hl:vs.length=(bQ fd.params).length):
  bindArgs fd ⟨vs,[]⟩=pure ((bQ fd.params).zip vs):=by
 obtain⟨name,qualname,⟨po,args,I,J,L,kw,O⟩,body,scope,globals,closure,defaults,kwdefaults,doc,pyModule,code,builtins⟩:=fd
 have G:=bC hp;have y:=bC G.1;have H:=bC y.1;have z:=bC H.1;have D:=bC z.1
 cases(List.isEmpty_iff.mp D.1);cases(Option.isNone_iff_eq_none.mp D.2);cases(List.isEmpty_iff.mp z.2);cases(Option.isNone_iff_eq_none.mp y.2)
 cases hd
 have hm:∀n,n∈List.map (λx=>x.arg) args->¬(List.lookup n ((List.map (λx=>x.arg) args).zip vs)).isNone=true:=λn hx e=>by
  obtain⟨i,hi,q⟩:=aI hx
  exact ff ((ae Option.isNone (tB j ((aJ hi).trans (ae some q)) (aJ (Nat.lt_of_lt_of_eq hi hl.symm)))).symm.trans e)
 have hb:=vf _ hl λi x v h1 h2=>tB j h1 h2
 have e2:List.filter (λn=>(List.lookup n ((List.map (λx=>x.arg) args).zip vs)).isNone) (List.take ((List.map (λx=>x.arg) args).length-(List.drop (([]:List Value).length-(List.map (λx=>x.arg) args).length) ([]:List Value)).length) (List.map (λx=>x.arg) args))=[]:=by
  rw[List.drop_nil];exact(ae _ aX).trans (List.filter_eq_nil_iff.mpr hm)
 refine(ah (c:=(decide (vs.length>(List.map (λx=>x.arg) args).length)&&true)=true) λh=>aC _ (Nat.lt_of_lt_of_eq (aY (bC h).1) hl)).trans ?_
 refine(ah (c:=(!(List.filter (λn=>(List.lookup n ((List.map (λx=>x.arg) args).zip vs)).isNone) (List.take ((List.map (λx=>x.arg) args).length-(List.drop (([]:List Value).length-(List.map (λx=>x.arg) args).length) ([]:List Value)).length) (List.map (λx=>x.arg) args))).isEmpty)=true) λh=>ff (P:=False) (((ae (λl:List Str=>!l.isEmpty) e2).symm.trans h:(![].isEmpty)=true))).trans ?_
 refine(ae (λl:List (Str × Value)=>bind (m:=Sem) (forIn l _ _) _) ((ae (List.zip _) (List.drop_nil (i:=([]:List Value).length-(List.map (λx=>x.arg) args).length))).trans List.zip_nil_right)).trans ?_
 exact ae (pure (f:=Sem)) ((ae (List.filterMap _) (aZ _)).trans hb)
theorem tC(h:bz f H m c=true):∃nm a b sc,nC[f]? =some (nm,a,b,sc)/\mS sc c b=true/\mq a=true/\gZ sc 0 (bQ a)=true/\cY sc.names=true/\AR sc=true/\
  sc.kind=.function/\sc.isGenerator=false/\sc.isCoroutine=false/\(bQ a).length=H/\sc.names.length=m:=by
 obtain⟨⟨nm,a,b,sc⟩,e,h⟩:=bu h
 have h1:=bC h;have h2:=bC h1.1;have h3:=bC h2.1;have i:=bC h3.1;have j:=bC i.1;have y:=bC j.1;have z:=bC y.1;have D:=bC z.1;have G:=bC D.1
 exact⟨nm,a,b,sc,e,G.1,G.2,D.2,z.2,y.2,az.mp j.2,hW i.2,hW h3.2,az.mp h2.2,az.mp h1.2⟩
theorem fI(hp:gZ sc k ps=true)(h:ps[i]? =some x):∃j,sc.names[k+i]? =some (x,j)/\(j=.local\/j=.cell):=by
 induction ps generalizing k i with
 | nil=>exact cxO h rfl
 | cons p ps y=>
  cases i with
  | zero=>
   cases(af h)
   obtain⟨j,e,h⟩:=jN (bC hp).1
   exact⟨j,e,k2 h⟩
  | succ i=>
   have:=y (bC hp).2 h
   rwa[Nat.add_right_comm]at this
theorem rG(j:cY sc.names=true)(hp:gZ sc k ps=true):ps.Nodup:=by
 induction ps generalizing k with
 | nil=>exact List.nodup_nil
 | cons p ps y=>
  refine List.nodup_cons.mpr ⟨λhm=>?_,y (bC hp).2⟩
  obtain⟨i,hi,e⟩:=aI hm
  obtain⟨k1,e1,_⟩:=fI hp (i:=0) (x:=p) rfl
  obtain⟨k2,e2,_⟩:=fI (bC hp).2 (i:=i) (x:=p) ((aJ hi).trans (ae some e))
  have:=eU j e1 e2
  rw[Nat.add_right_comm,Nat.add_assoc]at this
  exact absurd (Nat.add_left_cancel this).symm (Nat.succ_ne_zero i)
theorem Ue{α β:Type}[Decidable c]{f g:α->β}{x:α}(h:f x=g x):(if c then f else g) x=g x:=by
 by_cases q:c
 .rw[ag q];exact h
 .rw[ah q]
theorem S8{α β:Type}[Decidable c]{f g:α->β}{x:α}(q:c):(if c then f else g) x=f x:=congrFun (ag q) x
theorem S9{α β:Type}[Decidable c]{f g:α->β}{x:α}(q:¬c):(if c then f else g) x=g x:=congrFun (ah q) x
theorem Ug{α β:Type}[Decidable c]{f g:α->β}{x:α}(h:g x=f x):(if c then f else g) x=f x:=by
 by_cases q:c
 .exact S8 q
 .exact(S9 q).trans h
theorem qC(h:∀b∈bs,b.1≠x):bindL k bs m x=m x:=by
 induction bs generalizing m with
 | nil=>rfl
 | cons b r i=>exact(i λb hb=>h b (.tail _ hb)).trans (Ue (ah (Ne.symm (h b (.head _)))))
theorem my(hk:k x=some .local){ps:List Str}(j:ps.Nodup){i:Nat}(h:ps[i]? =some x)(h':vs[i]? =some v):bindL k (ps.zip vs) m x=some v:=by
 induction ps generalizing vs i m with
 | nil=>exact cxO h rfl
 | cons p ps y=>
  cases vs with
  | nil=>exact cxO h' rfl
  | cons w vs=>
   cases i with
   | zero=>
    cases(af h);cases(af h')
    exact(qC λb hb e=>(List.nodup_cons.mp j).1 ((show b.1=x from e)▸(List.of_mem_zip hb).1)).trans ((S8 hk).trans (ag rfl))
   | succ i=>exact y (List.nodup_cons.mp j).2 h h'
theorem qD(h:∀b∈bs,b.1≠x):bindC k bs m x=m x:=by
 induction bs generalizing m with
 | nil=>rfl
 | cons b r i=>exact(i λb hb=>h b (.tail _ hb)).trans (Ug (ah (Ne.symm (h b (.head _)))))
theorem v7(hk:k x=some .cell){ps:List Str}(j:ps.Nodup){i:Nat}(h:ps[i]? =some x)(h':vs[i]? =some v):bindC k (ps.zip vs) m x=some v:=by
 induction ps generalizing vs i m with
 | nil=>exact cxO h rfl
 | cons p ps y=>
  cases vs with
  | nil=>exact cxO h' rfl
  | cons w vs=>
   cases i with
   | zero=>
    cases(af h);cases(af h')
    exact(qD λb hb e=>(List.nodup_cons.mp j).1 ((show b.1=x from e)▸(List.of_mem_zip hb).1)).trans ((S9 (by rw[hk];decide)).trans (ag rfl))
   | succ i=>exact y (List.nodup_cons.mp j).2 h h'
theorem vg(h:(acc.lookup x).isSome=true):((cellsFrom n names acc).lookup x).isSome=true:=by
 induction names generalizing n acc with
 | nil=>exact h
 | cons p r i=>
  show((if(p.2==NameKind.cell)=true then cellsFrom (n+1) r ((p.1,n)::acc)else cellsFrom n r acc).lookup x).isSome=true
  by_cases q:(p.2==NameKind.cell)=true
  .rw[ag q];refine i ?_
   rw[List.lookup_cons]
   cases(x==p.1)
   .exact h
   .rfl
  .rw[ah q];exact i h
theorem gU(h:(x,NameKind.cell)∈names):((cellsFrom n names acc).lookup x).isSome=true:=by
 induction names generalizing n acc with
 | nil=>exact absurd h a7
 | cons p r i=>
  show((if(p.2==NameKind.cell)=true then cellsFrom (n+1) r ((p.1,n)::acc)else cellsFrom n r acc).lookup x).isSome=true
  by_cases q:(p.2==NameKind.cell)=true
  .rw[ag q]
   rcases a8.mp h with e | h
   .cases(ae Prod.fst e)
    refine vg ?_
    rw[List.lookup_cons_self];rfl
   .exact i h
  .rw[ah q]
   rcases a8.mp h with e | h
   .exact absurd (az.mpr (ae Prod.snd e).symm) q
   .exact i h
theorem cC(j:cY l=true)(h:l.lookup x=some k):∃i:Nat,l[i]? =some (x,k):=by
 have:=mem_of_lookup h
 obtain⟨i,hi,e⟩:=aI this
 exact⟨i,by rw[aJ hi,e]⟩
section
open Classical
variable{W:Wd}{n:Nat}{ρ ρ':Loc}{σ:Hp}
def pk(C:Cx)(σ:Hp)(s:Shared)(env:Env):Addr->Option Obj:=λb=>
 if(∃o,σ b=some o/\o.own=true)\/b=C.env.locals\/C.K2 b≠none\/FA env b then none else s.heap.get? b
def jg(C:Cx)(s:Shared):Addr->Option Obj:=λb=>
 if b=C.env.locals\/C.K2 b≠none then s.heap.get? b else none
abbrev Cx.v8(C:Cx)(σ:Hp)(s:Shared)(env:Env)(A:Around)(fr:List Env):Cx:={K:=pk C σ s env,K2:=jg C s,A:=A,env:=env,fr:=fr}
def F0(C:Cx)(s:Shared)(env:Env):Prop:=∀a,FA env a->s.heap.get? a=none\/(FA C.env a/\a≠C.env.locals)
theorem jT(h:(∃o,σ b=some o/\o.own=true)\/b=C.env.locals\/C.K2 b≠none\/FA env b):pk C σ s env b=none:=by unfold pk;rw[ag h]
theorem pn(h:¬((∃o,σ b=some o/\o.own=true)\/b=C.env.locals\/C.K2 b≠none\/FA env b)):pk C σ s env b=s.heap.get? b:=by unfold pk;rw[ah h]
theorem qE(h:pk C σ s env b=some o):s.heap.get? b=some o:=by
 by_cases q:(∃o,σ b=some o/\o.own=true)\/b=C.env.locals\/C.K2 b≠none\/FA env b
 .rw[jT q]at h;cases h
 .rwa[pn q]at h
theorem iB(h:b=C.env.locals\/C.K2 b≠none):jg C s b=s.heap.get? b:=by unfold jg;rw[ag h]
theorem ku(h:¬(b=C.env.locals\/C.K2 b≠none)):jg C s b=none:=by unfold jg;rw[ah h]
theorem iL(h:jg C s b=some o):(b=C.env.locals\/C.K2 b≠none)/\s.heap.get? b=some o:=by
 by_cases q:b=C.env.locals\/C.K2 b≠none
 .exact⟨q,by rwa[iB q]at h⟩
 .rw[ku q]at h;cases h
theorem FA.v9(I:Inv W C ρ σ s)(h:FA C.env a):∃o,s.heap.get? a=some o/\(a=C.env.locals->∃es n,o.data=.dict es n):=by
 obtain⟨m,F⟩:=I.qp
 obtain⟨ol,es,j,h1,h2,_⟩:=F.ns
 rcases h with rfl | ⟨x,hx,hc⟩
 .exact⟨ol,h1,λZ=>⟨es,j,h2⟩⟩
 .obtain⟨i,hi⟩:∃i:Nat,C.env.scope.names[i]? =some (x,.cell):=by
   have:=mem_of_lookup (show C.env.scope.names.lookup x=some .cell from hx)
   obtain⟨i,hi,e⟩:=aI this
   exact⟨i,by rw[aJ hi,e]⟩
  obtain⟨c,v,e1,⟨oc,e2,e3⟩,_⟩:=F.cell i x .cell hi (.inl rfl)
  rw[e1]at hc;cases hc
  refine⟨oc,e2,λq=>?_⟩
  rw[q,h1]at e2;cases e2
  exact⟨es,j,h2⟩
theorem lz(K:eO W n C)(I:Inv W C ρ σ s)(i:F0 C s env)(h:C.K b=some o):pk C σ s env b=some o:=by
 rw[pn,I.keep b o h]
 rintro(⟨o',e,ho⟩ | q | q | q)
 .rw[(I.own b o' e ho).1]at h;cases h
 .rw[(K.fa b (.inl q)).1]at h;cases h
 .rw[K.kk b q]at h;cases h
 .rcases i b q with q | ⟨q,_⟩
  .rw[I.keep b o h]at q;cases q
  .rw[(K.fa b q).1]at h;cases h
theorem Inv.D2{C:Cx}{s s':Shared}{env:Env}{A:Around}{fr:List Env}{bw:Hp}{y:Loc}(K:eO W n C)(I:Inv W C ρ σ s)(G:F0 C s env)(J:Inv W (C.v8 σ s env A fr) y bw s')
  (z:∀i x c,C.env.scope.names[i]? =some (x,.cell)->C.env.cells.lookup x=some c->FA env c->∃v,s'.heap.IsCell c v/\EY s'.heap v (getL ρ i)):Inv W C ρ bw s':=by
 have kk:∀b o,s.heap.get? b=some o->c9 o->s'.heap.get? b=some o:=by
  intro b o hb hc
  have:=I.fb K hb hc
  refine J.keep b o ((pn ?_).trans hb)
  rintro(q | q | q | q)
  .exact this (.inl q)
  .exact this (.inr (.inl (.inl q)))
  .exact this (.inr (.inr q))
  .rcases G b q with q | ⟨q,_⟩
   .rw[hb]at q;cases q
   .exact this (.inr (.inl q))
 have k2:∀b,(b=C.env.locals\/C.K2 b≠none)->∀o,s.heap.get? b=some o->∃sl,s'.heap.get? b=some {o with slots:=sl}:=λb q o hb=>J.eh b o ((iB q).trans hb)
 have D:∀a,FA C.env a->a≠C.env.locals->¬FA env a->pk C σ s env a=s.heap.get? a:=by
  intro a H j L
  refine pn ?_
  rintro(⟨o,e,ho⟩ | q | q | q)
  .exact(I.own a o e ho).2.2 H
  .exact j q
  .exact q (K.fa a H).2
  .exact L q
 refine {keep:=λb o e=>J.keep b o (lz K I G e),eh:=λb o e=>?_,objs:=J.objs,own:=λa o e ho=>?_,yv:=J.yv,qp:=?_,gens:=J.gens,os:=J.os}
 .obtain⟨sl,h1⟩:=I.eh b o e
  obtain⟨O,h2⟩:=k2 b (.inr (λh=>nomatch e.symm.trans h)) _ h1
  exact⟨O,h2⟩
 .obtain⟨h1,h2,h3⟩:=J.own a o e ho
  refine⟨?_,?_,λhf=>?_⟩
  .cases q:C.K a with
   | none=>rfl
   | some o'=>rw[show(C.v8 σ s env A fr).K a=pk C σ s env a from rfl,lz K I G q]at h1;cases h1
  .cases q:C.K2 a with
   | none=>rfl
   | some o'=>
    obtain⟨sl,g1⟩:=I.eh a o' q
    rw[show(C.v8 σ s env A fr).K2 a=jg C s a from rfl,iB (.inr (by rw[q];exactλh=>nomatch h)),g1]at h2
    cases h2
  .obtain⟨og,U,_⟩:=FA.v9 I hf
   by_cases j:a=C.env.locals
   .rw[show(C.v8 σ s env A fr).K2 a=jg C s a from rfl,iB (.inl j),U]at h2;cases h2
   .rw[show(C.v8 σ s env A fr).K a=pk C σ s env a from rfl,D a hf j h3,U]at h1;cases h1
 .obtain⟨m,F⟩:=I.qp
  refine⟨m,?_,F.len,λi x e=>(F.DN i x e).bK kk,λi x V e hk=>?_⟩
  .obtain⟨o,es,Y,ho,hd,r⟩:=F.ns
   obtain⟨sl,h2⟩:=k2 _ (.inl rfl) o ho
   exact⟨_,es,Y,h2,hd,r⟩
  .obtain⟨c,v,e1,e2,e3⟩:=F.cell i x V e hk
   have plain:pk C σ s env c=s.heap.get? c->∃c v,C.env.cells.lookup x=some c/\s'.heap.IsCell c v/\EY s'.heap v (getL ρ i):=by
    intro hc
    refine⟨c,v,e1,?_,e3.bK kk⟩
    obtain⟨o,ho,hd⟩:=e2
    exact⟨o,J.keep c o (hc.trans ho),hd⟩
   rcases hk with rfl | rfl
   .have H:FA C.env c:=.inr ⟨x,bF K.dh e,e1⟩
    by_cases hf:FA env c
    .obtain⟨v',h1,h2⟩:=z i x c e e1 hf
     exact⟨c,v',e1,h1,h2⟩
    .exact plain (D c H (K.s9 x c (bF K.dh e) e1) hf)
   .cases q:C.K c with
    | none=>exact absurd q (K.free x c (bF K.dh e) e1)
    | some o'=>
     have q2:=lz K I G q
     exact plain (q2.trans (I.keep c o' q).symm)
section
variable{C:Cx}{s:Shared}{env:Env}
theorem tD(I:Inv W C ρ σ s):∃o,s.heap.get? C.env.locals=some o/\∃es n,o.data=.dict es n:=
 (FA.v9 I (.inl rfl)).elim λo h=>⟨o,h.1,h.2 rfl⟩
theorem CZ(K:eO W n C)(I:Inv W C ρ σ s)(j:jg C s a=some o):∃es n,o.data=.dict es n:=by
 obtain⟨q,i⟩:=iL j
 rcases q with rfl | q
 .obtain⟨o',h1,h2⟩:=tD I
  rw[i]at h1;cases h1;exact h2
 .obtain⟨o',q⟩:=Option.ne_none_iff_exists'.mp q
  obtain⟨sl,h1⟩:=I.eh a o' q
  rw[i]at h1;cases h1
  exact K.Mh a o' q
theorem F1(i:jg C s a≠none):pk C σ s env a=none:=by
 obtain⟨o,q⟩:=Option.ne_none_iff_exists'.mp i
 exact jT (.inr ((iL q).1.imp_right .inl))
theorem Bf(I:Inv W C ρ σ s)(h:L=C.env.locals\/∃o,C.K2 L=some o/\∀vs,o.data≠.fields vs):∃o,jg C s L=some o/\∀vs,o.data≠.fields vs:=by
 rcases h with rfl | ⟨o,i,j⟩
 .obtain⟨o',g1,es,n,y⟩:=tD I
  exact⟨o',(iB (.inl rfl)).trans g1,λvs q=>nomatch y.symm.trans q⟩
 .obtain⟨sl,g1⟩:=I.eh L o i
  exact⟨_,(iB (.inr λz=>nomatch i.symm.trans z)).trans g1,j⟩
theorem pq(h:s.heap.get? a=none):pk C σ s env a=none/\jg C s a=none:=by
 constructor
 .cases q:pk C σ s env a with
  | none=>rfl
  | some o=>exact nomatch h.symm.trans (qE q)
 .cases q:jg C s a with
  | none=>rfl
  | some o=>exact nomatch h.symm.trans (iL q).2
end
end
end
def CALL(W:Wd)(n f:Nat)(l:List AV)(σ:Hp)(Q:AV->Hp->Prop)(E:Cx->Value->Shared->Prop):Prop:=
 ∀C ρ s vs,eO W n C->Inv W C ρ σ s->eN s.heap vs l->codeAny W.M C.A (.call (.ref (W.gi.fn f)) ⟨vs,[]⟩) (λr s'=>match r with
  | .ok (.ret v)=>PV W C ρ Q v s'
  | .ok _=>False
  | .error e=>E C e s') s
def initLoc(m:Nat)(l:List AV):Loc:=l.map some++List.replicate (m-l.length) none
theorem tE(ρ:Loc)(i:Nat):getL ρ i=(show List (Option AV)from ρ)[i]?.join:=by
 induction ρ generalizing i with
 | nil=>rfl
 | cons x r j=>
  cases i with
  | zero=>cases x<;>rfl
  | succ i=>exact j i
def jy(W:Wd)(n:Nat)(y E:Cx->Value->Shared->Prop):Prop:=
 ∀C ρ σ s env e s',eO W (n+1) C->Inv W C ρ σ s->F0 C s env->eO W n (C.v8 σ s env (C.A.deeper env) (env::C.fr))->y (C.v8 σ s env (C.A.deeper env) (env::C.fr)) e s'->
  (∀(s':Shared)(i:Nat)(x:Str)(c:Addr),C.env.scope.names[i]? =some (x,.cell)->C.env.cells.lookup x=some c->FA env c->∃v,s'.heap.IsCell c v/\EY s'.heap v (getL ρ i))->wpAny W.M (C.A.deeper env) (leaving env e) (λZ j=>E C e j) (λe j=>E C e j) s'
theorem jy.none:jy W n (λZ=>b7) E:=λZ Z Z Z Z Z Z Z Z Z Z h Z=>h.elim
section
variable{W:Wd}{n:Nat}{ρ ρ':Loc}{σ:Hp}
theorem xq(h:AR sc=true){i:Nat}(e:sc.names[i]? =some (x,k)):k=.local\/k=.cell\/k=.globalImplicit:=by
 have:=aM.mp h (x,k) (aD e)
 simpa[or_assoc]using this
theorem CALL.body(G:GF W){f np m:Nat}{c:CS}{l:List AV}{Q:AV->Hp->Prop}{E E':Cx->Value->Shared->Prop}(hc:bz f np m c=true)(hl:l.length=np)(L:jy W n E' E)
  (h:AWS W n c (initLoc m l) σ (λo ρ' bw=>match o with | .ret v=>Q v bw | .next=>Q .none bw | _=>False) E'):CALL W (n+1) f l σ Q E:=by
 intro C ρ s vs K I rv
 obtain⟨nm,a,b,sc,ef,hm,OQ,OS,D,OT,H,Bg,Bh,OU,OV⟩:=tC hc
 obtain⟨o,fd,ho,hd,F,NT⟩:=G.fns f nm a b sc ef
 have kb:∀b o,W.hB.get? b=some o->s.heap.get? b=some o:=λb o e=>I.keep b o (K.base b o e)
 have F2:=rG D OS
 have RK:vs.length=(bQ a).length:=by rw[rv.length,hl,OU]
 have yU:bindArgs fd ⟨vs,[]⟩=pure ((bQ a).zip vs):=by
  have:=iK (fd:=fd) (vs:=vs) (by rw[F.params];exact OQ) F.Rm (by rw[F.params];exact F2) (by rw[F.params];exact RK)
  rwa[F.params]at this
 have V:∀(i:Nat)(x:Str),(bQ a)[i]? =some x->∃kd,sc.names[i]? =some (x,kd)/\(kd=.local\/kd=.cell):=λi x e=>by
  have:=fI OS e;rwa[Nat.zero_add]at this
 have F3:C.A.depth<recursionLimit:=ak (show C.A.depth<1000 from aj (ai (Nat.le_add_right _ _) K.a.2.1) (by decide)) (by decide)
 refine codeAny_call_cells F3 (kb _ _ ho) hd (G.nolimit.keeps kb) (NT.keeps kb) F.body yU F.Rl (λx hx=>?_) (λqw X=>?_) (by rw[F.scope];exact Bh) (by rw[F.scope];exact Bg) (by rw[F.scope];exact H)
 .rw[F.scope]
  obtain⟨i,hi,e⟩:=aI (List.of_mem_zip hx).1
  obtain⟨kd,e1,e2⟩:=V i x.1 (by rw[aJ hi,e])
  rcases e2 with rfl | rfl
  .exact .inl (bF D e1)
  .exact .inr ⟨bF D e1,gU (aD e1)⟩
 .obtain⟨Bi,tk,rfl,hk⟩:=X.done
  generalize z:callEnvC fd s.heap.objs.size (W.gi.fn f)=env at*
  have es:env.scope=sc:=by rw[<-z];exact F.scope
  have eL:env.locals=s.heap.objs.size:=by rw[<-z];rfl
  have eF:env.frame=some env.locals:=by rw[<-z];rfl
  have eC:env.cells=cellsFrom (s.heap.objs.size+1) sc.names []:=by rw[<-z,<-F.scope];rfl
  have eg:env.globals=mainGlobals:=by rw[<-z];exact F.s8
  have eb:env.builtins=builtinsNs:=by rw[<-z];exact F.w9
  have O:∀x c,env.cells.lookup x=some c->env.locals<c:=λx c e=>X.above x c (mem_of_lookup e)
  have U:∀a,env.locals<=a->s.heap.get? a=none:=by
   intro a ha
   cases q:s.heap.get? a with
   | none=>rfl
   | some o=>exact absurd (ak (aB q) (eL▸ha)) (aC _)
  have F4:∀a,FA env a->env.locals<=a:=by
   rintro a (rfl | ⟨x,_,hx⟩)
   .exact Nat.le_refl _
   .exact Nat.le_of_lt (O x a hx)
  have hF:F0 C s env:=λa ha=>.inl (U a (F4 a ha))
  have Jz:∀(s':Shared)(i:Nat)(x:Str)(c:Addr),C.env.scope.names[i]? =some (x,.cell)->C.env.cells.lookup x=some c->FA env c->∃v,s'.heap.IsCell c v/\EY s'.heap v (getL ρ i):=by
   intro s' i x c h1 h2 h3
   obtain⟨o,q,_⟩:=FA.v9 I (a:=c) (.inr ⟨x,bF K.dh h1,h2⟩)
   rw[U c (F4 c h3)]at q;cases q
  have MA:∀x,env.kindOf x≠some .free:=by
   intro x hx
   have hx:sc.names.lookup x=some .free:=by rw[<-es];exact hx
   obtain⟨i,hi⟩:=cC D hx
   rcases xq OT hi with h | h | h<;>cases h
  have K':eO W n (C.v8 σ s env (C.A.deeper env) (env::C.fr)):=
   {base:=λb o e=>lz K I hF (K.base b o e)
    a:=⟨K.a.1,ai (ai (aw (Nat.add_assoc ..)) (Nat.add_le_add_left (ai (aw (Nat.add_comm 1 (4*n))) (Nat.add_le_add_left (by decide) _)) _)) K.a.2.1,by have:=K.a.2.2;show C.A.units+3+12*n<=9000;lia⟩
    kind:=by show env.scope.kind=_;rw[es];exact H
    dh:=by show cY env.scope.names=_;rw[es];exact D
    s8:=eg
    w9:=eb
    fa:=λa ha=>pq (U a (F4 a ha))
    kk:=λa ha=>F1 ha
    Mh:=λa o ha=>CZ K I ha
    apart:=λx y c Z Z h1 h2=>name_of_addr X.apart (mem_of_lookup h1) (mem_of_lookup h2)
    s9:=λx c Z h1=>Nat.ne_of_gt (O x c h1)
    free:=λx c h1=>(MA x h1).elim
    frames:=by show C.A.frames.map _=_;rw[K.frames];rfl
    Fc:=λh=>nomatch h
    rB:=λe he=>by
     rcases a8.mp he with q | he
     .rw[q]
      refine⟨by rw[es,H];decide,⟨by rw[es];exact Bg,by rw[es];exact Bh,eb,eg⟩,env.locals,eF,.inl rfl⟩
     .obtain⟨h1,h2,L0,h3,h4⟩:=K.rB e he
      exact⟨h1,h2,L0,h3,.inr (Bf I h4)⟩
    DO:=⟨env.locals,eF,.inl rfl⟩
    hd:=⟨env,C.fr,rfl,rfl⟩}
  have F5:∀i:Nat,getL (initLoc m l) i=l[i]?:=by
   intro i
   rw[tE]
   show((l.map some++List.replicate (m-l.length) none)[i]?).join=_
   rcases ay i l.length with hi | hi
   .rw[List.getElem?_append_left (by simpa using hi)]
    simp[aJ hi]
   .rw[List.getElem?_append_right (by simpa using hi),List.getElem?_eq_none hi]
    rw[List.getElem?_replicate]
    split<;>rfl
  have OW:eN Bi vs l:=rv.bK λa o e Z=>hk a o e
  have I':Inv W (C.v8 σ s env (C.A.deeper env) (env::C.fr)) (initLoc m l) σ {s with heap:=Bi,toks:=tk}:=
   {keep:=λb o e=>hk b o (qE e)
    eh:=λb o e=>⟨o.slots,hk b o (iL e).2⟩
    objs:=λa o e=>(I.objs a o e).qr hk
    own:=λa o e ho=>by
     obtain⟨p1,p2,p3⟩:=I.own a o e ho
     refine⟨jT (.inl ⟨o,e,ho⟩),ku ?_,λhf=>?_⟩
     .rintro(q | q)
      .exact p3 (.inl q)
      .exact q p2
     .have h1:=U a (F4 a hf)
      have:=I.objs a o e
      cases o with
      | list w xs=>obtain⟨o,items,m,g1,_⟩:=this;rw[g1]at h1;cases h1
      | inst c d=>rw[this.2]at h1;cases h1
      | dict fs=>obtain⟨es,m,g1,_⟩:=this;rw[g1]at h1;cases h1
    yv:=I.yv
    gens:=I.gens
    os:=I.os
    qp:=by
     refine⟨_,X.toInCall.ns,?_,λi x e=>?_,λi x k e FJ=>?_⟩
     .show(initLoc m l).length=env.scope.names.length
      rw[es,OV]
      have:np<=m:=by
       rw[<-OU,<-OV]
       rcases ay sc.names.length (bQ a).length with q | q
       .obtain⟨kd,e1,_⟩:=V sc.names.length _ (aJ q)
        exact absurd (aS.mp e1).1 (aC _)
       .exact q
      show(l.map some++List.replicate (m-l.length) none).length=m
      simp;exact Nat.add_sub_of_le (ai (aw ‹l.length=np›) this)
     .rw[F5]
      have e:sc.names[i]? =some (x,.local):=by rw[<-es];exact e
      have MB:env.kindOf x=some .local:=by show env.scope.names.lookup x=_;rw[es];exact bF D e
      rcases ay i l.length with hi | hi
      .have Y:i<(bQ a).length:=by lia
       obtain⟨kd,e1,_⟩:=V i _ (aJ Y)
       rw[e]at e1
       obtain⟨v,hv,rr⟩:=OW.get (aJ hi)
       have ex:(bQ a)[i]? =some x:=by rw[aJ Y];exact ae some (ae Prod.fst (af e1)).symm
       rw[my MB F2 ex hv,aJ hi]
       exact rr
      .rw[qC,List.getElem?_eq_none hi]
       .exact trivial
       .intro bd hb q
        obtain⟨j,hj,ej⟩:=aI (List.of_mem_zip hb).1
        obtain⟨kd,e1,_⟩:=V j bd.1 (by rw[aJ hj,ej])
        rw[q]at e1
        have:=eU D e e1
        exact aC _ (ak hj (ai (aw (Eq.trans ‹(bQ a).length=np› (Eq.symm ‹l.length=np›))) (ai hi (aw this))))
     .rw[F5]
      have e:sc.names[i]? =some (x,k):=by rw[<-es];exact e
      have OX:k=.cell:=by
       rcases FJ with h | h
       .exact h
       .subst h;rcases xq OT e with h | h | h<;>cases h
      subst OX
      have MB:env.kindOf x=some .cell:=by show env.scope.names.lookup x=_;rw[es];exact bF D e
      obtain⟨cc,QU⟩:=Option.isSome_iff_exists.mp (gU (n:=s.heap.objs.size+1) (acc:=[]) (aD e))
      have QU:env.cells.lookup x=some cc:=by rw[eC];exact QU
      refine⟨cc,_,QU,X.cell x cc QU,?_⟩
      rcases ay i l.length with hi | hi
      .have Y:i<(bQ a).length:=by lia
       obtain⟨kd,e1,_⟩:=V i _ (aJ Y)
       rw[e]at e1
       obtain⟨v,hv,rr⟩:=OW.get (aJ hi)
       have ex:(bQ a)[i]? =some x:=by rw[aJ Y];exact ae some (ae Prod.fst (af e1)).symm
       rw[v7 MB F2 ex hv,aJ hi]
       exact rr
      .rw[qD,List.getElem?_eq_none hi]
       .exact trivial
       .intro bd hb q
        obtain⟨j,hj,ej⟩:=aI (List.of_mem_zip hb).1
        obtain⟨kd,e1,_⟩:=V j bd.1 (by rw[aJ hj,ej])
        rw[q]at e1
        have:=eU D e e1
        exact aC _ (ak hj (ai (aw (Eq.trans ‹(bQ a).length=np› (Eq.symm ‹l.length=np›))) (ai hi (aw this))))}
  have RL:mS env.scope c b=true:=by rw[es];exact hm
  refine aK (AWS.go (C:=C.v8 σ s env (C.A.deeper env) (env::C.fr)) h K' RL I') (λf s' x=>?_) λe s' x=>L C ρ σ s env e s' K I hF K' x Jz
  obtain⟨o,ρ',bw,hf,J,q⟩:=x
  have J':=I.D2 K hF J (Jz s')
  revert q
  exact hf.el (λq=>⟨.none,bw,.none,J',q⟩) (λq=>q.elim) (λq=>q.elim) λZ Z r q=>⟨_,bw,r,J',q⟩
end
section
variable{W:Wd}{n:Nat}{ρ ρ':Loc}{σ:Hp}
theorem wa(G:GF W){l:List AV}{E:Value->Shared->Prop}
  (K:eO W n C) (O:dg C.env.scope x=true) (hx:x=w5 f) (H:as.isEmpty=false) (hf:f<112) (hd:(x==("__debug__" :Str))=false) (hm:vP C.env.scope es as=true) (I:Inv W C ρ σ s)
  (h:AWEs W n es ρ σ (λl i=>CALL W n f l i Q U) b7) (V:∀e s',U C e s'->E e s'):
  wpAny W.M C.A (eval (.Call (.Name x p) as [] pos) C.env) (PV W C ρ Q) E s:=by
 subst hx
 obtain⟨o,fd,ho,z⟩:=G.SY f (by omega)
 with_reducible refine jR (jP G K I O (G.Rn f hf) ?_ hd)
 cases as with
 | nil=>cases H
 | cons a J=>
  cases es with
  | nil=>cases sO hm
  | cons c cs=>
   obtain⟨_,_,q,Y,m2⟩:=o7 hm
   cases q
   refine callWith_def z (aK (h.go K hm I) (λvs D j=>?_) λZ Z x=>x.elim) (noStar Y _ _)
   obtain⟨l,i,rl,y,j⟩:=j
   refine⟨y.keep _ _ (K.base _ _ ho),wpAny_call (codeAny_mono (j C ρ D vs K y rl) λr s' L=>?_)⟩
   rcases r with e | (v | _ | _ | _)
   .exact V _ _ L
   all_goals exact L
theorem AWE.call(G:GF W)(h:AWEs W n es ρ σ (λl i=>CALL W n f l i Q (λZ=>b7)) b7):AWE W n (.call f es) ρ σ Q E:=by
 intro C s e K hm I
 refine tf hm λp l pos z j hf hd y m=>?_
 exact wa (l:=[]) G K z rfl j hf hd m I h λZ Z x=>x.elim
theorem AWS.pv(G:GF W)
  (h:AWEs W n es ρ σ (λl i=>CALL W n f l i (λv y=>qy v/\AWS W n k ρ y Q E) E) b7):AWS W n (.expr (.call f es) k) ρ σ Q E:=by
 intro C s st K hm I
 refine yN hm λv q r L hc O=>?_
 refine dC.cons (P:=λρ' bw=>AWS W n k ρ' bw Q E) K O ?_ λZ Z x=>x
 unfold dC
 revert hc
 refine tf L λp l pos U D hf hd H m hc=>?_
 with_reducible refine wpAny_Expr (aK (wa (l:=[]) G K U rfl D hf hd m I h λZ Z x=>x) (λY J j=>?_) λZ Z x=>x) (kO K) (jS hc)
 obtain⟨a,i,V,z,hp,j⟩:=j
 cases V<;>first | exact⟨ρ,i,z,j⟩ | exact hp.elim
theorem xr (C:Addr) (l:List Value):(Code.builtin "type.__call__" ⟨.ref C::l,[]⟩).weight<=3:=by
 have h1:(Code.builtin "type.__call__" ⟨.ref C::l,[]⟩).frames=0:=rfl
 have h2:(Code.builtin "type.__call__" ⟨.ref C::l,[]⟩).isCaller=false:=rfl
 unfold Code.weight
 rw[h1,h2]
 split<;>split<;>simp
theorem rI (A:Around) (C:Addr) (l:List Value):∃d,d<=3/\(A.under (.builtin "type.__call__" ⟨.ref C::l,[]⟩)).depth=A.depth+d/\(A.under (.builtin "type.__call__" ⟨.ref C::l,[]⟩)).handled=A.handled/\
  (A.under (.builtin "type.__call__" ⟨.ref C::l,[]⟩)).frames=A.frames/\(A.under (.builtin "type.__call__" ⟨.ref C::l,[]⟩)).units=A.units+1:=⟨_,xr C l,rfl,rfl,rfl,rfl⟩
theorem F6 (hc:c<3):(rA c==("__debug__" :Str))=false:=by
 rcases lt3c hc with rfl | rfl | rfl<;>decide
theorem AWE.new(G:GF W){c:Nat}{es:sX}{Q:AV->Hp->Prop}{E:Value->Shared->Prop}(hc:c<3)
  (h:AWEs W (n+1) es ρ σ (λl i=>∀d a,dZ i d->dZ i a->a≠d->
   CALL W n (113+c) (.ref a::l) ((i.set d (.dict [])).set a (.inst c d)) (λv bw=>v=.none/\Q (.ref a) bw) (λZ=>b7)) b7):AWE W (n+1) (.new c es) ρ σ Q E:=by
 intro C s e K hm I
 refine IM hm λp as pos hg V Y m=>?_
 obtain⟨i1,i2,i3⟩:=G.NR c hc
 have Uh:=F6 hc
 with_reducible refine jR (jP G K I hg (G.QP c Y) ?_ Uh)
 cases as with
 | nil=>cases V
 | cons a rest=>
  cases es with
  | nil=>cases sO m
  | cons c' cs=>
   obtain⟨_,_,q,m1,m2⟩:=o7 m
   cases q
   have H:∀{s':Shared}{ρ':Loc}{bw:Hp},Inv W C ρ' bw s'->W.gi.K.In s'.heap:=λJ b o e=>J.keep _ _ (K.base _ _ (G.X b o e))
   refine callWith_K (H I) (G.kp c hc) (aK (h.go K m I) (λvs L y=>?_) λZ Z x=>x.elim) (noStar m1 _ _) (iI pos m2)
   obtain⟨l,i,rl,j,y⟩:=y
   rw[List.nil_append]
   refine⟨H j,wpAny_call ?_⟩
   obtain⟨hh,g,dd,t,os⟩:=L
   refine make_core (makes_of (H j) i3) (looks_findIn (H j) i1) (λself=>bind_fn (H j) self i2) (.inl rfl) ?_
   obtain⟨d0,Ui,O,U,Uj,Uk⟩:=rI C.A (W.gi.cls c) vs
   generalize C.A.under (.builtin "type.__call__" ⟨.ref (W.gi.cls c)::vs,[]⟩)=D at*
   have I0:=j.fz
   have K0:=K.fz j
   have dO:OR W (hh.push emptyDict) hh.objs.size (.dict []):=⟨[],0,Heap.get?_push_size _ rfl,by decide,.nil⟩
   obtain⟨f1,J1⟩:=I0.alloc K0 dO rfl
   have e1:(hh.push emptyDict).objs.size=hh.objs.size+1:=Heap.size_push _ _
   have aO:OR W ((hh.push emptyDict).push (instObj (W.gi.cls c) hh.objs.size)) (hh.push emptyDict).objs.size (.inst c hh.objs.size):=⟨hc,Heap.get?_push_size _ rfl⟩
   obtain⟨f2,J2⟩:=J1.alloc K0 aO rfl
   rw[e1]at f2 J2
   have z:=y hh.objs.size (hh.objs.size+1) f1 (by simpa[Hp.set]using f2) (Nat.succ_ne_self _)
   have K2:eO W n {C.fz i ⟨hh,g,dd,t,os⟩with A:=D}:=
    {K0 with
     a:=⟨by show D.handled=_;rw[U];exact K.a.1,by show D.depth+4*n<=880;have:=K.a.2.1;rw[O];lia,by show D.units+12*n<=9000;have:=K.a.2.2;rw[Uk];lia⟩
     frames:=by show D.frames=_;rw[Uj];exact K.frames}
   have J3:Inv W {C.fz i ⟨hh,g,dd,t,os⟩with A:=D} ρ ((i.set hh.objs.size (.dict [])).set (hh.objs.size+1) (.inst c hh.objs.size)) ⟨(hh.push emptyDict).push (instObj (W.gi.cls c) hh.objs.size),g,dd,t,os⟩:={J2 with}
   have rv:eN ((hh.push emptyDict).push (instObj (W.gi.cls c) hh.objs.size)) (.ref (hh.objs.size+1)::vs) (.ref (hh.objs.size+1)::l):=
    .cons (.ref _) (rl.bK λa o e Z=>aA _ (aA _ e))
   refine codeAny_mono (z _ ρ _ _ K2 J3 rv) λr s' hr=>?_
   rcases r with e | (v | _ | _ | _)<;>first | exact hr.elim | skip
   obtain⟨av,bw,rr,J4,rfl,q⟩:=hr
   cases rr
   have J5:Inv W (C.fz i ⟨hh,g,dd,t,os⟩) ρ bw s':={J4 with}
   exact⟨rfl,_,bw,.ref _,Inv.Fl K j J5,q⟩
end
def qF(cells:List (Str × Addr)):List (Str × NameKind)->List (Str × Addr)->List (Str × Addr)
 | [],acc=>acc
 | (x,k)::r,acc=>if k==.free then qF cells r ((x,(cells.lookup x).getD 0)::acc)else qF cells r acc
theorem mz(cells:List (Str × Addr))(x:Str)(k:NameKind)(r:List (Str × NameKind))(acc:List (Str × Addr)):qF cells ((x,k)::r) acc=if k==.free then qF cells r ((x,(cells.lookup x).getD 0)::acc)else qF cells r acc:=rfl
theorem Bj(h:∀x,(x,NameKind.free)∈scope.names->∃a,env.cells.lookup x=some a):closureFor scope env=pure (qF env.cells scope.names []):=by
 simp only[closureFor]
 generalize scope.names=l at*
 generalize i:([]:List (Str × Addr))=acc
 clear i
 rw[show(∀(t:Sem (List (Str × Addr))),(t >>= λcs=>pure cs)=t) fromλt=>bind_pure t]
 induction l generalizing acc with
 | nil=>rfl
 | cons p r j=>
  obtain⟨x,k⟩:=p
  rw[List.forIn_cons]
  cases hk:k==NameKind.free with
  | false=>
   simp only[Bool.false_eq_true,if_false,pure_bind]
   rw[j λy hy=>h y (.tail _ hy),mz,hk];rfl
  | true=>
   have:=az.mp hk;subst this
   obtain⟨a,z⟩:=h x (.head _)
   have hc:cellOf env x=pure a:=by unfold cellOf;rw[z]
   simp only[if_true,hc,pure_bind]
   rw[j λy hy=>h y (.tail _ hy),mz,hk,z];rfl
theorem F7(h:(x,NameKind.free)∉l):(qF cells l acc).lookup x=acc.lookup x:=by
 induction l generalizing acc with
 | nil=>rfl
 | cons p r i=>
  obtain⟨y,k⟩:=p
  rw[mz]
  by_cases hk:(k==NameKind.free)=true
  .rw[ag hk,i λq=>h (.tail _ q),List.lookup_cons,(aE.mpr λe=>h (by rw[e,<-az.mp hk];exact .head _):(x==y)=false)]
  .rw[ah hk];exact i λq=>h (.tail _ q)
theorem F8(h:(x,NameKind.free)∈l):(qF cells l acc).lookup x=some ((cells.lookup x).getD 0):=by
 induction l generalizing acc with
 | nil=>exact absurd h a7
 | cons p r i=>
  obtain⟨y,k⟩:=p
  rw[mz]
  by_cases hm:(x,NameKind.free)∈r
  .by_cases hk:(k==NameKind.free)=true
   .rw[ag hk];exact i hm
   .rw[ah hk];exact i hm
  .rcases a8.mp h with e | h
   .cases(ae Prod.snd e);cases(ae Prod.fst e)
    rw[ag (beq_self_eq_true _)];exact(F7 hm).trans List.lookup_cons_self
   .exact absurd h hm
theorem gF(sc i:Scope):(la sc i).names=i.names.map λ(n,k)=>if(k==.free&&sc.kind==.function&&sc.names.lookup n==some .cell)then(n,.cell)else(n,k):=rfl
theorem Bk(hf:∀p,(f p).1=p.1):cY (l.map f)=cY l:=by
 induction l with
 | nil=>rfl
 | cons p r i=>
  show(!((r.map f).any λy=>y.1==(f p).1)&&(!((f p).1==("__classdict__" :Str))&&cY (r.map f)))=(!(r.any λy=>y.1==p.1)&&(!(p.1==("__classdict__" :Str))&&cY r))
  rw[i,hf,List.any_map,(funext λy=>ae (·==p.1) (hf y):((λ(y:Str × NameKind)=>y.1==p.1)∘f)=λy=>y.1==p.1)]
def ow(m:Nat)(j:List (Nat × Nat))(ρ:Loc):Loc:=(List.range m).map λi=>(j.lookup i).bind (getL ρ)
theorem qG(h:i<m):getL (ow m j ρ) i=(j.lookup i).bind (getL ρ):=by
 rw[tE]
 show((List.range m).map λi=>(j.lookup i).bind (getL ρ))[i]?.join=_
 rw[aF,List.getElem?_range h];rfl
theorem yV:(ow m i ρ).length=m:=by
 show((List.range m).map _).length=m
 simp
theorem pw(hk:sc.kind=.function)(L:cY sc.names=true)(hc:kr sc H D=true)(e:(la sc H).names[i]? =some (x,k)):
  (k=.cell/\H.names[i]? =some (x,.free)/\∃j,D.lookup i=some j/\sc.names[j]? =some (x,.cell))\/(k≠.cell/\k≠.free/\H.names[i]? =some (x,k)/\D.lookup i=none):=by
 rw[gF,aF]at e
 cases I:H.names[i]? with
 | none=>rw[I]at e;cases e
 | some p=>
  obtain⟨y,k0⟩:=p
  have hi:=(aS.mp I).1
  have G:cond (k0==.free) (on (D.lookup i) λj=>w6 (·==.cell) sc j y) (!(k0==.cell)&&(D.lookup i).isNone)=true:=(ae (λo=>on o _) I).symm.trans (aM.mp hc i (aN.mpr hi))
  rw[I]at e
  have e:=af e
  cases hf:k0==NameKind.free with
  | true=>
   rw[hf]at G
   obtain⟨j,O,z⟩:=bu (o:=D.lookup i) G
   obtain⟨kk,J,h⟩:=jN z
   cases(az.mp h);cases(az.mp hf)
   dsimp only at e
   rw[ag (by rw[hk,bF L J];rfl)]at e
   cases e
   exact .inl ⟨rfl,rfl,j,O,J⟩
  | false=>
   rw[hf]at G
   have q:=bC G
   dsimp only at e
   rw[ah (by rw[hf];exact Bool.false_ne_true)]at e
   cases e
   exact .inr ⟨λz=>(by rw[z]at q;exact ff q.1),λz=>(by rw[z]at hf;exact ff hf.symm),rfl,Option.isNone_iff_eq_none.mp q.2⟩
theorem F9(hc:kr sc G y=true)(h:(x,NameKind.free)∈G.names):∃j:Nat,sc.names[j]? =some (x,NameKind.cell):=by
 obtain⟨i,hi,e⟩:=aI h
 have D:(on (y.lookup i) λj=>w6 (·==.cell) sc j x)=true:=(ae (λo=>on o λp:Str × NameKind=>cond (p.2==.free) (on (y.lookup i) λj=>w6 (·==.cell) sc j p.1) (!(p.2==.cell)&&(y.lookup i).isNone)) ((aJ hi).trans (ae some e))).symm.trans (aM.mp hc i (aN.mpr hi))
 obtain⟨j,_,z⟩:=bu D
 obtain⟨kk,H,h⟩:=jN z
 cases(az.mp h)
 exact⟨j,H⟩
def px(W:Wd)(n:Nat)(cond:Option CE)(ρ:Loc)(σ:Hp)(T:Bool->Hp->Prop):Prop:=match cond with
 | none=>T true σ
 | some c=>AWT W n c ρ σ T b7
def C0(sc:Scope):Option CE->List Expr->Prop
 | none,[]=>True
 | some c,[i]=>mE sc c i=true
 | _,_=>False
def C1(W:Wd)(n:Nat)(I:CE)(L:List Nat)(cond:Option CE)(H:List (Nat × Nat))(m:Nat)(ρ:Loc)(Q:AV->Hp->Prop)(v:AV)(y:Hp):Prop:=
 ∃xs,bO y v=some xs/\∀D,dZ y D->∃J:Nat->List AV->Loc->Hp->Prop,J 0 [] (ow m H ρ) (y.set D (.list true []))/\
  ∀i out ρ' bw,J i out ρ' bw->bO bw v=some xs/\bw D=some (.list true out)/\out.length<=100000/\(i=xs.length->Q (.ref D) bw)/\
   ∀x,xs[i]? =some x->∃j,xp L ρ' x=some j/\px W n cond j bw (λb z=>if b then
    AWE W n I j z (λu G=>G D=some (.list true out)/\J (i+1) (out++[u]) j (G.set D (.list true (out++[u])))) b7 else J (i+1) out j z)
section
variable{prog:Program}{w:World}{A:Around}{R:Result->Shared->Prop}{s:Shared}
theorem lA{L i iter:Expr}{O:List Expr}{scope:Scope}{pos:Pos}{it acc:Value}{env:Env}(I:Nat->Shared->Prop)
  (U:∀n s,I n s->wpAny (model prog w) A (pyNext it) (λr j=>match r with
   | none=>R (.ok .next) j
   | some v=>wpAny (model prog w) A (letOwnedTupleGo i it v) (λZ j=>wpAny (model prog w) A (assign i env v) (λZ D=>
     wpAny (model prog w) A (forIn O true λc r=>if r=true then do let ok <-isTrue c env (eval c env);pure (ForInStep.yield ok)else pure (ForInStep.yield r)) (λok z=>
      if ok=true then wpAny (model prog w) A (eval L env) (λx G=>
       wpAny (model prog w) A (call (.builtin "list.append") [acc,x]) (λZ H=>∃m,m<n/\I m H) b7 G) b7 z
      else ∃m,m<n/\I m z) b7 D) b7 j) b7 j) b7 s)
  (n:Nat) (h:I n s):codeAny (model prog w) A (.compLoop (.ListComp L [⟨i,iter,O,0⟩] scope pos) 0 it acc env) R s:=by
 refine codeAny_loop rfl I (λn s hI=>?_) n h
 show wpAny _ A ((compTurn (.ListComp L [⟨i,iter,O,0⟩] scope pos) 0 it acc env).onRaise (λx=>do noteFrame x env;theTreesLotGoes x)) _ _ s
 refine wpAny_noted ?_
 rw[compTurn_list]
 refine aQ (wpAny_standAt (aQ (aK (U n s hI) (λr j y=>?_) λZ Z h'=>h'.elim)))
 cases r with
 | none=>exact aR y
 | some v=>
  refine aQ (aK y (λZ j y=>?_) λZ Z h'=>h'.elim)
  refine aQ (aK y (λZ D V=>aQ (aK V (λok z J=>?_) λZ Z h'=>h'.elim)) λZ Z h'=>h'.elim)
  cases ok with
  | false=>exact aR ⟨rfl,J⟩
  | true=>
   exact aQ (aQ (aK J (λx G Y=>aQ (aK Y (λZ H RM=>aR (aR ⟨rfl,RM⟩)) λZ Z h'=>h'.elim)) λZ Z h'=>h'.elim))
theorem Bl(g:IsL s.heap l items k)(y:items.size<=100000)
  (i:Q .none {s with heap:=s.heap.update l (Obj.mapSeq (·.push x))}):wpAny (model prog w) A (call (.builtin "list.append") [.ref l,x]) Q E s:=by
 refine wpAny_call_entry slot_list_append g.isList.typeIs entry_list_append ?_ (args_list_append _ _)
 show wpAny _ _ (updateSeq l (·.push x) >>= λZ=>ret .none) _ _ s
 refine aQ ?_
 have j:items.size<=sizeLine:=by rw[sizeLine_eq];omega
 exact wpAny_updateSeq g rfl (aR ⟨.none,rfl,i⟩) j (by rw[Array.size_push];lia)
end
section
variable{W:Wd}{n:Nat}{ρ ρ':Loc}{σ:Hp}
theorem yW{cond:Option CE}(h:mE sc (.comp G H it cond z m) e=true):
  ∃j t y D i pos,e=.ListComp j [⟨t,y,D,0⟩] i pos/\mT (la sc i) H t=true/\mE sc it y=true/\mE (la sc i) G j=true/\kr sc i z=true/\cY i.names=true/\
   i.kind=.function/\i.names.length=m/\C0 (la sc i) cond D:=by
 cases cond with
 | none=>obtain⟨j,t,y,i,pos,rfl,h1,h2,h3,I,J,L,O⟩:=DU h;exact⟨_,_,_,_,_,_,rfl,h1,h2,h3,I,J,L,O,trivial⟩
 | some c=>obtain⟨j,t,y,V,i,pos,rfl,h1,h2,h3,I,J,L,O,U⟩:=DV h;exact⟨_,_,_,_,_,_,rfl,h1,h2,h3,I,J,L,O,U⟩
theorem yX(S:vZ s.heap it v xs i)(q:R (.ref it) s):wpAny W.M A (pyIter (.ref it)) R E s:=by
 cases v<;>first | exact S.elim | skip
 case ref l=>exact wpAny_pyIter_listiter S.1 q
 case cn l=>obtain⟨t,items,h1,_⟩:=S;exact wpAny_pyIter_tupleiter h1 q
 case c8=>exact wpAny_pyIter_rangeiter S.2.1 q
theorem Bm(h:i∉is):getL (setTs ρ is l) i=getL ρ i:=by
 induction is generalizing l ρ with
 | nil=>rfl
 | cons j is y=>
  cases l with
  | nil=>rfl
  | cons v vs=>exact(y λq=>h (.tail _ q)).trans (eZ ρ j i v λq=>h (q▸.head _))
theorem D3(h:i∉is)(e:xp is ρ x=some y):getL y i=getL ρ i:=by
 refine sQ e (λi e1 e2=>?_) (λi j r l e1 e2 hl e3=>?_)
 .rw[<-e2];exact eZ _ _ _ _ λq=>h (by rw[e1,q];exact .head _)
 .rw[<-e3];exact Bm (e1▸h)
theorem px.go{cond:Option CE}{R:Bool->Shared->Prop}(h:px W n cond ρ σ T)(K:eO W n C)(hm:C0 C.env.scope cond i)(I:Inv W C ρ σ s)
  (q:∀b bw s',Inv W C ρ bw s'->T b bw->R b s'):wpAny W.M C.A (forIn i true λc r=>if r=true then do let ok <-isTrue c C.env (eval c C.env);pure (ForInStep.yield ok)else pure (ForInStep.yield r)) R b7 s:=by
 cases cond with
 | none=>
  rcases i with _ | ⟨G,H⟩
  .exact wpAny_tests_nil (q _ _ _ I h)
  .exact hm.elim
 | some c=>
  rcases i with _ | ⟨G,_ | ⟨J,H⟩⟩
  .exact hm.elim
  .refine wpAny_tests_one (aK (AWT.go h K hm I) (λb D j=>?_) λZ Z x=>x)
   obtain⟨z,y,t⟩:=j
   exact q _ _ _ y t
  .exact hm.elim
end
section
variable{W:Wd}{n:Nat}{ρ ρ':Loc}{σ:Hp}{Q:AV->Hp->Prop}
theorem yY(I:Inv W C ρ σ s)(h:s.heap.get? a=none):C.K a=none/\C.K2 a=none/\¬FA C.env a/\σ a=none:=by
 refine⟨?_,?_,λq=>?_,?_⟩
 .cases q:C.K a with
  | none=>rfl
  | some o=>rw[I.keep _ _ q]at h;cases h
 .cases q:C.K2 a with
  | none=>rfl
  | some o=>obtain⟨sl,h'⟩:=I.eh _ _ q;rw[h']at h;cases h
 .obtain⟨o,h',_⟩:=FA.v9 I q;rw[h']at h;cases h
 .cases q:σ a with
  | none=>rfl
  | some o=>
   have:=I.objs a o q
   cases o with
   | list w xs=>obtain⟨o,items,m,g1,_⟩:=this;rw[g1]at h;cases h
   | inst c d=>rw[this.2]at h;cases h
   | dict i=>obtain⟨es,m,g1,_⟩:=this;rw[g1]at h;cases h
inductive Ta(W:Wd)(C:Cx)(J:Nat->List AV->Loc->Hp->Prop)(it:Addr)(v:AV)(xs:List AV)(H:Loc->Prop)(m:Nat)(s:Shared):Prop
 | mk (i:Nat) (out:List AV) (ρ:Loc) (σ:Hp):J i out ρ σ->Inv W C ρ σ s->vZ s.heap it v xs i->σ it=none->H ρ->i<=xs.length->m=xs.length-i->Ta W C J it v xs H m s
theorem wb{cond:Option CE}
  {RR:Value->Addr->Result->Shared->Prop}
  (K:eO W n C) (I:Inv W C ρ σ s) (rv:VR s.heap vv v) (hc:C1 W n elt RN cond O m ρ Q v σ) (ht:RN.all (λi=>(O.lookup i).isNone)=true)
  (m1:mT (la C.env.scope H) RN t=true) (m3:mE (la C.env.scope H) elt JA=true) (m4:kr C.env.scope H O=true) (m5:cY H.names=true) (m6:H.kind=.function) (m7:H.names.length=m)
  (m8:C0 (la C.env.scope H) cond ifs)
  (Ul:∀D a bw s',Inv W C ρ bw s'->C.K a=none->C.K2 a=none->¬FA C.env a->bw a=none->(∃m,s'.heap.Ns a m)->Q (.ref D) bw->RR (.ref D) a (.ok .next) s'):
  wpAny W.M C.A (pyIter vv) (λit yJ=>wpAny W.M C.A (newList []) (λacc Fx=>wpAny W.M C.A (newFunctionEnv H C.env.globals (qF C.env.cells H.names []) [] C.env.qual none .none (some C.env)) (λOY FW=>
   codeAny W.M C.A (.compStart (.ListComp JA [⟨t,Tb,ifs,0⟩] H pos) 0 it acc {OY with scope:=relabel H C.env}) (RR acc OY.locals) FW) E Fx) E yJ) E s:=by
 refine hd λG un=>?_
 obtain⟨xs,ev,hD⟩:=hc
 refine un (aK (v5 I.objs rv ev) (λUd yJ D1=>?_) λZ Z x=>x)
 obtain⟨rfl,⟨oi,rfl⟩,S⟩:=D1
 have MC:s.heap.get? s.heap.objs.size=none:=Heap.get?_none_of_le (Nat.le_refl _)
 have Mx:=I.push oi
 generalize s.heap.objs.size=U at*
 have Ga:∀b o,s.heap.get? b=some o->(s.heap.push oi).get? b=some o:=λb o e=>aA _ e
 generalize s.heap.push oi=H1 at*
 obtain⟨RO,Um,RP,RQ⟩:=yY I MC
 obtain⟨fD,yO⟩:=Mx.alloc K (OR.FH (W:=W) (items:=#[]) (l:=[]) .nil) rfl
 refine wpAny_newObj_type (hd:=by size_fits) ?_
 obtain⟨VV,OZ,_⟩:=S.fb
 have Un:s.heap.get? H1.objs.size=none:=by
  cases e:s.heap.get? H1.objs.size with
  | none=>rfl
  | some o=>exact absurd (aB (Ga _ _ e)) (aC _)
 have RS:U≠H1.objs.size:=Nat.ne_of_lt (aB OZ)
 have V:∀b o,H1.get? b=some o->(H1.push {cls:=.type "list",data:=.seq (#[]:Array Value)}).get? b=some o:=λb o e=>aA _ e
 dsimp only at fD yO ⊢
 generalize H1.objs.size=D at*
 have Uo:(H1.push {cls:=.type "list",dict:=none,data:=.seq ([]:List Value).toArray})=H1.push {cls:=.type "list",data:=.seq (#[]:Array Value)}:=rfl
 rw[Uo]
 generalize H1.push {cls:=.type "list",data:=.seq (#[]:Array Value)}=H2 at*
 have O0:∀y∈H.names,y.2≠.cell:=by
  intro y hy e
  obtain⟨i,hi,ey⟩:=aI hy
  have O1:=aM.mp m4 i (aN.mpr hi)
  obtain⟨yn,yk⟩:=y
  dsimp only at e;subst e
  rw[aJ hi,ey]at O1
  cases O1
 refine wpAny_newFunctionEnv O0 (by intro y hy;simp at hy) (λY NU Tc=>?_) m6
 dsimp only at NU Tc ⊢
 have NV:H2.get? H2.objs.size=none:=Heap.get?_none_of_le (Nat.le_refl _)
 have C2:∀b o,H2.get? b=some o->Y.get? b=some o:=λb o e=>by
  have hb:b≠H2.objs.size:=by rintro rfl;rw[NV]at e;cases e
  exact(Tc.2 b hb).trans (aA _ e)
 obtain⟨Td,Up,Uq,Ur⟩:=yY yO NV
 have QV:s.heap.get? H2.objs.size=none:=by
  cases e:s.heap.get? H2.objs.size with
  | none=>rfl
  | some o=>rw[V _ _ (Ga _ _ e)]at NV;cases NV
 show codeAny W.M C.A (.compStart (.ListComp JA [⟨t,Tb,ifs,0⟩] H pos) 0 (.ref U) (.ref D) (compEnvC H (qF C.env.cells H.names []) H2.objs.size C.env)) (RR (.ref D) H2.objs.size) _
 generalize H2.objs.size=L at*
 generalize D4:compEnvC H (qF C.env.cells H.names []) L C.env=env
 have es:env.scope=la C.env.scope H:=by rw[<-D4];rfl
 have eL:env.locals=L:=by rw[<-D4];rfl
 have eC:env.cells=qF C.env.cells H.names []:=by rw[<-D4];rfl
 have eg:env.globals=mainGlobals:=by rw[<-D4];exact K.s8
 have eb:env.builtins=builtinsNs:=by rw[<-D4];exact K.w9
 have eF:env.frame=C.env.frame:=by rw[<-D4];rfl
 obtain⟨m₀,F⟩:=I.qp
 have Bn:cY env.scope.names=true:=by
  rw[es,gF,Bk]
  .exact m5
  .intro p;dsimp only;split<;>rfl
 have D5:∀(i:Nat)(x:Str),env.scope.names[i]? =some (x,.cell)->∃(j:Nat)(c:Addr),O.lookup i=some j/\C.env.scope.names[j]? =some (x,.cell)/\C.env.cells.lookup x=some c/\env.cells.lookup x=some c:=by
  intro i x e
  rw[es]at e
  rcases pw K.kind K.dh m4 e with ⟨_,h2,j,h3,h4⟩ | ⟨h,_⟩
  .obtain⟨c,v,e1,_⟩:=F.cell j x .cell h4 (.inl rfl)
   refine⟨j,c,h3,h4,e1,?_⟩
   rw[eC,F8 (aD h2),e1];rfl
  .exact absurd rfl h
 have F4:∀a,FA env a->a=L\/(FA C.env a/\a≠C.env.locals):=by
  rintro a (rfl | ⟨x,h1,h2⟩)
  .exact .inl eL
  .obtain⟨i,hi⟩:=cC Bn h1
   obtain⟨j,c,_,h4,h5,h6⟩:=D5 i x hi
   rw[h2]at h6;cases h6
   exact .inr ⟨.inr ⟨x,bF K.dh h4,h5⟩,K.s9 x _ (bF K.dh h4) h5⟩
 have hF:F0 C s env:=λa ha=>by
  rcases F4 a ha with rfl | h
  .exact .inl QV
  .exact .inr h
 have Us:∀a,FA env a->jg C s a=none:=λa ha=>(F4 a ha).elim (λe=>e▸(pq (σ:=σ) (env:=env) QV).2) λh=>ku (by rintro(q | q);exact h.2 q;exact q (K.fa a h.1).2)
 have K':eO W n (C.v8 σ s env C.A C.fr):=
  {base:=λb o e=>lz K I hF (K.base b o e)
   a:=K.a
   kind:=by show env.scope.kind=_;rw[es];exact m6
   dh:=Bn
   s8:=eg
   w9:=eb
   fa:=λa ha=>⟨jT (.inr (.inr (.inr ha))),Us a ha⟩
   kk:=λa ha=>F1 ha
   Mh:=λa o ha=>CZ K I ha
   apart:=λx y c hx hy h1 h2=>by
    obtain⟨i,hi⟩:=cC Bn hx
    obtain⟨j,hj⟩:=cC Bn hy
    obtain⟨_,c1,_,a4,a5,a6⟩:=D5 i x hi
    obtain⟨_,c2,_,b4,b5,b6⟩:=D5 j y hj
    have h1:env.cells.lookup x=some c:=h1
    have h2:env.cells.lookup y=some c:=h2
    rw[h1]at a6;cases a6
    rw[h2]at b6;cases b6
    exact K.apart x y _ (bF K.dh a4) (bF K.dh b4) a5 b5
   s9:=λx c hx h1=>by
    obtain⟨i,hi⟩:=cC Bn hx
    obtain⟨_,c1,_,a4,a5,a6⟩:=D5 i x hi
    have h1:env.cells.lookup x=some c:=h1
    rw[h1]at a6;cases a6
    rintro rfl
    obtain⟨o,g,_⟩:=FA.v9 I (.inr ⟨x,bF K.dh a4,a5⟩)
    rw[show(C.v8 σ s env C.A C.fr).env.locals=L from eL,QV]at g;cases g
   free:=λx c hx Z=>by
    obtain⟨i,hi⟩:=cC Bn hx
    rw[es]at hi
    rcases pw K.kind K.dh m4 hi with ⟨h,_⟩ | ⟨_,h,_⟩
    .cases h
    .exact absurd rfl h
   frames:=K.frames
   Fc:=K.Fc
   rB:=λe he=>by
    obtain⟨h1,h2,L0,h3,h4⟩:=K.rB e he
    exact⟨h1,h2,L0,h3,.inr (Bf I h4)⟩
   DO:=by
    obtain⟨L0,h3,h4⟩:=K.DO
    exact⟨L0,eF.trans h3,.inr (Bf I h4)⟩
   hd:=by
    obtain⟨e,o,h1,h2⟩:=K.hd
    exact⟨e,o,h1,h2.trans eF.symm⟩}
 have hk:∀b o,s.heap.get? b=some o->Y.get? b=some o:=λb o e=>C2 _ _ (V _ _ (Ga _ _ e))
 have RT:∃m',ee env Y (ow m O ρ) m':=by
  refine⟨λx=>List.lookup x (([]:List (Str × Value)).reverse),?_,?_,λi x e=>?_,λi x k e FJ=>?_⟩
  .show Y.Ns env.locals _
   rw[eL];exact NU
  .show(ow m O ρ).length=env.scope.names.length
   rw[yV,es,gF,aV,m7]
  .have e:env.scope.names[i]? =some (x,.local):=e
   have hi:i<m:=by
    have:=(aS.mp e).1
    rw[es,gF,aV,m7]at this;exact this
   rw[es]at e
   rcases pw K.kind K.dh m4 e with ⟨h,_⟩ | ⟨_,_,_,h⟩
   .cases h
   .rw[qG hi,h];exact trivial
  .have e:env.scope.names[i]? =some (x,k):=e
   have hi:i<m:=by
    have:=(aS.mp e).1
    rw[es,gF,aV,m7]at this;exact this
   have OX:k=.cell:=by
    rcases FJ with h | h
    .exact h
    .subst h
     rw[es]at e
     rcases pw K.kind K.dh m4 e with ⟨h,_⟩ | ⟨_,h,_⟩
     .cases h
     .exact absurd rfl h
   subst OX
   obtain⟨j,c,h3,h4,h5,h6⟩:=D5 i x e
   obtain⟨c',v',g1,g2,g3⟩:=F.cell j x .cell h4 (.inl rfl)
   rw[h5]at g1;cases g1
   refine⟨c,v',h6,g2.keeps hk,?_⟩
   rw[qG hi,h3]
   exact g3.bK λa o e Z=>hk a o e
 have I':∀tk,Inv W (C.v8 σ s env C.A C.fr) (ow m O ρ) (σ.set D (.list true [])) {s with heap:=Y,toks:=tk}:=λtk=>
  {keep:=λb o e=>hk b o (qE e)
   eh:=λb o e=>⟨o.slots,hk b o (iL e).2⟩
   objs:=λa o e=>(yO.objs a o e).qr C2
   own:=λa o e ho=>by
    obtain⟨p1,p2,p3⟩:=yO.own a o e ho
    have Ut:¬FA env a:=by
     intro hf
     rcases F4 a hf with rfl | ⟨h,_⟩
     .rw[Ur]at e;cases e
     .exact p3 h
    refine⟨?_,ku ?_,Ut⟩
    .by_cases Te:a=D
     .subst Te
      exact(pq Un).1
     .have e':σ a=some o:=by
       have:=e;unfold Hp.set at this;rwa[ah Te]at this
      exact jT (.inl ⟨o,e',ho⟩)
    .rintro(q | q)
     .exact p3 (.inl q)
     .exact q p2
   yv:=yO.yv
   gens:=I.gens
   os:=I.os
   qp:=RT}
 have Jz:∀ρ' bw s',(∀i j,i<m->O.lookup i=some j->getL ρ' i=getL ρ j)->Inv W (C.v8 σ s env C.A C.fr) ρ' bw s'->
   ∀(i:Nat)(x:Str)(c:Addr),C.env.scope.names[i]? =some (x,.cell)->C.env.cells.lookup x=some c->FA env c->∃v,s'.heap.IsCell c v/\EY s'.heap v (getL ρ i):=by
  intro ρ' bw s' hp J i x c h1 h2 h3
  obtain⟨m',F'⟩:=J.qp
  rcases h3 with h3 | ⟨y,h3,h4⟩
  .obtain⟨o,g,_⟩:=FA.v9 I (.inr ⟨x,bF K.dh h1,h2⟩)
   rw[h3,eL,QV]at g;cases g
  .obtain⟨k,FJ⟩:=cC Bn h3
   obtain⟨j,c',a3,a4,a5,a6⟩:=D5 k y FJ
   have Uu:k<m:=by
    have:=(aS.mp FJ).1
    rw[es,gF,aV,m7]at this;exact this
   rw[h4]at a6;cases a6
   have:=K.apart x y c (bF K.dh h1) (bF K.dh a4) h2 a5
   subst this
   have:=eU K.dh h1 a4
   subst this
   obtain⟨c',v',g1,g2,g3⟩:=F'.cell k x .cell FJ (.inl rfl)
   have g1:env.cells.lookup x=some c':=g1
   rw[h4]at g1;cases g1
   rw[hp k i Uu a3]at g3
   exact⟨v',g2,g3⟩
 obtain⟨J,j0,hJ⟩:=hD D (by
  have:=fD
  exact this)
 have Uv:U≠L:=by
  rintro rfl
  rw[V _ _ OZ]at NV;cases NV
 have O2:vZ Y U v xs 0:=S.keep (λo e=>C2 _ _ (V _ _ e)) λb o e Z=>C2 _ _ (V _ _ e)
 have Uw:¬FA env U:=by
  intro hf
  rcases F4 _ hf with h | ⟨h,_⟩
  .exact Uv h
  .exact RP h
 have Ux:W.hB.get? U=none:=by
  cases q:W.hB.get? U with
  | none=>rfl
  | some o=>have:=K.base _ _ q;rw[RO]at this;cases this
 have Uy:(σ.set D (.list true [])) U=none:=by
  unfold Hp.set;rw[ah RS];exact RQ
 have Uz:mT env.scope RN t=true:=by rw[es];exact m1
 have UA:mE env.scope elt JA=true:=by rw[es];exact m3
 have UB:C0 env.scope cond ifs:=by rw[es];exact m8
 have loop:codeAny W.M C.A (.compLoop (.ListComp JA [⟨t,Tb,ifs,0⟩] H pos) 0 (.ref U) (.ref D) env) (RR (.ref D) L) {s with heap:=Y,toks:=s.toks+([]:List (Str × Value)).length}:=by
  have F':QT W (C.v8 σ s env C.A C.fr) U:=⟨(pq MC).1,(pq (σ:=σ) (env:=env) MC).2,Uw,Ux⟩
  refine lA (Ta W (C.v8 σ s env C.A C.fr) J U v xs λρ'=>∀i j,i<m->O.lookup i=some j->getL ρ' i=getL ρ j) ?_ xs.length
   ⟨0,[],_,_,j0,I' _,O2,Uy,λi j hi e=>?_,Nat.zero_le _,rfl⟩
  .intro k s' hh
   refine hd λG un=>?_
   obtain⟨i,out,ρ',bw,j,J1,S',OO,hp,hi,hk⟩:=hh
   obtain⟨OP,VW,UC,My,FZ⟩:=hJ i out ρ' bw j
   rcases ay i xs.length with yw | hge
   .have lt:xs.length-(i+1)<k:=hk▸Nat.sub_succ_lt_self _ _ yw
    have hx:=aJ yw
    obtain⟨yT,et,hb⟩:=FZ _ hx
    have QW:∀i j,i<m->O.lookup i=some j->getL yT i=getL ρ j:=λi j hm e=>by
     rw[D3 (i:=i) (λq=>by have:=aM.mp ht i q;rw[e]at this;cases this) et];exact hp i j hm e
    refine un (CY K' F' J1 OP S' OO hx λw qw J2 UD K2 RU UE fin=>rE UE (tA (C:=(C.v8 σ s env C.A C.fr).fz bw qw) K2 UD Uz RU et λFW Mz=>px.go (C:=(C.v8 σ s env C.A C.fr).fz bw qw) hb K2 UB Mz λb C3 UG Jy tt=>?_))
    cases b
    .obtain⟨a0,a1,a2⟩:=fin _ _ _ Jy
     exact⟨_,lt,i+1,out,yT,C3,tt,a0,a1,a2,QW,yw,rfl⟩
    .have tt:AWE W n elt yT C3 _ b7:=tt
     rw[ag rfl]
     refine aK (AWE.go (C:=(C.v8 σ s env C.A C.fr).fz bw qw) tt K2 UA Jy) (λu UH RV=>?_) λZ Z x=>x
     obtain⟨au,Tf,ru,O3,Tg,j3⟩:=RV
     obtain⟨items,m',g,r1⟩:=fE (O3.objs _ _ Tg)
     have z:items.size=out.length:=by simpa using r1.length
     refine Bl g (by lia) ?_
     have RW:=O3.setL (ys:=out++[au]) Tg g (λxs=>xs.push u) (by
      have e:(items.push u).toList=items.toList++[u]:=by simp
      rw[e];exact r1.append (.cons ru .nil))
     obtain⟨a0,a1,a2⟩:=fin _ _ _ RW
     exact⟨_,lt,i+1,_,yT,_,j3,a0,a1,a2,QW,yw,rfl⟩
   .have NS:=Nat.le_antisymm hi hge
    refine un (FY K'.hh K' F' J1 OP (NS▸S') OO λqw J2=>?_)
    refine Ul D L bw _ (I.D2 K hF J2 (Jz _ _ _ hp J2)) Td Up Uq ?_ ?_ (My NS)
    .cases q:bw L with
     | none=>rfl
     | some o=>
      cases ho:o.own with
      | true=>exact absurd (.inl eL.symm) (J2.own L o q ho).2.2
      | false=>
       have:=J2.yv L o q ho
       cases q:W.hB.get? L with
       | none=>exact absurd q this
       | some ob=>have:=K.base _ _ q;rw[Td]at this;cases this
    .obtain⟨m',F'⟩:=J2.qp
     have:=F'.ns
     rw[show(C.v8 σ s env C.A C.fr).env.locals=L from eL]at this
     exact⟨m',this⟩
  .rw[qG hi,e];rfl
 exact codeAny_compStart_list loop (yX O2 loop)
end
section
variable{W:Wd}{n:Nat}{ρ ρ':Loc}{σ:Hp}
theorem tF{j:Scope}(h:cY j.names=true):∀x∈j.names,x.2=.local->j.names.lookup x.1=some .local:=by
 intro x hx e
 obtain⟨i,hi,ex⟩:=aI hx
 obtain⟨a,b⟩:=x
 dsimp only at e ⊢;subst e
 exact bF h (i:=i) (by rw[aJ hi,ex])
theorem wc(I:Inv W C ρ σ s)(z:kr C.env.scope i y=true):closureFor i C.env=pure (qF C.env.cells i.names []):=by
 refine Bj λx hx=>?_
 obtain⟨j,D⟩:=F9 z hx
 obtain⟨m,F⟩:=I.qp
 obtain⟨c,v,e1,_⟩:=F.cell j x .cell D (.inl rfl)
 exact⟨c,e1⟩
theorem AWE.comp{cond:Option CE}(ht:y.all (λi=>(j.lookup i).isNone)=true)
  (z:∀sc e,mE sc it e=true->gy e=false) (h:AWE W n it ρ σ (C1 W n V y cond j m ρ Q) E):AWE W n (.comp V y it cond j m) ρ σ Q E:=by
 intro C s e K hm I
 obtain⟨G,t,H,L,Y,pos,rfl,m1,m2,m3,m4,m5,m6,m7,m8⟩:=yW hm
 rw[eval_ListComp]
 refine wpAny_comprehension_free (use:=Option.none) (e:=.ListComp G [⟨t,H,L,0⟩] Y pos) (g:=⟨t,H,L,0⟩) (gs:=[]) rfl (λx=>qB (z _ _ m2)) (wc I m4) m6 (tF m5) (aK (h.go K m2 I) (λvv qw O=>?_) λZ Z x=>x)
 obtain⟨v,Lq,rv,U,hc⟩:=O
 refine wb (Q:=Q) (RR:=λacc a=>compPost W.M C.A E Option.none (PV W C ρ Q) acc a) K U rv hc ht m1 m3 m4 m5 m6 m7 m8 ?_
 intro D a bw s' J k1 k2 k3 k4 ⟨m',hn⟩ q
 refine⟨m',hn,λh' hs=>⟨.ref D,bw,.ref D,?_,q⟩⟩
 refine J.Jv (t:=s'.toks) K k1 k2 k3 k4 ?_ λb o hb e=>(hs.2 b hb).trans e
 intro o ho hk
 obtain⟨o',es,ep,g1,g2,_⟩:=hn
 rw[g1]at ho;cases ho
 rcases hk with ⟨_,_,_,k⟩ | ⟨_,_,k⟩<;>(rw[g2]at k;cases k)
theorem tG(h:w7 sc i x=true):sc.names[i]? =some (x,.local):=by
 obtain⟨k,hk,h⟩:=jN h
 cases(az.mp h)
 exact hk
theorem D6(h:w7 sc i x=true):iF sc i x=true:=by
 exact Cy (tG h) rfl
theorem Gb{st:List Stmt}(h:mS sc (.k9 i e k) st=true):∃x p v q r,st=.Assign [.Name x p] v q::r/\w7 sc i x=true/\mE sc e v=true/\N6 x v=true/\(p.line==v.pos.line)=true/\(q.line==v.pos.line)=true/\mS sc k r=true:=by
 obtain⟨y,hy,h⟩:=bu h
 obtain⟨D,hx,h⟩:=bu h
 have j:=bC h;have h1:=bC j.1;have h2:=bC h1.1;have h3:=bC h2.1;have z:=bC h3.1
 exact⟨_,_,_,_,_,(mw hy).trans (by rw[fC hx]),z.1,z.2,h3.2,h2.2,h1.2,j.2⟩
theorem AWS.k9{cond:Option CE}(ht:U.all (λi=>(O.lookup i).isNone)=true)
  (V:∀sc e,mE sc it e=true->gy e=false) (h:AWE W n it ρ σ (C1 W n elt U cond O m ρ (λv H=>AWS W n k (Lake.setL ρ i v) H Q E)) b7):AWS W n (.k9 i (.comp elt U it cond O m) k) ρ σ Q E:=by
 intro C s st K hm I
 obtain⟨y,p,v,q,r,rfl,hy,m0,UI,Th,Ti,mk⟩:=Gb hm
 refine dC.cons (P:=λρ' bw=>AWS W n k ρ' bw Q E) K mk ?_ λZ Z x=>x
 obtain⟨z,t,G,L,j,pos,rfl,m1,m2,m3,m4,m5,m6,m7,m8⟩:=yW m0
 have UJ:C.env.kindOf y=some .local:=bF K.dh (tG hy)
 have Y:swapsWith (.ListComp z [⟨t,G,L,0⟩] j pos) (some (.Name y p)) q.line C.env=pure true:=by
  have hb:C.env.blockKind=.function:=by unfold Env.blockKind;rw[K.kind];rfl
  have RX:(j.names.any λ(n,k)=>n==y&&(k==.local||k==.cell))=false:=hW UI
  show(pure (C.env.blockKind==.function&&C.env.kindOf y==some .local&&p.line==(Expr.ListComp z [⟨t,G,L,0⟩] j pos).pos.line&& !(j.names.any λ(n,k)=>n==y&&(k==.local||k==.cell))):Sem Bool)=_
  rw[hb,UJ,Th,RX];rfl
 unfold dC
 rw[exec_Assign_Name_used _ _ _ _ Y]
 refine aQ (wpAny_standAt (aQ ?_))
 show wpAny _ C.A (do let _ <-comprehension (.ListComp z [⟨t,G,L,0⟩] j pos) j C.env _ (newList []) false (eval G C.env) (some (assign (.Name y p) C.env))) _ _ s
 refine aQ (aK (wpAny_comprehension_free (use:=some (assign (.Name y p) C.env)) (Q:=λZ s'=>PN W C (λρ' bw=>AWS W n k ρ' bw Q E) s') (e:=.ListComp z [⟨t,G,L,0⟩] j pos) (g:=⟨t,G,L,0⟩) (gs:=[]) rfl (λx=>qB (V _ _ m2)) (wc I m4) m6 (tF m5)
  (aK (h.DY K m2 I) (λvv qw Bi=>?_) λZ Z x=>x)) (λZ s' hq=>aR (aR hq)) λZ Z x=>x)
 obtain⟨v,H,rv,RY,hc⟩:=Bi
 refine wb (RR:=λacc a=>compPost W.M C.A (E C) (some (assign (.Name y p) C.env)) (λZ s'=>PN W C (λρ' bw=>AWS W n k ρ' bw Q E) s') acc a) K RY rv hc ht m1 m3 m4 m5 m6 m7 m8 ?_
 intro D a bw s' J k1 k2 k3 k4 ⟨m',hn⟩ q
 show wpAny W.M C.A (assign (.Name y p) C.env (.ref D)) _ _ _
 refine wpAny_assign_Name (iJ K J (D6 hy) (.ref D) λTj J' kp=>?_)
 have Tn:Tj.heap.Ns a m':=by
  obtain⟨o,es,ep,ho,r⟩:=hn
  exact⟨o,es,ep,kp _ _ ho k3,r⟩
 refine⟨m',Tn,λh' hs=>⟨_,bw,?_,q⟩⟩
 refine J'.Jv (t:=Tj.toks) K k1 k2 k3 k4 ?_ λb o hb e=>(hs.2 b hb).trans e
 intro o ho hk
 obtain⟨o',es,ep,g1,g2,_⟩:=Tn
 rw[g1]at ho;cases ho
 rcases hk with ⟨_,_,_,k⟩ | ⟨_,_,k⟩<;>(rw[g2]at k;cases k)
end
def Sub(σ bw:Hp):Prop:=∀a o,σ a=some o->bw a=some o
theorem Sub.refl(σ:Hp):Sub σ σ:=λZ Z h=>h
theorem Sub.trans(h:Sub σ bw)(h':Sub bw i):Sub σ i:=λa o e=>h' a o (h a o e)
theorem Sub.set(h:dZ σ a):Sub σ (σ.set a o):=λb x e=>by
 unfold Hp.set;rw[ah];exact e
 rintro rfl;rw[h]at e;cases e
section
variable{W:Wd}{n:Nat}{ρ ρ':Loc}{σ bw:Hp}
theorem Inv.lB(h:Sub σ bw)(I:Inv W C ρ bw s):Inv W C ρ σ s:=
 {I with objs:=λa o e=>I.objs a o (h a o e),own:=λa o e ho=>I.own a o (h a o e) ho,yv:=λa o e ho=>I.yv a o (h a o e) ho}
theorem AWE.iM(h:AWE W n c ρ σ Q b7):AWE W n c ρ σ Q E:=
 λC s e K m I=>aK (h C s e K m I) (λZ Z x=>x) λZ Z x=>x.elim
theorem AWS.bK{Q i:f6->Loc->Hp->Prop}(h:AWS W n c ρ σ Q E)(j:∀o ρ σ,Q o ρ σ->i o ρ σ):AWS W n c ρ σ i E:=
 λC s st K m I=>aK (h C s st K m I) (λZ Z y=>by obtain⟨o,ρ',bw,r,J,q⟩:=y;exact⟨o,ρ',bw,r,J,j _ _ _ q⟩) λZ Z x=>x
theorem AWS.Ge{E i:Cx->Value->Shared->Prop}(h:AWS W n c ρ σ Q E)(he:∀C e s,E C e s->i C e s):AWS W n c ρ σ Q i:=
 λC s st K m I=>aK (h C s st K m I) (λZ Z x=>x) λZ Z x=>he _ _ _ x
theorem AWS.split(ht:b=true->AWS W n t ρ σ Q E)(hf:b=false->AWS W n f ρ σ Q E):AWS W n (if b then t else f) ρ σ Q E:=by
 cases b
 .exact hf rfl
 .exact ht rfl
theorem eO.le(h:n<=i)(K:eO W i C):eO W n C:=
 {K with a:=⟨K.a.1,by have:=K.a.2.1;lia,by have:=K.a.2.2;lia⟩}
theorem CALL.bK{Q i:AV->Hp->Prop}(h:CALL W n f l σ Q E)(y:∀v bw,Q v bw->i v bw):CALL W n f l σ i E:=
 λC ρ s vs K I r=>codeAny_mono (h C ρ s vs K I r) λr s' j=>by
  rcases r with e | (v | _ | _ | _)<;>first | exact j | skip
  obtain⟨av,bw,a,b,c⟩:=j
  exact⟨av,bw,a,b,y _ _ c⟩
theorem CALL.lB{Q y:AV->Hp->Prop}{E z:Cx->Value->Shared->Prop}(h:CALL W n f l σ Q E)(D:∀v i,Q v i->∃bw,Sub bw i/\y v bw)(he:∀C e s,E C e s->z C e s):CALL W n f l σ y z:=
 λC ρ s vs K I r=>codeAny_mono (h C ρ s vs K I r) λr s' j=>by
  rcases r with e | (v | _ | _ | _)<;>first | exact he _ _ _ j | exact j | skip
  obtain⟨av,i,a,b,c⟩:=j
  obtain⟨bw,d,e⟩:=D _ _ c
  exact⟨av,bw,a,b.lB d,e⟩
def cu(W:Wd)(n f:Nat)(l:List AV)(σ:Hp)(X:AV)(bw:Hp):Prop:=∀(Q:AV->Hp->Prop)(E:Cx->Value->Shared->Prop),Q X bw->CALL W n f l σ Q E
abbrev Pure(W:Wd)(n f:Nat)(l:List AV)(σ:Hp)(X:AV):Prop:=cu W n f l σ X σ
def g6(W:Wd)(n f:Nat)(l:List AV)(σ:Hp)(xs:List AV):Prop:=∀(Q:AV->Hp->Prop)(E:Cx->Value->Shared->Prop),(∀a,dZ σ a->Q (.ref a) (σ.set a (.list true xs)))->CALL W n f l σ Q E
def Fin(X:AV)(bw:Hp)(o:f6)(i:Hp):Prop:=match o with
 | .ret v=>v=X/\Sub bw i
 | .next=>AV.none=X/\Sub bw i
 | _=>False
def Bo(σ:Hp)(xs:List AV)(o:f6)(i:Hp):Prop:=match o with
 | .ret v=>∃a,v=.ref a/\σ a=none/\Sub σ i/\i a=some (.list true xs)
 | _=>False
theorem cu.body(G:GF W){f j m:Nat}{c:CS}{l:List AV}{X:AV}(hc:bz f j m c=true)(hl:l.length=j)(y:1<=n)
  (h:AWS W (n-1) c (initLoc m l) σ (λo Z i=>Fin X bw o i) (λZ=>b7)):cu W n f l σ X bw:=by
 intro Q E q
 obtain⟨k,rfl⟩:∃k,n=k+1:=⟨n-1,by lia⟩
 refine CALL.lB (CALL.body (Q:=λv i=>v=X/\Sub bw i) (E:=λZ=>b7) G hc hl jy.none (AWS.bK h λo ρ σ x=>?_)) (λv i h=>?_) λZ Z Z x=>x.elim
 .cases o
  case next=>exact⟨x.1,x.2⟩
  case ret=>exact⟨x.1,x.2⟩
  all_goals exact x
 .obtain⟨rfl,hs⟩:=h
  exact⟨bw,hs,q⟩
theorem g6.body(G:GF W){f y m:Nat}{c:CS}{l:List AV}{xs:List AV}(hc:bz f y m c=true)(hl:l.length=y)(D:1<=n)
  (h:AWS W (n-1) c (initLoc m l) σ (λo Z i=>Bo σ xs o i) (λZ=>b7)):g6 W n f l σ xs:=by
 intro Q E q
 obtain⟨k,rfl⟩:∃k,n=k+1:=⟨n-1,by lia⟩
 refine CALL.lB (CALL.body (Q:=λv i=>∃a,v=.ref a/\σ a=none/\Sub σ i/\i a=some (.list true xs)) (E:=λZ=>b7) G hc hl jy.none (AWS.bK h λo ρ σ x=>?_)) (λv i h=>?_) λZ Z Z x=>x.elim
 .cases o
  case ret=>exact x
  all_goals exact x.elim
 .obtain⟨a,rfl,z,hs,e⟩:=h
  refine⟨σ.set a (.list true xs),λb o j=>?_,q a z⟩
  unfold Hp.set at j
  split at j
  .rename_i hb;subst hb;rw[e];exact j
  .exact hs b o j
theorem AWS.ifT(hb:b=true)(h:AWS W n t ρ σ Q E):AWS W n (if b then t else f) ρ σ Q E:=by rw[hb];exact h
theorem AWS.ifF(hb:b=false)(h:AWS W n f ρ σ Q E):AWS W n (if b then t else f) ρ σ Q E:=by rw[hb];exact h
theorem bE{P R:Prop}(ht:b=true->P)(hf:b=false->R):if b=true then P else R:=by
 cases b
 .exact hf rfl
 .exact ht rfl
theorem binv_shl(h:(0<=b/\b<=1000)/\-(2^64)<a/\a<2^64):fA .LShift (.int a) (.int b)=some (.int (a*2^b.toNat)):=(ae (Option.map AV.int) (ag h) :)
theorem binv_shr(h:0<=b):fA .RShift (.int a) (.int b)=some (.int (a.fdiv (2^b.toNat))):=(ae (Option.map AV.int) (ag h) :)
theorem binv_mul(h:-(2^64)<a/\a<2^64):fA .Mult (.int a) (.int b)=some (.int (a*b)):=(ae (Option.map AV.int) (ag h) :)
theorem binv_mod(h:b≠0):fA .Mod (.int a) (.int b)=some (.int (a.fmod b)):=(ae (Option.map AV.int) (ah h) :)
theorem binv_fdiv(h:b≠0):fA .FloorDiv (.int a) (.int b)=some (.int (a.fdiv b)):=(ae (Option.map AV.int) (ah h) :)
end
def bJ:Loc->Loc->Prop
 | [],[]=>True
 | none::r,_::i=>bJ r i
 | some v::r,some w::i=>v=w/\bJ r i
 | _,_=>False
theorem bJ.ind{P:Loc->Loc->Prop}(n:P [] [])(o:∀w r i,bJ r i->P r i->P (none::r) (w::i))(s:∀v r i,bJ r i->P r i->P (some v::r) (some v::i))(h:bJ a b):P a b:=by
 induction a generalizing b with
 | nil=>
  cases b with
  | nil=>exact n
  | cons=>exact h.elim
 | cons x r j=>
  cases b with
  | nil=>cases x<;>exact h.elim
  | cons y i=>
   cases x with
   | none=>exact o _ _ _ h (j h)
   | some v=>
    cases y with
    | none=>exact h.elim
    | some w=>
     have h:v=w/\bJ r i:=h
     rw[<-h.1];exact s _ _ _ h.2 (j h.2)
theorem bJ.len(h:bJ a b):a.length=b.length:=bJ.ind (P:=λa b=>a.length=b.length) rfl (λZ Z Z Z e=>ae (·+1) e) (λZ Z Z Z e=>ae (·+1) e) h
theorem bJ.get(h:bJ a b):getL a i=some v->getL b i=some v:=by
 refine bJ.ind (P:=λa b=>∀i,getL a i=some v->getL b i=some v) (λZ e=>e) (λZ Z Z Z j i e=>?_) (λZ Z Z Z j i e=>?_) h i
 .cases i with
  | zero=>exact fo e
  | succ i=>exact j i e
 .cases i with
  | zero=>exact e
  | succ i=>exact j i e
theorem bJ.nE(h:bJ L ρ):bJ (Lake.setL L i v) (Lake.setL ρ i v):=by
 refine bJ.ind (P:=λa b=>∀i,bJ (Lake.setL a i v) (Lake.setL b i v)) (λZ=>trivial) (λZ Z Z h j i=>?_) (λZ Z Z h j i=>?_) h i
 .cases i with
  | zero=>exact⟨rfl,h⟩
  | succ i=>exact j i
 .cases i with
  | zero=>exact⟨rfl,h⟩
  | succ i=>exact⟨rfl,j i⟩
theorem bJ.free(h:bJ L ρ):getL L i=none->bJ L (Lake.setL ρ i v):=by
 refine bJ.ind (P:=λa b=>∀i,getL a i=none->bJ a (Lake.setL b i v)) (λZ Z=>trivial) (λZ Z Z h j i e=>?_) (λZ Z Z h j i e=>?_) h i
 .cases i with
  | zero=>exact h
  | succ i=>exact j i e
 .cases i with
  | zero=>exact fo e.symm
  | succ i=>exact⟨rfl,j i e⟩
theorem bJ.trans(h:bJ a b):bJ b c->bJ a c:=by
 refine bJ.ind (P:=λa b=>∀c,bJ b c->bJ a c) (λZ h=>h) (λw Z Z Z i c h=>?_) (λZ Z Z Z i c h=>?_) h c
 .cases c with
  | nil=>cases w<;>exact h.elim
  | cons y c=>
   cases w with
   | none=>exact i c h
   | some w=>
    cases y with
    | none=>exact h.elim
    | some y=>exact i c h.2
 .cases c with
  | nil=>exact h.elim
  | cons y c=>
   cases y with
   | none=>exact h.elim
   | some y=>exact⟨h.1,i c h.2⟩
theorem bJ.RZ(h:bJ a b):bJ (setTs a is l) (setTs b is l):=by
 induction is generalizing l a b with
 | nil=>exact h
 | cons i is j=>
  cases l with
  | nil=>exact h
  | cons v l=>exact j h.nE
theorem bJ.refl(a:Loc):bJ a a:=by
 induction a with
 | nil=>exact trivial
 | cons x r i=>
  cases x with
  | none=>exact i
  | some v=>exact⟨rfl,i⟩
theorem lit0:(0:Int)=((0:Nat):Int):=rfl
theorem lit1:(1:Int)=((1:Nat):Int):=rfl
theorem lit2:(2:Int)=((2:Nat):Int):=rfl
theorem lit3:(3:Int)=((3:Nat):Int):=rfl
theorem lit4:(4:Int)=((4:Nat):Int):=rfl
theorem lit5:(5:Int)=((5:Nat):Int):=rfl
theorem lit6:(6:Int)=((6:Nat):Int):=rfl
def pad:Nat->Loc
 | 0=>[]
 | k+1=>none::pad k
def loc0:List AV->Nat->Loc
 | [],k=>pad k
 | a::l,k=>some a::loc0 l (k-1)
theorem MD(k:Nat):pad k=(show Loc from List.replicate k none):=by
 induction k with
 | zero=>rfl
 | succ k i=>exact ae (List.cons none) i
theorem xt(l:List AV)(m:Nat):initLoc m l=loc0 l m:=by
 induction l generalizing m with
 | nil=>exact(MD m).symm
 | cons a l i=>
  have e:m-(l.length+1)=m-1-l.length:=by rw[Nat.sub_sub,Nat.add_comm]
  exact ae (List.cons (some a)) ((ae (λk=>l.map some++List.replicate k none) e).trans (i (m-1)))
inductive FI(W:Wd)(n:Nat)(t:List Nat)(b k:CS)(Q:f6->Loc->Hp->Prop)(E:Cx->Value->Shared->Prop)(ρ:Loc)(v:AV)(σ:Hp):Prop
 | mk (xs:List AV) (L:Nat->Loc) (H:Nat->Hp) (P:Nat->Prop):P 0->(∀i,i<=xs.length->bO (H i) v=some xs)->bO σ v=some xs->bJ (L 0) ρ->Sub (H 0) σ->(P xs.length->AWS W n k (L xs.length) (H xs.length) Q E)->
   (∀i x,i<xs.length->P i->xs[i]? =some x->TG W n t b (L i) x (H i) (lq W n k Q E λρ' bw=>P (i+1)/\bJ (L (i+1)) ρ'/\Sub (H (i+1)) bw) E)->FI W n t b k Q E ρ v σ
section
variable{W:Wd}{n:Nat}{ρ ρ':Loc}{σ bw:Hp}
theorem AWS.norm(e:ρ=ρ')(h:AWS W n c ρ' σ Q E):AWS W n c ρ σ Q E:=by rw[e];exact h
theorem AWS.norm0(e:loc0 l m=ρ')(h:AWS W n c ρ' σ Q E):AWS W n c (initLoc m l) σ Q E:=by rw[xt,e];exact h
theorem ee.loose(hs:bJ ρ ρ')(F:ee env h ρ' m):ee env h ρ m:=by
 have key:∀i v,EY h v (getL ρ' i)->EY h v (getL ρ i):=by
  intro i v x
  cases e:getL ρ i with
  | none=>cases v<;>exact trivial
  | some w=>rw[hs.get e]at x;exact x
 exact⟨F.ns,hs.len.trans F.len,λi x e=>key i _ (F.DN i x e),λi x k e hk=>e23 (F.cell i x k e hk) λc v a b d=>⟨c,v,a,b,key i _ d⟩⟩
theorem Inv.loose(hs:bJ ρ ρ')(I:Inv W C ρ' σ s):Inv W C ρ σ s:=
 {I with qp:=e11 I.qp λm F=>⟨m,F.loose hs⟩}
theorem AWS.loose(hl:bJ ρ ρ')(hs:Sub σ bw)(h:AWS W n c ρ σ Q E):AWS W n c ρ' bw Q E:=
 λC s st K m I=>h C s st K m ((I.lB hs).loose hl)
theorem AWS.fi(N:b0 W n E)(h:AWE W n it ρ σ (FI W n t b k Q E ρ) b7):AWS W n (.cb t it b k) ρ σ Q E:=by
 refine AWS.fr N (AWE.bK h λv I h=>?_)
 obtain⟨xs,L,H,P,J,O,G,hL,hH,hk,hb⟩:=h
 refine⟨xs,λi ρ' bw=>i<=xs.length/\P i/\bJ (L i) ρ'/\Sub (H i) bw,G,⟨Nat.zero_le _,J,hL,hH⟩,λi ρ' bw hj=>?_⟩
 obtain⟨hi,V,h1,h2⟩:=hj
 refine⟨?_,λe=>?_,λx hx=>?_⟩
 .have:=O i hi
  unfold bO at this ⊢
  cases v with
  | ref b=>
   dsimp only at this ⊢
   cases e:H i b with
   | none=>rw[e]at this;cases this
   | some o=>rw[h2 b o e];rw[e]at this;exact this
  | _=>exact this
 .subst e;exact AWS.loose h1 h2 (hk V)
 .have z:=(aS.mp hx).1
  obtain⟨D,et,U⟩:=hb i x z V hx
  have tg:∃y,xp t ρ' x=some y/\bJ D y:=by
   refine sQ et (λi e1 e2=>?_) (λi j r l e1 e2 hl e3=>?_)
   .rw[e1,<-e2];exact⟨_,rfl,h1.nE⟩
   .rw[e1,e2,<-e3];exact⟨_,ag hl,h1.RZ⟩
  obtain⟨y,e2,h3⟩:=tg
  refine⟨y,e2,AWS.loose h3 h2 (AWS.bK U λo Y UK q=>?_)⟩
  cases o
  case next=>exact⟨z,q.1,q.2.1,q.2.2⟩
  case cont=>exact⟨z,q.1,q.2.1,q.2.2⟩
  case brk=>exact q
  case ret=>exact q
end
inductive wd where
 | c (v:AV)
 | v (i:Nat)
 | tab (k:Nat)
 | bx (o:Operator)
 | mulL
 | u9 (c:Nat)
 | new (c m:Nat)
 | bM (o:CmpOp)
 | not
 | neg
 | inv
 | abs
 | len
 | bt (k:Nat)
 | sub
 | cn (m:Nat)
 | cI (m:Nat)
 | c8 (m:Nat)
 | call (f m:Nat)
 | C4 (f m:Nat)
 | QX
 | app
 | ex (c:CE)
 | E0 (c:CE)
 | tt
 | nt
 | JB (r:CE)
 | QY (r:CE)
 | JC
 | set (i:Nat)
 | O4 (is:List Nat)
 | iw (i:Nat) (o:Operator)
 | cg (f:Nat)
 | Lr (f:Nat)
 | fZ (f:Nat) (o:Operator)
 | eK
 | JD
 | jx (o:Operator)
 | out (o:f6)
 | ite (t f k:CS)
 | st (c:CS)
@[reducible]def nF:sX->Nat
 | .nil=>0
 | .cons _ r=>nF r+1
@[reducible]def Gf:CE->Bool
 | .cI _=>true
 | _=>false
@[reducible]def Gg:Operator->Bool
 | .Mult=>true
 | _=>false
@[reducible]def Ij(o:Operator)(l:CE):wd:=match Gg o with
 | true=>(match Gf l with
  | true=>.mulL
  | false=>.bx o)
 | false=>.bx o
mutual
@[reducible] noncomputable def cE:CE->List wd->List wd
 | .int i,is=>.c (.int i)::is
 | .bool b,is=>.c (.bool b)::is
 | .none,is=>.c .none::is
 | .var i,is=>.v i::is
 | .bD _ i,is=>.c (.int i)::is
 | .ko _ k,is=>.tab k::is
 | .bx o l r,is=>cE l (cE r (Ij o l::is))
 | .new c es,is=>(.u9 c::JE es (.new c (nF es)::is))
 | .bM o l r,is=>cE l (cE r (.bM o::is))
 | .not a,is=>cE a (.not::is)
 | .neg a,is=>cE a (.neg::is)
 | .inv a,is=>cE a (.inv::is)
 | .abs a,is=>cE a (.abs::is)
 | .len a,is=>cE a (.len::is)
 | .bt a k,is=>cE a (.bt k::is)
 | .sub a b,is=>cE a (cE b (.sub::is))
 | .cn es,is=>JE es (.cn (nF es)::is)
 | .cI es,is=>JE es (.cI (nF es)::is)
 | .c8 es,is=>JE es (.c8 (nF es)::is)
 | .call f es,is=>JE es (.call f (nF es)::is)
 | .append a b,is=>cE a (.QX::cE b (.app::is))
 | c,is=>.ex c::is
@[reducible] noncomputable def JE:sX->List wd->List wd
 | .nil,is=>is
 | .cons c cs,is=>cE c (JE cs is)
end
@[reducible]def cT:CE->List wd->List wd
 | .bM o l r,is=>cE (.bM o l r) is
 | .not a,is=>cT a (.nt::is)
 | .and l r,is=>cT l (.JB r::is)
 | .or l r,is=>cT l (.QY r::is)
 | .chn o p a b c,is=>.E0 (.chn o p a b c)::is
 | .ko x k,is=>.E0 (.ko x k)::is
 | .cn es,is=>.E0 (.cn es)::is
 | .cI es,is=>.E0 (.cI es)::is
 | .c8 es,is=>.E0 (.c8 es)::is
 | .append a b,is=>.E0 (.append a b)::is
 | .ite a b c,is=>.E0 (.ite a b c)::is
 | .new a b,is=>.E0 (.new a b)::is
 | .slice a b c,is=>.E0 (.slice a b c)::is
 | .pop a,is=>.E0 (.pop a)::is
 | .comp a b c d e f,is=>.E0 (.comp a b c d e f)::is
 | c,is=>cE c (.tt::is)
@[reducible]def JF:CE->Option (Nat × sX)
 | .call f es=>some (f,es)
 | _=>none
@[reducible]def cX(c:CE)(is:List wd):List wd:=match JF c with
 | some (f,es)=>JE es (.C4 f (nF es)::is)
 | none=>cE c (.JC::is)
@[reducible]def Gh(b:Bool)(l:List wd)(k:CS):List wd:=match b with
 | true=>l
 | false=>[.st k]
@[reducible]def cS(b:Bool):CS->List wd
 | .skip=>[.st .skip]
 | .bL i e k=>cE e (.set i::(Gh b (cS b k) k))
 | .o5 is e k=>cE e (.O4 is::(Gh b (cS b k) k))
 | .iw i o e k=>.v i::cE e (.iw i o::(Gh b (cS b k) k))
 | .cg o f e k=>cE e (cE o (.cg f::(Gh b (cS b k) k)))
 | .fZ o f j e k=>cE o (.Lr f::cE e (.fZ f j::(Gh b (cS b k) k)))
 | .eK o i e k=>cE e (cE o (cE i (.eK::(Gh b (cS b k) k))))
 | .jx o i j e k=>cE o (cE i (.JD::cE e (.jx j::(Gh b (cS b k) k))))
 | .bS c t f k=>cT c [.ite t f k]
 | .ret e=>cE e []
 | .yx=>[.c .none]
 | .expr e k=>cX e ((Gh b (cS b k) k))
 | .brk=>[.out .brk]
 | .cont=>[.out .cont]
 | c=>[.st c]
@[reducible]def jf(st:List AV)(K:AV->List AV->Prop):Prop:=match st with
 | v::r=>K v r
 | []=>False
@[reducible]def qH(st:List AV)(K:AV->AV->List AV->Prop):Prop:=jf st λb r=>jf r λa r=>K a b r
@[reducible]def vh:Nat->List AV->List AV->(List AV->List AV->Prop)->Prop
 | 0,acc,st,K=>K acc st
 | m+1,acc,v::r,K=>vh m (v::acc) r K
 | _+1,_,[],_=>False
@[reducible]def R0(x:Option AV)(K:AV->Prop):Prop:=match x with
 | some v=>K v
 | none=>False
@[reducible]def QZ:Loc->Nat->(AV->Prop)->Prop
 | [],_,_=>False
 | x::r,i,K=>match i with
  | 0=>R0 x K
  | i+1=>QZ r i K
@[reducible]def ME:Loc->Nat->AV->(Loc->Prop)->Prop
 | [],_,_,K=>K []
 | _::r,0,v,K=>K (some v::r)
 | x::r,i+1,v,K=>ME r i v λj=>K (x::j)
@[reducible]def Q0:Loc->List Nat->List AV->(Loc->Prop)->Prop
 | ρ,i::is,v::vs,K=>ME ρ i v λρ'=>Q0 ρ' is vs K
 | ρ,_,_,K=>K ρ
@[reducible]def D7(v:AV)(K:Int->Prop)(D:Prop):Prop:=match v with
 | .int i=>K i
 | _=>D
@[reducible]def jh(a b:AV)(K:Int->Int->Prop)(D:Prop):Prop:=D7 a (λi=>D7 b (K i) D) D
@[reducible]def JG(o:Operator)(a b:AV)(K:AV->Prop):Prop:=match o with
 | .Add=>jh a b (λi j=>K (.int (i+j))) False
 | .Sub=>jh a b (λi j=>K (.int (i-j))) False
 | .BitAnd=>jh a b (λi j=>K (.int (Builtin.bitAnd i j))) False
 | .BitOr=>jh a b (λi j=>K (.int (Builtin.bitOr i j))) False
 | .BitXor=>jh a b (λi j=>K (.int (Builtin.bitXor i j))) False
 | o=>∃v,fA o a b=some v/\K v
@[reducible]def MF(σ:Hp)(o:CmpOp)(a b:AV)(K:Bool->Prop):Prop:=match o with
 | .Eq=>jh a b (λi j=>K (i==j)) (∃k,dR σ .Eq a b k/\K k)
 | .NotEq=>jh a b (λi j=>K (i != j)) (∃k,dR σ .NotEq a b k/\K k)
 | .Lt=>jh a b (λi j=>K (decide (i<j))) False
 | .LtE=>jh a b (λi j=>K (decide (i<=j))) False
 | .Gt=>jh a b (λi j=>K (decide (j<i))) False
 | .GtE=>jh a b (λi j=>K (decide (j<=i))) False
 | o=>∃k,dR σ o a b k/\K k
@[reducible]def JH(σ:Hp)(v:AV)(K:Bool->Prop):Prop:=match v with
 | .bool b=>K b
 | .int i=>K (i != 0)
 | v=>∃k,iH σ v=some k/\K k
@[reducible]def yZ(v:AV)(K:Bool->Prop):Prop:=match v with
 | .bool b=>K b
 | _=>False
inductive KSet(σ:Hp)(u:AV)(f:Nat)(v:AV)(K:Hp->Prop):Prop
 | mk (d:Addr) (i:List (Nat × AV)):qz σ u f=some (d,i)->K (σ.set d (.dict (hY i f v)))->KSet σ u f v K
inductive KAug(σ:Hp)(o:Operator)(f:Nat)(x v u:AV)(K:Hp->Prop):Prop
 | mk (w:AV) (d:Addr) (i:List (Nat × AV)):fA o x v=some w->qz σ u f=some (d,i)->K (σ.set d (.dict (hY i f w)))->KAug σ o f x v u K
inductive KPut(σ:Hp)(u j v:AV)(K:Hp->Prop):Prop
 | mk (a:Addr) (xs:List AV) (x:Int):nh σ u=some (a,xs)->j=.int x->0<=x->x<2^60->x<xs.length->K (σ.set a (.list true (xs.set x.toNat v)))->KPut σ u j v K
inductive KAuP(σ:Hp)(o:Operator)(y v u j:AV)(K:Hp->Prop):Prop
 | mk (w:AV) (a:Addr) (xs:List AV) (x:Int):fA o y v=some w->nh σ u=some (a,xs)->j=.int x->0<=x->x<2^60->x<xs.length->K (σ.set a (.list true (xs.set x.toNat w)))->KAuP σ o y v u j K
inductive KMul(σ:Hp)(v u:AV)(r:List AV)(ρ:Loc)(k:List AV->Loc->Hp->Prop):Prop
 | mk (a:Addr) (xs:List AV) (i:Int):gz σ v=some (a,xs)->u=.int i->0<=i->i<=10000->xs.length<=100->(∀a,dZ σ a->k (.ref a::r) ρ (σ.set a (.list true (List.replicate i.toNat xs).flatten)))->KMul σ v u r ρ k
inductive KLst(σ:Hp)(l r:List AV)(ρ:Loc)(k:List AV->Loc->Hp->Prop):Prop
 | mk:l.length<=1000->(∀a,dZ σ a->k (.ref a::r) ρ (σ.set a (.list true l)))->KLst σ l r ρ k
inductive KApp(σ:Hp)(p:Addr)(u:AV)(K:Hp->Prop):Prop
 | mk (xs:List AV):σ p=some (.list true xs)->xs.length<=100000->K (σ.set p (.list true (xs++[u])))->KApp σ p u K
inductive KLat(σ:Hp)(v:AV)(r:List AV)(ρ:Loc)(k:List AV->Loc->Hp->Prop):Prop
 | mk (p:Addr) (xs:List AV):gz σ v=some (p,xs)->k (.ref p::r) ρ σ->KLat σ v r ρ k
@[reducible]def step(W:Wd)(n:Nat)(Q:f6->Loc->Hp->Prop)(E:Cx->Value->Shared->Prop)(i:wd)(st:List AV)(ρ:Loc)(σ:Hp)(k:List AV->Loc->Hp->Prop):Prop:=match i with
 | .c v=>k (v::st) ρ σ
 | .v i=>QZ ρ i λv=>k (v::st) ρ σ
 | .tab j=>k (s7 W.gi j::st) ρ σ
 | .bx o=>qH st λa b r=>JG o a b λv=>k (v::r) ρ σ
 | .mulL=>qH st λv u r=>KMul σ v u r ρ k
 | .u9 c=>c<3/\1<=n/\k st ρ σ
 | .new c m=>vh m [] st λl r=>∀d a,dZ σ d->dZ σ a->a≠d->CALL W (n-1) (113+c) (.ref a::l) ((σ.set d (.dict [])).set a (.inst c d)) (λv bw=>v=.none/\k (.ref a::r) ρ bw) λZ=>b7
 | .bM o=>qH st λa b r=>MF σ o a b λv=>k (.bool v::r) ρ σ
 | .not=>jf st λa r=>JH σ a λb=>k (.bool (!b)::r) ρ σ
 | .neg=>jf st λa r=>D7 a (λi=>k (.int (-i)::r) ρ σ) False
 | .inv=>jf st λa r=>D7 a (λi=>k (.int (Builtin.bitNot i)::r) ρ σ) False
 | .abs=>jf st λa r=>D7 a (λi=>k (.int (if i<0 then -i else i)::r) ρ σ) False
 | .len=>jf st λa r=>∃i,lg σ a=some i/\k (.int i::r) ρ σ
 | .bt f=>jf st λa r=>∃w,f9 σ a f=some w/\k (w::r) ρ σ
 | .sub=>qH st λa b r=>∃w,cw σ a b=some w/\k (w::r) ρ σ
 | .cn m=>vh m [] st λl r=>l.length<=1000/\k (.cn l::r) ρ σ
 | .cI m=>vh m [] st λl r=>KLst σ l r ρ k
 | .c8 m=>vh m [] st λl r=>∃v,vW l=some v/\k (v::r) ρ σ
 | .call f m=>vh m [] st λl r=>CALL W n f l σ (λv bw=>k (v::r) ρ bw) λZ=>b7
 | .C4 f m=>vh m [] st λl r=>CALL W n f l σ (λv bw=>qy v/\k r ρ bw) E
 | .QX=>jf st λv r=>KLat σ v r ρ k
 | .app=>qH st λp u r=>match p with
  | .ref p=>KApp σ p u (k (.none::r) ρ)
  | _=>False
 | .ex c=>AWE W n c ρ σ (λv bw=>k (v::st) ρ bw) b7
 | .E0 c=>AWT W n c ρ σ (λv bw=>k (.bool v::st) ρ bw) b7
 | .tt=>jf st λa r=>JH σ a λb=>k (.bool b::r) ρ σ
 | .nt=>jf st λa r=>yZ a λb=>k (.bool (!b)::r) ρ σ
 | .JB c=>jf st λa r=>yZ a λb=>if b then AWT W n c ρ σ (λv bw=>k (.bool v::r) ρ bw) b7 else k (.bool false::r) ρ σ
 | .QY c=>jf st λa r=>yZ a λb=>if b then k (.bool true::r) ρ σ else AWT W n c ρ σ (λv bw=>k (.bool v::r) ρ bw) b7
 | .JC=>jf st λa r=>qy a/\k r ρ σ
 | .set i=>jf st λv r=>ME ρ i v λρ'=>k r ρ' σ
 | .O4 is=>jf st λv r=>∃l,v=.cn l/\is.length=l.length/\Q0 ρ is l λρ'=>k r ρ' σ
 | .iw i o=>qH st λu v r=>JG o u v λw=>ME ρ i w λρ'=>k r ρ' σ
 | .cg f=>qH st λv u r=>KSet σ u f v (k r ρ)
 | .Lr f=>jf st λu r=>∃x,f9 σ u f=some x/\k (x::u::r) ρ σ
 | .fZ f o=>qH st λx v r=>jf r λu r=>KAug σ o f x v u (k r ρ)
 | .eK=>qH st λu j r=>jf r λv r=>KPut σ u j v (k r ρ)
 | .JD=>qH st λu j r=>∃y,cw σ u j=some y/\k (y::j::u::r) ρ σ
 | .jx o=>qH st λy v r=>qH r λu j r=>KAuP σ o y v u j (k r ρ)
 | .out o=>Q o ρ σ
 | .ite t f c=>jf st λa Z=>yZ a λb=>AWS W n (if b then t else f) ρ σ (sq W n c Q E) E
 | .st c=>AWS W n c ρ σ Q E
@[reducible]def mrun(W:Wd)(n:Nat)(Q:f6->Loc->Hp->Prop)(E:Cx->Value->Shared->Prop):List wd->List AV->Loc->Hp->Prop
 | []=>λst ρ σ=>jf st λv Z=>Q (.ret v) ρ σ
 | i::is=>λst ρ σ=>step W n Q E i st ρ σ (mrun W n Q E is)
section
variable{W:Wd}{n:Nat}{ρ:Loc}{σ:Hp}{Q:f6->Loc->Hp->Prop}{E:Cx->Value->Shared->Prop}
theorem AWEs.bK{R i:List AV->Hp->Prop}{E:Value->Shared->Prop}(h:AWEs W n cs ρ σ R E)(j:∀v σ,R v σ->i v σ):AWEs W n cs ρ σ i E:=
 λC s es pos K m I=>aK (h C s es pos K m I) (λZ Z y=>by obtain⟨l,bw,r,J,q⟩:=y;exact⟨l,bw,r,J,j _ _ q⟩) λZ Z x=>x
theorem AWT.bK{T i:Bool->Hp->Prop}{E:Value->Shared->Prop}(h:AWT W n c ρ σ T E)(j:∀v σ,T v σ->i v σ):AWT W n c ρ σ i E:=
 λC s es K m I=>aK (h C s es K m I) (λZ Z y=>by obtain⟨bw,J,q⟩:=y;exact⟨bw,J,j _ _ q⟩) λZ Z x=>x
theorem AWT.iM{E:Value->Shared->Prop}(h:AWT W n c ρ σ T b7):AWT W n c ρ σ T E:=
 λC s e K m I=>aK (h C s e K m I) (λZ Z x=>x) λZ Z x=>x.elim
theorem JI{K:List AV->List AV->Prop}{st:List AV}(r acc:List AV):vh r.length acc (r++st) K=K (r.reverse++acc) st:=by
 induction r generalizing acc with
 | nil=>rfl
 | cons v r i=>
  rw[List.reverse_cons,List.append_assoc]
  exact i (v::acc)
theorem mA{K:List AV->List AV->Prop}{l st:List AV}(hm:l.length=m)(h:vh m [] (l.reverse++st) K):K l st:=by
 subst hm
 rw[<-List.length_reverse,JI,List.reverse_reverse,aZ]at h
 exact h
theorem pz{K:Int->Prop}(h:D7 v K D):(∃i,v=.int i/\K i)\/D:=by
 cases v<;>first | exact .inr h | exact .inl ⟨_,rfl,h⟩
theorem y0{K:Int->Int->Prop}(h:jh a b K D):(∃i j,a=.int i/\b=.int j/\K i j)\/D:=by
 rcases pz h with ⟨i,y,h⟩ | h
 .rcases pz h with ⟨j,z,h⟩ | h
  .exact .inl ⟨i,j,y,z,h⟩
  .exact .inr h
 .exact .inr h
theorem tH{K:AV->Prop}{g:Int->Int->Int}(e:∀i j,fA o (.int i) (.int j)=some (.int (g i j)))(h:jh a b (λi j=>K (.int (g i j))) False):∃v,fA o a b=some v/\K v:=by
 rcases y0 h with ⟨i,j,y,z,h⟩ | h
 .exact⟨_,by rw[y,z];exact e i j,h⟩
 .exact h.elim
theorem C5{K:AV->Prop}(h:JG o a b K):∃v,fA o a b=some v/\K v:=by
 cases o
 case Add=>exact tH (λZ Z=>rfl) h
 case Sub=>exact tH (λZ Z=>rfl) h
 case BitAnd=>exact tH (λZ Z=>rfl) h
 case BitOr=>exact tH (λZ Z=>rfl) h
 case BitXor=>exact tH (λZ Z=>rfl) h
 all_goals exact h
theorem qI{K:Bool->Prop}{g:Int->Int->Bool}(e:∀i j,o9 σ o (.int i) (.int j)=some (g i j))(d:D->∃k,dR σ o a b k/\K k)(h:jh a b (λi j=>K (g i j)) D):∃k,dR σ o a b k/\K k:=by
 rcases y0 h with ⟨i,j,y,z,h⟩ | h
 .exact⟨_,by rw[y,z];exact dR.val (e i j),h⟩
 .exact d h
theorem C6{K:Bool->Prop}(h:MF σ o a b K):∃k,dR σ o a b k/\K k:=by
 cases o
 case Eq=>exact qI (λZ Z=>rfl) id h
 case NotEq=>exact qI (λZ Z=>rfl) id h
 case Lt=>exact qI (λZ Z=>rfl) False.elim h
 case LtE=>exact qI (λZ Z=>rfl) False.elim h
 case Gt=>exact qI (λZ Z=>rfl) False.elim h
 case GtE=>exact qI (λZ Z=>rfl) False.elim h
 all_goals exact h
theorem dN{K:Bool->Prop}(h:JH σ v K):∃k,iH σ v=some k/\K k:=by
 cases v
 case bool=>exact⟨_,rfl,h⟩
 case int=>exact⟨_,rfl,h⟩
 all_goals exact h
theorem Gi{K:AV->Prop}(h:QZ ρ i K):∃v,getL ρ i=some v/\K v:=by
 induction ρ generalizing i with
 | nil=>exact h.elim
 | cons x r j=>
  cases i with
  | zero=>
   cases x with
   | none=>exact h.elim
   | some v=>exact⟨v,rfl,h⟩
  | succ i=>exact j h
theorem Bp{K:Loc->Prop}(h:ME ρ i v K):K (setL ρ i v):=by
 induction ρ generalizing i K with
 | nil=>exact h
 | cons x r j=>
  cases i with
  | zero=>exact h
  | succ i=>exact j (K:=λr=>K (x::r)) h
theorem MG{K:Loc->Prop}(h:Q0 ρ is l K):K (setTs ρ is l):=by
 induction is generalizing l ρ with
 | nil=>cases l<;>exact h
 | cons i is j=>
  cases l with
  | nil=>exact h
  | cons v l=>exact j (Bp (K:=λρ'=>Q0 ρ' is l K) h)
theorem Gj(h:Gg o=true):o=.Mult:=by cases o<;>first | rfl | cases h
theorem MH(o:Operator)(l:CE):Ij o l=.bx o\/(Ij o l=.mulL/\o=.Mult):=by
 cases h:Gg o with
 | false=>exact .inl (by unfold Ij;rw[h])
 | true=>
  cases g:Gf l with
  | false=>exact .inl (by unfold Ij;rw[h,g])
  | true=>exact .inr ⟨by unfold Ij;rw[h,g],Gj h⟩
theorem AWE.R6(G:GF W){Q:AV->Hp->Prop}(hc:c<3)(j:1<=n)
  (h:AWEs W n es ρ σ (λl i=>∀d a,dZ i d->dZ i a->a≠d->CALL W (n-1) (113+c) (.ref a::l) ((i.set d (.dict [])).set a (.inst c d)) (λv bw=>v=.none/\Q (.ref a) bw) λZ=>b7) b7):AWE W n (.new c es) ρ σ Q y:=by
 cases n with
 | zero=>cases j
 | succ n=>exact AWE.new G hc h
theorem KSet.ex{K j:Hp->Prop}(h:KSet σ u f v K)(q:∀σ,K σ->j σ):∃d i,qz σ u f=some (d,i)/\j (σ.set d (.dict (hY i f v))):=KSet.casesOn h λd i a h=>⟨d,i,a,q _ h⟩
theorem KAug.ex{K j:Hp->Prop}(h:KAug σ o f x v u K)(q:∀σ,K σ->j σ):∃w d i,fA o x v=some w/\qz σ u f=some (d,i)/\j (σ.set d (.dict (hY i f w))):=KAug.casesOn h λw d i a b h=>⟨w,d,i,a,b,q _ h⟩
theorem KPut.ex{K i:Hp->Prop}(h:KPut σ u j v K)(q:∀σ,K σ->i σ):∃a xs x,nh σ u=some (a,xs)/\j=.int x/\0<=x/\x<2^60/\x<xs.length/\i (σ.set a (.list true (xs.set x.toNat v))):=KPut.casesOn h λa xs x b c d e f h=>⟨a,xs,x,b,c,d,e,f,q _ h⟩
theorem KAuP.ex{K i:Hp->Prop}(h:KAuP σ o y v u j K)(q:∀σ,K σ->i σ):∃w a xs x,fA o y v=some w/\nh σ u=some (a,xs)/\j=.int x/\0<=x/\x<2^60/\x<xs.length/\i (σ.set a (.list true (xs.set x.toNat w))):=
 KAuP.casesOn h λw a xs x b c d e f g h=>⟨w,a,xs,x,b,c,d,e,f,g,q _ h⟩
theorem KMul.ex(h:KMul σ v u r ρ k):∃a xs i,gz σ v=some (a,xs)/\u=.int i/\0<=i/\i<=10000/\xs.length<=100/\∀a,dZ σ a->k (.ref a::r) ρ (σ.set a (.list true (List.replicate i.toNat xs).flatten)):=
 KMul.casesOn h λa xs i h1 h2 h3 j y z=>⟨a,xs,i,h1,h2,h3,j,y,z⟩
theorem KLst.ex(h:KLst σ l r ρ k):l.length<=1000/\∀a,dZ σ a->k (.ref a::r) ρ (σ.set a (.list true l)):=KLst.casesOn h λa b=>⟨a,b⟩
theorem KApp.ex{K:Hp->Prop}(h:KApp σ p u K):∃xs,σ p=some (.list true xs)/\xs.length<=100000/\K (σ.set p (.list true (xs++[u]))):=KApp.casesOn h λxs a b h=>⟨xs,a,b,h⟩
theorem KLat.ex{X:Addr->Prop}(h:KLat σ v r ρ k)(q:∀p,k (.ref p::r) ρ σ->X p):∃p xs,gz σ v=some (p,xs)/\X p:=KLat.casesOn h λp xs a h=>⟨p,xs,a,q p h⟩
def PE(W:Wd)(n:Nat)(Q:f6->Loc->Hp->Prop)(E:Cx->Value->Shared->Prop)(ρ:Loc)(c:CE):Prop:=∀(is:List wd)(st:List AV)(σ:Hp)(i:Value->Shared->Prop),mrun W n Q E (cE c is) st ρ σ->AWE W n c ρ σ (λv bw=>mrun W n Q E is (v::st) ρ bw) i
def Ls(W:Wd)(n:Nat)(Q:f6->Loc->Hp->Prop)(E:Cx->Value->Shared->Prop)(ρ:Loc)(cs:sX):Prop:=∀(is:List wd)(st:List AV)(σ:Hp)(i:Value->Shared->Prop),mrun W n Q E (JE cs is) st ρ σ->AWEs W n cs ρ σ (λl bw=>l.length=nF cs/\mrun W n Q E is (l.reverse++st) ρ bw) i
def PT(W:Wd)(n:Nat)(Q:f6->Loc->Hp->Prop)(E:Cx->Value->Shared->Prop)(ρ:Loc)(c:CE):Prop:=∀(is:List wd)(st:List AV)(σ:Hp)(i:Value->Shared->Prop),mrun W n Q E (cT c is) st ρ σ->AWT W n c ρ σ (λv bw=>mrun W n Q E is (.bool v::st) ρ bw) i
theorem Ls.cons{c:CE}{cs:sX}(ic:PE W n Q E ρ c)(i:Ls W n Q E ρ cs):Ls W n Q E ρ (.cons c cs):=λis st Z Z h=>AWEs.cons ((ic _ _ _ _ h).bK λv Z h=>(i _ _ _ _ h).bK λl Z h=>⟨ae (·+1) h.1,by rw[List.reverse_cons,List.append_assoc];exact h.2⟩)
theorem Gk(G:GF W):∀c,PE W n Q E ρ c:=by
 refine CE.rec (motive_1:=PE W n Q E ρ) (motive_2:=Ls W n Q E ρ) (motive_3:=λZ=>True) ?_ ?_ ?_ ?_ ?_ ?_ ?_ ?_ ?_ ?_ ?_ ?_ ?_ ?_ ?_ ?_ ?_ ?_ ?_ ?_ ?_ ?_ ?_ ?_ ?_ ?_ ?_ ?_ ?_ ?_ (λZ Z Z Z h=>AWEs.nil ⟨rfl,h⟩) (λZ Z ic D=>Ls.cons ic D) trivial λZ Z=>trivial
 .exactλZ Z Z Z Z h=>AWE.int h
 .exactλZ Z Z Z Z h=>AWE.bool h
 .exactλZ Z Z Z h=>AWE.none h
 .exactλZ Z Z Z Z h=>(Gi h).elim λZ h=>AWE.var h.1 h.2
 .exactλZ Z Z Z Z Z h=>AWE.bD G h
 .exactλZ Z Z Z Z Z h=>AWE.ko G h
 .exactλo l r y z is st Z Z h=>by
    rcases MH o l with e | ⟨e,rfl⟩
    .exact AWE.bx G ((y (cE r (Ij o l::is)) _ _ _ h).bK λZ Z h=>(z (Ij o l::is) _ _ _ h).bK λZ Z h=>by rw[e]at h;exact C5 h)
    .exact AWE.mulL ((y (cE r (Ij .Mult l::is)) _ _ _ h).bK λZ Z h=>(z (Ij .Mult l::is) _ _ _ h).bK λZ Z h=>by rw[e]at h;exact KMul.ex h)
 .exactλZ l r y z Z Z Z Z h=>AWE.bM ((y _ _ _ _ h).bK λZ Z h=>(z _ _ _ _ h).bK λZ Z h=>C6 h)
 .exactλZ Z Z Z Z Z Z Z Z Z Z Z h=>AWE.iM h
 .exactλZ Z Z Z Z Z Z Z h=>AWE.iM h
 .exactλZ Z Z Z Z Z Z Z h=>AWE.iM h
 .exactλa j Z Z Z Z h=>AWE.not ((j _ _ _ _ h).bK λZ Z h=>dN h)
 .exactλa j Z Z Z Z h=>AWE.neg ((j _ _ _ _ h).bK λZ Z h=>(pz h).resolve_right id)
 .exactλa j Z Z Z Z h=>AWE.inv ((j _ _ _ _ h).bK λZ Z h=>(pz h).resolve_right id)
 .exactλZ Z Z Z Z Z Z Z Z Z h=>AWE.iM h
 .exactλa Z j Z Z Z Z h=>AWE.bt G (j _ _ _ _ h)
 .exactλa b j H Z Z Z Z h=>AWE.sub ((j _ _ _ _ h).bK λZ Z h=>H _ _ _ _ h)
 .exactλes i Z Z Z Z h=>AWE.cn ((i _ _ _ _ h).bK λZ Z h=>mA h.1 h.2)
 .exactλes i is Z Z Z h=>AWE.cI ((i _ _ _ _ h).bK λZ bw h=>KLst.ex (mA (K:=λl r=>KLst bw l r ρ (mrun W n Q E is)) h.1 h.2))
 .exactλa j Z Z Z Z h=>AWE.len G (j _ _ _ _ h)
 .exactλa j Z Z Z Z h=>AWE.abs G ((j _ _ _ _ h).bK λZ Z h=>(pz h).resolve_right id)
 .exactλes i Z Z Z Z h=>AWE.c8 G ((i _ _ _ _ h).bK λZ Z h=>mA h.1 h.2)
 .exactλf es i is Z Z Z h=>AWE.call G ((i _ _ _ _ h).bK λZ bw h=>mA (K:=λl r=>CALL W n f l bw (λv bw=>mrun W n Q E is (v::r) ρ bw) λZ=>b7) h.1 h.2)
 .exactλc es i is Z Z Z h=>AWE.R6 G h.1 h.2.1 ((i (.new c (nF es)::is) _ _ _ h.2.2).bK λl bw h=>mA (K:=λl r=>∀d a,dZ bw d->dZ bw a->a≠d->CALL W (n-1) (113+c) (.ref a::l) ((bw.set d (.dict [])).set a (.inst c d)) (λv bw=>v=.none/\mrun W n Q E is (.ref a::r) ρ bw) λZ=>b7) h.1 h.2)
 .exactλZ Z Z Z Z Z Z Z h=>AWE.iM h
 .exactλa b j H Z Z Z Z h=>AWE.append ((j _ _ _ _ h).bK λZ Z h=>KLat.ex h λZ h=>(H _ _ _ _ h).bK λZ Z h=>KApp.ex h)
 .exactλZ Z Z Z Z Z h=>AWE.iM h
 .exactλZ Z Z Z Z Z Z Z h=>AWE.iM h
 .exactλZ Z Z Z Z Z Z Z h=>AWE.iM h
 .exactλZ Z Z Z Z Z Z Z Z Z Z Z Z h=>AWE.iM h
theorem c4(G:GF W)(c:CE){st:List AV}:mrun W n Q E (cE c is) st ρ σ->AWE W n c ρ σ (λv bw=>mrun W n Q E is (v::st) ρ bw) i:=Gk G c is st σ i
theorem JJ(G:GF W):∀cs,Ls W n Q E ρ cs:=by
 refine sX.rec (motive_1:=λZ=>True) (motive_2:=Ls W n Q E ρ) (motive_3:=λZ=>True) ?_ ?_ ?_ ?_ ?_ ?_ ?_ ?_ ?_ ?_ ?_ ?_ ?_ ?_ ?_ ?_ ?_ ?_ ?_ ?_ ?_ ?_ ?_ ?_ ?_ ?_ ?_ ?_ ?_ ?_ (λZ Z Z Z h=>AWEs.nil ⟨rfl,h⟩) (λc Z Z i=>Ls.cons (Gk G c) i) trivial λZ Z=>trivial
 all_goals(intros;exact trivial)
theorem MI(G:GF W)(cs:sX){st:List AV}:mrun W n Q E (JE cs is) st ρ σ->AWEs W n cs ρ σ (λl bw=>l.length=nF cs/\mrun W n Q E is (l.reverse++st) ρ bw) i:=JJ G cs is st σ i
theorem MJ(G:GF W):∀c,PT W n Q E ρ c:=by
 refine CE.rec (motive_1:=PT W n Q E ρ) (motive_2:=λZ=>True) (motive_3:=λZ=>True) ?_ ?_ ?_ ?_ ?_ ?_ ?_ ?_ ?_ ?_ ?_ ?_ ?_ ?_ ?_ ?_ ?_ ?_ ?_ ?_ ?_ ?_ ?_ ?_ ?_ ?_ ?_ ?_ ?_ ?_ trivial (λZ Z Z Z=>trivial) trivial λZ Z=>trivial
 .exactλi Z Z Z Z h=>AWT.val rfl ((c4 G (.int i) h).bK λZ Z h=>dN h)
 .exactλi Z Z Z Z h=>AWT.val rfl ((c4 G (.bool i) h).bK λZ Z h=>dN h)
 .exactλZ Z Z Z h=>AWT.val rfl ((c4 G .none h).bK λZ Z h=>dN h)
 .exactλi Z Z Z Z h=>AWT.val rfl ((c4 G (.var i) h).bK λZ Z h=>dN h)
 .exactλx i Z Z Z Z h=>AWT.val rfl ((c4 G (.bD x i) h).bK λZ Z h=>dN h)
 .exactλZ Z Z Z Z Z h=>AWT.iM h
 .exactλo a b j y Z Z Z Z h=>AWT.val rfl ((c4 G (.bx o a b) h).bK λZ Z h=>dN h)
 .exactλo l r z D Z Z Z Z h=>AWT.bM ((c4 G l h).bK λZ Z h=>(c4 G r h).bK λZ Z h=>C6 h)
 .exactλZ Z Z Z Z Z Z Z Z Z Z Z h=>AWT.iM h
 .exactλl r z D Z Z Z Z h=>AWT.and ((z _ _ _ _ h).bK λb Z h=>by
     cases b
     .exact h
     .exact AWT.iM h)
 .exactλl r z D Z Z Z Z h=>AWT.or ((z _ _ _ _ h).bK λb Z h=>by
     cases b
     .exact AWT.iM h
     .exact h)
 .exactλa j Z Z Z Z h=>AWT.not ((j _ _ _ _ h).bK λZ Z h=>h)
 .exactλa j Z Z Z Z h=>AWT.val rfl ((c4 G (.neg a) h).bK λZ Z h=>dN h)
 .exactλa j Z Z Z Z h=>AWT.val rfl ((c4 G (.inv a) h).bK λZ Z h=>dN h)
 .exactλZ Z Z Z Z Z Z Z Z Z h=>AWT.iM h
 .exactλa k j Z Z Z Z h=>AWT.val rfl ((c4 G (.bt a k) h).bK λZ Z h=>dN h)
 .exactλa b j y Z Z Z Z h=>AWT.val rfl ((c4 G (.sub a b) h).bK λZ Z h=>dN h)
 .exactλZ Z Z Z Z Z h=>AWT.iM h
 .exactλZ Z Z Z Z Z h=>AWT.iM h
 .exactλa j Z Z Z Z h=>AWT.val rfl ((c4 G (.len a) h).bK λZ Z h=>dN h)
 .exactλa j Z Z Z Z h=>AWT.val rfl ((c4 G (.abs a) h).bK λZ Z h=>dN h)
 .exactλZ Z Z Z Z Z h=>AWT.iM h
 .exactλa b y Z Z Z Z h=>AWT.val rfl ((c4 G (.call a b) h).bK λZ Z h=>dN h)
 .exactλZ Z Z Z Z Z Z h=>AWT.iM h
 .exactλZ Z Z Z Z Z Z Z h=>AWT.iM h
 .exactλZ Z Z Z Z Z Z Z h=>AWT.iM h
 .exactλZ Z Z Z Z Z h=>AWT.iM h
 .exactλa b j y Z Z Z Z h=>AWT.val rfl ((c4 G (.index a b) h).bK λZ Z h=>dN h)
 .exactλa b j y Z Z Z Z h=>AWT.val rfl ((c4 G (.count a b) h).bK λZ Z h=>dN h)
 .exactλZ Z Z Z Z Z Z Z Z Z Z Z Z h=>AWT.iM h
theorem Lu(G:GF W)(c:CE){st:List AV}:mrun W n Q E (cT c is) st ρ σ->AWT W n c ρ σ (λv bw=>mrun W n Q E is (.bool v::st) ρ bw) i:=MJ G c is st σ i
theorem O5(G:GF W)(h:mrun W n Q E (cX e is) [] ρ σ)(hk:∀ρ σ,mrun W n Q E is [] ρ σ->AWS W n k ρ σ Q E):AWS W n (.expr e k) ρ σ Q E:=by
 unfold cX at h
 split at h
 .rename_i f es he
  have:e=.call f es:=by cases e<;>first | (cases he;rfl) | cases he
  subst this
  exact AWS.pv G ((MI G es h).bK λZ bw h=>(mA (K:=λl r=>CALL W n f l bw (λv bw=>qy v/\mrun W n Q E is r ρ bw) E) h.1 h.2).bK λZ Z h=>⟨h.1,hk _ _ h.2⟩)
 .exact AWS.expr ((c4 G e h).bK λZ Z h=>⟨h.1,hk _ _ h.2⟩)
theorem lC(h:mrun W n Q E l [] ρ σ->AWS W n c ρ σ Q E)(g:mrun W n Q E (Gh b l c) [] ρ σ):AWS W n c ρ σ Q E:=by
 cases b
 .exact g
 .exact h g
theorem Gl(G:GF W)(z:Bool)(c:CS):∀{ρ:Loc}{σ:Hp},mrun W n Q E (cS z c) [] ρ σ->AWS W n c ρ σ Q E:=by
 induction c with
 | skip=>exactλ{_}{_}h=>h
 | bL i e k j=>exactλ{_}{_}h=>AWS.bL ((c4 G e h).bK λZ Z h=>lC j (Bp h))
 | k9 _ _ _ _=>exactλ{_}{_}h=>h
 | o5 is e k j=>exactλ{_}{_}h=>AWS.o5 ((c4 G e h).bK λZ Z h=>Exists.imp (λZ h=>⟨h.1,h.2.1,lC j (MG h.2.2)⟩) h)
 | iw i o e k j=>
    intro ρ _ h
    obtain⟨u,y,h⟩:=Gi h
    refine AWS.iw G y ((c4 (is:=.iw i o::Gh z (cS z k) k) (st:=[u]) G e h).bK λv bw h=>?_)
    obtain⟨w,e,h⟩:=C5 (K:=λw=>ME ρ i w λρ'=>mrun W n Q E (Gh z (cS z k) k) [] ρ' bw) h
    exact⟨w,e,lC j (Bp h)⟩
 | cg o f e k j=>exactλ{_}{_}h=>AWS.cg G ((c4 G e h).bK λZ Z h=>(c4 G o h).bK λZ Z h=>KSet.ex h λZ=>lC j)
 | fZ o f D e k j=>exactλ{_}{_}h=>AWS.fZ G ((c4 G o h).bK λZ Z h=>Exists.imp (λZ h=>⟨h.1,(c4 G e h.2).bK λZ Z h=>KAug.ex h λZ=>lC j⟩) h)
 | eK o i e k j=>exactλ{_}{_}h=>AWS.eK ((c4 G e h).bK λZ Z h=>(c4 G o h).bK λZ Z h=>(c4 G i h).bK λZ Z h=>KPut.ex h λZ=>lC j)
 | jx o i D e k j=>exactλ{_}{_}h=>AWS.jx G ((c4 G o h).bK λZ Z h=>(c4 G i h).bK λZ Z h=>Exists.imp (λZ h=>⟨h.1,(c4 G e h.2).bK λZ Z h=>KAuP.ex h λZ=>lC j⟩) h)
 | bS c t f k H I j=>exactλ{_}{_}h=>AWS.bS ((Lu G c h).bK λZ Z h=>h)
 | E7 _ _ _ _ _=>exactλ{_}{_}h=>h
 | cb _ _ _ _ _ _=>exactλ{_}{_}h=>h
 | ret e=>exactλ{_}{_}h=>AWS.ret (c4 G e h)
 | yx=>exactλ{_}{_}h=>AWS.yx h
 | expr e k j=>exactλ{_}{_}h=>O5 G h λZ Z=>lC j
 | brk=>exactλ{_}{_}h=>AWS.brk h
 | cont=>exactλ{_}{_}h=>AWS.cont h
 | iE _ _=>exactλ{_}{_}h=>h
 | w4 _ _ _ _ _ _ _=>exactλ{_}{_}h=>h
@[reducible]def MK(Q:AV->Hp->Prop)(o:f6)(_:Loc)(σ:Hp):Prop:=match o with
 | .ret v=>Q v σ
 | _=>False
@[reducible]def O6(T:Bool->Hp->Prop)(o:f6)(_:Loc)(σ:Hp):Prop:=match o with
 | .ret v=>yZ v λb=>T b σ
 | _=>False
theorem AWS.r(G:GF W)(h:mrun W n Q E (cS true c) [] ρ σ):AWS W n c ρ σ Q E:=Gl G true c h
theorem AWE.r(G:GF W){Q:AV->Hp->Prop}{E:Value->Shared->Prop}(h:mrun W n (MK Q) (λZ=>b7) (cE c []) [] ρ σ):AWE W n c ρ σ Q E:=c4 G c h
theorem AWT.r(G:GF W){E:Value->Shared->Prop}(h:mrun W n (O6 T) (λZ=>b7) (cT c []) [] ρ σ):AWT W n c ρ σ T E:=Lu G c h
@[reducible]def To:CS->Bool
 | .skip=>false
 | .k9 .. =>false
 | .E7 .. =>false
 | .cb .. =>false
 | .iE .. =>false
 | .w4 .. =>false
 | _=>true
@[reducible]def UL:CE->Bool
 | .chn .. =>false
 | .and .. =>false
 | .or .. =>false
 | .ite .. =>false
 | .new .. =>false
 | .slice .. =>false
 | .pop .. =>false
 | .index .. =>false
 | .count .. =>false
 | .comp .. =>false
 | _=>true
theorem AWS.g(G:GF W)(_:To c=true)(h:mrun W n Q E (cS true c) [] ρ σ):AWS W n c ρ σ Q E:=Gl G true c h
theorem AWS.g1(G:GF W)(_:To c=true)(h:mrun W n Q E (cS false c) [] ρ σ):AWS W n c ρ σ Q E:=Gl G false c h
theorem AWE.g(G:GF W)(_:UL c=true){Q:AV->Hp->Prop}{E:Value->Shared->Prop}(h:mrun W n (MK Q) (λZ=>b7) (cE c []) [] ρ σ):AWE W n c ρ σ Q E:=c4 G c h
theorem wCmp{K:Bool->Prop}(e:o9 σ o (.int a) (.int b)=some k)(h:K k):∃k,dR σ o (.int a) (.int b) k/\K k:=⟨k,.val e,h⟩
theorem wIs{K:Bool->Prop}(e:o9 σ .Is .none .none=some k)(h:K k):∃k,dR σ .Is .none .none k/\K k:=⟨k,.val e,h⟩
theorem wTru{K:Bool->Prop}(e:iH σ (.int a)=some k)(h:K k):∃k,iH σ (.int a)=some k/\K k:=⟨k,e,h⟩
theorem wTrb{K:Bool->Prop}(e:iH σ (.bool a)=some k)(h:K k):∃k,iH σ (.bool a)=some k/\K k:=⟨k,e,h⟩
theorem wBin{K:AV->Prop}(e:fA o (.int a) (.int b)=some w)(h:K w):∃w,fA o (.int a) (.int b)=some w/\K w:=⟨w,e,h⟩
theorem wInt{K:Int->Prop}(h:K i):∃j,AV.int i=.int j/\K j:=⟨i,rfl,h⟩
theorem cu.m{st:List AV}(p:cu W n f l σ X bw)(h:mrun W n Q E is (X::st) ρ bw):CALL W n f l σ (λv bw=>mrun W n Q E is (v::st) ρ bw) λZ=>b7:=p _ _ h
theorem g6.m{st:List AV}(p:g6 W n f l σ xs)(h:∀a,dZ σ a->mrun W n Q E is (.ref a::st) ρ (σ.set a (.list true xs))):CALL W n f l σ (λv bw=>mrun W n Q E is (v::st) ρ bw) λZ=>b7:=p _ _ h
theorem exi{α:Type}{f:Option α}{w:α}{K:α->Prop}(h:f=some w)(k:K w):∃w,f=some w/\K w:=⟨w,h,k⟩
end
def lh:Nat->(Nat->Bool)->Nat
 | 0,_=>0
 | n+1,f=>(if f 0 then 1 else 0)+2*lh n (λs=>f (s+1))
theorem xu(n:Nat)(f:Nat->Bool)(i:Nat):(lh n f).testBit i=(decide (i<n)&&f i):=by
 induction n generalizing f i with
 | zero=>exact Nat.zero_testBit i
 | succ n j=>
  show((if f 0=true then 1 else 0)+2*lh n (λs=>f (s+1))).testBit i=_
  cases i with
  | zero=>
   rw[Nat.testBit_zero,Nat.add_mul_mod_self_left,decide_eq_true (Nat.succ_pos n),Bool.true_and]
   cases f 0<;>rfl
  | succ i=>
   rw[Nat.testBit_succ,Nat.add_mul_div_left _ _ (by decide:0<2),(by cases f 0<;>rfl:(if f 0=true then 1 else 0)/2=0),Nat.zero_add,j,decide_eq_decide.mpr Nat.succ_lt_succ_iff]
theorem JK(n:Nat)(f:Nat->Bool):lh n f<2^n:=by
 induction n generalizing f with
 | zero=>exact Nat.zero_lt_one
 | succ n i=>
  have h:=i λs=>f (s+1)
  show(if f 0=true then 1 else 0)+2*lh n (λs=>f (s+1))<2^n*2
  have z:(if f 0=true then 1 else 0)<=1:=by cases f 0<;>decide
  exact ak (Nat.add_lt_add_right (Nat.lt_succ_of_le z) _) (ai (aw (by rw[Nat.mul_comm (lh n (λs=>f (s+1))+1) 2,Nat.mul_add,Nat.add_comm]:1+1+2*lh n (λs=>f (s+1))=(lh n (λs=>f (s+1))+1)*2)) (Nat.mul_le_mul_right 2 h))
@[irreducible]def mk(f:Nat->Bool):Int:=((lh 32 f:Nat):Int)
theorem fF(f:Nat->Bool):∃m:Nat,mk f=(m:Int)/\(∀i,m.testBit i=(decide (i<32)&&f i))/\m<2^32:=by
 refine⟨lh 32 f,?_,xu 32 f,JK 32 f⟩
 unfold mk;rfl
theorem nG{m:Nat}(h:∀i,m.testBit i=(decide (i<32)&&f i)):(m:Int)=mk f:=by
 obtain⟨k,e,b,_⟩:=fF f
 rw[e,show m=k from Nat.eq_of_testBit_eq λi=>(h i).trans (b i).symm]
theorem bP(h:∀s,s<32->f s=g s):mk f=mk g:=by
 obtain⟨k,e,b,_⟩:=fF f
 rw[e]
 refine nG λi=>(b i).trans ?_
 by_cases hi:i<32
 .rw[h i hi]
 .simp[hi]
theorem Bq(h:mk f=mk g):∀s,s<32->f s=g s:=by
 intro s hs
 obtain⟨k,e,b,_⟩:=fF f
 obtain⟨i,j,y,_⟩:=fF g
 have h1:k=i:=by rw[e,j]at h;omega
 subst h1
 have:=(b s).symm.trans (y s)
 simp only[hs,decide_true,Bool.true_and]at this
 exact this
theorem D8(f:Nat->Bool):0<=mk f:=by
 obtain⟨k,e,_⟩:=fF f
 rw[e];exact Int.natCast_nonneg _
theorem O7(f:Nat->Bool):mk f<2^32:=by
 obtain⟨k,e,_,h⟩:=fF f
 rw[e];lia
theorem iN(a b:Nat):Builtin.bitAnd (a:Int) (b:Int)=((a &&& b:Nat):Int):=by
 unfold Builtin.bitAnd
 simp
theorem bitAnd_not(a b:Nat):Builtin.bitAnd (a:Int) (Builtin.bitNot (b:Int))=(a:Int)-((a &&& b:Nat):Int):=by
 unfold Builtin.bitAnd Builtin.bitNot
 have h1:decide ((0:Int)<=(a:Int))=true:=by simp
 have h2:decide ((0:Int)<=-(b:Int)-1)=false:=by simp;lia
 rw[h1,h2]
 simp
 congr 2
 rw[Int.neg_sub,Int.sub_neg,Int.add_comm,<-Int.natCast_succ,a9];rfl
theorem C7(a b:Nat):a-(a &&& b)=a ^^^ (a &&& b):=by
 have h:∀(a b:Nat),(a ^^^ (a &&& b))+(a &&& b)=a:=by
  intro a
  induction a using Nat.strongRecOn with
  | ind a j=>
   intro b
   by_cases i:a=0
   .subst i;simp
   .have h3:(a ^^^ (a &&& b)) % 2+(a &&& b) % 2=a % 2:=by
     rw[show(a ^^^ (a &&& b)) % 2=(a % 2) ^^^ ((a &&& b) % 2)from Nat.xor_mod_two_pow (n:=1),show(a &&& b) % 2=(a % 2) &&& (b % 2)from Nat.and_mod_two_pow (n:=1)]
     exact(by decide:∀p,p<2->∀q,q<2->(p ^^^ (p &&& q))+(p &&& q)=p) _ (Nat.mod_lt _ (by decide)) _ (Nat.mod_lt _ (by decide))
    have y:(a ^^^ (a &&& b))/2+(a &&& b)/2=a/2:=by
     rw[Nat.xor_div_two,Nat.and_div_two];exact j _ (Nat.div_lt_self (Nat.pos_of_ne_zero i) (by decide)) _
    refine((congr (ae HAdd.hAdd (Nat.div_add_mod _ 2)) (Nat.div_add_mod _ 2)).symm.trans ?_).trans (Nat.div_add_mod a 2)
    rw[Nat.add_add_add_comm,<-Nat.mul_add,h3,y]
 exact Nat.sub_eq_of_eq_add (h a b).symm
theorem cj(f g:Nat->Bool):Builtin.bitAnd (mk f) (mk g)=mk (λs=>f s&&g s):=by
 obtain⟨k,e,b,_⟩:=fF f
 obtain⟨z,j,y,_⟩:=fF g
 rw[e,j,iN]
 refine nG λi=>?_
 rw[Nat.testBit_and,b,y]
 cases decide (i<32)<;>simp
theorem gG(f g:Nat->Bool):Builtin.bitAnd (mk f) (Builtin.bitNot (mk g))=mk (λs=>f s&& !g s):=by
 obtain⟨k,e,b,_⟩:=fF f
 obtain⟨z,j,y,_⟩:=fF g
 rw[e,j,bitAnd_not,<-Int.ofNat_sub Nat.and_le_left,C7]
 refine nG λi=>?_
 rw[Nat.testBit_xor,Nat.testBit_and,b,y]
 cases decide (i<32)<;>cases f i<;>cases g i<;>rfl
theorem mB(a b:Nat):Builtin.bitOr (a:Int) (b:Int)=((a ||| b:Nat):Int):=by
 unfold Builtin.bitOr Builtin.bitAnd Builtin.bitNot
 have h1:∀a:Nat,decide ((0:Int)<=-(a:Int)-1)=false:=λa=>by simp;omega
 rw[h1,h1]
 dsimp only
 have e:∀a:Nat,(-(-(a:Int)-1)-1).toNat=a:=λa=>by lia
 rw[e,e]
 lia
theorem da(f g:Nat->Bool):Builtin.bitOr (mk f) (mk g)=mk (λs=>f s||g s):=by
 obtain⟨k,e,b,_⟩:=fF f
 obtain⟨z,j,y,_⟩:=fF g
 rw[e,j,mB]
 refine nG λi=>?_
 rw[Nat.testBit_or,b,y]
 cases decide (i<32)<;>simp
theorem Br(a b:Nat):(a ||| b)-(a &&& b)=a ^^^ b:=by
 have h:=C7 (a ||| b) (a &&& b)
 have e:(a ||| b) &&& (a &&& b)=a &&& b:=by
  refine Nat.eq_of_testBit_eq λi=>?_
  simp only[Nat.testBit_and,Nat.testBit_or]
  cases a.testBit i<;>cases b.testBit i<;>rfl
 rw[e]at h
 rw[h]
 refine Nat.eq_of_testBit_eq λi=>?_
 simp only[Nat.testBit_and,Nat.testBit_or,Nat.testBit_xor]
 cases a.testBit i<;>cases b.testBit i<;>rfl
theorem ox(a b:Nat):Builtin.bitXor (a:Int) (b:Int)=((a ^^^ b:Nat):Int):=by
 unfold Builtin.bitXor
 rw[mB,iN,<-Br,Int.ofNat_sub]
 exact ai Nat.and_le_left Nat.left_le_or
theorem qJ(f g:Nat->Bool):Builtin.bitXor (mk f) (mk g)=mk (λs=>f s != g s):=by
 obtain⟨k,e,b,_⟩:=fF f
 obtain⟨z,j,y,_⟩:=fF g
 rw[e,j,ox]
 refine nG λi=>?_
 rw[Nat.testBit_xor,b,y]
 cases decide (i<32)<;>simp
theorem cV:mk (λZ=>false)=0:=(nG (m:=0) (f:=λZ=>false) λi=>by simp).symm
theorem c7:mk f=0↔∀s,s<32->f s=false:=by
 constructor
 .intro h;rw[<-cV]at h;exactλs hs=>Bq h s hs
 .intro h;rw[<-cV];exact bP h
theorem Gm(h:s<32):((2^s:Nat):Int)=mk (λt=>t==s):=by
 refine nG λi=>?_
 rw[Nat.testBit_two_pow]
 by_cases e:s=i
 .subst e;simp[h]
 .have e2:¬i=s:=λq=>e q.symm
  simp[e,e2]
theorem xv(h:s<32):(2:Int)^s=mk (λt=>t==s):=by
 rw[<-Gm h];simp
theorem Gn(hk:∀s,s<32->f s=true->s+k<32):mk f*2^k=mk (λs=>decide (k<=s)&&f (s-k)):=by
 obtain⟨m,e,b,_⟩:=fF f
 have:(m:Int)*2^k=((m*2^k:Nat):Int):=by simp
 rw[e,this,<-Nat.shiftLeft_eq]
 refine nG λi=>?_
 rw[Nat.testBit_shiftLeft,b]
 by_cases h:k<=i
 .cases hf:f (i-k)
  .simp
  .by_cases h2:i-k<32
   .have:=hk _ h2 hf
    have h3:i<32:=aj (aw (Nat.sub_add_cancel h).symm) this
    simp[h,h2,h3]
   .have h3:¬i<32:=λz=>h2 (aj (Nat.sub_le _ _) z)
    simp[h2,h3]
 .simp[h]
theorem Gp:(mk f).fdiv (2^k)=mk (λs=>decide (s+k<32)&&f (s+k)):=by
 obtain⟨m,e,b,_⟩:=fF f
 have:(m:Int).fdiv (2^k)=((m/2^k:Nat):Int):=by
  have:(2:Int)^k=((2^k:Nat):Int):=by simp
  rw[this,ba _ (Int.natCast_nonneg _)];rfl
 rw[e,this,<-Nat.shiftRight_eq_div_pow]
 refine nG λi=>?_
 rw[Nat.testBit_shiftRight,b,Nat.add_comm k i]
 by_cases h:i+k<32
 .have:i<32:=by lia
  simp[h,this]
 .simp[h]
theorem Bs:(1:Int)=mk (λt=>t==0):=xv (s:=0) (by omega)
theorem xw(h:s<32):Builtin.bitAnd ((mk f).fdiv (2^s)) 1=if f s then 1 else 0:=by
 rw[Gp,Bs,cj]
 have:(λt=>(decide (t+s<32)&&f (t+s))&&(t==0))=λt=>(t==0)&&f s:=by
  funext t
  cases t with
  | zero=>simp[h]
  | succ t=>simp
 rw[this]
 cases f s
 .simp[cV]
 .simp
structure Bd where
 F:Nat
 R:Nat
def Bd.N(B:Bd):Nat:=B.F*B.R
inductive Bd.Ok:Bd->Prop
 | a:Bd.Ok ⟨3,4⟩
 | b:Bd.Ok ⟨2,4⟩
 | c:Bd.Ok ⟨4,3⟩
def Lv(d:Nat):Int:=(jL[d]?).getD 0
def tI(d:Nat):Int:=(jM[d]?).getD 0
def iO(B:Bd)(i dr:Int):Nat->Int->Int->List Nat
 | 0,_,_=>[]
 | k+1,f,r=>if 0<=f/\f<B.F/\0<=r/\r<B.R then(r*B.F+f).toNat::iO B i dr k (f+i) (r+dr)else[]
def tJ(B:Bd)(i dr:Int)(s:Nat):List Nat:=iO B i dr 4 ((s % B.F:Nat)+i) ((s/B.F:Nat)+dr)
def bW(B:Bd)(d s:Nat):List Nat:=tJ B (Lv d) (tI d) s
def ray(B:Bd)(d s t:Nat):Bool:=(bW B d s).contains t
def gA(B:Bd)(s t:Nat):Bool:=(List.range 8).any λd=>(bW B d s).head? ==some t
def dk(B:Bd)(s t:Nat):Bool:=f7.any λj=>(tJ B j.1 j.2 s).head? ==some t
def dI(B:Bd)(bq s t:Nat):Bool:=if bq=0 then(bW B 4 s).head? ==some t||(bW B 7 s).head? ==some t else(bW B 5 s).head? ==some t||(bW B 6 s).head? ==some t
structure nj where
 m:Nat
 O8:Nat
 cL:Int
 key:Int
def nj.av(r:nj):AV:=.cn [.int r.m,.int r.O8,.int 0,.int (-1),.int r.cL,.int r.key]
structure Ps where
 c:Nat->Nat
 bq:Nat
 cL:Int
 full:Int
 key:Int
 cq:List nj
def kS(c:Nat->Nat)(k s:Nat):Bool:=c s != 0&&c s % 8==k
def sS(c:Nat->Nat)(bq s:Nat):Bool:=c s != 0&&c s/8==bq
def nq(A:Nat->Addr)(P:Ps):List (Nat × AV):=
 [(14,.ref (A 6)),(15,.ref (A 16)),(16,.ref (A 2)),(17,.ref (A 3)),(18,.ref (A 4)),(19,.int P.bq),(20,.int 0),(21,.int (-1)),(22,.int P.cL),(3,.int P.full),(23,.int P.key),(24,.ref (A 5))]
def ML(A:Nat->Addr)(B:Bd):List (Nat × AV):=
 [(0,.int B.F),(1,.int B.R),(2,.int B.N),(3,.int (mk λs=>decide (s<B.N))),(4,.bool false),(5,.bool false),(6,.ref (A 8)),(7,.ref (A 9)),(8,.ref (A 10)),(9,.ref (A 11)),(10,.ref (A 12)),(11,.ref (A 13)),
  (12,.ref (A 14)),(13,.ref (A 15))]
def JL(A:Nat->Addr)(B:Bd):List (Nat × AV):=[(25,.ref (A 18)),(21,.ref (A 19)),(20,.ref (A 20)),(19,.int (2^(15*B.N)))]
def fc(n:Nat)(f:Nat->AV):AO:=.list true ((List.range n).map f)
def nH(A:Nat->Addr)(B:Bd)(P:Ps):List AO:=
 .inst 1 (A 1)::.dict (nq A P)::(fc B.N λs=>.int (P.c s))::(fc 7 λk=>.int (mk (kS P.c k)))::(fc 2 λk=>.int (mk (sS P.c k)))::.list true (P.cq.map nj.av)::.inst 0 (A 7)::.dict (ML A B)::
 (fc B.F λf=>.int (mk λs=>decide (s<B.N)&&s % B.F==f))::(fc B.R λr=>.int (mk λs=>decide (s<B.N)&&s/B.F==r))::(fc 8 λd=>.ref (A (21+d)))::(fc B.N λs=>.int (mk (gA B s)))::(fc B.N λs=>.int (mk (dk B s)))::
 (fc 2 λd=>.ref (A (29+d)))::(fc 4 λZ=>.none)::(fc B.N λZ=>.int 0)::.inst 2 (A 17)::.dict (JL A B)::(fc 15 λp=>.ref (A (31+p)))::(fc B.F λZ=>.int 0)::(fc 16 λZ=>.int 0)::[]
def we(B:Bd)(k:Nat):AO:=if k<29 then fc B.N λs=>.int (mk (ray B (k-21) s))else if k<31 then fc B.N λs=>.int (mk (dI B (k-29) s))else fc B.N λs=>.int (2^((k-31)*B.N+s))
def cont(A:Nat->Addr)(B:Bd)(P:Ps)(k:Nat):AO:=if k<21 then(nH A B P).getD k (.list true [])else we B k
def fL(A:Nat->Addr)(x:Addr):Option Nat:=(List.range 46).find? λk=>A k==x
def wr(A:Nat->Addr)(B:Bd)(P:Ps)(τ:Hp):Hp:=λx=>match fL A x with
 | some k=>some (cont A B P k)
 | none=>τ x
def bV(A:Nat->Addr):Prop:=∀i j,i<46->j<46->A i=A j->i=j
section
variable{A:Nat->Addr}{B:Bd}{P P':Ps}{τ:Hp}
theorem tK(hA:bV A)(h:k<46):fL A (A k)=some k:=by
 unfold fL
 cases e:(List.range 46).find? (λj=>A j==A k)with
 | none=>
  have:=List.find?_eq_none.mp e k (aN.mpr h)
  simp at this
 | some j=>
  have h1:=List.find?_some e
  have h2:=aN.mp (List.mem_of_find?_eq_some e)
  rw[hA j k h2 h (az.mp h1)]
theorem Gq(h:∀k,k<46->A k≠x):fL A x=none:=by
 unfold fL
 rw[List.find?_eq_none]
 intro k hk
 simpa using h k (aN.mp hk)
theorem tL(h:fL A x=some k):k<46/\A k=x:=by
 unfold fL at h
 have h1:=List.find?_some h
 exact⟨aN.mp (List.mem_of_find?_eq_some h),az.mp h1⟩
theorem ji(hA:bV A)(h:k<46):wr A B P τ (A k)=some (cont A B P k):=by
 unfold wr;rw[tK hA h]
theorem bG(h:dZ (wr A B P τ) x):fL A x=none/\τ x=none:=by
 unfold dZ wr at h
 split at h
 .cases h
 .exact⟨by assumption,h⟩
theorem bT(h:fL A x=none):wr A B P τ x=τ x:=by unfold wr;rw[h]
theorem bB(h:fL A x=none):(wr A B P τ).set x o=wr A B P (τ.set x o):=by
 funext y
 unfold wr Hp.set
 by_cases e:y=x
 .subst e;rw[h];simp
 .simp[e]
theorem MM(hA:bV A)(hk:k<46)(h:cont A B P' k=o)(i:∀j,j<46->j≠k->cont A B P' j=cont A B P j):(wr A B P τ).set (A k) o=wr A B P' τ:=by
 funext y
 unfold wr Hp.set
 by_cases e:y=A k
 .subst e;rw[tK hA hk];simp[h]
 .rw[ah e]
  cases q:fL A y with
  | none=>simp only[q]
  | some j=>
   obtain⟨h1,h2⟩:=tL q
   simp only[q]
   rw[i j h1 (λz=>e (by rw[<-h2,z]))]
theorem C8{α:Type}{l:List α}{o d:α}(h:j≠k):(l.set k o).getD j d=l.getD j d:=by
 rw[List.getD_eq_getElem?_getD,List.getD_eq_getElem?_getD,List.getElem?_set_ne (Ne.symm h)]
theorem getD_at{α:Type}{l:List α}{o d:α}(h:k<l.length):(l.set k o).getD k d=o:=by
 rw[List.getD_eq_getElem?_getD,List.getElem?_set_self h];rfl
theorem Gr(hA:bV A)(hk:k<21)(h:nH A B P'=(nH A B P).set k o):(wr A B P τ).set (A k) o=wr A B P' τ:=by
 refine MM hA (Nat.lt_trans hk (by decide)) ?_ λj Z i=>?_
 .unfold cont;rw[ag hk,h,getD_at hk]
 .unfold cont;rw[h,C8 i]
theorem jz(h:Sub τ g7):Sub (wr A B P τ) (wr A B P g7):=by
 intro a o e
 unfold wr at e ⊢
 split<;>rename_i q<;>rw[q]at e
 .exact e
 .exact h a o e
theorem tM(h1:σ a=some (.inst c d))(h2:σ d=some (.dict i))(hk:(bN c).contains k=true)(h:lk i k=some w):f9 σ (.ref a) k=some w:=by
 exact yK h1 hk h2 h
theorem Gs(hA:bV A)(h:lk (nq A P) k=some w)(hk:(bN 1).contains k=true):f9 (wr A B P τ) (.ref (A 0)) k=some w:=tM (ji hA (k:=0) (by decide)) (ji hA (k:=1) (by decide)) hk h
theorem MN(hA:bV A)(h:lk (ML A B) k=some w)(hk:(bN 0).contains k=true):f9 (wr A B P τ) (.ref (A 6)) k=some w:=tM (ji hA (k:=6) (by decide)) (ji hA (k:=7) (by decide)) hk h
theorem MO(hA:bV A)(h:lk (JL A B) k=some w)(hk:(bN 2).contains k=true):f9 (wr A B P τ) (.ref (A 16)) k=some w:=tM (ji hA (k:=16) (by decide)) (ji hA (k:=17) (by decide)) hk h
theorem JM(h:σ a=some (fc n f))(hi:i<n)(j:n<1000)(hx:x=(i:Int)):cw σ (.ref a) (.int x)=some (f i):=by
 subst hx
 unfold cw
 simp only[h,fc,jQ]
 rw[ag (by lia)]
 simp[hi]
theorem fM(hA:bV A)(h:cont A B P j=fc n f)(y:j<46)(hi:i<n)(z:n<1000)(hx:x=(i:Int)):cw (wr A B P τ) (.ref (A j)) (.int x)=some (f i):=
 JM ((ji hA y).trans (ae some h)) hi z hx
end
abbrev Bd.UM(B:Bd):Prop:=B.N<=12/\8<=B.N/\2<=B.F/\B.F<=4/\3<=B.R/\B.R<=4/\B.F*B.R=B.N
theorem Bd.Ok.cm{B:Bd}(h:B.Ok):B.UM:=by cases h<;>decide
section
variable{A:Nat->Addr}{B:Bd}{P:Ps}{τ:Hp}
theorem xx(h:21<=k):cont A B P k=we B k:=ah (Nat.not_lt.mpr h)
theorem tN(hd:d<8):cont A B P (21+d)=fc B.N λs=>.int (mk (ray B d s)):=by
 rw[xx (Nat.le_add_right 21 d)]
 unfold we
 rw[ag (by lia),Nat.add_sub_cancel_left]
theorem qK(hd:d<2):cont A B P (29+d)=fc B.N λs=>.int (mk (dI B d s)):=by
 rw[xx (by lia)]
 unfold we
 rw[ah (by lia),ag (by lia),Nat.add_sub_cancel_left]
theorem pA:cont A B P (31+d)=fc B.N λs=>.int (2^(d*B.N+s)):=by
 rw[xx (by lia)]
 unfold we
 rw[ah (by lia),ah (by lia),Nat.add_sub_cancel_left]
theorem D9(hA:bV A)(hB:B.Ok)(hs:s<B.N)(hx:x=(s:Int)):cw (wr A B P τ) (.ref (A 2)) (.int x)=some (.int (P.c s)):=
 fM hA (j:=2) rfl (by decide) hs (by have:=hB.cm;lia) hx
theorem Ea(hA:bV A){k:Nat}(hk:k<7)(hx:x=(k:Int)):cw (wr A B P τ) (.ref (A 3)) (.int x)=some (.int (mk (kS P.c k))):=
 fM hA (j:=3) rfl (by decide) hk (by decide) hx
theorem Eb(hA:bV A){k:Nat}(hk:k<2)(hx:x=(k:Int)):cw (wr A B P τ) (.ref (A 4)) (.int x)=some (.int (mk (sS P.c k))):=
 fM hA (j:=4) rfl (by decide) hk (by decide) hx
theorem MP(hA:bV A)(hB:B.Ok)(hk:k<B.F)(hx:x=(k:Int)):cw (wr A B P τ) (.ref (A 8)) (.int x)=some (.int (mk λs=>decide (s<B.N)&&s % B.F==k)):=
 fM hA (j:=8) (f:=λf=>.int (mk λs=>decide (s<B.N)&&s % B.F==f)) rfl (by decide) hk (by have:=hB.cm;lia) hx
theorem MQ(hA:bV A)(hB:B.Ok)(hk:k<B.R)(hx:x=(k:Int)):cw (wr A B P τ) (.ref (A 9)) (.int x)=some (.int (mk λs=>decide (s<B.N)&&s/B.F==k)):=
 fM hA (j:=9) (f:=λr=>.int (mk λs=>decide (s<B.N)&&s/B.F==r)) rfl (by decide) hk (by have:=hB.cm;lia) hx
theorem Gu(hA:bV A){d:Nat}(hd:d<8)(hx:x=(d:Int)):cw (wr A B P τ) (.ref (A 10)) (.int x)=some (.ref (A (21+d))):=
 fM hA (j:=10) (f:=λd=>.ref (A (21+d))) rfl (by decide) hd (by decide) hx
theorem JN(hA:bV A)(hB:B.Ok)(hd:d<8)(hs:s<B.N)(hx:x=(s:Int)):cw (wr A B P τ) (.ref (A (21+d))) (.int x)=some (.int (mk (ray B d s))):=
 fM hA (j:=21+d) (tN hd) (by lia) hs (by have:=hB.cm;lia) hx
theorem Gv(hA:bV A)(hB:B.Ok)(hs:s<B.N)(hx:x=(s:Int)):cw (wr A B P τ) (.ref (A 11)) (.int x)=some (.int (mk (gA B s))):=
 fM hA (j:=11) (f:=λs=>.int (mk (gA B s))) rfl (by decide) hs (by have:=hB.cm;lia) hx
theorem Bt(hA:bV A)(hB:B.Ok)(hs:s<B.N)(hx:x=(s:Int)):cw (wr A B P τ) (.ref (A 12)) (.int x)=some (.int (mk (dk B s))):=
 fM hA (j:=12) (f:=λs=>.int (mk (dk B s))) rfl (by decide) hs (by have:=hB.cm;lia) hx
theorem Ec(hA:bV A){d:Nat}(hd:d<2)(hx:x=(d:Int)):cw (wr A B P τ) (.ref (A 13)) (.int x)=some (.ref (A (29+d))):=
 fM hA (j:=13) (f:=λd=>.ref (A (29+d))) rfl (by decide) hd (by decide) hx
theorem Gw(hA:bV A)(hB:B.Ok)(hd:d<2)(hs:s<B.N)(hx:x=(s:Int)):cw (wr A B P τ) (.ref (A (29+d))) (.int x)=some (.int (mk (dI B d s))):=
 fM hA (j:=29+d) (qK hd) (by lia) hs (by have:=hB.cm;lia) hx
theorem y4(hA:bV A){d:Nat}(hd:d<4)(hx:x=(d:Int)):cw (wr A B P τ) (.ref (A 14)) (.int x)=some .none:=
 fM hA (j:=14) (f:=λZ=>.none) rfl (by decide) hd (by decide) hx
theorem MR(hA:bV A)(hB:B.Ok)(hs:s<B.N)(hx:x=(s:Int)):cw (wr A B P τ) (.ref (A 15)) (.int x)=some (.int 0):=
 fM hA (j:=15) (f:=λZ=>.int 0) rfl (by decide) hs (by have:=hB.cm;lia) hx
theorem MS(hA:bV A){d:Nat}(hd:d<15)(hx:x=(d:Int)):cw (wr A B P τ) (.ref (A 18)) (.int x)=some (.ref (A (31+d))):=
 fM hA (j:=18) (f:=λd=>.ref (A (31+d))) rfl (by decide) hd (by decide) hx
theorem Gx(hA:bV A)(hB:B.Ok)(hd:d<15)(hs:s<B.N)(hx:x=(s:Int)):cw (wr A B P τ) (.ref (A (31+d))) (.int x)=some (.int (2^(d*B.N+s))):=
 fM hA (j:=31+d) pA (by lia) hs (by have:=hB.cm;lia) hx
theorem ex_board{K:AV->Prop}(hA:bV A)(hB:B.Ok)(hs:s<B.N)(hx:x=(s:Int))(h:K ((.int (P.c s)))):∃w,cw (wr A B P τ) (.ref (A 2)) (.int x)=some w/\K w:=⟨_,D9 hA hB hs hx,h⟩
theorem ex_kinds{K:AV->Prop}(hA:bV A){k:Nat}(hk:k<7)(hx:x=(k:Int))(h:K ((.int (mk (kS P.c k))))):∃w,cw (wr A B P τ) (.ref (A 3)) (.int x)=some w/\K w:=⟨_,Ea hA hk hx,h⟩
theorem ex_sides{K:AV->Prop}(hA:bV A){k:Nat}(hk:k<2)(hx:x=(k:Int))(h:K ((.int (mk (sS P.c k))))):∃w,cw (wr A B P τ) (.ref (A 4)) (.int x)=some w/\K w:=⟨_,Eb hA hk hx,h⟩
theorem ex_fm{K:AV->Prop}(hA:bV A)(hB:B.Ok)(hk:k<B.F)(hx:x=(k:Int))(h:K ((.int (mk λs=>decide (s<B.N)&&s % B.F==k)))):∃w,cw (wr A B P τ) (.ref (A 8)) (.int x)=some w/\K w:=⟨_,MP hA hB hk hx,h⟩
theorem ex_rm{K:AV->Prop}(hA:bV A)(hB:B.Ok)(hk:k<B.R)(hx:x=(k:Int))(h:K ((.int (mk λs=>decide (s<B.N)&&s/B.F==k)))):∃w,cw (wr A B P τ) (.ref (A 9)) (.int x)=some w/\K w:=⟨_,MQ hA hB hk hx,h⟩
theorem ex_rays{K:AV->Prop}(hA:bV A){d:Nat}(hd:d<8)(hx:x=(d:Int))(h:K ((.ref (A (21+d))))):∃w,cw (wr A B P τ) (.ref (A 10)) (.int x)=some w/\K w:=⟨_,Gu hA hd hx,h⟩
theorem ex_ray{K:AV->Prop}(hA:bV A)(hB:B.Ok)(hd:d<8)(hs:s<B.N)(hx:x=(s:Int))(h:K ((.int (mk (ray B d s))))):∃w,cw (wr A B P τ) (.ref (A (21+d))) (.int x)=some w/\K w:=⟨_,JN hA hB hd hs hx,h⟩
theorem ex_king{K:AV->Prop}(hA:bV A)(hB:B.Ok)(hs:s<B.N)(hx:x=(s:Int))(h:K ((.int (mk (gA B s))))):∃w,cw (wr A B P τ) (.ref (A 11)) (.int x)=some w/\K w:=⟨_,Gv hA hB hs hx,h⟩
theorem ex_knight{K:AV->Prop}(hA:bV A)(hB:B.Ok)(hs:s<B.N)(hx:x=(s:Int))(h:K ((.int (mk (dk B s))))):∃w,cw (wr A B P τ) (.ref (A 12)) (.int x)=some w/\K w:=⟨_,Bt hA hB hs hx,h⟩
theorem ex_pawns{K:AV->Prop}(hA:bV A){d:Nat}(hd:d<2)(hx:x=(d:Int))(h:K ((.ref (A (29+d))))):∃w,cw (wr A B P τ) (.ref (A 13)) (.int x)=some w/\K w:=⟨_,Ec hA hd hx,h⟩
theorem ex_pawn{K:AV->Prop}(hA:bV A)(hB:B.Ok)(hd:d<2)(hs:s<B.N)(hx:x=(s:Int))(h:K ((.int (mk (dI B d s))))):∃w,cw (wr A B P τ) (.ref (A (29+d))) (.int x)=some w/\K w:=⟨_,Gw hA hB hd hs hx,h⟩
theorem ex_castles{K:AV->Prop}(hA:bV A){d:Nat}(hd:d<4)(hx:x=(d:Int))(h:K (.none)):∃w,cw (wr A B P τ) (.ref (A 14)) (.int x)=some w/\K w:=⟨_,y4 hA hd hx,h⟩
theorem ex_rl{K:AV->Prop}(hA:bV A)(hB:B.Ok)(hs:s<B.N)(hx:x=(s:Int))(h:K ((.int 0))):∃w,cw (wr A B P τ) (.ref (A 15)) (.int x)=some w/\K w:=⟨_,MR hA hB hs hx,h⟩
theorem ex_zp{K:AV->Prop}(hA:bV A){d:Nat}(hd:d<15)(hx:x=(d:Int))(h:K ((.ref (A (31+d))))):∃w,cw (wr A B P τ) (.ref (A 18)) (.int x)=some w/\K w:=⟨_,MS hA hd hx,h⟩
theorem ex_zrow{K:AV->Prop}(hA:bV A)(hB:B.Ok)(hd:d<15)(hs:s<B.N)(hx:x=(s:Int))(h:K ((.int (2^(d*B.N+s))))):∃w,cw (wr A B P τ) (.ref (A (31+d))) (.int x)=some w/\K w:=⟨_,Gx hA hB hd hs hx,h⟩
theorem ex_at_pos{K:AV->Prop}(hA:bV A)(hw:lk (nq A P) k=some w)(hk:(bN 1).contains k=true)(h:K w):∃w,f9 (wr A B P τ) (.ref (A 0)) k=some w/\K w:=⟨_,Gs hA hw hk,h⟩
theorem ex_at_geo{K:AV->Prop}(hA:bV A)(hw:lk (ML A B) k=some w)(hk:(bN 0).contains k=true)(h:K w):∃w,f9 (wr A B P τ) (.ref (A 6)) k=some w/\K w:=⟨_,MN hA hw hk,h⟩
theorem ex_at_zob{K:AV->Prop}(hA:bV A)(hw:lk (JL A B) k=some w)(hk:(bN 2).contains k=true)(h:K w):∃w,f9 (wr A B P τ) (.ref (A 16)) k=some w/\K w:=⟨_,MO hA hw hk,h⟩
end
section
local macro_rules (kind:=Lean.Parser.Term.paren) | s=>tysx (tykd s[1]== "num") [s[1]] "!+var $0 !@1"
local macro_rules (kind:=term!_) | s=>tysx true [s[1]] "!+int $0 !@1"
local macro_rules (kind:=«term#[_,]») | s=>pure (tycn s[1].getSepArgs.toList)
abbrev gb:Nat:=0
abbrev iC:Nat:=1
abbrev fe:Nat:=2
abbrev cM:Nat:=3
abbrev fR:Nat:=4
abbrev gH:Nat:=5
abbrev dS:Nat:=6
abbrev iy:Nat:=7
abbrev ei:Nat:=8
abbrev qL:Nat:=9
abbrev pB:Nat:=10
abbrev cJ:Nat:=11
abbrev jj:Nat:=12
abbrev mD:Nat:=13
abbrev Bu:Nat:=14
abbrev qM:Nat:=15
abbrev gc:Nat:=16
abbrev rJ:Nat:=17
abbrev kP:Nat:=18
abbrev tO:Nat:=19
abbrev rK:Nat:=20
abbrev nI:Nat:=21
abbrev nJ:Nat:=22
abbrev fJ:Nat:=23
abbrev gV:Nat:=24
abbrev cZ:Nat:=25
abbrev cv:Nat:=26
abbrev ia:Nat:=27
abbrev gI:Nat:=28
abbrev ib:Nat:=29
abbrev du:Nat:=30
abbrev fg:Nat:=31
abbrev cH:Nat:=32
abbrev gJ:Nat:=33
abbrev jU:Nat:=34
abbrev dc:Nat:=35
abbrev di:Nat:=36
abbrev cQ:Nat:=37
abbrev gK:Nat:=38
abbrev dT:Nat:=39
abbrev gL:Nat:=40
abbrev iP:Nat:=41
abbrev dD:Nat:=42
abbrev jA:Nat:=43
abbrev oy:Nat:=44
abbrev jB:Nat:=45
abbrev gM:Nat:=46
abbrev kv:Nat:=47
abbrev oz:Nat:=48
abbrev eu:Nat:=49
abbrev qN:Nat:=50
abbrev gN:Nat:=51
abbrev eV:Nat:=52
abbrev lD:Nat:=53
abbrev cK:Nat:=54
abbrev iQ:Nat:=55
abbrev g8:Nat:=56
abbrev xy:Nat:=57
abbrev g9:Nat:=58
abbrev d4:Nat:=59
abbrev ie:Nat:=60
abbrev gf:Nat:=61
abbrev fh:Nat:=62
abbrev fN:Nat:=63
abbrev dm:Nat:=64
abbrev dP:Nat:=65
abbrev fj:Nat:=66
abbrev fk:Nat:=67
abbrev gh:Nat:=68
abbrev lE:Nat:=69
abbrev dU:Nat:=70
abbrev iR:Nat:=71
abbrev wg:Nat:=72
abbrev lF:Nat:=73
abbrev iS:Nat:=74
abbrev gO:Nat:=75
abbrev iT:Nat:=76
abbrev kx:Nat:=77
abbrev de:Nat:=78
abbrev gP:Nat:=79
abbrev jC:Nat:=80
abbrev cD:Nat:=81
abbrev lG:Nat:=82
abbrev dp:Nat:=83
abbrev dE:Nat:=84
abbrev iU:Nat:=85
abbrev fp:Nat:=86
abbrev cR:Nat:=87
abbrev fq:Nat:=88
abbrev dw:Nat:=89
abbrev dx:Nat:=90
abbrev gQ:Nat:=91
abbrev d5:Nat:=92
abbrev ky:Nat:=93
abbrev gW:Nat:=94
abbrev gX:Nat:=95
abbrev iV:Nat:=96
abbrev fS:Nat:=97
abbrev ig:Nat:=98
abbrev dW:Nat:=99
abbrev eP:Nat:=100
abbrev iW:Nat:=101
abbrev oA:Nat:=102
abbrev d6:Nat:=103
abbrev dy:Nat:=104
abbrev fT:Nat:=105
abbrev kz:Nat:=106
abbrev fU:Nat:=107
abbrev kA:Nat:=108
abbrev gR:Nat:=109
abbrev jk:Nat:=110
abbrev O9:Nat:=111
def pC:CS:=(.ret (.bx .Add (.bx .Mult (0) (!8)) (1)))
theorem vi:bz gb 2 2 pC=true:=by decide +kernel
def wi:CS:=(.ret (.bx .RShift (0) (!3)))
theorem Bv:bz iC 1 1 wi=true:=by decide +kernel
def wj:CS:=(.ret (.bx .BitAnd (0) (!7)))
theorem Bw:bz fe 1 1 wj=true:=by decide +kernel
def rL:CS:=(.bL 4 (!0)
 (.bS (.bM .Eq (2) (.bD "PROMOTION" 1))
 (.bL 4 (.bx .Sub (3) (.bD "KNIGHT" 2))
 .skip)
 .skip
 (.ret (.bx .BitOr (.bx .BitOr (.bx .BitOr (1) (.bx .LShift (0) (!6))) (.bx .LShift (4) (!12))) (.bx .LShift (2) (!14))))))
theorem xA:bz cM 4 7 rL=true:=by decide +kernel
def rM:CS:=(.ret (.bx .BitAnd (.bx .RShift (0) (!6)) (!63)))
theorem xB:bz fR 1 1 rM=true:=by decide +kernel
def wk:CS:=(.ret (.bx .BitAnd (0) (!63)))
theorem Bx:bz gH 1 1 wk=true:=by decide +kernel
def lH:CS:=(.ret (.bx .BitAnd (.bx .RShift (0) (!14)) (!3)))
theorem sf:bz dS 1 1 lH=true:=by decide +kernel
def pD:CS:=(.bS (.bM .NotEq (.bx .BitAnd (.bx .RShift (0) (!14)) (!3)) (.bD "PROMOTION" 1))
 (.ret (.bD "NO_KIND" 0))
 .skip
 (.ret (.bx .Add (.bx .BitAnd (.bx .RShift (0) (!12)) (!3)) (.bD "KNIGHT" 2))))
theorem vj:bz iy 1 4 pD=true:=by decide +kernel
def kQ:CS:=(.ret (.bM .NotEq (.bx .BitAnd (0) (.bx .Sub (0) (!1))) (!0)))
theorem qO:bz ei 1 1 kQ=true:=by decide +kernel
def wm:CS:=(.bS (.bM .Eq (0) (!0))
 (.ret (.neg (!1)))
 .skip
 (.bL 1 (!1)
 (.E7 (.bx .RShift (0) (1))
 (.iw 1 .Mult (!2)
 .skip)
 (.bL 2 (!0)
 (.E7 (.bM .Gt (1) (!1))
 (.iw 1 .FloorDiv (!2)
 (.bS (.bx .RShift (0) (1))
 (.iw 0 .RShift (1)
 (.iw 2 .Add (1)
 .skip))
 .skip
 .skip))
 (.ret (2)))))))
theorem By:bz qL 1 3 wm=true:=by decide +kernel
def y5:CS:=(.ret (.call qL #[(.bx .BitAnd (0) (.neg (0)))]))
theorem Ed:bz pB 1 2 y5=true:=by decide +kernel
def pE:CS:=(.bL 1 (.cI .nil)
 (.bL 2 (!0)
 (.E7 (0)
 (.E7 (.not (.bx .BitAnd (0) (!15)))
 (.iw 0 .RShift (!4)
 (.iw 2 .Add (!4)
 .skip))
 (.bS (.bx .BitAnd (0) (!1))
 (.expr (.append (1) (2))
 .skip)
 .skip
 (.iw 0 .RShift (!1)
 (.iw 2 .Add (!1)
 .skip))))
 (.ret (1)))))
theorem vk:bz cJ 1 3 pE=true:=by decide +kernel
def rN:CS:=(.cb [3] (.c8 #[(!8)])
 (.bS (.bx .BitAnd (.bx .RShift (.sub (.sub (.bt (0) 8) (3)) (1)) (2)) (!1))
 (.ret (3))
 .skip
 .skip)
 (.ret (.neg (!1))))
theorem xC:bz jj 3 5 rN=true:=by decide +kernel
def wo:CS:=(.bL 3 (.call jj #[0,1,2])
 (.bS (.bM .Lt (3) (!0))
 (.ret (!0))
 .skip
 (.ret (.bx .BitAnd (.sub (.sub (.bt (0) 8) (3)) (1)) (.sub (.sub (.bt (0) 8) (.bx .BitXor (3) (!2))) (2))))))
theorem Bz:bz mD 3 5 wo=true:=by decide +kernel
def Gy:CS:=(.bL 3 (.call jj #[0,1,2])
 (.bS (.bM .Lt (3) (!0))
 (.ret (!0))
 .skip
 (.ret (.bx .BitOr (.bx .BitOr (.sub (.sub (.bt (0) 8) (3)) (1)) (.sub (.sub (.bt (0) 8) (.bx .BitXor (3) (!2))) (1))) (.bx .LShift (!1) (1))))))
theorem JO:bz Bu 3 5 Gy=true:=by decide +kernel
def wq:CS:=(.ret (.bM .Eq (.bx .BitAnd (.bx .RShift (.call Bu #[0,1,2]) (3)) (!1)) (!1)))
theorem BA:bz qM 4 5 wq=true:=by decide +kernel
def kB:CS:=(.ret (.or (.bM .Gt (.sub (.ko "STEP_RANKS" 1) (0)) (!0)) (.bM .Eq (0) (!1))))
theorem vl:bz gc 1 2 kB=true:=by decide +kernel
def y6:CS:=(.bL 1 (.bx .Sub (.bx .LShift (!1) (.bt (0) 0)) (!1))
 (.bL 2 (!0)
 (.cb [3] (.c8 #[(.bt (0) 1)])
 (.expr (.append (.bt (0) 7) (.bx .LShift (1) (.bx .Mult (3) (.bt (0) 0))))
 (.iw 2 .BitOr (.bx .LShift (!1) (.bx .Mult (3) (.bt (0) 0)))
 .skip))
 (.cb [4] (.c8 #[(.bt (0) 0)])
 (.expr (.append (.bt (0) 6) (.bx .LShift (2) (4)))
 .skip)
 .skip))))
def sg:CS:=(.bL 2 (!0)
 (.bS (.bM .Gt (.sub (.ko "STEP_FILES" 0) (1)) (!0))
 (.iw 2 .BitOr (.sub (.bt (0) 6) (.bx .Sub (.bt (0) 0) (!1)))
 .skip)
 .skip
 (.bS (.bM .Lt (.sub (.ko "STEP_FILES" 0) (1)) (!0))
 (.iw 2 .BitOr (.sub (.bt (0) 6) (!0))
 .skip)
 .skip
 (.bS (.bM .Gt (.sub (.ko "STEP_RANKS" 1) (1)) (!0))
 (.iw 2 .BitOr (.sub (.bt (0) 7) (.bx .Sub (.bt (0) 1) (!1)))
 .skip)
 .skip
 (.bS (.bM .Lt (.sub (.ko "STEP_RANKS" 1) (1)) (!0))
 (.iw 2 .BitOr (.sub (.bt (0) 7) (!0))
 .skip)
 .skip
 (.ret (.bx .BitAnd (.bt (0) 3) (.inv (2)))))))))
def BB:CS:=(.cg (0) 9 (.bx .Mult (.cI #[(!0)]) (.bt (0) 2))
 (.cb [1] (.c8 #[(!8)])
 (.bL 2 (.call kP #[0,1])
 (.bL 3 (.bx .Add (.bx .Mult (.sub (.ko "STEP_RANKS" 1) (1)) (.bt (0) 0)) (.sub (.ko "STEP_FILES" 0) (1)))
 (.bL 4 (.bx .Mult (.cI #[(!0)]) (.bt (0) 2))
 (.bL 5 (.c8 #[(.bt (0) 2)])
 (.bS (.call gc #[1])
 (.bL 5 (.c8 #[(.bx .Sub (.bt (0) 2) (!1)),(.neg (!1)),(.neg (!1))])
 .skip)
 .skip
 (.cb [6] (5)
 (.bS (.bx .BitAnd (.bx .RShift (2) (6)) (!1))
 (.bL 7 (.bx .Add (6) (3))
 (.eK (4) (6) (.bx .BitOr (.sub (4) (7)) (.bx .LShift (!1) (7)))
 (.jx (.bt (0) 9) (6) .BitOr (.bx .LShift (!1) (7))
 .skip)))
 .skip
 .skip)
 (.expr (.append (.bt (0) 8) (4))
 .skip)))))))
 .skip))
def y7:CS:=(.cb [1] (.c8 #[(.bt (0) 2)])
 (.expr (.append (.sub (.bt (0) 11) (!0)) (.bx .BitAnd (.sub (.bt (0) 9) (1)) (.bx .BitOr (.sub (.sub (.bt (0) 8) (!4)) (1)) (.sub (.sub (.bt (0) 8) (!7)) (1)))))
 (.expr (.append (.sub (.bt (0) 11) (!1)) (.bx .BitAnd (.sub (.bt (0) 9) (1)) (.bx .BitOr (.sub (.sub (.bt (0) 8) (!5)) (1)) (.sub (.sub (.bt (0) 8) (!6)) (1)))))
 .skip))
 .skip)
def vm:CS:=(.bL 1 (.bt (0) 0)
 (.bL 2 (.bx .BitAnd (.bt (0) 3) (.inv (.sub (.bt (0) 6) (!0))))
 (.bL 3 (.bx .BitAnd (.bt (0) 3) (.inv (.sub (.bt (0) 6) (.bx .Sub (1) (!1)))))
 (.bL 4 (.bx .BitAnd (2) (.inv (.sub (.bt (0) 6) (!1))))
 (.bL 5 (.bx .BitAnd (3) (.inv (.sub (.bt (0) 6) (.bx .Sub (1) (!2)))))
 (.cb [6] (.c8 #[(.bt (0) 2)])
 (.bL 7 (.bx .LShift (!1) (6))
 (.bL 8 (.bx .BitOr (.bx .BitAnd (.bx .LShift (7) (!1)) (2)) (.bx .BitAnd (.bx .RShift (7) (!1)) (3)))
 (.bL 9 (.bx .BitOr (.bx .BitAnd (.bx .LShift (7) (!2)) (4)) (.bx .BitAnd (.bx .RShift (7) (!2)) (5)))
 (.bL 10 (.bx .BitOr (.bx .BitOr (.bx .BitOr (.bx .LShift (8) (.bx .Mult (!2) (1))) (.bx .RShift (8) (.bx .Mult (!2) (1)))) (.bx .LShift (9) (1))) (.bx .RShift (9) (1)))
 (.expr (.append (.bt (0) 10) (.bx .BitAnd (10) (.bt (0) 3)))
 .skip)))))
 .skip))))))
def vn:CS:=(.cg (0) 13 (.bx .Mult (.cI #[(!0)]) (.bt (0) 2))
 (.bL 1 (.bx .FloorDiv (.bt (0) 0) (!2))
 (.cb [2] (.c8 #[(!4)])
 (.bL 3 (.bx .Mult (.bx .Mult (.bx .RShift (2) (!1)) (.bx .Sub (.bt (0) 1) (!1))) (.bt (0) 0))
 (.bL 4 (.bx .Sub (.bt (0) 0) (!1))
 (.bL 5 (!1)
 (.bS (.bx .BitAnd (2) (!1))
 (.bL 4 (!0)
 (.bL 5 (.neg (!1))
 .skip))
 .skip
 (.bL 6 (.bx .Add (1) (.bx .Mult (!2) (5)))
 (.bS (.and (.bt (0) 5) (.bM .Gt (.bx .Mult (.bx .Sub (4) (6)) (5)) (!0)))
 (.expr (.append (.bt (0) 12) (.cn #[(.bx .Add (3) (1)),(.bx .Add (3) (6)),(.bx .Add (3) (4)),(.bx .Sub (.bx .Add (3) (6)) (5))]))
 (.jx (.bt (0) 13) (.bx .Add (3) (1)) .BitOr (.bx .LShift (!1) (2))
 (.jx (.bt (0) 13) (.bx .Add (3) (4)) .BitOr (.bx .LShift (!1) (2))
 .skip)))
 (.expr (.append (.bt (0) 12) .none)
 .skip)
 .skip))))))
 .skip)))
def sh:CS:=(.bS (.or (.bM .Lt (0) (!2)) (.or (.bM .Gt (0) (!8)) (.or (.bM .Lt (1) (!3)) (.bM .Gt (1) (!8)))))
 (.iE "ChessError" "no board has that many files and ranks")
 .skip
 (.bL 4 (.new 0 #[0,1,2,3])
 (.expr (.call rJ #[4])
 (.expr (.call tO #[4])
 (.expr (.call rK #[4])
 (.expr (.call nI #[4])
 (.expr (.call nJ #[4])
 (.ret (4)))))))))
def nK:CS:=(.bL 4 (.sub (.sub (.bt (0) 8) (1)) (2))
 (.bL 5 (.bx .BitAnd (4) (3))
 (.bS (.bM .Eq (5) (!0))
 (.ret (4))
 .skip
 (.bS (.call gc #[1])
 (.ret (.bx .BitAnd (4) (.bx .BitXor (5) (.bx .Sub (5) (!1)))))
 .skip
 (.bL 6 (.bx .RShift (5) (!1))
 (.iw 6 .BitOr (.bx .RShift (6) (!1))
 (.iw 6 .BitOr (.bx .RShift (6) (!2))
 (.iw 6 .BitOr (.bx .RShift (6) (!4))
 (.iw 6 .BitOr (.bx .RShift (6) (!8))
 (.iw 6 .BitOr (.bx .RShift (6) (!16))
 (.iw 6 .BitOr (.bx .RShift (6) (!32))
 (.ret (.bx .BitAnd (4) (.inv (6)))))))))))))))
theorem tP:bz gV 4 8 nK=true:=by decide +kernel
def lI:CS:=(.bL 3 (!0)
 (.cb [4] (.c8 #[(!4)])
 (.iw 3 .BitOr (.call gV #[0,4,1,2])
 .skip)
 (.ret (3))))
theorem si:bz cZ 3 7 lI=true:=by decide +kernel
def jV:CS:=(.bL 3 (!0)
 (.cb [4] (.c8 #[(!4),(!8)])
 (.iw 3 .BitOr (.call gV #[0,4,1,2])
 .skip)
 (.ret (3))))
theorem pF:bz cv 3 7 jV=true:=by decide +kernel
def kR:CS:=(.ret (.bx .BitOr (.call cZ #[0,1,2]) (.call cv #[0,1,2])))
theorem qP:bz ia 3 5 kR=true:=by decide +kernel
def jW:CS:=(.bS (.bM .Eq (1) (.bD "BISHOP" 3))
 (.ret (.call cv #[0,2,3]))
 .skip
 (.bS (.bM .Eq (1) (.bD "ROOK" 4))
 (.ret (.call cZ #[0,2,3]))
 .skip
 (.bS (.bM .Eq (1) (.bD "QUEEN" 5))
 (.ret (.call ia #[0,2,3]))
 .skip
 (.ret (!0)))))
theorem pG:bz gI 4 10 jW=true:=by decide +kernel
def kT:CS:=(.bS (.bM .Eq (2) (.bD "PAWN" 1))
 (.ret (.sub (.sub (.bt (0) 11) (1)) (3)))
 .skip
 (.bS (.bM .Eq (2) (.bD "KNIGHT" 2))
 (.ret (.sub (.bt (0) 10) (3)))
 .skip
 (.bS (.bM .Eq (2) (.bD "KING" 6))
 (.ret (.sub (.bt (0) 9) (3)))
 .skip
 (.ret (.call gI #[0,2,3,4])))))
theorem qQ:bz ib 5 9 kT=true:=by decide +kernel
def rO:CS:=(.bL 3 (.bx .LShift (!1) (2))
 (.eK (.bt (0) 16) (2) (1)
 (.jx (.bt (0) 17) (.call fe #[1]) .BitOr (3)
 (.jx (.bt (0) 18) (.call iC #[1]) .BitOr (3)
 (.fZ (0) 23 .BitXor (.sub (.sub (.bt (.bt (0) 15) 25) (1)) (2))
 .skip)))))
theorem xD:bz du 3 6 rO=true:=by decide +kernel
def pH:CS:=(.bL 2 (.sub (.bt (0) 16) (1))
 (.bL 3 (.bx .LShift (!1) (1))
 (.eK (.bt (0) 16) (1) (.bD "EMPTY" 0)
 (.jx (.bt (0) 17) (.call fe #[2]) .BitXor (3)
 (.jx (.bt (0) 18) (.call iC #[2]) .BitXor (3)
 (.fZ (0) 23 .BitXor (.sub (.sub (.bt (.bt (0) 15) 25) (2)) (1))
 (.ret (2))))))))
theorem vo:bz fg 2 7 pH=true:=by decide +kernel
def nL:CS:=(.bL 3 (.sub (.bt (0) 16) (1))
 (.bL 4 (.bx .BitOr (.bx .LShift (!1) (1)) (.bx .LShift (!1) (2)))
 (.eK (.bt (0) 16) (1) (.bD "EMPTY" 0)
 (.eK (.bt (0) 16) (2) (3)
 (.jx (.bt (0) 17) (.call fe #[3]) .BitXor (4)
 (.jx (.bt (0) 18) (.call iC #[3]) .BitXor (4)
 (.bL 5 (.sub (.bt (.bt (0) 15) 25) (3))
 (.fZ (0) 23 .BitXor (.bx .BitXor (.sub (5) (1)) (.sub (5) (2)))
 .skip))))))))
theorem tQ:bz cH 3 9 nL=true:=by decide +kernel
def tR:CS:=(.ret (.bx .BitOr (.sub (.bt (0) 18) (.bD "WHITE" 0)) (.sub (.bt (0) 18) (.bD "BLACK" 1))))
theorem y8:bz gJ 1 3 tR=true:=by decide +kernel
def y9:CS:=(.ret (.bx .BitAnd (.sub (.bt (0) 18) (1)) (.sub (.bt (0) 17) (2))))
theorem Ee:bz jU 3 3 y9=true:=by decide +kernel
def nM:CS:=(.ret (.call pB #[(.bx .BitAnd (.sub (.bt (0) 18) (1)) (.sub (.bt (0) 17) (.bD "KING" 6)))]))
theorem tS:bz dc 2 4 nM=true:=by decide +kernel
def iX:CS:=(.ret (.bx .BitOr (.sub (.bt (0) 17) (.bD "ROOK" 4)) (.sub (.bt (0) 17) (.bD "QUEEN" 5))))
theorem nr:bz di 1 3 iX=true:=by decide +kernel
def iY:CS:=(.ret (.bx .BitOr (.sub (.bt (0) 17) (.bD "BISHOP" 3)) (.sub (.bt (0) 17) (.bD "QUEEN" 5))))
theorem nv:bz cQ 1 3 iY=true:=by decide +kernel
def jX:CS:=(.ret (.bx .BitAnd (.bx .BitAnd (.sub (.sub (.bt (.bt (0) 14) 11) (.bx .Sub (!1) (2))) (1)) (.sub (.bt (0) 17) (.bD "PAWN" 1))) (.sub (.bt (0) 18) (2))))
theorem pI:bz gK 3 4 jX=true:=by decide +kernel
def jY:CS:=(.bL 3 (.bt (0) 14)
 (.bL 4 (.bx .BitAnd (.sub (.bt (3) 10) (1)) (.sub (.bt (0) 17) (.bD "KNIGHT" 2)))
 (.iw 4 .BitOr (.bx .BitAnd (.sub (.bt (3) 9) (1)) (.sub (.bt (0) 17) (.bD "KING" 6)))
 (.ret (.bx .BitOr (.call gK #[0,1,2]) (.bx .BitAnd (4) (.sub (.bt (0) 18) (2))))))))
theorem pJ:bz dT 3 8 jY=true:=by decide +kernel
def jZ:CS:=(.bL 3 (!0)
 (.bL 4 (.call di #[0])
 (.bS (4)
 (.iw 3 .BitOr (.bx .BitAnd (.call cZ #[(.bt (0) 14),1,2]) (4))
 .skip)
 .skip
 (.bL 5 (.call cQ #[0])
 (.bS (5)
 (.iw 3 .BitOr (.bx .BitAnd (.call cv #[(.bt (0) 14),1,2]) (5))
 .skip)
 .skip
 (.ret (3)))))))
theorem pK:bz gL 3 10 jZ=true:=by decide +kernel
def lJ:CS:=(.bL 3 (.bx .BitOr (.call dT #[0,1,(.bD "WHITE" 0)]) (.call dT #[0,1,(.bD "BLACK" 1)]))
 (.ret (.bx .BitOr (3) (.call gL #[0,1,2]))))
theorem sj:bz iP 3 8 lJ=true:=by decide +kernel
def nN:CS:=(.bS (.call dT #[0,1,2])
 (.ret (.bool true))
 .skip
 (.bL 4 (.bt (0) 14)
 (.bL 5 (.sub (.bt (0) 18) (2))
 (.bL 6 (.bx .BitAnd (.call di #[0]) (5))
 (.bS (.and (6) (.bx .BitAnd (.call cZ #[4,1,3]) (6)))
 (.ret (.bool true))
 .skip
 (.bL 7 (.bx .BitAnd (.call cQ #[0]) (5))
 (.ret (.and (.bM .NotEq (7) (!0)) (.bM .NotEq (.bx .BitAnd (.call cv #[4,1,3]) (7)) (!0))))))))))
theorem tT:bz dD 4 13 nN=true:=by decide +kernel
def nO:CS:=(.bL 2 (.bx .BitOr (.sub (.bt (0) 18) (.bD "WHITE" 0)) (.sub (.bt (0) 18) (.bD "BLACK" 1)))
 (.ret (.bx .BitAnd (.call iP #[0,(.call dc #[0,1]),2]) (.sub (.bt (0) 18) (.bx .Sub (!1) (1))))))
theorem tU:bz jA 2 7 nO=true:=by decide +kernel
def tV:CS:=(.ret (.call jA #[0,(.bt (0) 19)]))
theorem za:bz oy 1 2 tV=true:=by decide +kernel
def nQ:CS:=(.bL 2 (.bx .BitOr (.sub (.bt (0) 18) (.bD "WHITE" 0)) (.sub (.bt (0) 18) (.bD "BLACK" 1)))
 (.ret (.call dD #[0,(.call dc #[0,1]),(.bx .Sub (!1) (1)),2])))
theorem tW:bz jB 2 7 nQ=true:=by decide +kernel
def tX:CS:=(.ret (.call jB #[0,(.bt (0) 19)]))
theorem zb:bz gM 1 2 tX=true:=by decide +kernel
def pL:CS:=(.bL 2 (.call dc #[0,1])
 (.bL 3 (.bx .BitAnd (.call cZ #[(.bt (0) 14),2,(!0)]) (.call di #[0]))
 (.iw 3 .BitOr (.bx .BitAnd (.call cv #[(.bt (0) 14),2,(!0)]) (.call cQ #[0]))
 (.ret (.bx .BitAnd (3) (.sub (.bt (0) 18) (.bx .Sub (!1) (1))))))))
theorem vp:bz kv 2 9 pL=true:=by decide +kernel
def tY:CS:=(.bL 2 (.call dc #[0,1])
 (.bL 3 (.call kv #[0,1])
 (.bL 4 (.bx .BitXor (.bx .BitOr (.sub (.bt (0) 18) (.bD "WHITE" 0)) (.sub (.bt (0) 18) (.bD "BLACK" 1))) (3))
 (.bL 5 (!0)
 (.bL 6 (!0)
 (.cb [7] (.call cJ #[3])
 (.bL 8 (.bx .BitAnd (.call mD #[(.bt (0) 14),2,7]) (4))
 (.bS (.and (8) (.not (.call ei #[8])))
 (.iw 5 .BitOr (8)
 (.bS (.bx .BitAnd (8) (.sub (.bt (0) 18) (1)))
 (.iw 6 .BitOr (.bx .LShift (!1) (7))
 .skip)
 .skip
 .skip))
 .skip
 .skip))
 (.ret (.cn #[5,6]))))))))
theorem zc:bz oz 2 16 tY=true:=by decide +kernel
def kU:CS:=(.ret (.bx .BitAnd (.sub (.call oz #[0,1]) (!0)) (.sub (.bt (0) 18) (1))))
theorem qR:bz eu 2 3 kU=true:=by decide +kernel
def j1:CS:=(.bL 2 (.sub (.bt (.bt (0) 14) 12) (1))
 (.bS (.bM .Is (2) .none)
 (.ret (.bD "NO_WING" 1))
 .skip
 (.bS (.bM .Eq (.bx .BitAnd (.bt (0) 20) (.bx .LShift (!1) (1))) (!0))
 (.ret (.bD "RIGHT_LOST" 2))
 .skip
 (.o5 [3,4,5,6] (2)
 (.bL 7 (.call gJ #[0])
 (.bS (.bx .BitAnd (7) (.call qN #[3,5]))
 (.ret (.bD "NOT_FREE" 3))
 .skip
 (.bL 8 (.bx .Sub (!1) (.bx .RShift (1) (!1)))
 (.bS (.call dD #[0,3,8,7])
 (.ret (.bD "IN_CHECK" 4))
 .skip
 (.bS (.call dD #[0,6,8,7])
 (.ret (.bD "PASSES_ATTACK" 5))
 .skip
 (.bS (.call dD #[0,4,8,7])
 (.ret (.bD "GOAL_ATTACKED" 6))
 .skip
 (.ret (.bD "MAY" 0))))))))))))
theorem pM:bz gN 2 19 j1=true:=by decide +kernel
def lK:CS:=(.cb [2] (.cI #[(.bx .Mult (!2) (.bt (0) 19)),(.bx .Add (.bx .Mult (!2) (.bt (0) 19)) (!1))])
 (.bS (.bM .Eq (.call gN #[0,2]) (.bD "MAY" 0))
 (.o5 [3,4,5,6] (.sub (.bt (.bt (0) 14) 12) (2))
 (.expr (.append (1) (.call cM #[3,4,(.bD "CASTLING" 3),(.bD "NO_KIND" 0)]))
 .skip))
 .skip
 .skip)
 .skip)
theorem sk:bz eV 2 12 lK=true:=by decide +kernel
def rP:CS:=(.cb [3] (.call cJ #[1])
 (.expr (.append (2) (.call cM #[0,3,(.bD "NORMAL" 0),(.bD "NO_KIND" 0)]))
 .skip)
 .skip)
theorem xE:bz lD 3 8 rP=true:=by decide +kernel
def jl:CS:=(.bL 4 (.call gJ #[0])
 (.cb [5] (.call cJ #[(.call jU #[0,(.bt (0) 19),1])])
 (.bL 6 (.call ib #[(.bt (0) 14),(.bt (0) 19),1,5,4])
 (.expr (.call lD #[5,(.bx .BitAnd (6) (2)),3])
 .skip))
 .skip))
theorem oB:bz cK 4 12 jl=true:=by decide +kernel
def lL:CS:=(.bS (.bM .Eq (1) (.bD "CAPTURES" 0))
 (.ret (.sub (.bt (0) 18) (.bx .Sub (!1) (.bt (0) 19))))
 .skip
 (.bS (.bM .Eq (1) (.bD "QUIETS" 1))
 (.ret (.bx .BitAnd (.bt (.bt (0) 14) 3) (.inv (.call gJ #[0]))))
 .skip
 (.ret (.bx .BitAnd (.bt (.bt (0) 14) 3) (.inv (.sub (.bt (0) 18) (.bt (0) 19)))))))
theorem sm:bz iQ 2 5 lL=true:=by decide +kernel
def rQ:CS:=(.bS (.bM .Eq (1) (.bD "WHITE" 0))
 (.ret (.bt (0) 0))
 .skip
 (.ret (.neg (.bt (0) 0))))
theorem xF:bz g8 2 3 rQ=true:=by decide +kernel
def rR:CS:=(.bS (.bM .Eq (1) (.bD "WHITE" 0))
 (.ret (.sub (.bt (0) 7) (.bx .Sub (.bt (0) 1) (!1))))
 .skip
 (.ret (.sub (.bt (0) 7) (!0))))
theorem xG:bz g9 2 3 rR=true:=by decide +kernel
def pN:CS:=(.bS (.bM .Eq (2) (.bD "WHITE" 0))
 (.ret (.bx .BitAnd (.bx .LShift (1) (.bt (0) 0)) (.bt (0) 3)))
 .skip
 (.ret (.bx .RShift (1) (.bt (0) 0))))
theorem vq:bz d4 3 4 pN=true:=by decide +kernel
def kW:CS:=(.bS (.bM .Eq (3) (!0))
 (.ret (.bx .LShift (.call d4 #[0,(.bx .BitAnd (1) (.inv (.sub (.bt (0) 6) (.bx .Sub (.bt (0) 0) (!1))))),2]) (!1)))
 .skip
 (.ret (.bx .RShift (.call d4 #[0,(.bx .BitAnd (1) (.inv (.sub (.bt (0) 6) (!0)))),2]) (!1))))
theorem qS:bz ie 4 5 kW=true:=by decide +kernel
def lM:CS:=(.bL 2 (.bt (0) 14)
 (.bL 3 (.bx .BitAnd (.bt (2) 3) (.inv (.call gJ #[0])))
 (.bL 4 (.call jU #[0,1,(.bD "PAWN" 1)])
 (.bL 5 (.bx .BitAnd (.call d4 #[2,4,1]) (3))
 (.bL 6 (!0)
 (.bS (.bt (2) 4)
 (.bL 7 (.bx .BitAnd (.call d4 #[2,(.bx .BitAnd (4) (.call xy #[2,1])),1]) (3))
 (.bL 6 (.bx .BitAnd (.call d4 #[2,7,1]) (3))
 .skip))
 .skip
 (.ret (.cn #[5,6]))))))))
theorem so:bz gf 2 13 lM=true:=by decide +kernel
def j2:CS:=(.bS (.bM .NotEq (2) (.bD "QUIETS" 1))
 (.expr (.append (4) (.call cM #[0,1,(.bD "PROMOTION" 1),(.bD "QUEEN" 5)]))
 .skip)
 .skip
 (.bS (.bM .Eq (2) (.bD "CAPTURES" 0))
 (.bL 5 (3)
 .skip)
 (.bS (.bM .Eq (2) (.bD "QUIETS" 1))
 (.bL 5 (.not (3))
 .skip)
 (.bL 5 (.bool true)
 .skip)
 .skip)
 (.bS (5)
 (.cb [6] (.cI #[(.bD "ROOK" 4),(.bD "BISHOP" 3),(.bD "KNIGHT" 2)])
 (.expr (.append (4) (.call cM #[0,1,(.bD "PROMOTION" 1),6]))
 .skip)
 .skip)
 .skip
 .skip)))
theorem pO:bz fh 5 15 j2=true:=by decide +kernel
def iZ:CS:=(.bL 3 (.bt (0) 14)
 (.bL 4 (.call g8 #[3,(.bt (0) 19)])
 (.o5 [5,6] (.call gf #[0,(.bt (0) 19)])
 (.cb [7] (.call cJ #[(.bx .BitAnd (.bx .BitAnd (5) (1)) (.inv (.call g9 #[3,(.bt (0) 19)])))])
 (.expr (.append (2) (.call cM #[(.bx .Sub (7) (4)),7,(.bD "NORMAL" 0),(.bD "NO_KIND" 0)]))
 .skip)
 (.cb [7] (.call cJ #[(.bx .BitAnd (6) (1))])
 (.expr (.append (2) (.call cM #[(.bx .Sub (7) (.bx .Mult (!2) (4))),7,(.bD "NORMAL" 0),(.bD "NO_KIND" 0)]))
 .skip)
 .skip)))))
theorem nx:bz fN 3 15 iZ=true:=by decide +kernel
def gB:CS:=(.bL 4 (.bt (0) 14)
 (.bL 5 (.call g8 #[4,(.bt (0) 19)])
 (.bL 6 (.sub (.call gf #[0,(.bt (0) 19)]) (!0))
 (.cb [7] (.call cJ #[(.bx .BitAnd (.bx .BitAnd (6) (2)) (.call g9 #[4,(.bt (0) 19)]))])
 (.expr (.call fh #[(.bx .Sub (7) (5)),7,1,(.bool false),3])
 .skip)
 .skip))))
theorem kC:bz dm 4 13 gB=true:=by decide +kernel
def iq:CS:=(.bL 4 (.bt (0) 14)
 (.bL 5 (.bt (0) 19)
 (.bL 6 (.call g9 #[4,5])
 (.bL 7 (.call jU #[0,5,(.bD "PAWN" 1)])
 (.bL 8 (.bx .BitAnd (2) (.sub (.bt (0) 18) (.bx .Sub (!1) (5))))
 (.cb [9] (.cI #[(!0),(!1)])
 (.bL 10 (.bx .Sub (.bx .Add (.call g8 #[4,5]) (!1)) (.bx .Mult (!2) (9)))
 (.cb [11] (.call cJ #[(.bx .BitAnd (.call ie #[4,7,5,9]) (8))])
 (.bS (.bx .BitAnd (6) (.bx .LShift (!1) (11)))
 (.expr (.call fh #[(.bx .Sub (11) (10)),11,1,(.bool true),3])
 .skip)
 (.expr (.append (3) (.call cM #[(.bx .Sub (11) (10)),11,(.bD "NORMAL" 0),(.bD "NO_KIND" 0)]))
 .skip)
 .skip)
 .skip))
 .skip))))))
theorem lN:bz dP 4 22 iq=true:=by decide +kernel
def j4:CS:=(.bS (.bM .NotEq (1) (.bD "CAPTURES" 0))
 (.expr (.call fN #[0,2,3])
 .skip)
 .skip
 (.expr (.call dm #[0,1,2,3])
 (.bS (.bM .NotEq (1) (.bD "QUIETS" 1))
 (.expr (.call dP #[0,1,2,3])
 .skip)
 .skip
 .skip)))
theorem pP:bz fj 4 9 j4=true:=by decide +kernel
def j5:CS:=(.bS (.bM .Lt (.bt (0) 21) (!0))
 .yx
 .skip
 (.bL 2 (.bx .BitAnd (.sub (.sub (.bt (.bt (0) 14) 11) (.bx .Sub (!1) (.bt (0) 19))) (.bt (0) 21)) (.call jU #[0,(.bt (0) 19),(.bD "PAWN" 1)]))
 (.cb [3] (.call cJ #[2])
 (.expr (.append (1) (.call cM #[3,(.bt (0) 21),(.bD "EN_PASSANT" 2),(.bD "NO_KIND" 0)]))
 .skip)
 .skip)))
theorem pQ:bz fk 2 10 j5=true:=by decide +kernel
def jm:CS:=(.bS (.or (.bM .Eq (1) (!0)) (.call ei #[1]))
 (.ret (!0))
 .skip
 (.ret (.bx .BitOr (1) (.call mD #[(.bt (0) 14),(.call dc #[0,(.bt (0) 19)]),(.call pB #[1])]))))
theorem oE:bz gh 2 6 jm=true:=by decide +kernel
def fV:CS:=(.bS (.bM .Lt (.bt (0) 21) (!0))
 (.ret (.bool false))
 .skip
 (.ret (.bM .NotEq (.bx .BitAnd (1) (.bx .BitOr (.bx .LShift (!1) (.bt (0) 21)) (.bx .LShift (!1) (.call lE #[0])))) (!0))))
theorem jD:bz dU 2 3 fV=true:=by decide +kernel
def lO:CS:=(.bL 2 (.call gh #[0,(.call oy #[0])])
 (.bS (2)
 (.expr (.call fj #[0,(.bD "EVASIONS" 3),2,1])
 (.bS (.call dU #[0,2])
 (.expr (.call fk #[0,1])
 .skip)
 .skip
 (.cb [3] (.cI #[(.bD "KNIGHT" 2),(.bD "BISHOP" 3),(.bD "ROOK" 4),(.bD "QUEEN" 5)])
 (.expr (.call cK #[0,3,2,1])
 .skip)
 .skip)))
 .skip
 (.expr (.call cK #[0,(.bD "KING" 6),(.bx .BitAnd (.bt (.bt (0) 14) 3) (.inv (.sub (.bt (0) 18) (.bt (0) 19)))),1])
 .skip)))
theorem su:bz iR 2 16 lO=true:=by decide +kernel
def tZ:CS:=(.bL 3 (.call dS #[1])
 (.bS (.bM .Eq (3) (.bD "CASTLING" 3))
 (.ret (.bool true))
 .skip
 (.bS (.bM .Eq (3) (.bD "EN_PASSANT" 2))
 (.ret (.call lF #[0,1]))
 .skip
 (.bL 4 (.call fR #[1])
 (.bL 5 (.call gH #[1])
 (.bL 6 (.call dc #[0,(.bt (0) 19)])
 (.bS (.bM .Eq (4) (6))
 (.bL 7 (.bx .BitXor (.bx .BitOr (.sub (.bt (0) 18) (.bD "WHITE" 0)) (.sub (.bt (0) 18) (.bD "BLACK" 1))) (.bx .LShift (!1) (6)))
 (.ret (.not (.call dD #[0,5,(.bx .Sub (!1) (.bt (0) 19)),7]))))
 .skip
 (.bS (.bM .Eq (.bx .BitAnd (.bx .RShift (2) (4)) (!1)) (!0))
 (.ret (.bool true))
 .skip
 (.ret (.call qM #[(.bt (0) 14),4,5,6]))))))))))
theorem zd:bz iS 3 19 tZ=true:=by decide +kernel
def t7:CS:=(.bL 2 (.cI .nil)
 (.bS (.bM .Eq (1) (.bD "EVASIONS" 3))
 (.expr (.call iR #[0,2])
 (.ret (2)))
 .skip
 (.bL 3 (.call iQ #[0,1])
 (.expr (.call fj #[0,1,(.bt (.bt (0) 14) 3),2])
 (.bS (.bM .NotEq (1) (.bD "QUIETS" 1))
 (.expr (.call fk #[0,2])
 .skip)
 .skip
 (.cb [4] (.cI #[(.bD "KNIGHT" 2),(.bD "BISHOP" 3),(.bD "ROOK" 4),(.bD "QUEEN" 5),(.bD "KING" 6)])
 (.expr (.call cK #[0,4,3,2])
 .skip)
 (.bS (.bM .NotEq (1) (.bD "CAPTURES" 0))
 (.expr (.call eV #[0,2])
 .skip)
 .skip
 (.ret (2)))))))))
theorem ze:bz gO 2 19 t7=true:=by decide +kernel
def lP:CS:=(.bS (.call gM #[0])
 (.ret (.call gO #[0,(.bD "EVASIONS" 3)]))
 .skip
 (.ret (.call gO #[0,(.bD "NON_EVASIONS" 2)])))
theorem sv:bz iT 1 5 lP=true:=by decide +kernel
def pR:CS:=(.bL 2 (.call eu #[0,(.bt (0) 19)])
 (.bL 3 (.cI .nil)
 (.cb [4] (1)
 (.bS (.call iS #[0,4,2])
 (.expr (.append (3) (4))
 .skip)
 .skip
 .skip)
 (.ret (3)))))
theorem vt:bz kx 2 7 pR=true:=by decide +kernel
def nR:CS:=(.ret (.call kx #[0,(.call iT #[0])]))
theorem ua:bz de 1 3 nR=true:=by decide +kernel
def j6:CS:=(.bL 1 (.ite (.call gM #[0]) (.cI #[(.bD "EVASIONS" 3)]) (.cI #[(.bD "CAPTURES" 0),(.bD "QUIETS" 1)]))
 (.bL 2 (.call eu #[0,(.bt (0) 19)])
 (.cb [3] (1)
 (.cb [4] (.call gO #[0,3])
 (.bS (.call iS #[0,4,2])
 (.ret (.bool true))
 .skip
 .skip)
 .skip)
 (.ret (.bool false)))))
theorem pT:bz gP 1 12 j6=true:=by decide +kernel
def nS:CS:=(.bL 2 (.call fR #[1])
 (.bS (.or (.bM .GtE (2) (.bt (.bt (0) 14) 2)) (.bM .GtE (.call gH #[1]) (.bt (.bt (0) 14) 2)))
 (.iE "BadMove" "a move with a square beyond the board")
 .skip
 (.bL 3 (.sub (.bt (0) 16) (2))
 (.bS (.or (.bM .Eq (3) (.bD "EMPTY" 0)) (.bM .NotEq (.call iC #[3]) (.bt (0) 19)))
 (.iE "BadMove" "a move that starts with no own piece")
 .skip
 (.ret (3))))))
theorem ub:bz jC 2 9 nS=true:=by decide +kernel
def fW:CS:=(.bL 2 (.call gH #[1])
 (.bS (.bM .NotEq (.call dS #[1]) (.bD "EN_PASSANT" 2))
 (.ret (2))
 .skip
 (.bS (.bM .Eq (.bt (0) 19) (.bD "WHITE" 0))
 (.ret (.bx .Sub (2) (.bt (.bt (0) 14) 0)))
 .skip
 (.ret (.bx .Add (2) (.bt (.bt (0) 14) 0))))))
theorem jE:bz cD 2 7 fW=true:=by decide +kernel
def kX:CS:=(.bL 4 (.bt (.bt (0) 14) 0)
 (.bS (.and (.bM .NotEq (.bx .Sub (3) (2)) (.bx .Mult (!2) (4))) (.bM .NotEq (.bx .Sub (2) (3)) (.bx .Mult (!2) (4))))
 (.ret (.neg (!1)))
 .skip
 (.bL 5 (.bx .FloorDiv (.bx .Add (2) (3)) (!2))
 (.bL 6 (.bx .BitAnd (.sub (.bt (0) 17) (.bD "PAWN" 1)) (.sub (.bt (0) 18) (.bx .Sub (!1) (1))))
 (.bS (.bM .Eq (.bx .BitAnd (.sub (.sub (.bt (.bt (0) 14) 11) (1)) (5)) (6)) (!0))
 (.ret (.neg (!1)))
 .skip
 (.ret (5)))))))
theorem qT:bz dp 4 8 kX=true:=by decide +kernel
def nT:CS:=(.bL 3 (.bx .BitOr (.sub (.bt (.bt (0) 14) 13) (1)) (.sub (.bt (.bt (0) 14) 13) (2)))
 (.ret (.bx .Sub (.bt (0) 20) (.bx .BitAnd (.bt (0) 20) (3)))))
theorem uc:bz dE 3 4 nT=true:=by decide +kernel
def lQ:CS:=(.bS (.bM .GtE (.bt (0) 21) (!0))
 (.fZ (0) 23 .BitXor (.sub (.bt (.bt (0) 15) 21) (.bx .Mod (.bt (0) 21) (.bt (.bt (0) 14) 0)))
 (.cg (0) 21 (.neg (!1))
 .skip))
 .skip
 .skip)
theorem sx:bz iU 1 1 lQ=true:=by decide +kernel
def pU:CS:=(.bS (.bM .GtE (1) (!0))
 (.fZ (0) 23 .BitXor (.sub (.bt (.bt (0) 15) 21) (.bx .Mod (1) (.bt (.bt (0) 14) 0)))
 .skip)
 .skip
 (.cg (0) 21 (1)
 .skip))
theorem vu:bz fp 2 2 pU=true:=by decide +kernel
def j7:CS:=(.bS (.bM .NotEq (1) (.bt (0) 20))
 (.fZ (0) 23 .BitXor (.bx .BitXor (.sub (.bt (.bt (0) 15) 20) (.bt (0) 20)) (.sub (.bt (.bt (0) 15) 20) (1)))
 (.cg (0) 20 (1)
 .skip))
 .skip
 .skip)
theorem pX:bz cR 2 2 j7=true:=by decide +kernel
def wt:CS:=(.bL 2 (.call jC #[0,1])
 (.bL 3 (.bt (0) 19)
 (.bL 4 (.call fR #[1])
 (.bL 5 (.call gH #[1])
 (.bL 6 (.call dS #[1])
 (.bL 7 (.cn #[(.neg (!1)),(.neg (!1))])
 (.bS (.bM .Eq (6) (.bD "CASTLING" 3))
 (.bL 7 (.call lG #[(.bt (0) 14),3,5])
 .skip)
 .skip
 (.bL 8 (.call cD #[0,1])
 (.bL 9 (.sub (.bt (0) 16) (8))
 (.expr (.append (.bt (0) 24) (.cn #[1,9,(.bt (0) 20),(.bt (0) 21),(.bt (0) 22),(.bt (0) 23)]))
 (.expr (.call iU #[0])
 (.fZ (0) 22 .Add (!1)
 (.bS (.bM .NotEq (9) (.bD "EMPTY" 0))
 (.expr (.call fg #[0,8])
 (.cg (0) 22 (!0)
 .skip))
 .skip
 (.bS (.bM .Eq (6) (.bD "PROMOTION" 1))
 (.expr (.call fg #[0,4])
 (.expr (.call du #[0,(.call gb #[3,(.call iy #[1])]),5])
 .skip))
 (.expr (.call cH #[0,4,5])
 .skip)
 (.bS (.bM .Eq (6) (.bD "CASTLING" 3))
 (.expr (.call cH #[0,(.sub (7) (!0)),(.sub (7) (!1))])
 .skip)
 .skip
 (.bS (.bM .Eq (.call fe #[2]) (.bD "PAWN" 1))
 (.cg (0) 22 (!0)
 (.expr (.call fp #[0,(.call dp #[0,3,4,5])])
 .skip))
 .skip
 (.expr (.call cR #[0,(.call dE #[0,4,5])])
 (.bS (.bM .Eq (3) (.bD "BLACK" 1))
 (.fZ (0) 3 .Add (!1)
 .skip)
 .skip
 (.cg (0) 19 (.bx .Sub (!1) (3))
 (.fZ (0) 23 .BitXor (.bt (.bt (0) 15) 19)
 .skip))))))))))))))))))))
theorem BC:bz fq 2 32 wt=true:=by decide +kernel
def rS:CS:=(.bS (.bM .Eq (.len (.bt (0) 24)) (!0))
 (.iE "BadMove" "no move to take back")
 .skip
 (.o5 [1,2,3,4,5,6] (.pop (.bt (0) 24))
 (.bL 7 (.bx .Sub (!1) (.bt (0) 19))
 (.cg (0) 19 (7)
 (.bL 8 (.call fR #[1])
 (.bL 9 (.call gH #[1])
 (.bL 10 (.call dS #[1])
 (.bS (.bM .Eq (10) (.bD "PROMOTION" 1))
 (.expr (.call fg #[0,9])
 (.expr (.call du #[0,(.call gb #[7,(.bD "PAWN" 1)]),8])
 .skip))
 (.expr (.call cH #[0,9,8])
 .skip)
 (.bS (.bM .Eq (10) (.bD "CASTLING" 3))
 (.bL 11 (.call lG #[(.bt (0) 14),7,9])
 (.expr (.call cH #[0,(.sub (11) (!1)),(.sub (11) (!0))])
 .skip))
 .skip
 (.bS (.bM .NotEq (2) (.bD "EMPTY" 0))
 (.expr (.call du #[0,2,(.call cD #[0,1])])
 .skip)
 .skip
 (.bS (.bM .Eq (7) (.bD "BLACK" 1))
 (.fZ (0) 3 .Sub (!1)
 .skip)
 .skip
 (.cg (0) 20 (3)
 (.cg (0) 21 (4)
 (.cg (0) 22 (5)
 (.cg (0) 23 (6)
 .skip)))))))))))))))
theorem xH:bz dw 1 28 rS=true:=by decide +kernel
def kD:CS:=(.bS (.bM .Gt (1) (.len (.bt (0) 24)))
 (.iE "BadMove" "fewer moves were made than are to be taken back")
 .skip
 (.cb [2] (.c8 #[1])
 (.expr (.call dw #[0])
 .skip)
 .skip))
theorem nU:bz dx 2 7 kD=true:=by decide +kernel
def oF:CS:=(.bL 2 (!0)
 (.cb [3] (1)
 (.bS (.bM .NotIn (3) (.call de #[0]))
 (.expr (.call dx #[0,2])
 (.iE "BadMove" "a move that isn't legal"))
 .skip
 (.expr (.call fq #[0,3])
 (.iw 2 .Add (!1)
 .skip)))
 .skip))
theorem rT:bz gQ 2 8 oF=true:=by decide +kernel
def pY:CS:=(.ret (.comp (.sub (1) (!0)) [1] (.bt (0) 24) none [] 2))
theorem vw:bz d5 1 1 pY=true:=by decide +kernel
def oG:CS:=(.bS (.bM .LtE (1) (!0))
 (.ret (.bool false))
 .skip
 (.cb [2] (.call de #[0])
 (.expr (.call fq #[0,2])
 (.bL 3 (.call gW #[0,(.bx .Sub (1) (!1))])
 (.expr (.call dw #[0])
 (.bS (3)
 (.ret (.bool true))
 .skip
 .skip))))
 (.ret (.bool false))))
theorem rU:bz ky 2 8 oG=true:=by decide +kernel
def jF:CS:=(.bS (.bM .LtE (1) (!0))
 (.ret (.and (.call gM #[0]) (.not (.call gP #[0]))))
 .skip
 (.bL 2 (.call de #[0])
 (.bS (.bM .Eq (.len (2)) (!0))
 (.ret (.call gM #[0]))
 .skip
 (.cb [3] (2)
 (.expr (.call fq #[0,3])
 (.bL 4 (.call ky #[0,1])
 (.expr (.call dw #[0])
 (.bS (.not (4))
 (.ret (.bool false))
 .skip
 .skip))))
 (.ret (.bool true))))))
theorem lR:bz gW 2 12 jF=true:=by decide +kernel
def nX:CS:=(.cb [2] (.call de #[0])
 (.expr (.call fq #[0,2])
 (.bL 3 (.cI .nil)
 (.bS (.call gW #[0,(.bx .Sub (1) (!1))])
 (.bL 3 (.cI #[2])
 (.cb [4] (.call iV #[0,(.bx .Sub (1) (!1))])
 (.expr (.append (3) (4))
 .skip)
 .skip))
 .skip
 (.expr (.call dw #[0])
 (.bS (.bM .Gt (.len (3)) (!0))
 (.ret (3))
 .skip
 .skip)))))
 (.ret (.cI .nil)))
theorem ud:bz gX 2 11 nX=true:=by decide +kernel
def i0:CS:=(.bS (.bM .LtE (1) (!0))
 (.ret (.cI .nil))
 .skip
 (.cb [2] (.call de #[0])
 (.expr (.call fq #[0,2])
 (.bL 3 (.cI .nil)
 (.bS (.not (.call ky #[0,(.bx .Sub (1) (!1))]))
 (.bL 3 (.cI #[2])
 (.cb [4] (.call gX #[0,1])
 (.expr (.append (3) (4))
 .skip)
 .skip))
 .skip
 (.expr (.call dw #[0])
 (.bS (.bM .Gt (.len (3)) (!0))
 (.ret (3))
 .skip
 .skip)))))
 (.ret (.cI .nil))))
theorem kY:bz iV 2 11 i0=true:=by decide +kernel
def rV:CS:=(.cb [2] (.c8 #[(!1),(.bx .Add (1) (!1))])
 (.bL 3 (.call gX #[0,2])
 (.bS (.bM .Gt (.len (3)) (!0))
 (.ret (3))
 .skip
 .skip))
 (.ret (.cI .nil)))
theorem xI:bz fS 2 7 rV=true:=by decide +kernel
def kZ:CS:=(.ret (.bx .BitAnd (.bx .Add (.bx .Mod (1) (.bt (0) 0)) (.bx .FloorDiv (1) (.bt (0) 0))) (!1)))
theorem qU:bz ig 2 2 kZ=true:=by decide +kernel
def fX:CS:=(.bL 1 (!0)
 (.cb [2] (.call cJ #[(.sub (.bt (0) 17) (.bD "BISHOP" 3))])
 (.iw 1 .BitOr (.bx .LShift (!1) (.call ig #[(.bt (0) 14),2]))
 .skip)
 (.ret (.bM .NotEq (1) (!3)))))
theorem jG:bz dW 1 6 fX=true:=by decide +kernel
def jn:CS:=(.bL 1 (.bt (0) 17)
 (.bS (.bM .NotEq (.bx .BitOr (.bx .BitOr (.sub (1) (.bD "PAWN" 1)) (.sub (1) (.bD "ROOK" 4))) (.sub (1) (.bD "QUEEN" 5))) (!0))
 (.ret (.bool false))
 .skip
 (.bS (.bM .Eq (.sub (1) (.bD "KNIGHT" 2)) (!0))
 (.ret (.call dW #[0]))
 .skip
 (.ret (.and (.bM .Eq (.sub (1) (.bD "BISHOP" 3)) (!0)) (.not (.call ei #[(.sub (1) (.bD "KNIGHT" 2))])))))))
theorem oH:bz eP 1 9 jn=true:=by decide +kernel
def ue:CS:=(.bL 4 (.bx .Mod (.sub (2) (3)) (!8))
 (.bL 5 (.ko "_law_kings" 2)
 (.bS (.bM .Eq (4) (!1))
 (.bL 6 (.bx .Sub (!1) (.bx .Mult (.bx .FloorDiv (.sub (2) (3)) (!8)) (!2)))
 (.bL 5 (.cI #[(.cn #[(!1),6]),(.cn #[(.neg (!1)),6])])
 .skip))
 (.bS (.bM .Eq (4) (!2))
 (.bL 5 (.ko "_law_jumps" 3)
 .skip)
 (.bS (.bM .Eq (4) (!3))
 (.bL 5 (.slice (.ko "_law_kings" 2) (some 4) none)
 .skip)
 (.bS (.bM .Eq (4) (!4))
 (.bL 5 (.slice (.ko "_law_kings" 2) none (some 4))
 .skip)
 .skip
 .skip)
 .skip)
 .skip)
 (.bL 7 (.cI .nil)
 (.cb [8,6] (5)
 (.bL 9 (.bx .Add (.bx .Mod (3) (0)) (8))
 (.bL 10 (.bx .Add (.bx .FloorDiv (3) (0)) (6))
 (.E7 (.and (.chn .LtE .Lt (!0) (9) (0)) (.chn .LtE .Lt (!0) (10) (1)))
 (.expr (.append (7) (.bx .Add (.bx .Mult (10) (0)) (9)))
 (.bS (.or (.sub (2) (.bx .Add (.bx .Mult (10) (0)) (9))) (.bM .In (4) (.cn #[(!1),(!2),(!6)])))
 .brk
 .skip
 (.iw 9 .Add (8)
 (.iw 10 .Add (6)
 .skip))))
 .skip)))
 (.ret (7)))))))
theorem zf:bz iW 4 13 ue=true:=by decide +kernel
def uf:CS:=(.cb [5] (.c8 #[(.len (2))])
 (.bS (.and (.sub (2) (5)) (.and (.bM .NotEq (.bx .FloorDiv (.sub (2) (5)) (!8)) (4)) (.bM .In (3) (.call iW #[0,1,2,5]))))
 (.ret (.bool false))
 .skip
 .skip)
 (.ret (.bool true)))
theorem zg:bz oA 5 9 uf=true:=by decide +kernel
def ug:CS:=(.ret (.call oA #[0,1,2,(.index (2) (.bx .Add (.bx .Mult (3) (!8)) (!6))),3]))
theorem zh:bz d6 4 5 ug=true:=by decide +kernel
def rW:CS:=(.bL 4 (.cI .nil)
 (.cb [5] (.c8 #[(.len (2))])
 (.bS (.and (.sub (2) (5)) (.bM .Eq (.bx .FloorDiv (.sub (2) (5)) (!8)) (3)))
 (.bL 6 (.bM .Eq (.bx .Mod (.sub (2) (5)) (!8)) (!1))
 (.bL 7 (.call iW #[0,1,2,5])
 (.k9 7 (.comp (1) [1] (7) (some (.or (.and (.sub (2) (1)) (.bM .NotEq (.bx .FloorDiv (.sub (2) (1)) (!8)) (4))) (.and (.not (.sub (2) (1))) (.not (3))))) [(2,2),(3,6),(4,3)] 5)
 (.bL 9 (.bx .Sub (.bx .Add (5) (0)) (.bx .Mult (.bx .Mult (!2) (0)) (3)))
 (.bS (.and (6) (.bM .Eq (.sub (2) (9)) (!0)))
 (.expr (.append (7) (9))
 .skip)
 .skip
 (.cb [8] (7)
 (.bL 10 (.slice (2) none none)
 (.eK (10) (8) (.sub (10) (5))
 (.eK (10) (5) (!0)
 (.bS (.not (.call d6 #[0,1,10,3]))
 .cont
 .skip
 (.bS (.and (6) (.bM .In (.bx .FloorDiv (8) (0)) (.cn #[(!0),(.bx .Sub (1) (!1))])))
 (.cb [11] (.c8 #[(!4)])
 (.bL 12 (.slice (10) none none)
 (.eK (12) (8) (.bx .Add (.bx .Add (.bx .Mult (3) (!8)) (!2)) (11))
 (.expr (.append (4) (.cn #[(.bx .BitOr (.bx .BitOr (.bx .BitOr (8) (.bx .LShift (5) (!6))) (.bx .LShift (!1) (!14))) (.bx .LShift (11) (!12))),12]))
 .skip)))
 .skip)
 (.expr (.append (4) (.cn #[(.bx .BitOr (8) (.bx .LShift (5) (!6))),10]))
 .skip)
 .skip)))))
 .skip))))))
 .skip
 .skip)
 (.ret (4))))
theorem xJ:bz dy 4 17 rW=true:=by decide +kernel
def rX:CS:=(.cb [5,6] (.call dy #[0,1,2,3])
 (.bS (.call kz #[0,1,6,(.bx .Sub (!1) (3)),(.bx .Sub (4) (!1))])
 (.ret (.bool true))
 .skip
 .skip)
 (.ret (.bool false)))
theorem xK:bz fT 5 9 rX=true:=by decide +kernel
def uh:CS:=(.bL 5 (.not (.call d6 #[0,1,2,3]))
 (.bS (.and (.bM .Eq (4) (!0)) (.not (5)))
 (.ret (.bool false))
 .skip
 (.bL 6 (.call dy #[0,1,2,3])
 (.bS (.bM .Eq (6) (.cI .nil))
 (.ret (5))
 .skip
 (.bS (.bM .Eq (4) (!0))
 (.ret (.bool false))
 .skip
 (.cb [7,8] (6)
 (.bS (.not (.call fT #[0,1,8,(.bx .Sub (!1) (3)),4]))
 (.ret (.bool false))
 .skip
 .skip)
 (.ret (.bool true))))))))
theorem zj:bz kz 5 12 uh=true:=by decide +kernel
def lS:CS:=(.bS (.bM .Eq (4) (!0))
 (.ret (.bM .Eq (5) (.cI .nil)))
 .skip
 (.bS (.bM .NotEq (.len (5)) (.bx .Sub (.bx .Mult (!2) (4)) (!1)))
 (.ret (.bool false))
 .skip
 (.bL 6 (3)
 (.cb [7] (.c8 #[(.len (5))])
 (.k9 8 (.comp (2) [1,2] (.call dy #[0,1,2,6]) (some (.bM .Eq (1) (.sub (4) (3)))) [(3,7),(4,5)] 5)
 (.bS (.bM .NotEq (.len (8)) (!1))
 (.ret (.bool false))
 .skip
 (.bL 2 (.sub (8) (!0))
 (.bL 6 (.bx .Sub (!1) (6))
 (.bS (.and (.bM .NotEq (6) (3)) (.not (.call kz #[0,1,2,6,(.bx .Sub (.bx .Sub (4) (!1)) (.bx .FloorDiv (7) (!2)))])))
 (.ret (.bool false))
 .skip
 .skip)))))
 (.ret (.bool true))))))
theorem pZ:bz fU 6 13 lS=true:=by decide +kernel
def ui:CS:=(.k9 2 (.comp (.cn #[(.bx .Mod (.sub (2) (1)) (!8)),(.bx .Mod (.bx .Add (.bx .Mod (1) (3)) (.bx .FloorDiv (1) (3))) (!2))]) [1] (.c8 #[(.len (1))]) (some (.bM .NotIn (.bx .Mod (.sub (2) (1)) (!8)) (.cn #[(!0),(!6)]))) [(2,1),(3,0)] 4)
 (.bS (.or (.bM .Eq (2) (.cI #[(.cn #[(!2),(!0)])])) (.bM .Eq (2) (.cI #[(.cn #[(!2),(!1)])])))
 (.ret (.bool true))
 .skip
 (.ret (.or (.bM .Eq (2) (.bx .Mult (.cI #[(.cn #[(!3),(!0)])]) (.len (2)))) (.bM .Eq (2) (.bx .Mult (.cI #[(.cn #[(!3),(!1)])]) (.len (2))))))))
theorem zk:bz kA 2 5 ui=true:=by decide +kernel
def qV:CS:=(.w4 (.bS (.bM .Gt (2) (!0))
 (.expr (.call dx #[0,2])
 .skip)
 (.expr (.call gQ #[0,1])
 .skip)
 .skip) "BadMove"
 (.ret (.bool true))
 (.ret (.bool false)))
theorem uj:bz gR 3 6 qV=true:=by decide +kernel
def rY:CS:=(.bL 4 (.bx .Mult (0) (1))
 (.bL 5 (.bx .Mult (.cI #[(!0)]) (4))
 (.bL 6 (.bx .Mod (.sub (3) (!1)) (4))
 (.eK (5) (6) (!6)
 (.cb [7] (.c8 #[4])
 (.bL 8 (.bx .Mod (.bx .Add (.bx .FloorDiv (.sub (3) (!1)) (4)) (7)) (4))
 (.bS (.and (.bM .NotIn (!14) (5)) (.or (.bM .Gt (.abs (.bx .Sub (.bx .Mod (8) (0)) (.bx .Mod (6) (0)))) (!1)) (.bM .Gt (.abs (.bx .Sub (.bx .FloorDiv (8) (0)) (.bx .FloorDiv (6) (0)))) (!1))))
 (.eK (5) (8) (!14)
 .skip)
 .skip
 .skip))
 (.cb [9] (.slice (3) (some 2) (some 6))
 (.bL 10 (.sub (.cI #[(!0),(!4),(!5),(!1),(!2),(!3),(!4),(!5)]) (.bx .Mod (9) (!8)))
 (.bL 8 (.bx .Mod (.bx .FloorDiv (9) (!32)) (4))
 (.bS (.and (10) (.and (.bM .Eq (.sub (5) (8)) (!0)) (.or (.bM .NotEq (10) (!1)) (.chn .Lt .Lt (!0) (.bx .FloorDiv (8) (0)) (.bx .Sub (1) (!1))))))
 (.eK (5) (8) (.bx .Add (.bx .Mult (2) (!8)) (10))
 (.bS (.bM .Eq (.bx .Mod (.bx .FloorDiv (9) (!8)) (!4)) (!3))
 (.eK (5) (8) (.bx .Add (.bx .Sub (!8) (.bx .Mult (2) (!8))) (10))
 .skip)
 .skip
 (.bS (.not (.call d6 #[0,1,5,(.bx .Sub (!1) (2))]))
 (.eK (5) (8) (!0)
 .skip)
 .skip
 .skip)))
 .skip
 .skip)))
 (.ret (5))))))))
theorem xM:bz jk 4 14 rY=true:=by decide +kernel
def Gz:CS:=(.k9 1 (.comp (.ite (.bM .Lt (1) (.len (3))) (.sub (3) (1)) (!0)) [1] (.c8 #[(!7)]) none [(3,0)] 4)
 (.o5 [2,3] (.sub (.cI #[(.cn #[(!3),(!4)]),(.cn #[(!2),(!4)]),(.cn #[(!4),(!3)])]) (.bx .Mod (.sub (1) (!0)) (!3)))
 (.bL 4 (.bx .Mult (2) (3))
 (.bL 5 (.bx .Mod (.bx .FloorDiv (.sub (1) (!0)) (!3)) (!2))
 (.bL 6 (.call jk #[2,3,5,1])
 (.bL 7 (.cI .nil)
 (.cb [8] (.c8 #[(!15)])
 (.expr (.append (7) (.comp (.bx .LShift (!1) (.bx .Add (.bx .Mult (2) (3)) (1))) [1] (.c8 #[4]) none [(2,8),(3,4)] 4))
 .skip)
 (.bL 10 (.new 1 #[(.call fJ #[2,3,(.bool false),(.bool false)]),(.new 2 #[7,(.bx .Mult (.cI #[(!0)]) (2)),(.bx .Mult (.cI #[(!0)]) (!16)),(.bx .LShift (!1) (.bx .Mult (!15) (4)))])])
 (.cb [9] (.c8 #[4])
 (.bS (.sub (6) (9))
 (.expr (.call du #[10,(.sub (6) (9)),9])
 .skip)
 .skip
 .skip)
 (.cg (10) 19 (5)
 (.bS (.bM .NotEq (.call eP #[10]) (.call kA #[2,6]))
 (.ret (.bool false))
 .skip
 (.bL 11 (!1)
 (.bS (.and (.bM .Eq (.bx .Mod (.sub (1) (!6)) (!2)) (!1)) (.and (.bM .LtE (.len (.call dy #[2,3,6,5])) (!5)) (.bM .GtE (.count (6) (!0)) (.bx .Sub (4) (!4)))))
 (.bL 11 (!2)
 .skip)
 .skip
 (.bL 12 (!0)
 (.cb [13] (.c8 #[11,(!0),(.neg (!1))])
 (.bS (.call fT #[2,3,6,5,13])
 (.bL 12 (13)
 .skip)
 .skip
 .skip)
 (.bL 14 (.cI #[(.slice (.bt (10) 17) none none),(.slice (.bt (10) 18) none none),(.bt (10) 23)])
 (.bL 15 (.call fS #[10,11])
 (.bS (.bM .NotEq (.call fS #[10,(!0)]) (.cI .nil))
 (.ret (.bool false))
 .skip
 (.bS (.or (.not (.call fU #[2,3,6,5,12,15])) (.not (.call gR #[10,(.bx .Add (15) (.cI #[(!0)])),(!0)])))
 (.ret (.bool false))
 .skip
 (.bS (.or (.bM .NotEq (.bt (10) 24) (.cI .nil)) (.bM .NotEq (.cI #[(.bt (10) 17),(.bt (10) 18),(.bt (10) 23)]) (14)))
 (.ret (.bool false))
 .skip
 (.expr (.call gQ #[10,15])
 (.bS (.or (.bM .NotEq (.call d5 #[10]) (15)) (.or (.not (.call gR #[10,(.cI .nil),(.bx .Add (.len (15)) (!1))])) (.bM .NotEq (.call d5 #[10]) (15))))
 (.ret (.bool false))
 .skip
 (.expr (.call dx #[10,(.len (15))])
 (.bS (.or (.bM .NotEq (.cI #[(.bt (10) 17),(.bt (10) 18),(.bt (10) 23)]) (14)) (.bM .NotEq (.bt (10) 16) (6)))
 (.ret (.bool false))
 .skip
 (.ret (.and (.bM .Eq (.bt (10) 19) (5)) (.and (.bM .Eq (.bt (10) 22) (!0)) (.and (.bM .Eq (.bt (10) 3) (!1)) (.and (.bM .Eq (.bt (10) 21) (.neg (!1))) (.bM .Eq (.bt (10) 24) (.cI .nil)))))))))))))))))))))))))))))))
theorem MT:bz O9 1 33 Gz=true:=by decide +kernel
abbrev GA:Nat:=113
def uk:CS:=(.cg (0) 0 (1)
 (.cg (0) 1 (2)
 (.cg (0) 2 (.bx .Mult (1) (2))
 (.cg (0) 3 (.bx .Sub (.bx .LShift (!1) (.bx .Mult (1) (2))) (!1))
 (.cg (0) 4 (.and (3) (.bM .GtE (2) (!5)))
 (.cg (0) 5 (4)
 (.cg (0) 6 (.cI .nil)
 (.cg (0) 7 (.cI .nil)
 (.cg (0) 8 (.cI .nil)
 (.cg (0) 9 (.cI .nil)
 (.cg (0) 10 (.cI .nil)
 (.cg (0) 11 (.cI #[(.cI .nil),(.cI .nil)])
 (.cg (0) 12 (.cI .nil)
 (.cg (0) 13 (.cI .nil)
 .skip))))))))))))))
abbrev GB:Nat:=114
def um:CS:=(.cg (0) 14 (1)
 (.cg (0) 15 (2)
 (.cg (0) 16 (.bx .Mult (.cI #[(.bD "EMPTY" 0)]) (.bt (1) 2))
 (.cg (0) 17 (.bx .Mult (.cI #[(!0)]) (!7))
 (.cg (0) 18 (.cI #[(!0),(!0)])
 (.cg (0) 19 (.bD "WHITE" 0)
 (.cg (0) 20 (!0)
 (.cg (0) 21 (.neg (!1))
 (.cg (0) 22 (!0)
 (.cg (0) 3 (!1)
 (.cg (0) 23 (!0)
 (.cg (0) 24 (.cI .nil)
 .skip))))))))))))
abbrev Ik:Nat:=115
def vx:CS:=(.cg (0) 25 (1)
 (.cg (0) 21 (2)
 (.cg (0) 20 (3)
 (.cg (0) 19 (4)
 .skip))))
end
section
variable{prog:Program}{w:World}{A:Around}{E:Value->Shared->Prop}{h:Heap}{g:Array GenState}{d:Drawn}{t:Nat}{os:OsState}
variable{nm q:Str}{C CE N:Addr}{bs:List Value}{BD:Bool}{sn:List Str}{sub:List Value}{ab:Bool}{col:Option Bool}{dd:Option Addr}{k0 k1 k2 k3 k5:Option Value}
theorem oI (hb:([.type "Exception",.type "BaseException",.type "object"]:List Value).contains (.type T)=b):(Value.ref C::u6 CE).contains (.type T)=b:=by
 rw[List.contains_cons,List.contains_cons,hb];rfl
theorem zl (j:h.get? C=some (excClassObj nm q C N bs (u6 CE) BD sn sub ab col dd k0 k1 k2 k3 k5 "Exception.__new__"))
  (D:Q () ⟨h,g,d,t,os⟩):wpAny M A (checkBuiltinCall "Exception.__new__" ⟨.ref C::z,[]⟩) Q E ⟨h,g,d,t,os⟩:=by
 have F:=PySem.F.excBase_Exception
 have i:(Value.ref C::u6 CE).contains (.type "Exception")=true:=oI (by decide +kernel)
 have y:=F.noStar
 unfold checkBuiltinCall
 rw[F.newKind,F.newSplit,F.newRow]
 repeat(first | refine wpAny_loadPart_at j ?_ | (refine wpAny_isSubtype_exc j ?_;rw[i]) | refine wpAny_staticBase_exc j ?_ | refine wpAny_madeBy_exc j ?_ | simp only[bne_self_eq_false,Bool.false_eq_true,if_false] | wp_step)
 exact D
theorem Pa (j:h.get? C=some (excClassObj nm q C N bs (u6 CE) BD sn sub ab col dd k0 k1 k2 k3 k5 "Exception.__new__"))
  (I:R (.ok (.ret (.ref (h.objs.size+1)))) ⟨(h.push {cls:=.type "tuple",data:=.seq i.toArray}).push
   {cls:=.ref C,data:=.fields #[.ref h.objs.size,.none,.none,.none,.bool false,.none]},g,d,t,os⟩) (y:i.length<=sizeLine):
  codeAny (model prog w) A (.builtin "Exception.__new__" ⟨.ref C::i,[]⟩) R ⟨h,g,d,t,os⟩:=by
 have F:=PySem.F.excBase_Exception
 have z:=F.ends
 have D:(Value.ref C::u6 CE).contains (.type "Exception")=true:=oI (by decide +kernel)
 have G:(Value.ref C::u6 CE).contains (.type "AttributeError")=false:=oI (by decide +kernel)
 have H:(Value.ref C::u6 CE).contains (.type "NameError")=false:=oI (by decide +kernel)
 refine codeAny_builtinAt F.entry ?_
 unfold Builtin.«BaseException.__new__»
 refine PySem.wpAt_bind ?_
 show PySem.wpAt _ _ _ (stack >>= _) _ _ _
 refine PySem.wpAt_bind (PySem.wpAt_stack λp below=>PySem.wpAt_of_wpAny ?_)
 wp_walk
 refine PySem.wpAt_of_wpAny ?_
 rw[F.owner]
 repeat(first | with_reducible refine wpAny_madeHere_exc F.canon j ?_ | with_reducible refine wpAny_loadPart_at j ?_ | (with_reducible refine wpAny_isSubtype_exc j ?_;first | rw[D] | rw[G] | rw[H]) | wp_step)
 show R _ _
 rw[Heap.size_push]
 exact I
theorem zm{K:Frag}
  (D:h.get? C=some (excClassObj nm q C N bs (u6 CE) BD sn sub ab col dd k0 k1 k2 k3 k5 "Exception.__new__")) (X:K.In h) (hi:findIn K (.ref C) "__init__" =some (some (.ref H)))
  (hf:typeIn K (.ref H)=some (.type "function"))
  (I:∀h' e,Heap.MadeExcOf h h' e (.ref C) i->
   wpAny (model prog w) A (call (.ref H) (.ref e::i)) (λr s'=>r=.none/\Q (.done (.ret (.ref e))) s') E ⟨h',g,d,t,os⟩) (y:i.length<=sizeLine):
  wpAny (model prog w) A (Builtin.«type.__call__» ⟨.ref C::i,[]⟩) Q E ⟨h,g,d,t,os⟩:=by
 have F:=PySem.F.excBase_Exception
 repeat(first | with_reducible refine wpAny_loadPart_at D ?_ | with_reducible refine wpAny_madeBy_exc D ?_ | wp_step)
 refine codeAny_call_builtin_code (Code.quiet_builtin _ F.quiet) (zl D ?_)
 refine Pa D ?_ y
 show wpAny _ _ _ _ _ _
 have kp:∀b o,h.get? b=some o->((h.push {cls:=.type "tuple",data:=.seq i.toArray}).push {cls:=.ref C,data:=.fields #[.ref h.objs.size,.none,.none,.none,.bool false,.none]}).get? b=some o:=
  λb o e=>aA _ (aA _ e)
 have z:=kp _ _ D
 have j:((h.push {cls:=.type "tuple",data:=.seq i.toArray}).push
   {cls:=.ref C,data:=.fields #[.ref h.objs.size,.none,.none,.none,.bool false,.none]}).get? (h.objs.size+1)=some
   {cls:=.ref C,data:=.fields #[.ref h.objs.size,.none,.none,.none,.bool false,.none]}:=by heap_get
 have G:(Value.ref C::u6 CE).contains (.ref C)=true:=by simp
 unfold isInstance
 repeat(first | with_reducible refine wpAny_loadPart_at j ?_ | (with_reducible refine wpAny_isSubtype_exc z ?_;rw[G]) | wp_step)
 show wpAny _ _ (typeLookup (.ref C) _) _ _ _
 refine(looks_findIn (X.keeps kp) hi).at ?_
 refine wpAny_holding (aQ ?_)
 unfold bindSpecial
 refine aQ ((looks_typeIn (X.keeps kp) hf).at ?_)
 rw[ag (by decide)]
 refine aR (aQ (aK (I _ (h.objs.size+1) ⟨λb o hb=>aA _ (aA _ hb),Heap.get?_none_of_le (Nat.le_succ _),h.objs.size,j,Heap.get?_none_of_le (Nat.le_refl _),?_⟩) (λr s' J=>?_) λZ Z x=>x))
 .exact aA _ (Heap.get?_push_at rfl rfl)
 .obtain⟨rfl,L⟩:=J
  wp_walk
  exact L
end
section
open Builtin Builtin.ObjectAttr
abbrev sy(C:Addr)(d:Option Addr)(t:Addr)(T:Value):Obj:={cls:=.ref C,dict:=d,data:=.fields #[.ref t,T,.none,.none,.bool false,.none]}
section
variable{prog:Program}{w:World}{A:Around}{E:Value->Shared->Prop}{h:Heap}{g:Array GenState}{dr:Drawn}{t:Nat}{os:OsState}
variable{nm q:Str}{C CE N:Addr}{bs:List Value}{sn:List Str}{sub:List Value}{ab:Bool}{col:Option Bool}{dd:Option Addr}{k0 k1 k2 k3 k5:Option Value}
theorem BE
  (z:h.get? C=some (excClassObj nm q C N bs (u6 CE) true sn sub ab col dd k0 k1 k2 k3 k5 "Exception.__new__")) (hx:h.get? x=some o) (hc:o.cls=.ref C) (D:Q () ⟨h,g,dr,t,os⟩):
  wpAny M A (checkBuiltinCall "object.__setattr__" ⟨[.ref x,i,v],[]⟩) Q E ⟨h,g,dr,t,os⟩:=by
 have j:=PySem.F.store_Exception
 have y:(Value.ref C::u6 CE).contains (.type "object")=true:=oI (by decide +kernel)
 have G:=j.args (.ref x) i v
 unfold checkBuiltinCall
 rw[j.kind,j.split]
 refine aQ ?_
 .unfold isInstance
  repeat(first | (with_reducible refine wpAny_loadPart_at hx ?_;rw[hc]) | (with_reducible refine wpAny_isSubtype_exc z ?_;rw[y]) | wp_step)
  exact D
theorem JP{K:Frag}(X:K.In h)
  (Y:h.get? C=some (excClassObj nm q C N bs (u6 CE) true sn sub ab col dd k0 k1 k2 k3 k5 "Exception.__new__")) (hx:h.get? x=some (sy C none tt T)) (ht:findIn K (.ref C) name=some none)
  (hq:∀h' D d,h'.get? x=some (sy C (some d) tt T)->(∀b o,b≠x->h.get? b=some o->h'.get? b=some o)->Q (.done (.ret .none)) ⟨h',g,dr,D,os⟩):
  wpAny (model prog w) A (Builtin.«object.__setattr__» ⟨[.ref x,.str name tk,v],[]⟩) Q E ⟨h,g,dr,t,os⟩:=by
 have SF:=PySem.F.store_Exception
 have y:=SF.passes (.ref x)
 have LT:=looks_findIn (M:=model prog w) X ht
 obtain⟨o,hc,G,ho⟩:∃o:Obj,o.cls=.ref C/\o.dict=none/\o=sy C none tt T:=⟨_,rfl,rfl,rfl⟩
 rw[<-ho]at hx
 unfold Builtin.«object.__setattr__»
 repeat(first | rw[refuse_eq] | (rw[refuseLoop_ref,refuseLoop_ref,y]) | (with_reducible refine wpAny_loadPart_at hx ?_;rw[hc]) | with_reducible refine wpAny_mroOf_exc Y ?_ | with_reducible refine LT.at ?_ | wp_step)
 rw[G,ah (by simp[typeHasDict])]
 split
 .rename_i j
  cases j
 split
 .rename_i c j
  rw[ho]at j;cases j
 subst ho
 have i:(h.push {cls:=.type "dict",data:=.dict #[]}).get? x=some (sy C none tt T):=aA _ hx
 have z:x≠h.objs.size:=Nat.ne_of_lt (aB hx)
 refine aQ (wpAny_alloc' ?_)
 refine aQ (wpAny_update' i ?_)
 refine aR ?_
 have H:((h.push {cls:=.type "dict",data:=.dict #[]}).update x λo=>{cls:=o.cls,dict:=some h.objs.size,data:=o.data,slots:=o.slots}).get? h.objs.size
   =some {cls:=.type "dict",data:=.dict #[]}:=
  (Heap.get?_update_ne _ _ _ _ z.symm).trans (Heap.get?_push_at rfl rfl)
 have I:((h.push {cls:=.type "dict",data:=.dict #[]}).update x λo=>{cls:=o.cls,dict:=some h.objs.size,data:=o.data,slots:=o.slots}).Ns h.objs.size (λZ=>none):=
  ⟨_,#[],_,H,rfl,λe he=>absurd he (by simp),λZ=>rfl⟩
 show wpAny _ _ (storeInDict h.objs.size (.str name tk) name v) _ _ _
 unfold storeInDict newKeyGuard
 refine aQ (aR (aQ (wpAny_nsSet1 (Heap.Ns1.of_empty I) λh' J hs=>?_)))
 obtain⟨oD,VX,VY,L,O,U⟩:=J.count (Within.cons name v Within.nil)
 refine aQ (wpAny_lookBehind L (by rw[O];exact pastItsLine_dict (ai U (by rw[List.length_cons,List.length_nil,sizeLine_eq];omega))) ?_)
 wp_walk
 refine hq h' _ h.objs.size ?_ λb ob V hb=>?_
 .refine(hs.2 x z).trans (Heap.get?_update_self _ i ?_)
  rfl
 .exact(hs.2 b (Nat.ne_of_lt (aB hb))).trans ((Heap.get?_update_ne _ _ _ _ V).trans (aA _ hb))
theorem Pb{K:Frag}(X:K.In h)
  (j:h.get? C=some (excClassObj nm q C N bs (u6 CE) true sn sub ab col dd k0 k1 k2 k3 k5 "Exception.__new__")) (hx:h.get? x=some (sy C none tt T)) (ht:findIn K (.ref C) name=some none)
  (hs:findIn K (.ref C) "__setattr__" =some (some (.builtin "object.__setattr__")))
  (z:∀h' i d,h'.get? x=some (sy C (some d) tt T)->(∀b o,b≠x->h.get? b=some o->h'.get? b=some o)->Q () ⟨h',g,dr,i,os⟩):
  wpAny (model prog w) A (setAttr (.ref x) name v) Q E ⟨h,g,dr,t,os⟩:=by
 have y:=PySem.F.store_Exception
 refine set_plain (od:=none) X ⟨hx,rfl,rfl,trivial⟩ hs (codeAny_call_builtin y.slot.plain y.entry (BE j hx rfl (JP X j hx ht λh' i d h1 h2=>?_)))
 exact z h' i d h1 h2
theorem MU
  (D:h.get? C=some (excClassObj nm q C N bs (u6 CE) true sn sub ab col dd k0 k1 k2 k3 k5 "Exception.__new__")) (he:h.get? e=some (sy C d G .none))
  (y:∀h',h'.get? e=some (sy C d h.objs.size .none)->(∀b o,b≠e->h.get? b=some o->h'.get? b=some o)->Q .none ⟨h',g,dr,t,os⟩):
  wpAny (model prog w) A (call (.builtin "Exception.__init__") [.ref e,v]) Q E ⟨h,g,dr,t,os⟩:=by
 have F:=PySem.F.excBase_Exception
 have z:(Value.ref C::u6 CE).contains (.type "Exception")=true:=oI (by decide +kernel)
 have j:=F.noStar
 have u9:∀{Q:Unit->Shared->Prop} {E:Value->Shared->Prop} {A:Around},Q () ⟨h,g,dr,t,os⟩->wpAny (model prog w) A (checkBuiltinCall "Exception.__init__" ⟨.ref e::[v],[]⟩) Q E ⟨h,g,dr,t,os⟩:=by
  intro Q E A y
  unfold checkBuiltinCall
  rw[F.initKind,F.initSplit,F.initRow]
  repeat(first | with_reducible refine wpAny_loadPart_at he ?_ | with_reducible refine wpAny_loadPart_at D ?_ | (with_reducible refine wpAny_isSubtype_exc D ?_;rw[z]) | wp_step)
  exact y
 refine wpAny_call (codeAny_call_builtin F.init.plain F.initEntry (u9 ?_))
 unfold Builtin.«BaseException.__init__»
 dsimp only
 rw[ah (by simp)]
 unfold newTuple Builtin.BaseException.bexcPut
 have i:=aA (h:=h) {cls:=.type "tuple",data:=.seq #[v]} he
 refine aQ (wpAny_newObj_type (aQ (aQ (wpAny_field i rfl (x:=.ref G) rfl (aQ (wpAny_setField i rfl (show 0<6 by decide) ?_))))) (by size_fits))
 refine wpAny_letGo (aR (y _ ?_ λb o hb H=>?_))
 .exact Heap.get?_update_self _ i rfl
 .rw[Heap.get?_update_other _ _ (Ne.symm hb)];exact aA _ H
end
end
structure XF(W:Wd):Prop where
 obj:∃nm q CE N bs sn sub ab col dd k0 k1 k2 k3 k5,W.hB.get? (W.gi.cls 3)=some (excClassObj nm q (W.gi.cls 3) N bs (u6 CE) true sn sub ab col dd k0 k1 k2 k3 k5 "Exception.__new__")
 NR:findIn W.gi.K (.ref (W.gi.cls 3)) "__init__" =some (some (.ref (W.gi.fn 112)))
 UN:typeIn W.gi.K (.ref (W.gi.fn 112))=some (.type "function")
 SV:findIn W.gi.K (.ref (W.gi.cls 3)) "text" =some none
 sa:findIn W.gi.K (.ref (W.gi.cls 3)) "__setattr__" =some (some (.builtin "object.__setattr__"))
 Tp:W.gi.mg "Exception" =none/\W.gi.mb "Exception" =some (.type "Exception")
def GC(b:List Stmt):Bool:=on (Mb b) λy=>on (QO y.1) λm=>on (w8 m.1) λi=>on (QN m.2.2.2.1) λl=>on (w8 l.1) λj=>on (w8 l.2) λD=>on (AQ y.2.2) λz=>on (yy z.1) λa=>on (w8 a.1) λG=>on (w8 z.2.1) λH=>
 z.2.2.2.isEmpty&&(i.1==("Exception" :Str)&&(m.2.1==("__init__" :Str)&&(j.1==("self" :Str)&&(D.1==("text" :Str)&&(G.1==("self" :Str)&&(a.2.1==("text" :Str)&&(H.1==("text" :Str)&&m.2.2.1.endLine==m.2.2.2.2.line)))))))
def GD:Bool:=match nC[112]? with
 | some (_,a,b,sc)=>GC b&&mq a&&bQ a==([("self" :Str),("text" :Str)]:List Str)&&sc.names.lookup ("self" :Str)==some .local&&sc.names.lookup ("text" :Str)==some .local&&sc.names.lookup ("Exception" :Str)==some .globalImplicit&&sc.kind==.function&& !sc.isGenerator&& !sc.isCoroutine
 | none=>false
theorem JQ:GD=true:=by decide +kernel
theorem BF (h:GC b=true):∃L i O U j V Y q4 p5 ap,b=[.Expr (.Call (.Attribute (.Name "Exception" L) "__init__" i) [.Name "self" O,.Name "text" U] [] j) V,.Assign [.Attribute (.Name "self" Y) "text" q4] (.Name "text" p5) ap]/\i.endLine=j.line:=by
 obtain⟨y,hy,h⟩:=bu h
 obtain⟨m,hm,h⟩:=bu h
 obtain⟨n1,h1,h⟩:=bu h
 obtain⟨l,hl,h⟩:=bu h
 obtain⟨n2,h2,h⟩:=bu h
 obtain⟨n3,h3,h⟩:=bu h
 obtain⟨z,hz,h⟩:=bu h
 obtain⟨a,ha,h⟩:=bu h
 obtain⟨n4,h4,h⟩:=bu h
 obtain⟨n5,h5,h⟩:=bu h
 have D:=bC h;have e1:=bC D.2;have e2:=bC e1.2;have e3:=bC e2.2;have G:=bC e3.2;have H:=bC G.2;have I:=bC H.2;have J:=bC I.2
 exact⟨_,_,_,_,_,_,_,_,_,_,by rw[CW hy,Fo hm,fC h1,A1 hl,fC h2,fC h3,mw hz,mu ha,fC h4,fC h5,List.isEmpty_iff.mp D.1,az.mp e1.1,az.mp e2.1,az.mp e3.1,az.mp G.1,az.mp H.1,az.mp I.1,az.mp J.1],az.mp J.2⟩
theorem zo:findCls [] (.type "Exception") (.type "type") "__init__" =some (.val (.builtin "Exception.__init__")):=by kernel_rfl
section
variable{W:Wd}{A:Around}{E:Value->Shared->Prop}
theorem MV{K:Frag}{os:OsState}(X:K.In h)
  (e:findCls K (.type "Exception") (.type "type") "__init__" =some (.val (.builtin "Exception.__init__"))) (D:Q (.builtin "Exception.__init__",[]) ⟨h,g,dr,t+1,os⟩):
  wpAny (model M w) A (getMethod (.type "Exception") "__init__" pl) Q E ⟨h,g,dr,t,os⟩:=by
 have i:opaqueClassAbove (.type "Exception")=pure none:=by unfold opaqueClassAbove;dsimp only;rw[show Manifest.isStub "Exception" =false by decide +kernel];rfl
 have ht:typeOf (.type "Exception")=pure (.type "type"):=by first | rfl | kernel_rfl
 have j:Looks (model M w) h (typeOf (.type "Exception")) (.type "type"):=Looks.of_pure ht
 have y:findIn K (.type "type") "__getattribute__" =some (some (.builtin "type.__getattribute__")):=type_tga
 unfold getMethod specialOf
 refine aQ (aQ (j.here ((looks_findIn X y).here ?_)))
 dsimp only
 rw[ag canon_tga]
 refine aQ (aK (Q:=λv=>Q (v,[])) (E:=E) ?_ (λZ Z z=>aR z) λZ Z z=>z)
 have G:Looks (model M w) h (opaqueClassAbove (.type "Exception")) none:=Looks.of_pure i
 refine cls_open (s:=⟨h,g,dr,t,os⟩) X G j y (looks_hook X (r:=none) (by rfl)) (by show subIn K _ _=_;rfl) e
  (aR (by show wpAny _ _ (handedOut _) _ _ _;rw[handedOut_of (by decide +kernel)];exact aR D))
theorem MW(G:GF W)(X:XF W){os:OsState}{P:Shared->Prop}(F3:A.depth<1000)(kb:∀b o,W.hB.get? b=some o->h.get? b=some o)
  (UO:W.hB.get? e=none) (he:h.get? e=some (sy (W.gi.cls 3) none t0 .none))
  (hq:∀h' y d t1,h'.get? e=some (sy (W.gi.cls 3) (some d) t1 .none)->(∀b o,b≠e->h.get? b=some o->h'.get? b=some o)->P ⟨h',g,dr,y,os⟩):
  wpAny W.M A (call (.ref (W.gi.fn 112)) [.ref e,v]) (λr s'=>r=.none/\P s') E ⟨h,g,dr,t,os⟩:=by
 obtain⟨nm,q,CE,N,bs,sn,sub,ab,col,dd,k0,k1,k2,k3,k5,hC⟩:=X.obj
 have hi:=JQ
 unfold GD at hi
 split at hi
 .rename_i VZ a b sc R7
  simp only[ax,az,bc]at hi
  obtain⟨⟨⟨⟨⟨⟨⟨⟨hb,OQ⟩,I⟩,RH⟩,Tq⟩,UP⟩,J⟩,Bg⟩,Bh⟩:=hi
  obtain⟨p1,q1,p2,p3,cp,ep,p4,q4,p5,ap,rfl,Pd⟩:=BF hb
  obtain⟨o,fd,ho,hd,F,NT⟩:=G.fns 112 _ _ _ _ R7
  have F2:(bQ a).Nodup:=by rw[I];decide
  have yU:bindArgs fd ⟨[.ref e,v],[]⟩=pure ((bQ a).zip [.ref e,v]):=by
   have:=iK (fd:=fd) (vs:=[.ref e,v]) (by rw[F.params];exact OQ) F.Rm (by rw[F.params];exact F2) (by rw[F.params];rw[I];rfl)
   rwa[F.params]at this
  refine wpAny_call ?_
  refine codeAny_call_cells (ak F3 (by decide)) (kb _ _ ho) hd (G.nolimit.keeps kb) (NT.keeps kb) F.body yU F.Rl (λx hx=>?_) (λqw X1=>?_) (by rw[F.scope];exact Bh) (by rw[F.scope];exact Bg) (by rw[F.scope];exact J)
  .rw[F.scope]
   rw[I]at hx
   simp at hx
   rcases hx with rfl | rfl
   .exact .inl RH
   .exact .inl Tq
  .obtain⟨D,tk,rfl,hk⟩:=X1.done
   have NU:=X1.toInCall.ns
   have R8:h.get? (callEnvC fd h.objs.size (W.gi.fn 112)).locals=none:=Heap.get?_none_of_le X1.toInCall.fresh
   generalize L:callEnvC fd h.objs.size (W.gi.fn 112)=env at*
   have es:env.scope=sc:=by rw[<-L];exact F.scope
   have eg:env.globals=mainGlobals:=by rw[<-L];exact F.s8
   have eb:env.builtins=builtinsNs:=by rw[<-L];exact F.w9
   have ks:env.scope.kind=.function:=by rw[es];exact J
   have O:env.kindOf "self" =some .local:=by show env.scope.names.lookup _=_;rw[es];exact RH
   have U:env.kindOf "text" =some .local:=by show env.scope.names.lookup _=_;rw[es];exact Tq
   have R9:env.kindOf "Exception" =some .globalImplicit:=by show env.scope.names.lookup _=_;rw[es];exact UP
   have Pe:bindL env.kindOf ((bQ a).zip [.ref e,v]) (λZ=>none) "self" =some (.ref e):=my O F2 (i:=0) (by rw[I];rfl) rfl
   have Pf:bindL env.kindOf ((bQ a).zip [.ref e,v]) (λZ=>none) "text" =some v:=my U F2 (i:=1) (by rw[I];rfl) rfl
   generalize hm:bindL env.kindOf ((bQ a).zip [.ref e,v]) (λZ=>none)=m at*
   have j:∀b o,W.hB.get? b=some o->D.get? b=some o:=λb o e=>hk b o (kb b o e)
   have Pg:=hk _ _ he
   have UQ:env.locals≠e:=by rintro q;rw[q]at R8;rw[he]at R8;cases R8
   have V:∀{h':Heap} {y:Nat} {pos:Pos} {R:Value->Shared->Prop} {E':Value->Shared->Prop},h'.Ns env.locals m->R (.ref e) ⟨h',g,dr,y,os⟩->wpAny W.M (A.deeper env) (eval (.Name "self" pos) env) R E' ⟨h',g,dr,y,os⟩:=
    λhn hr=>wpAny_Name (wpAny_loadName_local ks O hn Pe hr)
   have Y:∀{h':Heap} {y:Nat} {pos:Pos} {R:Value->Shared->Prop} {E':Value->Shared->Prop},h'.Ns env.locals m->R v ⟨h',g,dr,y,os⟩->wpAny W.M (A.deeper env) (eval (.Name "text" pos) env) R E' ⟨h',g,dr,y,os⟩:=
    λhn hr=>wpAny_Name (wpAny_loadName_local ks U hn Pf hr)
   refine wpAny_execs_cons ?_
   refine wpAny_Expr ?_ (by unfold interactive;rw[ks];rfl) rfl
   rw[arm_eval_Call,gE (v:=.Name "Exception" p1) rfl]
   have ng:D.Ns env.globals W.gi.mg:=by rw[eg];exact G.g.keeps j
   have nb:D.Ns env.builtins W.gi.mb:=by rw[eb];exact G.b.keeps j
   refine aQ (Name_function_global ks R9 (loadGlobal_builtin ng X.Tp.1 nb X.Tp.2 ?_) (by decide))
   refine aQ (wpAny_standAt ?_)
   have Ph:methodCallForm ([Expr.Name "self" p2,Expr.Name "text" p3].length+([]:List Keyword).length) (backTo cp (starEach [.Name "self" p2,.Name "text" p3] env)) (backToKw cp (keywordEach [] env))=true:=rfl
   have Sa:methodCallPos true (.Name "Exception" p1) env q1 cp=pure cp:=by unfold methodCallPos;simp[Pd]
   unfold methodCall
   rw[Ph]
   unfold calleeOf
   rw[ag rfl]
   have UR:W.gi.K.In D:=λb o e=>j b o (G.X b o e)
   refine aQ (wpAny_holding (MV UR zo ?_))
   refine aQ (wpAny_of_eq Sa ?_)
   refine callWith_builtin rfl (evalArgs_plain (spliced_cons (V NU (spliced_cons (Y NU (spliced_nil ?_))))))
   refine MU (j _ _ hC) Pg λD1 Pj z=>?_
   have H:D1.Ns env.locals m:=by
    obtain⟨oL,US,UT,hL,r⟩:=NU
    exact⟨oL,US,UT,z _ _ UQ hL,r⟩
   show wpAny W.M (A.deeper env) (execs _ env) _ _ _
   refine wpAny_execs_cons ?_
   refine plainObj_wpAny_Assign_Attribute (Y H (V H ?_)) rfl
   have Lw:∀b o,W.hB.get? b=some o->D1.get? b=some o:=λb o e=>z b o (by rintro rfl;rw[UO]at e;cases e) (j b o e)
   refine Pb (K:=W.gi.K) (λb o e=>Lw b o (G.X b o e)) (Lw _ _ hC) Pj X.SV X.sa λUU Tr d Pk Pl=>?_
   exact wpAny_execs_nil ⟨rfl,hq _ _ _ _ Pk λb o hb e=>Pl b o hb (z b o hb (hk b o e))⟩
 .cases hi
end
section
variable{W:Wd}{n:Nat}{ρ ρ':Loc}{σ:Hp}{C:Cx}
abbrev Cx.rB(C:Cx):List Addr:=C.fr.filterMap (·.frame)
theorem eO.JR(K:eO W n C)(h:b∈C.rB):b=C.env.locals\/∃o,C.K2 b=some o/\∀vs,o.data≠.fields vs:=by
 obtain⟨e,he,hf⟩:=List.mem_filterMap.mp h
 obtain⟨_,_,L,h1,h2⟩:=K.rB e he
 rw[hf]at h1;cases h1
 exact h2
theorem Inv.slots{s:Shared}{g D:Heap}(K:eO W n C)(I:Inv W C ρ σ {s with heap:=g})(h1:∀b o,g.get? b=some o->b∉C.rB->D.get? b=some o)
  (h2:∀b o,g.get? b=some o->b∈C.rB->∃sl,D.get? b=some {o with slots:=sl}):Inv W C ρ σ {s with heap:=D}:=by
 have y:∀b,b∈C.rB->C.K b=none:=by
  intro b hb
  rcases K.JR hb with rfl | ⟨o,q,_⟩
  .exact(K.fa _ (.inl rfl)).1
  .exact K.kk b (by rw[q];exactλh=>nomatch h)
 have H:∀b o,g.get? b=some o->b∈C.rB->∃es n,o.data=.dict es n:=by
  intro b o e hb
  rcases K.JR hb with rfl | ⟨o',q,_⟩
  .obtain⟨m,F⟩:=I.qp
   obtain⟨o',es,J,g1,O,_⟩:=F.ns
   have g1:g.get? C.env.locals=some o':=g1
   rw[e]at g1;cases g1
   exact⟨es,J,O⟩
  .obtain⟨sl,g1⟩:=I.eh b o' q
   have g1:g.get? b=_:=g1
   rw[e]at g1;cases g1
   exact K.Mh b o' q
 have j:∀b o,g.get? b=some o->c9 o->D.get? b=some o:=by
  intro b o e hc
  refine h1 b o e λhb=>?_
  obtain⟨es,n',hd⟩:=H b o e hb
  rcases hc with ⟨_,_,_,q⟩ | ⟨_,_,q⟩<;>rw[hd]at q<;>cases q
 have G:∀b o,σ b=some o->b∉C.rB:=by
  intro b o e hb
  cases ho:o.own with
  | true=>
   obtain⟨p1,U,V⟩:=I.own b o e ho
   rcases K.JR hb with rfl | ⟨o',q,_⟩
   .exact V (.inl rfl)
   .rw[U]at q;cases q
  | false=>
   obtain⟨o',q⟩:=Option.ne_none_iff_exists'.mp (I.yv b o e ho)
   have:=K.base b o' q
   rw[y b hb]at this;cases this
 have z:∀b o,g.get? b=some o->∃sl,D.get? b=some {o with slots:=sl}:=by
  intro b o e
  by_cases hb:b∈C.rB
  .exact h2 b o e hb
  .exact⟨o.slots,h1 b o e hb⟩
 refine {I with
  keep:=λb o e=>h1 b o (I.keep b o e) λhb=>by rw[y b hb]at e;cases e
  eh:=λb o e=>e11 (I.eh b o e) λsl q=>e11 (z b _ q) λL Y=>⟨L,Y⟩
  objs:=λb o e=>(I.objs b o e).dJ (λob hb=>h1 b ob hb (G b o e)) j
  qp:=?_}
 obtain⟨m,F⟩:=I.qp
 refine⟨m,?_,F.len,λi x e=>(F.DN i x e).bK j,λi x k e hk=>?_⟩
 .obtain⟨o,es,J,e1,e2,r⟩:=F.ns
  obtain⟨sl,e3⟩:=z _ _ e1
  exact⟨_,es,J,e3,e2,r⟩
 .obtain⟨c,v,a1,a2,a3⟩:=F.cell i x k e hk
  obtain⟨o,e1,e2⟩:=a2
  obtain⟨sl,e3⟩:=z _ _ e1
  exact⟨c,v,a1,⟨_,e3,e2⟩,a3.bK j⟩
theorem eO.GG{s:Shared}(K:eO W n C)(I:Inv W C ρ σ {s with heap:=g})(e:g.get? b=some o)(hb:b∈C.rB):∃es n,o.data=.dict es n:=by
 rcases K.JR hb with rfl | ⟨o',q,_⟩
 .obtain⟨m,F⟩:=I.qp
  obtain⟨o',es,i,g1,j,_⟩:=F.ns
  have g1:g.get? C.env.locals=some o':=g1
  rw[e]at g1;cases g1
  exact⟨es,i,j⟩
 .obtain⟨sl,g1⟩:=I.eh b o' q
  have g1:g.get? b=_:=g1
  rw[e]at g1;cases g1
  exact K.Mh b o' q
theorem eO.Pm{s:Shared}(K:eO W n C)(I:Inv W C ρ σ {s with heap:=g})(y:∀b o,g.get? b=some o->s.heap.get? b=some o)(l:List Env)(hl:∀e∈l,e∈C.fr):s.heap.FunFrames (hideAll g C.rB) l:=by
 induction l with
 | nil=>exact trivial
 | cons e r z=>
  obtain⟨h1,_,L,h3,D⟩:=K.rB e (hl e (.head _))
  have i:L∈C.rB:=List.mem_filterMap.mpr ⟨e,hl e (.head _),h3⟩
  have j:∃o,g.get? L=some o:=by
   rcases D with rfl | ⟨o,q,_⟩
   .obtain⟨m,F⟩:=I.qp
    obtain⟨o',es,G,g1,H,_⟩:=F.ns
    exact⟨o',g1⟩
   .obtain⟨sl,g1⟩:=I.eh L o q
    exact⟨_,g1⟩
  obtain⟨o,ho⟩:=j
  obtain⟨es,m,hd⟩:=K.GG I ho i
  exact⟨h1,⟨L,o,h3,hideAll_none _ i,y _ _ ho,λvs q=>by rw[hd]at q;cases q⟩,z λe he=>hl e (.tail _ he)⟩
theorem p6(h:e.frame=env.frame):noteFrame x env=noteFrame x e:=by
 unfold noteFrame PySem.frameOf;rw[h]
inductive Sb(i:Bool)(C:Cx)(h g:Heap)(a:Addr):Value->Prop
 | no:i=false->Sb i C h g a .none
 | tb (t:Addr) (y:Obj) (z:Array Value) (j:Value):t≠a->g.get? t=none->h.get? t=some y->y.data=.fields z->z[3]? =some j->((i=false/\j=.none)\/∃L,C.env.frame=some L/\j=rawInt L)->Sb i C h g a (.ref t)
inductive rZ(W:Wd)(S:Hp->Prop)(i:Bool)(C:Cx)(v:Value)(s:Shared):Prop
 | mk (a:Addr) (oe:Obj) (vs:Array Value) (j T:Value) (ρ:Loc) (σ:Hp) (g:Heap):v=.ref a->S σ->Inv W C ρ σ {s with heap:=g}->(∀b o,g.get? b=some o->s.heap.get? b=some o)->g.get? a=none->
  s.heap.get? a=some oe->oe.cls=.ref (W.gi.cls 3)->oe.data=.fields vs->vs[0]? =some j->vs[1]? =some T->Sb i C s.heap g a T->rZ W S i C v s
theorem rZ.GH(K:eO W n C)(h:rZ W S false C v s):wpAny W.M C.A (noteFrame v C.env) (λZ s'=>rZ W S true C v s') E s:=by
 obtain⟨a,oe,vs,a0,T,ρ,σ,g,rfl,hS,I,H,ha,he,y,hd,h0,h1,tr⟩:=h
 obtain⟨e0,out,J,D⟩:=K.hd
 obtain⟨L,hL,_⟩:=K.DO
 have hA:C.A.frames=some (e0::out):=by rw[K.frames,J]
 have hf:e0.frame=some L:=D.trans hL
 have O:(hideAll g C.rB).StaysIn s.heap:=λb o e=>H b o (of_hideAll _ e)
 have j:∀b,g.get? b=none->(hideAll g C.rB).get? b=none:=λb hb=>by
  cases q:(hideAll g C.rB).get? b with
  | none=>rfl
  | some o=>have:=of_hideAll _ q;rw[hb]at this;cases this
 have FF:=K.Pm I H (e0::out) (by rw[J];exactλe he=>he)
 have post:∀h',Heap.NotedW (hideAll g C.rB) (e0::out) a oe.cls a0 (rawInt L) s.heap h'->rZ W S true C (.ref a) {s with heap:=h'}:=by
  rintro h' ⟨k1,k2,⟨UW,UX,G,U,V,q1,⟨q2,q3⟩,q4,q5,q6,q7,q8,q9,UY⟩,k4⟩
  have n1:∀b o,g.get? b=some o->b≠a:=λb o e q=>by rw[q,ha]at e;cases e
  have n2:∀b o,g.get? b=some o->b≠G:=λb o e q=>by
   by_cases hb:b∈C.rB
   .obtain⟨es,m,i⟩:=K.GG I e hb
    obtain⟨sl,e2⟩:=k4 b o (H b o e) λvs z=>by rw[i]at z;cases z
    rw[q,q8]at e2;cases e2
    rw[i]at q9;cases q9
   .have:=hideAll_get C.rB e hb
    rw[q,q6]at this;cases this
  have n3:∀b o,g.get? b=some o->b∉[a,G]:=λb o e hm=>by
   rcases a8.mp hm with q | hm
   .exact n1 b o e q
   .exact n2 b o e (bf.mp hm)
  have I':Inv W C ρ σ {s with heap:=hideAll h' [a,G]}:=by
   refine Inv.slots K I (λb o e hb=>hideAll_get _ (k1 b o (hideAll_get _ e hb)) (n3 b o e)) λb o e hb=>?_
   obtain⟨es,m,i⟩:=K.GG I e hb
   obtain⟨sl,e2⟩:=k4 b o (H b o e) λvs z=>by rw[i]at z;cases z
   exact⟨sl,hideAll_get _ e2 (n3 b o e)⟩
  exact⟨a,UW,UX,a0,.ref G,ρ,σ,hideAll h' [a,G],rfl,hS,I',λb o e=>of_hideAll _ e,hideAll_none _ (.head _),q1,q2.trans y,q4,q3,q5,
   .tb G U V _ q7 (hideAll_none _ (.tail _ (.head _))) q8 q9 UY (.inr ⟨L,hL,rfl⟩)⟩
 cases tr with
 | no _=>
  rw[p6 D]
  unfold noteFrame
  simp only[hf]
  refine aQ (wpAny_field he hd h1 ?_)
  rw[ah (by decide)]
  exact wpAny_entryW hA FF hf he O (j a ha) hd (Array.getElem?_eq_some_iff.mp h1).1 h0 post
 | tb t U V fl t1 t2 t3 t4 t5 t6=>
  rcases t6 with ⟨_,rfl⟩ | ⟨L',Y,rfl⟩
  .rw[p6 D]
   exact wpAny_noteFrame_onW hA FF hf ⟨oe,vs,t,U,V,he,⟨rfl,h0⟩,hd,h1,j t t2,t1,t3,t4,t5⟩ O (j a ha) post
  .refine wpAny_noteFrame_againW Y (base:=hideAll g C.rB) ⟨oe,vs,t,U,V,he,⟨rfl,h0⟩,hd,h1,j t t2,t1,t3,t4,t5⟩ ?_
   exact⟨a,oe,vs,a0,.ref t,ρ,σ,g,rfl,hS,I,H,ha,he,y,hd,h0,h1,.tb t U V _ t1 t2 t3 t4 t5 (.inr ⟨L',Y,rfl⟩)⟩
theorem rZ.BG{S:Hp->Prop}{v:Value}{s:Shared}{E:Value->Shared->Prop}{A:Around}{M:Model}{fr:Option Addr}{Q:Unit->Shared->Prop}(h:rZ W S true C v s)
  (L:∀h' a oe vs z t ρ σ g D y,v=.ref a->S σ->Inv W C ρ σ {s with heap:=g}->(∀b o,g.get? b=some o->h'.get? b=some o)->g.get? a=none->
   h'.get? a=some oe->oe.cls=.ref (W.gi.cls 3)->oe.data=.fields vs->vs[0]? =some z->vs[1]? =some (.ref t)->t≠a->g.get? t=none->h'.get? t=some D->D.data=.fields y->y[3]? =some (fr.elim Value.none λf=>rawInt f)->Q () {s with heap:=h'}):
  wpAny M A (setFlight v fr) Q E s:=by
 obtain⟨a,oe,vs,z,T,ρ,σ,g,rfl,O,I,U,V,he,j,hd,Y,h1,tr⟩:=h
 cases tr with
 | no q=>cases q
 | tb t D y fl H t2 J G t5 t6=>
  have i:3<y.size:=(Array.getElem?_eq_some_iff.mp t5).1
  unfold setFlight
  refine aQ (wpAny_field he hd h1 ?_)
  rw[ag (show(Value.ref t != Value.none)=true from by simp)]
  refine wpAny_setField J G i (L _ a oe vs z t ρ σ g _ _ rfl O I (λb o e=>?_) V ?_ j hd Y h1 H t2 (Heap.get?_update_self _ J (Obj.isFreed_of_fields (Obj.data_mapFields G _))) (Obj.data_mapFields G _) (by simp[i]))
  .rw[Heap.get?_update_other _ _ λq=>by rw[<-q,t2]at e;cases e];exact U b o e
  .rw[Heap.get?_update_other _ _ H];exact he
theorem rZ.D2(K:eO W n C)(h:rZ W S true C v s):cameBackBy W.M C.A C.env (λv s=>rZ W S false C v s) v s:=by
 obtain⟨L,j,_⟩:=K.DO
 unfold cameBackBy
 have h':=h
 obtain⟨a,oe,vs,y,T,ρ,σ,g,rfl,z,I,D,G,he,i,hd,H,h1,tr⟩:=h
 cases tr with
 | no q=>cases q
 | tb t J O fl U t2 V Y t5 t6=>
  refine aQ (wpAny_field he hd h1 ?_)
  rw[ah (show ¬((Value.ref t==Value.none)=true)by simp)]
  refine h'.BG (fr:=C.env.frame) λh' a oe vs y t ρ σ g J O e z I D G he i hd H h1 U t2 V Y t5=>?_
  exact⟨a,oe,vs,y,.ref t,ρ,σ,g,e,z,I,D,G,he,i,hd,H,h1,.tb t J O _ U t2 V Y t5 (.inr ⟨L,j,by rw[j];rfl⟩)⟩
theorem rZ.Pn:b0 W n (λC v s=>rZ W S false C v s) where
 EZ:=⟨λC v s=>rZ W S true C v s,λC e s K h=>h.GH K,λC e s K h=>h.D2 K⟩
 fz:=λC ρ σ s e s' K I h=>by
  obtain⟨a,oe,vs,i,T,ρ',bw,g,rfl,j,J,y,z,D,G,H,L,O,U⟩:=h
  exact⟨a,oe,vs,i,T,ρ',bw,g,rfl,j,Inv.Fl K I J,y,z,D,G,H,L,O,by
   cases U with
   | no q=>exact .no q
   | tb t V Y fl t1 t2 t3 t4 t5 t6=>exact .tb t V Y fl t1 t2 t3 t4 t5 t6⟩
theorem rZ.MX:jy W n (λC v s=>rZ W S false C v s) (λC v s=>rZ W S false C v s):=by
 intro C ρ σ s env e s' K I H L h j
 unfold leaving
 refine aQ (aK (h.GH L) (λZ G y=>?_) λZ Z x=>x)
 refine y.BG (fr:=none) λh' a oe vs O t D i g U V e Y J hg ha he z hd h0 h1 t1 t2 t3 t4 t5=>?_
 exact⟨a,oe,vs,O,.ref t,ρ,i,g,e,Y,I.D2 K H J (j _),hg,ha,he,z,hd,h0,h1,.tb t U V _ t1 t2 t3 t4 t5 (.inl ⟨rfl,rfl⟩)⟩
end
section
variable{M:Model}{A:Around}{E:Value->Shared->Prop}{env:Env}
variable{nm q:Str}{C CE N:Addr}{bs:List Value}{BD:Bool}{sn:List Str}{sub:List Value}{ab:Bool}{col:Option Bool}{dd:Option Addr}{k0 k1 k2 k3 k5:Option Value}{newId:String}
theorem xN(hh:A.handled=none)
  (h:wpAny M A x (λv i=>∃e t d,v=.ref e/\i.heap.get? C=some (excClassObj nm q C N bs (u6 CE) BD sn sub ab col dd k0 k1 k2 k3 k5 newId)/\
   i.heap.get? e=some (sy C d t .none)/\E (.ref e) i) E s):
  wpAny M A (raiseStmt env (some x) none) Q E s:=by
 have y:(Value.ref C::u6 CE).contains (.type "BaseException")=true:=oI (by decide +kernel)
 unfold raiseStmt
 refine aQ (aK h (λv i j=>?_) λZ Z x=>x)
 obtain⟨e,t,d,rfl,z,he,D⟩:=j
 obtain⟨hp,g,dr,tk,os⟩:=i
 repeat(first | with_reducible refine wpAny_loadPart_at he ?_ | with_reducible refine wpAny_loadPart_at z ?_ | (with_reducible refine wpAny_isSubtype_exc z ?_;rw[y]) | wp_step)
 exact wpAny_raiseNew_none hh D
end
theorem JS(h:Me s=some x):s=.Raise x.1 x.2.1 x.2.2:=by
 obtain⟨g,_⟩:=cG h
 exact Stmt.Raise.elim (motive_2:=λs=>Me s=some x->s=.Raise x.1 x.2.1 x.2.2) s g (λZ Z Z h=>by cases h;rfl) h
theorem JT(h:Oe l=some x):l=.Raise (some x.1) none x.2.1::x.2.2:=by
 cases l with
 | nil=>exact fo h
 | cons s r=>
  obtain⟨y,i,h⟩:=aG.mp h
  obtain⟨j,e1,h⟩:=aG.mp h
  obtain⟨t2,e2,h⟩:=aH.mp h
  cases h;rw[JS i,e1,Mr e2]
theorem JU(h:Mf s=some x):s=.Try x.1 x.2.1 x.2.2.1 x.2.2.2.1 x.2.2.2.2:=by
 obtain⟨g,_⟩:=cG h
 exact Stmt.Try.elim (motive_2:=λs=>Mf s=some x->s=.Try x.1 x.2.1 x.2.2.1 x.2.2.2.1 x.2.2.2.2) s g (λZ Z Z Z Z h=>by cases h;rfl) h
theorem JV(h:Of l=some x):l=.Try x.1 [x.2.1] [] [] x.2.2.1::x.2.2.2:=by
 cases l with
 | nil=>exact fo h
 | cons s r=>
  obtain⟨y,i,h⟩:=aG.mp h
  obtain⟨j,e1,h⟩:=aG.mp h
  obtain⟨t2,e2,h⟩:=aG.mp h
  obtain⟨z,e3,h⟩:=aH.mp h
  cases h;rw[JU i,h9 e1,xn e2,xn e3]
theorem JW(h:Oh l=some x):l=.ExceptHandler (some x.1) none x.2.1 x.2.2:=by
 obtain⟨a,b,c,d⟩:=l
 cases a<;>first | exact fo h | skip
 cases b<;>first | exact fo h | (cases h;rfl)
theorem JX(h:Og c=some i):c=.str i:=by
 cases c<;>first | exact fo h | (cases h;rfl)
theorem Ef(h:mS sc (.iE x t) b=true):∃p k j D G r,b=.Raise (some (.Call (.Name x p) [.Constant (.str t) k j] [] D)) none G::r/\dg sc x=true:=by
 obtain⟨y,hy,h⟩:=bu h
 obtain⟨z,H,h⟩:=bu h
 obtain⟨a,I,h⟩:=bu h
 obtain⟨c,hc,h⟩:=bu h
 obtain⟨J,ht,h⟩:=bu h
 have i:=bC h;have h1:=bC i.1
 have e1:=az.mp h1.1
 rw[<-e1]at i
 exact⟨_,_,_,_,_,_,(JT hy).trans (by rw[ly H,h9 I,td hc,JX ht,<-e1,<-az.mp h1.2]),i.2⟩
@[elab_as_elim]theorem JY{st:List Stmt}(hm:mS sc (.w4 b x h k) st=true){P:List Stmt->Prop}(k:∀i p h' hp q r,(dg sc x=true)->(mS sc b i=true)->(mS sc h h'=true)->(mS sc k r=true)->P (.Try i [.ExceptHandler (some (.Name x p)) none h' hp] [] [] q::r)):P st:=by
 obtain⟨y,hy,hm⟩:=bu hm
 obtain⟨d,hd,hm⟩:=bu hm
 obtain⟨z,D,hm⟩:=bu hm
 have j:=bC hm;have h1:=bC j.1;have h2:=bC h1.1;have h3:=bC h2.1
 have e1:=az.mp h3.1
 rw[<-e1]at h3
 exact iG ((JV hy).trans (by rw[JW hd,fC D,<-e1])) (k _ _ _ _ _ _ h3.2 h2.2 h1.2 j.2)
section
variable{prog:Program}{w:World}{A:Around}{E:Value->Shared->Prop}{h:Heap}{g:Array GenState}{d:Drawn}{t:Nat}{os:OsState}
variable{nm q:Str}{C CE N:Addr}{bs:List Value}{BD:Bool}{sn:List Str}{sub:List Value}{ab:Bool}{col:Option Bool}{dd:Option Addr}{k0 k1 k2 k3 k5:Option Value}
theorem MY{K:Frag}
  (y:h.get? C=some (excClassObj nm q C N bs (u6 CE) BD sn sub ab col dd k0 k1 k2 k3 k5 "Exception.__new__")) (X:K.In h) (hi:findIn K (.ref C) "__init__" =some (some (.ref z)))
  (hf:typeIn K (.ref z)=some (.type "function"))
  (D:∀h' e,Heap.MadeExcOf h h' e (.ref C) i->
   wpAny (model prog w) (A.under (.builtin "type.__call__" ⟨.ref C::i,[]⟩)) (call (.ref z) (.ref e::i)) (λr s'=>r=.none/\Q (.ref e) s') E ⟨h',g,d,t,os⟩) (j:i.length<=sizeLine):
  wpAny (model prog w) A (call (.ref C) i) Q E ⟨h,g,d,t,os⟩:=by
 have G:=tc_lookup
 have H:=tc_bind (.ref C)
 have I:(⟨h,g,d,t,os⟩:Shared).TypeIs (.ref C) "type":=⟨_,y,rfl⟩
 refine wpAny_call (codeAny_of_tree ?_)
 show wpAny _ _ (callAny (.ref C) _) _ _ _
 repeat(any_goals (first | assumption | with_reducible refine wpAny_loadPart_at y ?_ | wp_step))
 refine⟨rfl,?_⟩
 refine codeAny_call_builtin_at (Code.quiet_builtin _ (by decide +kernel)) entry_typeCall (wpAny_check_type_call_sub y (zm y X hi hf (λh' e hm=>?_) j))
 exact D h' e hm
end
section
variable{W:Wd}{n:Nat}{ρ ρ':Loc}{σ:Hp}{Q:f6->Loc->Hp->Prop}
theorem AWS.iE (G:GF W) (X:XF W) (hS:S σ):AWS W n (.iE "BadMove" t) ρ σ Q (λC v s=>rZ W S false C v s):=by
 intro C s st K hm I
 obtain⟨p,k,Y,cp,ep,r,rfl,hg⟩:=Ef hm
 obtain⟨nm,q,CE,N,bs,sn,sub,ab,col,dd,k0,k1,k2,k3,k5,hC⟩:=X.obj
 refine wpAny_execs_cons ?_
 rw[arm_exec_Raise]
 have main:wpAny W.M C.A (eval (.Call (.Name "BadMove" p) [.Constant (.str t) k Y] [] cp) C.env) (λv j=>∃e t d,v=.ref e/\j.heap.get? (W.gi.cls 3)=some (excClassObj nm q (W.gi.cls 3) N bs (u6 CE) true sn sub ab col dd k0 k1 k2 k3 k5 "Exception.__new__")/\
   j.heap.get? e=some (sy (W.gi.cls 3) d t .none)/\rZ W S false C (.ref e) j) (λv s=>rZ W S false C v s) s:=by
  refine wpAny_Call_ofName (jP G K I hg (G.QP 3 (by decide)) ?_ (by decide))
  unfold callWith
  refine aQ (wpAny_holding (evalArgs_plain (spliced_cons (Constant_str (k:=k) (pos:=Y) (spliced_nil (aQ (wpAny_standAt ?_)))))))
  obtain⟨hh,g,dr,tk,os⟩:=s
  have J:∀b o,W.hB.get? b=some o->hh.get? b=some o:=λb o e=>I.keep b o (K.base b o e)
  have z:=J _ _ hC
  refine aQ (wpAny_keeperOf_exc z ?_)
  have L:W.gi.K.In hh:=λb o e=>J b o (G.X b o e)
  refine aQ (MY z L X.NR X.UN (λh' e hm=>?_) (by show 1<=sizeLine;rw[sizeLine_eq];decide))
  obtain⟨t0,he,_,_⟩:=hm.there
  obtain⟨d0,Ui,D,_⟩:=rI C.A (W.gi.cls 3) [.str t tk]
  have O:W.hB.get? e=none:=by
   cases q:W.hB.get? e with
   | none=>rfl
   | some o=>have:=J _ _ q;rw[hm.new]at this;cases this
  refine MW G X (show(C.A.under (.builtin "type.__call__" ⟨.ref (W.gi.cls 3)::[.str t tk],[]⟩)).depth<1000 by rw[D];have:=K.a.2.1;lia) (λb o q=>hm.keeps b o (J b o q)) O he λh2 U d t1 H V=>?_
  refine aQ (wpAny_holding (wpAny_point (aR ?_)))
  have qr:∀b o,hh.get? b=some o->h2.get? b=some o:=λb o q=>V b o (by rintro rfl;rw[hm.new]at q;cases q) (hm.keeps b o q)
  refine⟨e,t1,some d,rfl,qr _ _ z,H,e,_,_,_,_,ρ,σ,hh,rfl,hS,?_,qr,hm.new,H,rfl,rfl,rfl,rfl,.no rfl⟩
  exact I.tok U
 first
  | refine aQ (wpAny_standAt (xN K.a.1 (aQ (aK main (λv y i=>aQ (wpAny_standAt (aR i))) λZ Z x=>x))))
  | (simp only[evalOpt,Option.map];refine aQ (wpAny_standAt (xN K.a.1 (aQ (aK main (λv y i=>aQ (wpAny_standAt (aR i))) λZ Z x=>x)))))
  | (refine aQ (wpAny_standAt (xN K.a.1 (aQ (aK main (λv y i=>wpAny_standAt i) λZ Z x=>x)))))
end
section
variable{W:Wd}{n:Nat}{ρ ρ':Loc}{σ:Hp}{Q:f6->Loc->Hp->Prop}{E:Cx->Value->Shared->Prop}{C:Cx}
theorem Inv.Lx{s:Shared}{g i:Heap}(K:eO W n C)(I:Inv W C ρ σ {s with heap:=g})(h:∀b o,g.get? b=some o->i.get? b=some o):Inv W C ρ σ {s with heap:=i}:=
 Inv.slots K I (λb o e Z=>h b o e) λb o e Z=>⟨o.slots,h b o e⟩
theorem GJ{M:Model}{A:Around}{E:Value->Shared->Prop}{s:Shared}{fr:Option Addr}{R:Unit->Shared->Prop}{a t:Addr}{oe i:Obj}{vs j:Array Value}{y:Value}(he:s.heap.get? a=some oe)(hd:oe.data=.fields vs)(h1:vs[1]? =some (.ref t))
  (z:s.heap.get? t=some i) (D:i.data=.fields j) (t5:j[3]? =some y) (G:∀h',(∀b o,b≠t->s.heap.get? b=some o->h'.get? b=some o)->R () {s with heap:=h'}):wpAny M A (setFlight (.ref a) fr) R E s:=by
 unfold setFlight
 refine aQ (wpAny_field he hd h1 ?_)
 rw[ag (show(Value.ref t != Value.none)=true from by simp)]
 refine wpAny_setField z D (Array.getElem?_eq_some_iff.mp t5).1 (G _ λb o hb e=>?_)
 rw[Heap.get?_update_other _ _ (Ne.symm hb)];exact e
theorem AWS.w4(G:GF W)(X:XF W)
  (hb:AWS W n b ρ σ (sq W n k Q E) (λC v s=>rZ W S false C v s)) (hh:∀ρ' bw,S bw->Q (.ret (.bool true)) ρ' bw):
  AWS W n (.w4 b "BadMove" (.ret (.bool true)) k) ρ σ Q E:=by
 intro C s st K hm I
 refine JY hm λb' p h' hp q r hg m1 m2 m3=>?_
 refine CX m2 λv q' r' m4=>?_
 refine te m4 λV0 p0=>?_
 obtain⟨nm,q1,CE,N,bs,sn,sub,ab,col,dd,k0,k1,k2,k3,k5,hC⟩:=X.obj
 refine wpAny_execs_cons (wpAny_Try_except (aK (AWS.go hb K m1 I) (λf z i=>?_) λe z i=>?_))
 .obtain⟨o,ρ',bw,hf,J,q⟩:=i
  revert q
  exact hf.el (λq=>wpAny_execs_nil (AWS.go q K m3 J)) (λq=>⟨.brk,ρ',bw,trivial,J,q⟩) (λq=>⟨.cont,ρ',bw,trivial,J,q⟩) λZ Z r q=>⟨.ret _,ρ',bw,r,J,q⟩
 .refine aK (i.GH K) (λZ D H=>?_) λZ Z x=>x
  refine H.BG (fr:=none) λh3 a oe vs a0 t j y g oT ts e hS J L ha he O hd h0 h1 t1 t2 t3 t4 t5=>?_
  subst e
  have J3:=Inv.Lx K J L
  obtain⟨V1,gg,dr,tk,os⟩:=D
  have Y:∀b o,W.hB.get? b=some o->h3.get? b=some o:=λb o e=>J3.keep b o (K.base b o e)
  have ng:h3.Ns C.env.globals W.gi.mg:=by rw[K.s8];exact G.g.keeps Y
  refine wpAny_handleBy_cons (codeAny_handlers_test (Name_function_global K.kind (qu hg) (loadGlobal_global ng (G.QP 3 (by decide)) ?_) (by decide))) (by intro q;cases q)
  refine wpAny_excMatches_sub_self (Y _ _ hC) he O (by rw[List.contains_cons];rfl) ?_
  refine codeAny_handlers_suite (GJ he hd h1 t3 t4 t5 λh4 U=>?_)
  have V:∀b o,g.get? b=some o->h4.get? b=some o:=λb o e=>U b o (by rintro rfl;rw[t2]at e;cases e) (L b o e)
  have J4:=Inv.Lx K J V
  refine wpAny_execs_cons (wpAny_Return_some (wpAny_Constant_bool ?_))
  exact⟨.ret (.bool true),j,y,.bool _,J4,hh _ _ hS⟩
end
abbrev HS:=List AO
def hE(h:HS):Hp:=λ(k:Nat)=>h[k]?
def xO:AV->Bool
 | .int _=>true
 | _=>false
inductive VM(As:List Addr):AV->AV->Prop
 | none:VM As .none .none
 | bool (b:Bool):VM As (.bool b) (.bool b)
 | int (i:Int):VM As (.int i) (.int i)
 | c8 (a b c:Int):VM As (.c8 a b c) (.c8 a b c)
 | ref {k:Nat} {a:Addr}:As[k]? =some a->VM As (.ref k) (.ref a)
 | cn {l:List AV}:l.all xO=true->VM As (.cn l) (.cn l)
abbrev lT(As:List Addr):=cP (VM As)
inductive OM(As:List Addr):AO->AO->Prop
 | list {b:Bool} {xs ys:List AV}:lT As xs ys->OM As (.list b xs) (.list b ys)
 | inst {c k:Nat} {a:Addr}:As[k]? =some a->OM As (.inst c k) (.inst c a)
 | dict {i gs:List (Nat × AV)}:cP (λf g=>f.1=g.1/\VM As f.2 g.2) i gs->OM As (.dict i) (.dict gs)
structure HM(As:List Addr)(h:HS)(σ:Hp):Prop where
 len:As.length=h.length
 nd:As.Nodup
 obj:∀(k:Nat)(o:AO),h[k]? =some o->∃a o',As[k]? =some a/\σ a=some o'/\OM As o o'
class inductive LM (As:List Addr):Loc->Loc->Loc->Prop
 | nil:LM As [] [] []
 | old {b:Option AV} {rb r i:Loc}:LM As rb r i->LM As (b::rb) (none::r) (b::i)
 | new {b:Option AV} {v w:AV} {rb r i:Loc}:VM As v w->LM As rb r i->LM As (b::rb) (some v::r) (some w::i)
structure Ext(As i:List Addr)(σ bw:Hp):Prop where
 pre:∃t,i=As++t/\∀a∈t,σ a=none
 Ra:∀x,x∉i->bw x=σ x
theorem xP{As t:List Addr}{k:Nat}(h:As[k]? =some a):(As++t)[k]? =some a:=by
 rw[List.getElem?_append_left (aS.mp h).1];exact h
theorem VM.app(h:VM As v w):VM (As++t) v w:=by
 cases h with
 | none=>exact .none
 | bool b=>exact .bool b
 | int i=>exact .int i
 | c8 a b c=>exact .c8 a b c
 | ref h=>exact .ref (xP h)
 | cn h=>exact .cn h
theorem VM.ext(x:Ext As i σ bw)(h:VM As v w):VM i v w:=by
 obtain⟨t,rfl,_⟩:=x.pre;exact h.app
theorem lT.ext(x:Ext As i σ bw)(h:lT As v w):lT i v w:=h.imp λZ Z y=>y.ext x
theorem OM.app(h:OM As v w):OM (As++t) v w:=by
 cases h with
 | list h=>exact .list (h.imp λZ Z y=>y.app)
 | inst h=>exact .inst (xP h)
 | dict h=>exact .dict (h.imp λZ Z y=>⟨y.1,y.2.app⟩)
theorem LM.app(h:LM As jK ρ ρ'):LM (As++t) jK ρ ρ':=by
 induction h with
 | nil=>exact .nil
 | old _ i=>exact .old i
 | new a _ i=>exact .new a.app i
theorem LM.ext(x:Ext As i σ bw)(h:LM As jK v w):LM i jK v w:=by
 obtain⟨t,rfl,_⟩:=x.pre;exact h.app
theorem LM.get(h:LM As jK ρ ρ'):∀{i:Nat}{v:AV},getL ρ i=some v->∃w,getL ρ' i=some w/\VM As v w:=by
 induction h with
 | nil=>exactλe=>fo e
 | old _ j=>
  intro i v e
  cases i with
  | zero=>exact fo e
  | succ i=>exact j e
 | new a _ j=>
  intro i v e
  cases i with
  | zero=>cases(af e);exact⟨_,rfl,a⟩
  | succ i=>exact j e
theorem LM.set(y:VM As v w)(h:LM As jK ρ ρ'):LM As jK (Lake.setL ρ i v) (Lake.setL ρ' i w):=by
 induction h generalizing i with
 | nil=>exact .nil
 | old h j=>
  cases i with
  | zero=>exact .new y h
  | succ i=>exact .old j
 | new a h j=>
  cases i with
  | zero=>exact .new y h
  | succ i=>exact .new a j
theorem LM.pad(k:Nat):LM As (Lake.pad k) (Lake.pad k) (Lake.pad k):=by
 induction k with
 | zero=>exact .nil
 | succ k i=>exact .old i
theorem LM.Sd(rb:Loc):LM As rb (rb.map λZ=>none) rb:=by
 induction rb with
 | nil=>exact .nil
 | cons _ _ i=>exact .old i
theorem LM.init:∀{l i:List AV}{m:Nat},lT As l i->LM As (initLoc m i) (initLoc m l) (initLoc m i):=by
 intro l i m h
 rw[xt,xt]
 induction h generalizing m with
 | nil=>exact LM.pad m
 | cons h _ j=>exact .new h j
theorem Ext.refl(As:List Addr)(σ:Hp):Ext As As σ σ:=⟨⟨[],by simp,λa h=>by cases h⟩,λZ Z=>rfl⟩
theorem Ext.trans(x:Ext As D σ bw)(y:Ext D i bw j)(nd:i.Nodup):Ext As i σ j:=by
 obtain⟨t,rfl,h1⟩:=x.pre
 obtain⟨u,rfl,h2⟩:=y.pre
 refine⟨⟨t++u,by rw[List.append_assoc],λa z=>?_⟩,λa z=>?_⟩
 .rcases bg.mp z with h | h
  .exact h1 a h
  .have:=h2 a h
   rw[x.Ra a]at this
   .exact this
   .intro hm
    exact(List.nodup_append.mp nd).2.2 a hm a h rfl
 .rw[y.Ra a z,x.Ra a λh=>z (List.mem_append_left _ h)]
section
variable{As:List Addr}{h:HS}{σ:Hp}
theorem HM.at(H:HM As h σ){k:Nat}(e:As[k]? =some a)(ho:h[k]? =some o):∃o',σ a=some o'/\OM As o o':=by
 obtain⟨i,o',h1,h2,h3⟩:=H.obj k o ho
 rw[e]at h1;cases h1
 exact⟨o',h2,h3⟩
theorem HM.set(H:HM As h σ)(e:As[k]? =some a)(r:OM As o o'):HM As (h.set k o) (σ.set a o'):=by
 refine⟨by rw[List.length_set];exact H.len,H.nd,λj x i=>?_⟩
 by_cases hk:j=k
 .subst hk
  rw[List.getElem?_set]at i
  split at i
  .split at i
   .cases i;exact⟨a,o',e,by unfold Hp.set;rw[ag rfl],r⟩
   .cases i
  .rename_i q;exact absurd rfl q
 .rw[List.getElem?_set_ne (Ne.symm hk)]at i
  obtain⟨b,y,h1,h2,h3⟩:=H.obj j x i
  refine⟨b,y,h1,?_,h3⟩
  unfold Hp.set
  rw[ah]
  .exact h2
  .rintro rfl
   obtain⟨z,e1⟩:=aS.mp e
   obtain⟨D,e2⟩:=aS.mp h1
   exact hk ((List.getElem_inj H.nd).mp (e2.trans e1.symm))
theorem Ext.set{k:Nat}(e:As[k]? =some a):Ext As As σ (σ.set a o):=
 ⟨⟨[],by simp,λZ h=>by cases h⟩,λx hx=>by
  unfold Hp.set;rw[ah]
  rintro rfl;exact hx (aD e)⟩
theorem HM.UZ(H:HM As h σ)(j:a∈As):σ a≠none:=by
 obtain⟨k,hk,rfl⟩:=aI j
 have i:k<h.length:=H.len▸hk
 obtain⟨b,o',h1,h2,_⟩:=H.obj k _ (aJ i)
 rw[aJ hk]at h1;cases h1
 rw[h2];exactλx=>nomatch x
theorem HM.push(H:HM As h σ)(G:σ a=none)(r:OM As o o'):HM (As++[a]) (h++[o]) (σ.set a o'):=by
 refine⟨by simp[H.len],?_,λj x i=>?_⟩
 .rw[List.nodup_append]
  refine⟨H.nd,by simp,λx hx y hy=>?_⟩
  rw[bf]at hy;subst hy
  rintro rfl;exact H.UZ hx G
 .rw[List.getElem?_append]at i
  split at i
  .obtain⟨b,I,h1,h2,h3⟩:=H.obj j x i
   refine⟨b,I,xP h1,?_,h3.app⟩
   unfold Hp.set;rw[ah];exact h2
   rintro rfl;rw[G]at h2;cases h2
  .rename_i hge
   have z:j-h.length=0:=by
    have:=(aS.mp i).1;simp at this;exact this
   have D:j=h.length:=Nat.le_antisymm (Nat.le_of_sub_eq_zero z) (Nat.not_lt.mp hge)
   subst D
   simp at i;subst i
   refine⟨a,o',?_,by unfold Hp.set;rw[ag rfl],r.app⟩
   rw[<-H.len];simp
theorem Ext.push(i:σ a=none):Ext As (As++[a]) σ (σ.set a o):=
 ⟨⟨[a],rfl,λx hx=>by rw[bf]at hx;subst hx;exact i⟩,λx hx=>by
  unfold Hp.set;rw[ah]
  rintro rfl;exact hx (by simp)⟩
theorem uo(e:As.length=h.length):(As++[a])[h.length]? =some a:=by rw[<-e];simp
theorem C9(H:HM As h σ)(r:VM As v j){p:Nat}(e:gz (hE h) v=some (p,xs)):∃a ys,gz σ j=some (a,ys)/\As[p]? =some a/\lT As xs ys:=by
 obtain⟨rfl,w,e2⟩:=fQ e
 cases r with
 | ref i=>
  obtain⟨o',h1,h2⟩:=H.at i e2
  cases h2 with
  | list h2=>exact⟨_,_,cB h1,i,h2⟩
theorem BH(H:HM As h σ)(r:VM As v j){p:Nat}(e:nh (hE h) v=some (p,xs)):∃a ys,nh σ j=some (a,ys)/\σ a=some (.list true ys)/\As[p]? =some a/\lT As xs ys:=by
 obtain⟨rfl,e2⟩:=pj e
 cases r with
 | ref i=>
  obtain⟨o',h1,h2⟩:=H.at i e2
  cases h2 with
  | list h2=>exact⟨_,_,ph h1,h1,i,h2⟩
theorem Se{j gs:List (Nat × AV)}(h:cP (λf g=>f.1=g.1/\VM As f.2 g.2) j gs):∀{k:Nat}{w:AV},lk j k=some w->∃i,lk gs k=some i/\VM As w i:=by
 induction h with
 | nil=>exactλe=>fo e
 | @cons f g r y x _ z=>
  intro k w e
  obtain⟨hx,D⟩:=x
  have e:(if k=f.1 then some f.2 else lk r k)=some w:=e
  show ∃i,(if k=g.1 then some g.2 else lk y k)=some i/\_
  rw[hx]at e
  by_cases q:k=g.1
  .rw[ag q]at e ⊢;cases(af e);exact⟨_,rfl,D⟩
  .rw[ah q]at e ⊢;exact z e
theorem MZ{i gs:List (Nat × AV)}(h:cP (λf g=>f.1=g.1/\VM As f.2 g.2) i gs){k:Nat}{v w:AV}(hw:VM As v w):cP (λf g=>f.1=g.1/\VM As f.2 g.2) (hY i k v) (hY gs k w):=by
 induction h with
 | nil=>exact .cons ⟨rfl,hw⟩ .nil
 | @cons f g r j x t y=>
  show cP _ (if k=f.1 then(f.1,v)::r else(f.1,f.2)::hY r k v) (if k=g.1 then(g.1,w)::j else(g.1,g.2)::hY j k w)
  rw[x.1]
  by_cases q:k=g.1
  .rw[ag q,ag q];exact .cons ⟨rfl,hw⟩ t
  .rw[ah q,ah q];exact .cons ⟨rfl,x.2⟩ y
theorem JZ(H:HM As h σ)(r:VM As v y)(e:f9 (hE h) v k=some w):∃i,f9 σ y k=some i/\VM As w i:=by
 obtain⟨a,c,d,U,rfl,h1,h2,h3,z⟩:=vV e
 cases r with
 | ref D=>
  obtain⟨o',G,I⟩:=H.at D h1
  cases I with
  | inst hd=>
   obtain⟨V,J,j⟩:=H.at hd h2
   cases j with
   | dict j=>
    obtain⟨i,L,O⟩:=Se j h3
    exact⟨i,yK G (List.contains_iff_mem.mpr z) J L,O⟩
theorem M0(H:HM As h σ){k d:Nat}(r:VM As v y)(e:qz (hE h) v k=some (d,z)):∃j gs,qz σ y k=some (j,gs)/\As[d]? =some j/\cP (λf g=>f.1=g.1/\VM As f.2 g.2) z gs:=by
 obtain⟨a,c,rfl,h1,h2,h3,D⟩:=tu e
 cases r with
 | ref G=>
  obtain⟨o',I,J⟩:=H.at G h1
  cases J with
  | inst hd=>
   obtain⟨O,L,i⟩:=H.at hd h2
   cases i with
   | dict i=>
    exact⟨_,_,Bb I L (List.contains_iff_mem.mpr h3) (by rw[<-i.length];exact D),hd,i⟩
theorem M3(r:lT As xs ys)(e:jQ xs j=some w):∃i,jQ ys j=some i/\VM As w i:=by
 obtain⟨q,e⟩:=Li e
 obtain⟨i,e1,e2⟩:=r.AL e
 exact⟨i,(ag q).trans e1,e2⟩
theorem M4(hl:l.all xO=true)(e:jQ l j=some w):VM As w w:=by
 have:=aM.mp hl w (aD (Li e).2)
 cases w<;>first | (first | exact ff this | (cases this;done)) | exact .int _
theorem GK(H:HM As h σ)(r:VM As v G)(e:cw (hE h) v i=some w):∃y,cw σ G i=some y/\VM As w y:=by
 obtain⟨j,l,rfl,z,q⟩:=yL e
 rcases q with ⟨a,b,rfl,q⟩ | rfl
 .cases r with
  | ref I=>
   obtain⟨o',J,D⟩:=H.at I q
   cases D with
   | list D=>
    obtain⟨y,e1,e2⟩:=M3 D z
    exact⟨y,IX J e1,e2⟩
 .cases r with
  | cn hl=>exact⟨w,z,M4 hl z⟩
theorem BI(H:HM As h σ)(r:VM As v j)(e:iH (hE h) v=some k):iH σ j=some k:=by
 cases r with
 | ref y=>
  obtain⟨b,xs,q,e⟩:=yH e
  obtain⟨o',z,i⟩:=H.at y q
  cases i with
  | list i=>
   refine IV z ?_
   rw[<-i.length]
   cases i with
   | nil=>exact e
   | cons _ _=>exact e
 | _=>exact e
theorem binv_m(e:fA o a b=some w):∃i j k,a=.int i/\b=.int j/\w=.int k:=by
 obtain⟨i,j,k,h1,h2,h3,_⟩:=binv_inv e
 exact⟨i,j,k,h1,h2,h3⟩
theorem VM.fu(r:VM As (.int i) v):v=.int i:=by cases r;rfl
theorem VM.p7(r:VM As (.bool i) v):v=.bool i:=by cases r;rfl
theorem J0:∀{l i:List AV}{w:AV},lT As l i->vW l=some w->vW i=some w/\VM As w w:=by
 intro l i w r e
 have k:∀xs(i:List AV),lT As (dB xs) i->i=dB xs:=by
  intro xs
  induction xs with
  | nil=>intro i r;cases r;rfl
  | cons x xs j=>intro i r;cases r with | cons h t=>rw[h.fu,j _ t];rfl
 have z:i=l:=by
  rcases qx e with b | ⟨a,b⟩ | ⟨a,b,c,_⟩
  .exact k [b] _ r
  .exact k [a,b] _ r
  .exact k [a,b,c] _ r
 rw[z]
 refine⟨e,?_⟩
 rcases qx e with b | ⟨a,b⟩ | ⟨a,b,c,_⟩
 .exact .c8 _ _ _
 .exact .c8 _ _ _
 .exact .c8 _ _ _
theorem cP.flatten{xs ys:List AV}(r:cP R xs ys)(k:Nat):cP R (List.replicate k xs).flatten (List.replicate k ys).flatten:=r.S5 k
end
def Eg:List (Nat × Nat × Nat × CS):=[(gc,1,2,kB),(rJ,1,6,y6),(kP,2,5,sg),(tO,1,13,BB),(rK,1,3,y7),
 (nI,1,12,vm),(nJ,1,8,vn),(fJ,4,12,sh),(113,5,5,uk),(114,3,5,um),(115,5,5,vx)]
theorem J6:Eg.all (λx=>bz x.1 x.2.1 x.2.2.1 x.2.2.2)=true:=by decide +kernel
theorem BJ{α:Type}{y:α}:∀{l:List (Nat × α)},l.lookup x=some y->(x,y)∈l:=by
 intro l h
 induction l with
 | nil=>cases h
 | cons p r i=>
  rw[List.lookup_cons]at h
  cases e:x==p.1 with
  | true=>
   rw[e]at h
   have:p=(x,y):=Prod.ext (az.mp e).symm (af h)
   rw[this];exact .head _
  | false=>rw[e]at h;exact .tail _ (i h)
theorem uq(h:Eg.lookup f=some x):bz f x.1 x.2.1 x.2.2=true:=aM.mp J6 _ (BJ h)
def M5(k:Nat):Option AV:=if k=0 then some (.cn (dB jL))else if k=1 then some (.cn (dB jM))else none
def Po:CE->Loc->Option AV:=CE.rec (motive_1:=λZ=>Loc->Option AV) (motive_2:=λZ=>Unit) (motive_3:=λZ=>Unit) (λi Z=>some (.int i)) (λZ Z=>none) (λZ=>none) (λi ρ=>getL ρ i) (λZ Z Z=>none) (λZ Z Z=>none) (λo Z Z l r ρ=>(l ρ).bind λa=>(r ρ).bind λb=>fA o a b) (λZ Z Z Z Z Z=>none) (λZ Z Z Z Z Z Z Z Z=>none) (λZ Z Z Z Z=>none) (λZ Z Z Z Z=>none) (λZ Z Z=>none) (λZ Z Z=>none) (λZ Z Z=>none) (λZ Z Z Z Z Z Z=>none) (λZ Z Z Z=>none) (λZ Z Z Z Z=>none) (λZ Z Z=>none) (λZ Z Z=>none) (λZ Z Z=>none) (λZ Z Z=>none) (λZ Z Z=>none) (λZ Z Z Z=>none) (λZ Z Z Z=>none) (λZ Z Z Z Z=>none) (λZ Z Z Z Z=>none) (λZ Z Z=>none) (λZ Z Z Z Z=>none) (λZ Z Z Z Z=>none) (λZ Z Z Z Z Z Z Z Z Z=>none) () (λZ Z Z Z=>()) () λZ Z=>()
def Pp(j:CE)(y:List Nat):List AV->Loc->List AV->Option (List AV)
 | [],ρ,out=>some out
 | x::xs,ρ,out=>(xp y ρ x).bind λi=>(Po j i).bind λu=>if out.length<=90000 then Pp j y xs i (out++[u])else none
def M6:AV->Option Bool
 | .bool i=>some i
 | _=>none
def NW:AV->Bool
 | .ref _=>false
 | .cn _=>false
 | .c8 .. =>false
 | _=>true
def AI(st:List AV)(K:AV->List AV->Bool):Bool:=match st with
 | v::r=>K v r
 | []=>false
def E3(st:List AV)(K:AV->AV->List AV->Bool):Bool:=AI st λb r=>AI r λa r=>K a b r
def M7:Nat->List AV->List AV->(List AV->List AV->Bool)->Bool
 | 0,acc,st,K=>K acc st
 | m+1,acc,st,K=>AI st λv r=>M7 m (v::acc) r K
def Ly(i:wd)(st:List AV)(ρ:Loc)(h:HS)(k:List AV->Loc->HS->Bool):Bool:=match i with
 | .c v=>NW v&&k (v::st) ρ h
 | .v i=>on (getL ρ i) λv=>k (v::st) ρ h
 | .tab j=>on (M5 j) λv=>k (v::st) ρ h
 | .bx o=>E3 st λa b r=>on (fA o a b) λv=>k (v::r) ρ h
 | .mulL=>E3 st λa b r=>on (gz (hE h) a) λp=>on (u7 b) λj=>decide (0<=j/\j<=10000/\p.2.length<=100)&&k (.ref h.length::r) ρ (h++[.list true (List.replicate j.toNat p.2).flatten])
 | .bM o=>E3 st λa b r=>on (u7 a) λi=>on (u7 b) λj=>on (DW o i j) λc=>k (.bool c::r) ρ h
 | .neg=>AI st λa r=>on (u7 a) λi=>k (.int (-i)::r) ρ h
 | .inv=>AI st λa r=>on (u7 a) λi=>k (.int (Builtin.bitNot i)::r) ρ h
 | .bt f=>AI st λa r=>on (f9 (hE h) a f) λw=>k (w::r) ρ h
 | .sub=>E3 st λa b r=>on (u7 b) λj=>on (cw (hE h) a (.int j)) λw=>k (w::r) ρ h
 | .cI m=>M7 m [] st λl r=>decide (l.length<=1000)&&k (.ref h.length::r) ρ (h++[.list true l])
 | .c8 m=>M7 m [] st λl r=>on (vW l) λv=>k (v::r) ρ h
 | .QX=>AI st λv r=>on (gz (hE h) v) λp=>k (.ref p.1::r) ρ h
 | .app=>E3 st λp u r=>on (nh (hE h) p) λx=>decide (x.2.length<=100000)&&k (.none::r) ρ (h.set x.1 (.list true (x.2++[u])))
 | .tt=>AI st λa r=>on (iH (hE h) a) λb=>k (.bool b::r) ρ h
 | .JC=>AI st λa r=>NW a&&k r ρ h
 | .set i=>AI st λv r=>k r (Lake.setL ρ i v) h
 | .iw i o=>E3 st λu v r=>on (fA o u v) λw=>k r (Lake.setL ρ i w) h
 | .cg f=>E3 st λv u r=>on (qz (hE h) u f) λd=>k r ρ (h.set d.1 (.dict (hY d.2 f v)))
 | .eK=>E3 st λu j r=>AI r λv r=>on (nh (hE h) u) λa=>on (u7 j) λx=>decide (0<=x/\x<2^60/\x<a.2.length)&&k r ρ (h.set a.1 (.list true (a.2.set x.toNat v)))
 | .JD=>E3 st λu j r=>on (u7 j) λx=>on (cw (hE h) u (.int x)) λy=>k (y::j::u::r) ρ h
 | .jx o=>E3 st λy v r=>E3 r λu j r=>on (fA o y v) λw=>on (nh (hE h) u) λa=>on (u7 j) λx=>decide (0<=x/\x<2^60/\x<a.2.length)&&k r ρ (h.set a.1 (.list true (a.2.set x.toNat w)))
 | _=>false
def U0:f6->Bool
 | .ret _=>false
 | _=>true
def oN(o:f6)(b:Bool):Bool:=match o with
 | .next=>b
 | _=>false
def oR(o:f6)(K:AV->Bool):Bool:=match o with
 | .ret v=>K v
 | _=>false
def oC(o:f6)(K:AV->Bool):Bool:=match o with
 | .ret v=>K v
 | .next=>K .none
 | _=>false
def oS(o:f6)(a b:Bool):Bool:=match o with
 | .next=>a
 | _=>b
def GL(c:CS):Option (List Nat × CE × CS × CS):=ci c.ctorIdx 11 λh=>CS.cb.elim (motive:=λZ=>Option (List Nat × CE × CS × CS)) c h λt it b k=>some (t,it,b,k)
def GN(c:CS):Bool:=Nat.beq c.ctorIdx 0
def GO(c:CE):Option (CE × CE):=ci c.ctorIdx 9 λh=>CE.and.elim (motive_1:=λZ=>Option (CE × CE)) c h λl r=>some (l,r)
def M8(c:CE):Option (CE × CE):=ci c.ctorIdx 10 λh=>CE.or.elim (motive_1:=λZ=>Option (CE × CE)) c h λl r=>some (l,r)
def GP(c:CE):Option sX:=ci c.ctorIdx 21 λh=>CE.c8.elim (motive_1:=λZ=>Option sX) c h some
def BK(c:CE):Option (CE × List Nat × CE × List (Nat × Nat) × Nat):=ci c.ctorIdx 29 λh=>CE.comp.elim (motive_1:=λZ=>Option (CE × List Nat × CE × List (Nat × Nat) × Nat)) c h λj y it cond i m=>if cond.isNone=true then some (j,y,it,i,m)else none
def BL:AV->Option (Int × Int × Int)
 | .c8 x y z=>some (x,y,z)
 | _=>none
def M9(t:List Nat)(run:Loc->HS->(f6->Loc->HS->Bool)->Bool)(q:Loc->HS->Bool):List AV->Loc->HS->Bool
 | [],ρ,h=>q ρ h
 | x::xs,ρ,h=>on (xp t ρ x) λi=>run i h λo ρ h=>oN o (M9 t run q xs ρ h)
def Ts(run:CE->Loc->HS->(f6->Loc->HS->Bool)->Bool)(c:CE)(ρ:Loc)(h:HS)(k:AV->HS->Bool):Bool:=
 on (GO c) (λx=>run x.1 ρ h λo Z h1=>oR o λa=>on (iH (hE h1) a) λb=>if b then run x.2 ρ h1 λo Z h2=>oR o λv=>k v h2 else k a h1)||
 (on (M8 c) (λx=>run x.1 ρ h λo Z h1=>oR o λa=>on (iH (hE h1) a) λb=>if b then k a h1 else run x.2 ρ h1 λo Z h2=>oR o λv=>k v h2)||
 on (BK c) λx=>x.2.1.all (λi=>(x.2.2.2.1.lookup i).isNone)&&(on (GP x.2.2.1) λZ=>run x.2.2.1 ρ h λo Z h1=>oR o λw=>on (BL w) λz=>on (bO (hE h1) w) λxs=>on (Pp x.1 x.2.1 xs (ow x.2.2.2.2 x.2.2.2.1 ρ) []) λout=>k (.ref h1.length) (h1++[.list true out])))
def rH:Nat->Nat->List wd->List AV->Loc->HS->(f6->Loc->HS->Bool)->Bool
 | 0,_,_,_,_,_,_=>false
 | f+1,n,[],st,ρ,h,q=>AI st λv Z=>q (.ret v) ρ h
 | f+1,n,i::is,st,ρ,h,q=>match i with
  | .call g m=>M7 m [] st λl r=>on (Eg.lookup g) λx=>decide (l.length=x.1/\1<=n)&&rH f (n-1) (cS true x.2.2) [] (initLoc x.2.1 l) h λo Z h1=>oC o λv=>rH f n is (v::r) ρ h1 q
  | .C4 g m=>M7 m [] st λl r=>on (Eg.lookup g) λx=>decide (l.length=x.1/\1<=n)&&rH f (n-1) (cS true x.2.2) [] (initLoc x.2.1 l) h λo Z h1=>oC o λv=>NW v&&rH f n is r ρ h1 q
  | .u9 c=>decide (c<3/\1<=n)&&rH f n is st ρ h q
  | .new c m=>M7 m [] st λl r=>on (Eg.lookup (113+c)) λx=>decide (l.length+1=x.1/\2<=n)&&rH f (n-2) (cS true x.2.2) [] (initLoc x.2.1 (.ref (h.length+1)::l)) (h++[.dict []]++[.inst c h.length]) λo Z h1=>oN o (rH f n is (.ref (h.length+1)::r) ρ h1 q)
  | .ite t e c=>AI st λa Z=>on (M6 a) λb=>rH f n (cS true (if b then t else e)) [] ρ h λo ρ h=>oS o (rH f n (cS true c) [] ρ h q) (q o ρ h)
  | .JB c=>AI st λa r=>on (M6 a) λb=>if b then rH f n (cT c []) [] ρ h (λo Z h=>oR o λv=>on (M6 v) λb=>rH f n is (.bool b::r) ρ h q)else rH f n is (.bool false::r) ρ h q
  | .QY c=>AI st λa r=>on (M6 a) λb=>if b then rH f n is (.bool true::r) ρ h q else rH f n (cT c []) [] ρ h (λo Z h=>oR o λv=>on (M6 v) λb=>rH f n is (.bool b::r) ρ h q)
  | .ex c=>Ts (λc ρ h k=>rH f n (cE c []) [] ρ h k) c ρ h λv h=>rH f n is (v::st) ρ h q
  | .st c=>(GN c&&q .next ρ h)||on (GL c) λx=>rH f n (cE x.2.1 []) [] ρ h λo Z h=>oR o λv=>on (BL v) λz=>on (bO (hE h) v) λxs=>M9 x.1 (λρ h k=>rH f n (cS true x.2.2.1) [] ρ h k) (λρ h=>rH f n (cS true x.2.2.2) [] ρ h q) xs ρ h
  | .out o=>U0 o&&q o ρ h
  | i=>Ly i st ρ h λst ρ h=>rH f n is st ρ h q
inductive GQ(As:List Addr):f6->f6->Prop
 | next:GQ As .next .next
 | brk:GQ As .brk .brk
 | cont:GQ As .cont .cont
 | ret {v w:AV}:VM As v w->GQ As (.ret v) (.ret w)
section
variable{W:Wd}
theorem J7(h:M5 k=some v):s7 W.gi k=v/\∀As,VM As v v:=by
 unfold M5 at h
 split at h
 .rename_i e;subst e;cases h;exact⟨rfl,λAs=>.cn (by decide)⟩
 .split at h
  .rename_i e;subst e;cases h;exact⟨rfl,λAs=>.cn (by decide)⟩
  .cases h
theorem zq(e:fA o a b=some w)(y:VM As a z)(rb:VM As b D):fA o z D=some w/\VM As w w:=by
 obtain⟨i,j,k,rfl,rfl,rfl⟩:=binv_m e
 rw[y.fu,rb.fu]
 exact⟨e,.int _⟩
def Tt(W:Wd)(n:Nat)(As:List Addr)(jK:Loc)(σ:Hp)(c:CE):Prop:=∀(ρ ρ':Loc)(v:AV)(Q:AV->Hp->Prop),Po c ρ=some v->LM As jK ρ ρ'->(∀i,VM As v i->Q i σ)->AWE W n c ρ' σ Q b7
theorem Na(G:GF W):∀c,Tt W n As jK σ c:=by
 refine CE.rec (motive_1:=Tt W n As jK σ) (motive_2:=λZ=>True) (motive_3:=λZ=>True) (λZ Z Z Z Z h Z q=>by cases(af h);exact AWE.int (q _ (.int _))) (λZ Z Z Z Z h=>fo h) (λZ Z Z Z h=>fo h) (λZ Z Z Z Z h L q=>e12 (L.get h) λZ e r=>AWE.var e (q _ r)) (λZ Z Z Z Z Z h=>fo h) (λZ Z Z Z Z Z h=>fo h) ?_ (λZ Z Z Z Z Z Z Z Z h=>fo h) (λZ Z Z Z Z Z Z Z Z Z Z Z h=>fo h) (λZ Z Z Z Z Z Z Z h=>fo h) (λZ Z Z Z Z Z Z Z h=>fo h) (λZ Z Z Z Z Z h=>fo h) (λZ Z Z Z Z Z h=>fo h) (λZ Z Z Z Z Z h=>fo h) (λZ Z Z Z Z Z Z Z Z Z h=>fo h) (λZ Z Z Z Z Z Z h=>fo h) (λZ Z Z Z Z Z Z Z h=>fo h) (λZ Z Z Z Z Z h=>fo h) (λZ Z Z Z Z Z h=>fo h) (λZ Z Z Z Z Z h=>fo h) (λZ Z Z Z Z Z h=>fo h) (λZ Z Z Z Z Z h=>fo h) (λZ Z Z Z Z Z Z h=>fo h) (λZ Z Z Z Z Z Z h=>fo h) (λZ Z Z Z Z Z Z Z h=>fo h) (λZ Z Z Z Z Z Z Z h=>fo h) (λZ Z Z Z Z Z h=>fo h) (λZ Z Z Z Z Z Z Z h=>fo h) (λZ Z Z Z Z Z Z Z h=>fo h) (λZ Z Z Z Z Z Z Z Z Z Z Z Z h=>fo h) trivial (λZ Z Z Z=>trivial) trivial λZ Z=>trivial
 intro o l r i1 i2 ρ ρ' v Q h L q
 obtain⟨a,e1,h⟩:=aG.mp (show((Po l ρ).bind λa=>(Po r ρ).bind λb=>fA o a b)=some v from h)
 obtain⟨b,e2,h⟩:=aG.mp h
 exact AWE.bx G (i1 _ _ _ _ e1 L λj i=>i2 _ _ _ _ e2 L λy rb=>⟨_,(zq h i rb).1,q _ (zq h i rb).2⟩)
theorem Pq(G:GF W)(c:CE):Po c ρ=some v->LM As jK ρ ρ'->(∀i,VM As v i->Q i σ)->AWE W n c ρ' σ Q b7:=Na G c ρ ρ' v Q
theorem Dc(h:xp t ρ (.int i)=some y):∃j,t=[j]/\y=Lake.setL ρ j (.int i):=by
 refine sQ h (λi e1 e2=>⟨i,e1,e2.symm⟩) (λi j r l e1 e2 hl e3=>?_)
 cases e2
theorem Dd(e:bO σ (.c8 a b c)=some xs){j:Nat}(hx:xs[j]? =some x):∃i,x=.int i:=by
 obtain⟨_,_,_,h⟩:=yR (show yQ a b c=some xs from e)
 have:=h j (aS.mp hx).1
 rw[hx]at this;cases this
 exact⟨_,rfl⟩
theorem Pr(G:GF W)(L:LM As jK ρ ρ')(hx:bO σ (.c8 a b c)=some xs)
  (hc:Pp O Y xs (ow m z ρ) []=some out) (q:∀D H,dZ σ D->lT As out H->Q (.ref D) (σ.set D (.list true H))):
  C1 W n O Y none z m ρ' Q (.c8 a b c) σ:=by
 have LC:LM As (ow m z ρ') (ow m z ρ) (ow m z ρ'):=by
  unfold ow
  generalize List.range m=l
  induction l with
  | nil=>exact .nil
  | cons x l ih=>
   show LM As (((z.lookup x).bind (getL ρ'))::_) (((z.lookup x).bind (getL ρ))::_) (((z.lookup x).bind (getL ρ'))::_)
   cases e:(z.lookup x).bind (getL ρ)with
   | none=>exact .old ih
   | some v=>
    obtain⟨j,e1,e2⟩:=aG.mp e
    obtain⟨w,e3,e4⟩:=L.get e2
    rw[e1,Option.bind_some,e3]
    exact .new e4 ih
 refine⟨xs,hx,λD hD=>⟨λi H I J=>∃U os,LM As (ow m z ρ') U I/\Pp O Y (xs.drop i) U os=some out/\lT As os H/\H.length<=90001/\J=σ.set D (.list true H),⟨_,[],LC,by rw[List.drop_zero];exact hc,.nil,by simp,rfl⟩,
  λi H I J q'=>?_⟩⟩
 obtain⟨U,os,h1,h2,h3,h4,h5⟩:=q'
 refine⟨?_,?_,by omega,λe=>?_,λx V=>?_⟩
 .exact hx
 .subst h5;unfold Hp.set;rw[ag rfl]
 .subst h5 e
  rw[List.drop_length]at h2
  cases h2
  exact q D H hD h3
 .subst h5
  obtain⟨k,rfl⟩:=Dd hx V
  have yw:=(aS.mp V).1
  have hd:xs.drop i=.int k::xs.drop (i+1):=by
   rw[List.drop_eq_getElem_cons yw]
   congr 1
   have:=aJ yw
   rw[V]at this;exact(af this).symm
  rw[hd]at h2
  obtain⟨Pt,e1,h2⟩:=aG.mp h2
  obtain⟨u,e2,h2⟩:=aG.mp h2
  obtain⟨hl,h2⟩:=Li h2
  .obtain⟨j,rfl,rfl⟩:=Dc e1
   have L2:LM As (ow m z ρ') (Lake.setL U j (.int k)) (Lake.setL I j (.int k)):=h1.set (.int k)
   refine⟨_,rfl,?_⟩
   show AWE W n O _ _ _ _
   refine Pq G O e2 L2 λu' ru=>⟨by unfold Hp.set;rw[ag rfl],_,os++[u],L2,h2,h3.append (.cons ru .nil),by have:=h3.length;simp;lia,?_⟩
   funext y
   unfold Hp.set
   split<;>rfl
end
theorem GR(h:DW o i j=some k):o9 σ o (.int i) (.int j)=some k:=by
 cases o<;>first | exact h | cases h
theorem De{K:AV->Prop}(e:fA o a b=some w)(h:K w):JG o a b K:=by
 obtain⟨i,j,k,rfl,rfl,rfl⟩:=binv_m e
 cases o
 case Add=>cases e;exact h
 case Sub=>cases e;exact h
 case BitAnd=>cases e;exact h
 case BitOr=>cases e;exact h
 case BitXor=>cases e;exact h
 all_goals exact⟨_,e,h⟩
theorem J8{K:Bool->Prop}(e:DW o i j=some k)(h:K k):MF σ o (.int i) (.int j) K:=by
 cases o
 case Eq=>cases e;exact h
 case NotEq=>cases e;exact h
 case Lt=>cases e;exact h
 case LtE=>cases e;exact h
 case Gt=>cases e;exact h
 case GtE=>cases e;exact h
 all_goals exact⟨_,dR.val (GR e),h⟩
theorem J9{K:Bool->Prop}(e:iH σ v=some k)(h:K k):JH σ v K:=by
 cases v
 case bool=>cases e;exact h
 case int=>cases e;exact h
 all_goals exact⟨_,e,h⟩
theorem Nb{K:AV->Prop}(h:K v):∀{ρ:Loc}{i:Nat},getL ρ i=some v->QZ ρ i K:=by
 intro ρ
 induction ρ with
 | nil=>intro i e;cases e
 | cons x r j=>
  intro i e
  cases i with
  | zero=>rw[show x=some v from e];exact h
  | succ i=>exact j e
theorem GS:∀{ρ:Loc}{i:Nat}{K:Loc->Prop},K (Lake.setL ρ i v)->ME ρ i v K:=by
 intro ρ
 induction ρ with
 | nil=>intro i K h;exact h
 | cons x r j=>
  intro i K h
  cases i with
  | zero=>exact h
  | succ i=>exact j (K:=λy=>K (x::y)) h
theorem xQ(h:M6 a=some i):a=.bool i:=by cases a<;>first | exact fo h | (cases h;rfl)
theorem VM.pl(r:VM As v w)(h:NW v=true):w=v/\qy w:=by
 cases r with
 | none=>exact⟨rfl,trivial⟩
 | bool=>exact⟨rfl,trivial⟩
 | int=>exact⟨rfl,trivial⟩
 | c8=>exact ff h
 | ref=>exact ff h
 | cn=>exact ff h
theorem VM.Pu(h:NW v=true):VM As v v:=by
 cases v with
 | none=>exact .none
 | bool=>exact .bool _
 | int=>exact .int _
 | c8=>exact ff h
 | ref=>exact ff h
 | cn=>exact ff h
section
variable{W:Wd}{n:Nat}{As:List Addr}{jK:Loc}
theorem jo{st i:List AV}{K:AV->List AV->Prop}(h:AI st k=true)(S:lT As st i)(q:∀v j r y,VM As v j->lT As r y->k v r=true->K j y):jf i K:=by
 cases S with
 | nil=>exact ff h
 | cons a r=>exact q _ _ _ _ a r h
theorem lU{st i:List AV}{K:AV->AV->List AV->Prop}(h:E3 st k=true)(S:lT As st i)(q:∀u j v y r z,VM As u j->VM As v y->lT As r z->k u v r=true->K j y z):qH i K:=
 jo h S λZ Z Z Z a r h=>jo h r λZ Z Z Z b r h=>q _ _ _ _ _ _ b a r h
theorem zr{K:List AV->List AV->Prop}:∀{m:Nat}{l j st i:List AV},M7 m l st k=true->lT As l j->lT As st i->(∀l j r y,lT As l j->lT As r y->k l r=true->K j y)->vh m j i K:=by
 intro m
 induction m with
 | zero=>intro l j st i h L S q;exact q _ _ _ _ L S h
 | succ m z=>
  intro l j st i h L S q
  cases S with
  | nil=>exact ff h
  | cons a r=>exact z h (.cons a L) r q
def Kr(As:List Addr)(jK:Loc)(σ:Hp)(k:List AV->Loc->HS->Bool)(K:List AV->Loc->Hp->Prop):Prop:=
 ∀i st j ρ ρ' h bw,Ext As i σ bw->lT i st j->LM i jK ρ ρ'->HM i h bw->k st ρ h=true->K j ρ' bw
theorem Ka{st Y:List AV}{K:List AV->Loc->Hp->Prop}(e:Ly i st ρ h k=true)(S:lT As st Y)(L:LM As jK ρ ρ')(H:HM As h σ)(q:Kr As jK σ k K):step W n Q E i Y ρ' σ K:=by
 have z:=Ext.refl As σ
 cases i
 case c v=>exact q _ _ _ _ _ _ _ z (.cons (.Pu (bC e).1) S) L H (bC e).2
 case v i=>
  obtain⟨v,e1,e⟩:=bu e
  obtain⟨w,e2,r⟩:=L.get e1
  exact Nb (q _ _ _ _ _ _ _ z (.cons r S) L H e) e2
 case tab j=>
  obtain⟨v,e1,e⟩:=bu e
  have t:=J7 (W:=W) e1
  exact q _ _ _ _ _ _ _ z (.cons (by rw[t.1];exact t.2 _) S) L H e
 case bx o=>
  refine lU e S λa I b U r G D rb R e=>?_
  obtain⟨v,e1,e⟩:=bu e
  have t:=zq e1 D rb
  exact De t.1 (q _ _ _ _ _ _ _ z (.cons t.2 R) L H e)
 case mulL=>
  refine lU e S λa I b U r G D rb R e=>?_
  obtain⟨p,e1,e⟩:=bu e
  obtain⟨j,e2,e⟩:=bu e
  have e3:=bC e
  have hc:=aY e3.1
  rw[fy e2]at rb
  obtain⟨ad,ys,g1,J,O⟩:=C9 H D e1
  refine⟨ad,ys,j,g1,rb.fu,hc.1,hc.2.1,by rw[<-O.length];exact hc.2.2,λd hd=>?_⟩
  have H3:=H.push (o:=.list true (List.replicate j.toNat p.2).flatten) (o':=.list true (List.replicate j.toNat ys).flatten) hd (.list (cP.flatten O _))
  exact q _ _ _ _ _ _ _ (.push hd) (.cons (.ref (uo H.len)) (lT.ext (Ext.push (o:=.list true []) hd) R)) (L.ext (Ext.push (o:=.list true []) hd)) H3 e3.2
 case bM o=>
  refine lU e S λa I b U r G D rb R e=>?_
  obtain⟨i,e1,e⟩:=bu e
  obtain⟨j,e2,e⟩:=bu e
  obtain⟨c,e3,e⟩:=bu e
  rw[fy e1]at D
  rw[fy e2]at rb
  rw[D.fu,rb.fu]
  exact J8 e3 (q _ _ _ _ _ _ _ z (.cons (.bool _) R) L H e)
 case neg=>
  refine jo e S λa I r G D R e=>?_
  obtain⟨i,e1,e⟩:=bu e
  rw[fy e1]at D
  rw[D.fu]
  exact q _ _ _ _ _ _ _ z (.cons (.int _) R) L H e
 case inv=>
  refine jo e S λa I r G D R e=>?_
  obtain⟨i,e1,e⟩:=bu e
  rw[fy e1]at D
  rw[D.fu]
  exact q _ _ _ _ _ _ _ z (.cons (.int _) R) L H e
 case bt f=>
  refine jo e S λa I r G D R e=>?_
  obtain⟨w,e1,e⟩:=bu e
  obtain⟨w',g1,J⟩:=JZ H D e1
  exact⟨w',g1,q _ _ _ _ _ _ _ z (.cons J R) L H e⟩
 case sub=>
  refine lU e S λa I b U r G D rb R e=>?_
  obtain⟨j,e1,e⟩:=bu e
  obtain⟨w,e2,e⟩:=bu e
  rw[fy e1]at rb
  obtain⟨w',g1,J⟩:=GK H D e2
  exact⟨w',by rw[rb.fu];exact g1,q _ _ _ _ _ _ _ z (.cons J R) L H e⟩
 case cI m=>
  refine zr e .nil S λl l' r G rl R e=>?_
  have e3:=bC e
  refine⟨by rw[<-rl.length];exact aY e3.1,λd hd=>?_⟩
  exact q _ _ _ _ _ _ _ (.push hd) (.cons (.ref (uo H.len)) (lT.ext (Ext.push (o:=.list true []) hd) R)) (L.ext (Ext.push (o:=.list true []) hd)) (H.push (o:=.list true l) (o':=.list true l') hd (.list rl)) e3.2
 case c8 m=>
  refine zr e .nil S λl l' r G rl R e=>?_
  obtain⟨w,e1,e⟩:=bu e
  have t:=J0 rl e1
  exact⟨w,t.1,q _ _ _ _ _ _ _ z (.cons t.2 R) L H e⟩
 case QX=>
  refine jo e S λa I r G D R e=>?_
  obtain⟨p,e1,e⟩:=bu e
  obtain⟨ad,ys,g1,J,O⟩:=C9 H D e1
  exact⟨ad,ys,g1,q _ _ _ _ _ _ _ z (.cons (.ref J) R) L H e⟩
 case app=>
  refine lU e S λa I b U r G D rb R e=>?_
  obtain⟨x,e1,e⟩:=bu e
  have e3:=bC e
  obtain⟨ad,ys,g1,J,O,V⟩:=BH H D e1
  have g5:=pj g1
  rw[g5.1]
  refine⟨ys,J,by rw[<-V.length];exact aY e3.1,?_⟩
  exact q _ _ _ _ _ _ _ (.set O) (.cons .none R) L (H.set (o:=.list true (x.2++[b])) O (.list (V.append (.cons rb .nil)))) e3.2
 case tt=>
  refine jo e S λa I r G D R e=>?_
  obtain⟨b,e1,e⟩:=bu e
  exact J9 (BI H D e1) (q _ _ _ _ _ _ _ z (.cons (.bool _) R) L H e)
 case JC=>
  refine jo e S λa I r G D R e=>?_
  have e3:=bC e
  exact⟨(D.pl e3.1).2,q _ _ _ _ _ _ _ z R L H e3.2⟩
 case set i=>exact jo e S λa I r G D R e=>GS (q _ _ _ _ _ _ _ z R (L.set D) H e)
 case iw i o=>
  refine lU e S λa I b U r G D rb R e=>?_
  obtain⟨v,e1,e⟩:=bu e
  have t:=zq e1 D rb
  exact De t.1 (GS (q _ _ _ _ _ _ _ z R (L.set t.2) H e))
 case cg f=>
  refine lU e S λa I b U r G D rb R e=>?_
  obtain⟨d,e1,e⟩:=bu e
  obtain⟨d',gs,g1,J,O⟩:=M0 H rb e1
  exact⟨d',gs,g1,q _ _ _ _ _ _ _ (.set J) R L (H.set (o:=.dict (hY d.2 f a)) J (.dict (MZ O D))) e⟩
 case eK=>
  refine lU e S λa I b U r G D rb R e=>jo e R λv v' r G rv R e=>?_
  obtain⟨p,e1,e⟩:=bu e
  obtain⟨x,e2,e⟩:=bu e
  have e3:=bC e
  have hc:=aY e3.1
  rw[fy e2]at rb
  obtain⟨ad,ys,g1,J,O,V⟩:=BH H D e1
  exact⟨ad,ys,x,g1,rb.fu,hc.1,hc.2.1,by rw[<-V.length];exact hc.2.2,q _ _ _ _ _ _ _ (.set O) R L (H.set (o:=.list true (p.2.set x.toNat v)) O (.list (cP.set rv x.toNat V))) e3.2⟩
 case JD=>
  refine lU e S λa I b U r G D rb R e=>?_
  obtain⟨j,e1,e⟩:=bu e
  obtain⟨w,e2,e⟩:=bu e
  have e1:=fy e1
  obtain⟨w',g1,J⟩:=GK H D e2
  subst e1
  exact⟨w',by rw[rb.fu];exact g1,q _ _ _ _ _ _ _ z (.cons J (.cons rb (.cons D R))) L H e⟩
 case jx o=>
  refine lU e S λy y' v v' r G ry rv R e=>lU e R λa I b U r G D rb R e=>?_
  obtain⟨w,e1,e⟩:=bu e
  obtain⟨p,e2,e⟩:=bu e
  obtain⟨x,e3,e⟩:=bu e
  have e4:=bC e
  have hc:=aY e4.1
  rw[fy e3]at rb
  have t:=zq e1 ry rv
  obtain⟨ad,ys,g1,J,O,V⟩:=BH H D e2
  exact⟨w,ad,ys,x,t.1,g1,rb.fu,hc.1,hc.2.1,by rw[<-V.length];exact hc.2.2,q _ _ _ _ _ _ _ (.set O) R L (H.set (o:=.list true (p.2.set x.toNat w)) O (.list (cP.set t.2 x.toNat V))) e4.2⟩
 all_goals exact ff e
end
def Fq(As:List Addr)(jK:Loc)(σ:Hp)(q:f6->Loc->HS->Bool)(Q:f6->Loc->Hp->Prop):Prop:=
 ∀i o o' ρ ρ' h bw,Ext As i σ bw->GQ i o o'->LM i jK ρ ρ'->HM i h bw->q o ρ h=true->Q o' ρ' bw
def Fv(As:List Addr)(σ:Hp)(k:AV->HS->Bool)(R:AV->Hp->Prop):Prop:=
 ∀i v j h bw,Ext As i σ bw->VM i v j->HM i h bw->k v h=true->R j bw
def xR(W:Wd)(f:Nat):Prop:=∀(n:Nat)(is:List wd)(st:List AV)(ρ:Loc)(h:HS)(q:f6->Loc->HS->Bool),rH f n is st ρ h q=true->
 ∀(As:List Addr)(jK:Loc)(i:List AV)(ρ':Loc)(σ:Hp)(Q:f6->Loc->Hp->Prop)(E:Cx->Value->Shared->Prop),lT As st i->LM As jK ρ ρ'->HM As h σ->Fq As jK σ q Q->mrun W n Q E is i ρ' σ
section
variable{W:Wd}{f n:Nat}{As:List Addr}{jK ρ ρ':Loc}{h:HS}{σ:Hp}
theorem Fq.up(x:Ext As i σ bw)(F:Fq As jK σ q Q):Fq i jK bw q Q:=
 λj o o' ρ ρ' h y x2 z L H e=>F j o o' ρ ρ' h y (x.trans x2 H.nd) z L H e
theorem xR.Lz(G:GF W)(I:xR W f)(e:rH f n (cE c []) [] ρ h (λo Z h=>oR o λv=>k v h)=true)(L:LM As jK ρ ρ')(H:HM As h σ)(q:Fv As σ k R):AWE W n c ρ' σ R E:=
 AWE.r G (I n _ _ _ _ _ e As jK [] ρ' σ (MK R) (λZ=>b7) .nil L H λi o o' ρ ρ' h bw x j L H e=>by
  cases j with
  | ret r=>exact q _ _ _ _ _ x r H e
  | _=>exact ff e)
theorem xR.Tu(G:GF W)(I:xR W f){k:Bool->HS->Bool}(e:rH f n (cT c []) [] ρ h (λo Z h=>oR o λv=>on (M6 v) λb=>k b h)=true)(L:LM As jK ρ ρ')(H:HM As h σ)
  (q:∀i b h bw,Ext As i σ bw->HM i h bw->k b h=true->R b bw):AWT W n c ρ' σ R E:=
 AWT.r G (I n _ _ _ _ _ e As jK [] ρ' σ (O6 R) (λZ=>b7) .nil L H λi o o' ρ ρ' h bw x j L H e=>by
  cases j with
  | ret r=>
   obtain⟨b,e1,e⟩:=bu e
   rw[xQ e1]at r
   rw[r.p7]
   exact q _ _ _ _ x H e
  | _=>exact ff e)
theorem xR.call(G:GF W)(I:xR W f){g m:Nat}{k:AV->HS->Bool}(e1:Eg.lookup g=some x)(e:(decide (l.length=x.1/\1<=n)&&rH f (n-1) (cS true x.2.2) [] (initLoc x.2.1 l) h λo Z h=>oC o λv=>k v h)=true)(rl:lT As l i)(H:HM As h σ)
  (q:Fv As σ k R):CALL W n g i σ R E:=by
 have e2:=bC e
 have hc:=aY e2.1
 obtain⟨j,rfl⟩:∃j,n=j+1:=⟨n-1,(Nat.sub_add_cancel hc.2).symm⟩
 refine CALL.body G (uq e1) (by rw[<-rl.length];exact hc.1) jy.none (AWS.r G ?_)
 refine I j _ _ _ _ _ e2.2 As _ [] _ σ _ _ .nil (LM.init rl) H λy o o' ρ ρ' h bw x z L H e=>?_
 cases z with
 | ret r=>exact q _ _ _ _ _ x r H e
 | next=>exact q _ _ _ _ _ x .none H e
 | _=>exact ff e
theorem xS(h:BL v=some z):v=.c8 z.1 z.2.1 z.2.2:=by cases v<;>first | exact fo h | (cases h;rfl)
theorem GU(h:GL c=some x):c=.cb x.1 x.2.1 x.2.2.1 x.2.2.2:=by
 obtain⟨g,_⟩:=cG h
 exact CS.cb.elim (motive:=λc=>GL c=some x->c=.cb x.1 x.2.1 x.2.2.1 x.2.2.2) c g (λZ Z Z Z h=>by cases h;rfl) h
theorem GV(h:GO c=some x):c=.and x.1 x.2:=by
 obtain⟨g,_⟩:=cG h
 exact CE.and.elim (motive_1:=λc=>GO c=some x->c=.and x.1 x.2) c g (λZ Z h=>by cases h;rfl) h
theorem Kb(h:M8 c=some x):c=.or x.1 x.2:=by
 obtain⟨g,_⟩:=cG h
 exact CE.or.elim (motive_1:=λc=>M8 c=some x->c=.or x.1 x.2) c g (λZ Z h=>by cases h;rfl) h
theorem GW(h:GP c=some x):c=.c8 x:=by
 obtain⟨g,_⟩:=cG h
 exact CE.c8.elim (motive_1:=λc=>GP c=some x->c=.c8 x) c g (λZ h=>by cases h;rfl) h
theorem Eh(h:BK c=some x):c=.comp x.1 x.2.1 x.2.2.1 none x.2.2.2.1 x.2.2.2.2:=by
 obtain⟨g,_⟩:=cG h
 exact CE.comp.elim (motive_1:=λc=>BK c=some x->c=.comp x.1 x.2.1 x.2.2.1 none x.2.2.2.1 x.2.2.2.2) c g (λZ Z Z d Z Z h=>by
  obtain⟨z,h⟩:=Ct h
  cases h
  cases d with
  | none=>rfl
  | some _=>exact ff z) h
theorem Ei(h:GN c=true):c=.skip:=CS.skip.elim (motive:=λc=>c=.skip) c (aL h) rfl
theorem AWE.le(i:j<=n)(h:AWE W j c ρ σ Q E):AWE W n c ρ σ Q E:=λC s e K hm I=>h C s e (K.le i) hm I
theorem AWS.le(i:j<=n)(h:AWS W j c ρ σ Q E):AWS W n c ρ σ Q E:=λC s e K hm I=>h C s e (K.le i) hm I
theorem GX(G:GF W)(I:xR W f)(hn:n<=n')(hx:bO σ (.c8 x y z)=some xs)(L:LM As jK ρ ρ')(H:HM As h σ)
  (e:M9 t (λρ h k=>rH f n (cS true b) [] ρ h k) q xs ρ h=true) (fin:∀U ρ ρ' h bw,Ext As U σ bw->LM U jK ρ ρ'->HM U h bw->q ρ h=true->AWS W n' k ρ' bw Q (λZ=>b7)):FR W n' t b k Q (λZ=>b7) ρ' (.c8 x y z) σ:=by
 refine⟨xs,λi J D=>∃V hs O,M9 t (λρ h k=>rH f n (cS true b) [] ρ h k) q (xs.drop i) V hs=true/\Ext As O σ D/\LM O jK V J/\HM O hs D,hx,⟨ρ,h,As,by rw[List.drop_zero];exact e,.refl _ _,L,H⟩,λi J D hj=>?_⟩
 obtain⟨V,hs,O,Y,x2,L2,H2⟩:=hj
 refine⟨hx,λhi=>?_,λw hw=>?_⟩
 .subst hi
  rw[List.drop_length]at Y
  exact fin _ _ _ _ _ x2 L2 H2 Y
 .obtain⟨j,rfl⟩:=Dd hx hw
  have yw:=(aS.mp hw).1
  have hd:xs.drop i=.int j::xs.drop (i+1):=by
   rw[List.drop_eq_getElem_cons yw]
   congr 1
   exact af ((aJ yw).symm.trans hw)
  rw[hd]at Y
  obtain⟨V2,e5,Y⟩:=bu Y
  obtain⟨s,rfl,rfl⟩:=Dc e5
  refine⟨_,rfl,AWS.le hn (AWS.r G ?_)⟩
  refine I n _ _ _ _ _ Y O jK [] _ D _ _ .nil (L2.set (.int j)) H2 λU1 o o' U2 V3 h5 V4 x5 ro L5 H5 e=>?_
  cases ro with
  | next=>exact⟨U2,h5,U1,e,x2.trans x5 H5.nd,L5,H5⟩
  | _=>exact ff e
theorem ex_ok(G:GF W)(I:xR W f)(e:Ts (λc ρ h k=>rH f n (cE c []) [] ρ h k) c ρ h k=true)(L:LM As jK ρ ρ')(H:HM As h σ)(q:Fv As σ k R):AWE W n c ρ' σ R b7:=by
 rcases Bool.or_eq_true_iff.mp e with e | e
 .obtain⟨x,e1,e⟩:=bu e
  rw[GV e1]
  refine AWE.and (I.Lz G (k:=λa h1=>on (iH (hE h1) a) λb=>if b then rH f n (cE x.2 []) [] ρ h1 (λo Z h2=>oR o λv=>k v h2)else k a h1) e L H λJ a a' h1 j x1 O i e=>?_)
  obtain⟨b,e2,e⟩:=bu e
  refine⟨b,BI i O e2,?_⟩
  cases b
  .exact q _ _ _ _ _ x1 O i e
  .exact I.Lz G (k:=k) e (L.ext x1) i λY v v' h2 Sf x2 rv U e=>q _ _ _ _ _ (x1.trans x2 U.nd) rv U e
 .rcases Bool.or_eq_true_iff.mp e with e | e
  .obtain⟨x,e1,e⟩:=bu e
   rw[Kb e1]
   refine AWE.or (I.Lz G (k:=λa h1=>on (iH (hE h1) a) λb=>if b then k a h1 else rH f n (cE x.2 []) [] ρ h1 (λo Z h2=>oR o λv=>k v h2)) e L H λJ a a' h1 j x1 O i e=>?_)
   obtain⟨b,e2,e⟩:=bu e
   refine⟨b,BI i O e2,?_⟩
   cases b
   .exact I.Lz G (k:=k) e (L.ext x1) i λY v v' h2 Sf x2 rv U e=>q _ _ _ _ _ (x1.trans x2 U.nd) rv U e
   .exact q _ _ _ _ _ x1 O i e
  .obtain⟨x,e1,e⟩:=bu e
   have e2:=bC e
   obtain⟨es,e3,e⟩:=bu e2.2
   rw[Eh e1]
   refine AWE.comp e2.1 ?_ (I.Lz G (k:=λw h1=>on (BL w) λz=>on (bO (hE h1) w) λxs=>on (Pp x.1 x.2.1 xs (ow x.2.2.2.2 x.2.2.2.1 ρ) []) λout=>k (.ref h1.length) (h1++[.list true out])) e L H λJ w w' h1 j x1 RU i e=>?_)
   .intro sc y hy
    rw[GW e3]at hy
    exact qv hy
   .obtain⟨z,e4,ea⟩:=bu e
    obtain⟨xs,e5,eb⟩:=bu ea
    obtain⟨out,e6,ec⟩:=bu eb
    have e7:=xS e4
    subst e7
    cases RU
    refine Pr G (σ:=j) (L.ext x1) (show bO j (.c8 z.1 z.2.1 z.2.2)=some xs from e5) e6 λD V hD ro=>?_
    exact q _ _ _ _ _ (x1.trans (.push hD) (i.push (o:=.list true out) (o':=.list true V) hD (.list ro)).nd) (.ref (uo i.len)) (i.push hD (.list ro)) ec
theorem Ej{st:List AV}(h:step W n Q E i st ρ σ (mrun W n Q E is)):mrun W n Q E (i::is) st ρ σ:=h
theorem Pw(G:GF W):∀f,xR W f:=by
 intro f
 induction f with
 | zero=>intro n is st ρ h q e;exact ff e
 | succ f I=>
  intro n is st ρ h q e As jK Tv ρ' σ Q E S L H F
  cases is with
  | nil=>exact jo e S λv v' r Y O R e=>F _ _ _ _ _ _ _ (.refl _ _) (.ret O) L H e
  | cons i is=>
   have go:Kr As jK σ (λst ρ h=>rH f n is st ρ h q) (mrun W n Q E is):=λU3 st Tv ρ ρ' h bw x S L H e=>I n is st ρ h q e U3 jK Tv ρ' bw Q E S L H (F.up x)
   cases i
   case call g m=>
    refine zr e .nil S λl l' r Y rl R e=>?_
    obtain⟨x,e1,e⟩:=bu e
    exact I.call G (m:=m) e1 e rl H λJ v v' h1 y x1 O D e=>go _ _ _ _ _ _ _ x1 (.cons O (lT.ext x1 R)) (L.ext x1) D e
   case C4 g m=>
    refine zr e .nil S λl l' r Y rl R e=>?_
    obtain⟨x,e1,e⟩:=bu e
    exact I.call G (m:=m) (k:=λv h1=>NW v&&rH f n is r ρ h1 q) e1 e rl H λJ v v' h1 y x1 O D e=>⟨(O.pl (bC e).1).2,go _ _ _ _ _ _ _ x1 (lT.ext x1 R) (L.ext x1) D (bC e).2⟩
   case u9 c=>
    have e2:=bC e
    have hc:=aY e2.1
    exact⟨hc.1,hc.2,go _ _ _ _ _ _ _ (.refl _ _) S L H e2.2⟩
   case new c m=>
    refine zr e .nil S λl l' r Y rl R e=>?_
    obtain⟨x,e1,e⟩:=bu e
    have e2:=bC e
    have hc:=aY e2.1
    intro d a hd ha U4
    have H2:=H.push (o:=.dict []) (o':=.dict []) hd (.dict .nil)
    have Tw:(σ.set d (.dict [])) a=none:=by unfold Hp.set;rw[ah U4];exact ha
    have H3:=H2.push (o:=.inst c h.length) (o':=.inst c d) Tw (.inst (uo H.len))
    have ar:(As++[d]++[a])[h.length+1]? =some a:=by
     have:=uo (a:=a) H2.len
     rw[bh]at this;exact this
    have x2:Ext As (As++[d]++[a]) σ ((σ.set d (.dict [])).set a (.inst c d)):=(Ext.push hd).trans (.push Tw) H3.nd
    obtain⟨j,rfl⟩:∃j,n=j+2:=⟨n-2,(Nat.sub_add_cancel hc.2).symm⟩
    refine CALL.body G (uq e1) (by rw[List.length_cons,<-rl.length];exact hc.1) jy.none (AWS.r G ?_)
    refine I j _ _ _ _ _ e2.2 _ _ [] _ _ _ _ .nil (LM.init (.cons (.ref ar) (rl.ext x2))) H3 λJ o o' U5 U h1 y x1 ro L1 D e=>?_
    cases ro with
    | next=>
     have x3:=x2.trans x1 D.nd
     refine⟨rfl,go _ _ _ _ _ _ _ x3 (.cons (.ref ?_) (lT.ext x3 R)) (L.ext x3) D e⟩
     obtain⟨t,rfl,_⟩:=x1.pre;exact xP ar
    | _=>exact ff e
   case ite t e' c=>
    refine jo e S λa a' r Y V R e=>?_
    obtain⟨b,e1,e⟩:=bu e
    rw[xQ e1]at V
    rw[V.p7]
    refine AWS.r G (I n _ _ _ _ _ e As jK [] ρ' σ _ E .nil L H λJ o o' U5 U h1 y x1 ro L1 D e=>?_)
    cases ro with
    | next=>exact AWS.r G (I n _ _ _ _ _ e J jK [] U y Q E .nil L1 D (F.up x1))
    | brk=>exact F _ _ _ _ _ _ _ x1 .brk L1 D e
    | cont=>exact F _ _ _ _ _ _ _ x1 .cont L1 D e
    | ret r=>exact F _ _ _ _ _ _ _ x1 (.ret r) L1 D e
   case JB c=>
    refine jo e S λa a' r Y V R e=>?_
    obtain⟨b,e1,e⟩:=bu e
    rw[xQ e1]at V
    rw[V.p7]
    cases b
    .exact go _ _ _ _ _ _ _ (.refl _ _) (.cons (.bool _) R) L H e
    .exact I.Tu G (k:=λb h=>rH f n is (.bool b::r) ρ h q) e L H λJ b h1 y x1 D e=>go _ _ _ _ _ _ _ x1 (.cons (.bool _) (lT.ext x1 R)) (L.ext x1) D e
   case QY c=>
    refine jo e S λa a' r Y V R e=>?_
    obtain⟨b,e1,e⟩:=bu e
    rw[xQ e1]at V
    rw[V.p7]
    cases b
    .exact I.Tu G (k:=λb h=>rH f n is (.bool b::r) ρ h q) e L H λJ b h1 y x1 D e=>go _ _ _ _ _ _ _ x1 (.cons (.bool _) (lT.ext x1 R)) (L.ext x1) D e
    .exact go _ _ _ _ _ _ _ (.refl _ _) (.cons (.bool _) R) L H e
   case ex c=>exact ex_ok G I (k:=λv h=>rH f n is (v::st) ρ h q) e L H λJ v v' h1 y x1 O D e=>go _ _ _ _ _ _ _ x1 (.cons O (lT.ext x1 S)) (L.ext x1) D e
   case st c=>
    rcases Bool.or_eq_true_iff.mp e with e | e
    .rw[Ei (bC e).1]
     exact AWS.skip (F _ _ _ _ _ _ _ (.refl _ _) .next L H (bC e).2)
    .obtain⟨x,e1,e⟩:=bu e
     rw[GU e1]
     exact AWS.Ge (AWS.fr b0.none (I.Lz G (k:=λv h=>on (BL v) λz=>on (bO (hE h) v) λxs=>M9 x.1 (λρ h k=>rH f n (cS true x.2.2.1) [] ρ h k) (λρ h=>rH f n (cS true x.2.2.2) [] ρ h q) xs ρ h) e L H λJ v v' h1 y x1 O D e=>by
      obtain⟨z,e2,ea⟩:=bu e
      obtain⟨xs,e3,eb⟩:=bu ea
      have e4:=xS e2
      subst e4
      cases O
      exact GX G I (Nat.le_refl _) (show bO y (.c8 z.1 z.2.1 z.2.2)=some xs from e3) (L.ext x1) D eb λSg V5 Sh h2 Sf x2 L2 H2 e=>AWS.r G (I n _ _ _ _ _ e Sg jK [] Sh Sf Q _ .nil L2 H2 (F.up (x1.trans x2 H2.nd))))) λZ Z Z z=>z.elim
   case out o=>
    have e2:=bC e
    cases o with
    | next=>exact F _ _ _ _ _ _ _ (.refl _ _) .next L H e2.2
    | brk=>exact F _ _ _ _ _ _ _ (.refl _ _) .brk L H e2.2
    | cont=>exact F _ _ _ _ _ _ _ (.refl _ _) .cont L H e2.2
    | ret v=>exact ff e2.1
   all_goals exact Ej (Ka (k:=λst ρ h=>rH f n is st ρ h q) e S L H go)
end
def GY:AV->AV->Bool
 | .none,.none=>true
 | .bool a,.bool b=>a==b
 | .int a,.int b=>a==b
 | .ref a,.ref b=>Nat.beq a b
 | _,_=>false
def GZ{α:Type}(f:α->α->Bool):List α->List α->Bool
 | [],[]=>true
 | a::l,b::m=>f a b&&GZ f l m
 | _,_=>false
abbrev LA:List AV->List AV->Bool:=GZ GY
abbrev LB:List (Nat × AV)->List (Nat × AV)->Bool:=GZ λa b=>Nat.beq a.1 b.1&&GY a.2 b.2
def Px:AO->AO->Bool
 | .list a l,.list b m=>a==b&&LA l m
 | .inst a l,.inst b m=>Nat.beq a b&&Nat.beq l m
 | .dict l,.dict m=>LB l m
 | _,_=>false
theorem sR(h:GY a b=true):a=b:=by
 cases a<;>cases b<;>first | rfl | (first | exact ff h | (cases h;done)) | skip
 .exact ae AV.bool (az.mp h)
 .exact ae AV.int (az.mp h)
 .exact ae AV.ref (aL h)
theorem xT{f:α->α->Bool}(hf:∀a b,f a b=true->a=b):∀{l m:List α},GZ f l m=true->l=m:=by
 intro l
 induction l with
 | nil=>
  intro m h
  cases m with
  | nil=>rfl
  | cons=>exact ff h
 | cons a l i=>
  intro m h
  cases m with
  | nil=>exact ff h
  | cons b m=>rw[hf a b (bC h).1,i (bC h).2]
theorem G0(h:LA a b=true):a=b:=xT (λZ Z=>sR) h
theorem G1(h:LB a b=true):a=b:=xT (λZ Z h=>Prod.ext (aL (bC h).1) (sR (bC h).2)) h
theorem Kc(h:Px a b=true):a=b:=by
 cases a<;>cases b<;>first | (first | exact ff h | (cases h;done)) | skip
 .rw[az.mp (bC h).1,G0 (bC h).2]
 .rw[aL (bC h).1,show _=_ from aL (bC h).2]
 .rw[G1 h]
def G2(As:List Addr):AV->AV
 | .ref k=>.ref (As[k]?.getD 0)
 | v=>v
def vy(As:List Addr):AO->AO
 | .list b xs=>.list b (xs.map (G2 As))
 | .inst c d=>.inst c (As[d]?.getD 0)
 | .dict i=>.dict (i.map λf=>(f.1,G2 As f.2))
theorem VM.map(h:VM As v w):w=G2 As v:=by
 cases h with
 | ref h=>unfold G2;dsimp only;rw[h];rfl
 | _=>rfl
theorem lT.map(h:lT As v w):w=v.map (G2 As):=by
 induction h with
 | nil=>rfl
 | cons h _ i=>rw[List.map_cons,<-i,<-h.map]
theorem OM.map(h:OM As v w):w=vy As v:=by
 cases h with
 | list h=>unfold vy;rw[lT.map h]
 | inst h=>unfold vy;dsimp only;rw[h];rfl
 | dict h=>
  unfold vy
  congr 1
  induction h with
  | nil=>rfl
  | cons h _ i=>
   rename_i a b _ _ _
   obtain⟨j,y⟩:=b
   rw[List.map_cons,<-i]
   obtain⟨h1,h2⟩:=h
   dsimp only at h1 h2
   rw[h1,h2.map]
def Nc(B:Bd):Loc:=[none,none,some (.int B.F),some (.int B.R),some (.int B.N),none,none,none,none,none,none,none,none,none,none,none,none,none,none,none,none,none,none,none,none,none,none,none,none,none,none,none,none]
abbrev G3:CS:=(.expr (.append (.var 7) (.comp (.bx .LShift (.int 1) (.bx .Add (.bx .Mult (.var 2) (.var 3)) (.var 1))) [1] (.c8 (.cons (.var 4) .nil)) none [(2,8),(3,4)] 4)) .skip)
abbrev Py:CE:=(.new 1 (.cons (.call fJ (.cons (.var 2) (.cons (.var 3) (.cons (.bool false) (.cons (.bool false) .nil))))) (.cons (.new 2 (.cons (.var 7) (.cons (.bx .Mult (.cI (.cons (.int 0) .nil)) (.var 2)) (.cons (.bx .Mult (.cI (.cons (.int 0) .nil)) (.int 16)) (.cons (.bx .LShift (.int 1) (.bx .Mult (.int 15) (.var 4))) .nil))))) .nil)))
abbrev Si(k:CS):CS:=(.bL 7 (.cI .nil) (.cb [8] (.c8 (.cons (.int 15) .nil)) G3 (.bL 10 Py k)))
def G4(B:Bd):Loc:=Lake.setL (Nc B) 7 (.ref 0)
def G5(B:Bd):Loc:=Lake.setL (G4 B) 8 (.int 14)
def P0:Ps:=⟨λZ=>0,0,0,1,0,[]⟩
def iz(k:Nat):Nat:=if k<21 then([55,54,57,59,60,61,17,16,18,19,20,29,22,25,26,47,53,52,0,49,51][k]?).getD 0 else if k<29 then 31+2*(k-21)else if k<31 then 23+(k-29)else 1+(k-31)
def Pz(a b:Option AV):Bool:=Option.casesOn a b.isNone λv=>on b λw=>GY v w
abbrev PA:Loc->Loc->Bool:=GZ Pz
theorem Kd(h:PA a b=true):a=b:=xT (λa b h=>by
 cases a with
 | none=>exact(Option.isNone_iff_eq_none.mp h).symm
 | some v=>
  obtain⟨w,e,h⟩:=bu h
  rw[e,sR h]) h
def PC(B:Bd)(v:AV)(h:HS):Bool:=GY v (.ref (iz 0))&&(List.range 46).all λk=>on (h[iz k]?) λo=>Px o (cont iz B P0 k)
def PD(B:Bd)(ρ:Loc)(h:HS):Bool:=PA ρ (G5 B)&&rH 400 8 (cE Py []) [] ρ h λo Z h=>oR o λv=>PC B v h
def Ke(B:Bd):Bool:=rH 400 8 (cE (.c8 (.cons (.int 15) .nil)) []) [] (G4 B) [.list true []] λo Z h=>oR o λv=>on (BL v) λz=>on (bO (hE h) v) λxs=>M9 [8] (λρ h k=>rH 400 8 (cS true G3) [] ρ h k) (PD B) xs (G4 B) h
theorem PG:Ke ⟨3,4⟩=true:=by decide +kernel
theorem PH:Ke ⟨2,4⟩=true:=by decide +kernel
theorem PI:Ke ⟨4,3⟩=true:=by decide +kernel
theorem Nd(hB:B.Ok):Ke B=true:=by
 cases hB
 .exact PG
 .exact PH
 .exact PI
theorem Nf:∀i j,i<46->j<46->iz i=iz j->i=j:=by
 have:(List.range 46).all (λi=>(List.range 46).all λj=>!(Nat.beq (iz i) (iz j))||Nat.beq i j)=true:=by decide +kernel
 intro i j hi y e
 have h1:=aM.mp (aM.mp this i (aN.mpr hi)) j (aN.mpr y)
 rw[e]at h1
 have:Nat.beq (iz j) (iz j)=true:=Nat.beq_refl _
 rw[this]at h1
 exact aL (by simpa using h1)
theorem G6(As:List Addr)(B:Bd)(hk:k<46):vy As (cont iz B P0 k)=cont (λj=>As[iz j]?.getD 0) B P0 k:=by
 have y:∀(n:Nat)(f:Nat->Int),vy As (fc n λs=>.int (f s))=fc n λs=>.int (f s):=by
  intro n f;unfold vy fc;dsimp only;rw[List.map_map];rfl
 have z:∀(n:Nat)(f:Nat->Nat),vy As (fc n λs=>.ref (f s))=fc n λs=>.ref (As[f s]?.getD 0):=by
  intro n f;unfold vy fc;dsimp only;rw[List.map_map];rfl
 rcases ay k 21 with h | h
 .have e:(nH iz B P0).map (vy As)=nH (λj=>As[iz j]?.getD 0) B P0:=by
   unfold nH
   simp only[List.map_cons,List.map_nil,y,z]
   rfl
  unfold cont
  rw[ag h,ag h,<-e,List.getD_eq_getElem?_getD,List.getD_eq_getElem?_getD,aF]
  cases(nH iz B P0)[k]?<;>rfl
 .rcases ay k 29 with h2 | h2
  .obtain⟨d,rfl⟩:∃d,k=21+d:=⟨k-21,(Nat.add_sub_of_le h).symm⟩
   have i:d<8:=Nat.lt_of_add_lt_add_left (show 21+d<21+8 from h2)
   rw[tN i,tN i];exact y _ _
  .rcases ay k 31 with h3 | h3
   .obtain⟨d,rfl⟩:∃d,k=29+d:=⟨k-29,(Nat.add_sub_of_le h2).symm⟩
    have i:d<2:=Nat.lt_of_add_lt_add_left (show 29+d<29+2 from h3)
    rw[qK i,qK i];exact y _ _
   .obtain⟨d,rfl⟩:∃d,k=31+d:=⟨k-31,(Nat.add_sub_of_le h3).symm⟩
    rw[pA,pA];exact y _ _
theorem LM.Sj(h:LM As jK ρ y):∀{Lk:Loc},bJ Lk jK->(∀i v,getL ρ i=some v->getL Lk i=none\/(getL Lk i=some v/\xO v=true))->bJ Lk y:=by
 induction h with
 | nil=>exactλh Z=>h
 | @old b _ _ _ _ z=>
  intro Lk hl hc
  cases Lk with
  | nil=>cases b<;>exact hl.elim
  | cons x l=>
   have j:=λi v e=>hc (i+1) v e
   cases x with
   | none=>cases b<;>exact z hl j
   | some x=>
    cases b with
    | none=>exact hl.elim
    | some w=>exact⟨hl.1,z hl.2 j⟩
 | @new b v w _ _ _ a _ z=>
  intro Lk hl hc
  cases Lk with
  | nil=>cases b<;>exact hl.elim
  | cons x l=>
   have j:=λi v e=>hc (i+1) v e
   cases x with
   | none=>cases b<;>exact z hl j
   | some x=>
    cases b with
    | none=>exact hl.elim
    | some b=>
     refine⟨?_,z hl.2 j⟩
     rcases hc 0 v rfl with q | ⟨q,hi⟩
     .cases q
     .cases q
      cases v<;>first | (first | exact ff hi | (cases hi;done)) | skip
      exact a.fu.symm
section
variable{W:Wd}{n:Nat}{σ:Hp}{ρ' Lk:Loc}{Q:f6->Loc->Hp->Prop}
theorem PJ(G:GF W)(hB:B.Ok)(hn:8<=n)(L0:LM [] ρ' (Nc B) ρ')(hL:bJ Lk ρ')(hc:∀i v,getL (G5 B) i=some v->getL Lk i=none\/(getL Lk i=some v/\xO v=true))
  (q:∀(A:Nat->Addr)(bw:Hp),bV A->(∀k,k<46->σ (A k)=none)->Sub σ bw->Sub (wr A B P0 bw) bw->AWS W n k (Lake.setL Lk 10 (.ref (A 0))) bw Q (λZ=>b7)):
  AWS W n (Si k) ρ' σ Q (λZ=>b7):=by
 have H0:HM [] [] σ:=⟨rfl,List.nodup_nil,λk o e=>by cases e⟩
 refine AWS.bL (AWE.cI (AWEs.nil ⟨by decide,λa ha=>?_⟩))
 have H1:=H0.push (o:=.list true []) (o':=.list true []) ha (.list .nil)
 have x1:Ext [] [a] σ (σ.set a (.list true [])):=.push ha
 have L1:LM [a] ρ' (G4 B) (Lake.setL ρ' 7 (.ref a)):=(L0.ext x1).set (.ref rfl)
 have I:=Pw G 400
 refine AWS.fr b0.none (AWE.le hn <| I.Lz G (n:=8) (k:=λv h=>on (BL v) λz=>on (bO (hE h) v) λxs=>M9 [8] (λρ h k=>rH 400 8 (cS true G3) [] ρ h k) (PD B) xs (G4 B) h) (Nd hB) L1 H1 λV6 v v' h1 U6 y1 rv H2 e=>?_)
 obtain⟨z,e2,ea⟩:=bu e
 obtain⟨xs,e3,eb⟩:=bu ea
 have e4:=xS e2
 subst e4
 cases rv
 refine GX G I hn (show bO U6 (.c8 z.1 z.2.1 z.2.2)=some xs from e3) (L1.ext y1) H2 eb λSg ρ J h2 L x2 L2 V ec=>?_
 have ed:=bC ec
 rw[Kd ed.1]at L2 ed
 refine AWS.bL (AWE.le hn <| I.Lz G (k:=PC B) ed.2 L2 V λD v v3 h' O x3 Y V ef=>?_)
 have eg:=bC ef
 rw[sR eg.1]at Y
 have hk:∀k,k<46->h'[iz k]? =some (cont iz B P0 k):=λk hk=>by
  obtain⟨o,eo,e⟩:=bu (aM.mp eg.2 k (aN.mpr hk))
  rw[eo,Kc e]
 have x:Ext [] D σ O:=((x1.trans y1 H2.nd).trans x2 (HM.nd ‹HM Sg h2 L›)).trans x3 V.nd
 obtain⟨t,et,hf⟩:=x.pre
 rw[List.nil_append]at et
 subst et
 have Tx:∀k,k<46->∃a,D[iz k]? =some a/\O a=some (cont (λj=>D[iz j]?.getD 0) B P0 k):=λk H=>by
  obtain⟨a,o',g1,g2,g3⟩:=V.obj (iz k) _ (hk k H)
  refine⟨a,g1,?_⟩
  rw[g2,g3.map,G6 D B H]
 have U:∀k,k<46->D[iz k]? =some (D[iz k]?.getD 0):=λk H=>by
  obtain⟨a,g1,_⟩:=Tx k H
  rw[g1];rfl
 have hA:bV (λj=>D[iz j]?.getD 0):=by
  intro i j hi hj e
  have e1:=U i hi
  have e2:=U j hj
  dsimp only at e
  rw[e]at e1
  obtain⟨l1,g1⟩:=aS.mp e1
  obtain⟨l2,g2⟩:=aS.mp e2
  exact Nf i j hi hj ((List.getElem_inj V.nd).mp (g1.trans g2.symm))
 have U7:v3=.ref ((λj=>D[iz j]?.getD 0) 0):=by
  cases Y with
  | ref g=>dsimp only;rw[g];rfl
 have lk:bJ (Lake.setL Lk 10 v3) (Lake.setL J 10 v3):=bJ.nE (L2.Sj hL hc)
 rw[U7]at lk ⊢
 refine AWS.loose lk (.refl _) (q (λj=>D[iz j]?.getD 0) O hA (λk H=>hf _ (aD (U k H))) (λy o e=>?_) (λy o e=>?_))
 .rw[x.Ra y λhm=>by rw[hf y hm]at e;cases e];exact e
 .unfold wr at e
  split at e
  .rename_i k H
   obtain⟨k1,k2⟩:=tL H
   cases e
   obtain⟨a,g1,g2⟩:=Tx k k1
   rw[g1]at k2
   rw[<-k2];exact g2
  .exact e
end
section
local macro_rules (kind:=PyProof.Rows.tacticWalk_at_) | s=>tyk "\"mx\"" s "!5wCmp !g !5wIs !g !5wTru !g !5wTrb !g !Mshl !g !Mshr !g !Mmul !g !Mmod !g !Mfdiv !g !5wBin !g !KwInt !g !6ex_at_pos !g !6ex_at_geo !g !6ex_at_zob !g !8board !g !8kinds !g !8sides !g !8fm !g !8rm !g !8rays !g !8ray !g !8king !g !8knight !g !8pawns !g !8pawn !g !8castles !g !8rl !g !8zp !g !8zrow !g !129"
local macro_rules (kind:=PyProof.Rows.tacticWalk_at_) | s=>tyk "\"mr\"" s "!vCALL !g !vExists !g !vAnd !g !vAWS !g !vAWE !g !vAWT !g !vite !g !vKSet !g !vKAug !g !vKPut !g !vKAuP !g !vKMul !g !vKLst !g !vKApp !g !vKLat !g !W !h !g !116"
local macro_rules (kind:=PyProof.Rows.tacticWalk_at_) | s=>tyk "\"me\"" s "!vmrun !Vmr !,2 !g !NLake.setL AWS.norm Lake.setL !z !d1 !P !g !NsetTs AWS.norm Lake.setL !z setTs !z !d2 !P !g !NinitLoc AWS.norm0 loc0 !z pad !z Nat.reduceSub !z !d3 !P !g !KAWS.skip !g AWS.g !A !b rfl !E !b !? !@3 !r !g AWE.g !A !b rfl !E !b !? !@3 !r !g !KAWT.chn !g AWT.r !A !b !? !@2 !r !g !KAWE.ite !g !KAWE.and !g !KAWE.or !g !KAWE.slice !g !KAWEs.nil !g !KAWEs.cons !g !Z !Vmx !,2 !g AWS !_ !_ ite !=true !_ !_ !@3 !. !@4 !: !r AWS.ifT rfl !? !@2 !r !,2 !g AWS !_ !_ ite !=false !_ !_ !@3 !. !@4 !: !r AWS.ifF rfl !? !@2 !r !,2 !g !118"
section
variable{W:Wd}{n:Nat}{σ:Hp}
theorem p8(G:GF W)(i:1<=n)(s k:Nat)(hs:s<2):Pure W n gb [.int s,.int k] σ (.int ((s*8+k:Nat):Int)):=by
 refine cu.body G vi rfl i ?_
 unfold pC
 ext
 exact⟨by congr 1,.refl _⟩
theorem Sk(p:Nat):((p:Int)).fdiv (2^(3:Int).toNat)=((p/8:Nat):Int):=by
 have:(2:Int)^(3:Int).toNat=8:=by decide
 rw[this,ba _ (by lia)];rfl
theorem Sl(p:Nat):Builtin.bitAnd (p:Int) 7=((p % 8:Nat):Int):=by rw[bitAnd_m3];rfl
theorem mF(G:GF W)(i:1<=n)(p:Nat):Pure W n iC [.int p] σ (.int ((p/8:Nat):Int)):=by
 refine cu.body G Bv rfl i ?_
 unfold wi
 ext
 exact⟨ae AV.int (Sk p),.refl _⟩
theorem mG(G:GF W)(i:1<=n)(p:Nat):Pure W n fe [.int p] σ (.int ((p % 8:Nat):Int)):=by
 refine cu.body G Bw rfl i ?_
 unfold wj
 ext
 exact⟨ae AV.int (Sl p),.refl _⟩
def cy(o t sp fd:Nat):Nat:=t+64*o+4096*fd+16384*sp
theorem BM(h:a<2^k):Builtin.bitOr ((a:Nat):Int) ((b*2^k:Nat):Int)=((a+b*2^k:Nat):Int):=by
 rw[mB]
 congr 1
 rw[Nat.or_comm,<-Nat.shiftLeft_eq,<-Nat.shiftLeft_add_eq_or_of_lt h,Nat.add_comm]
theorem hG(G:GF W)(j:1<=n)(o t sp i:Nat)(ho:o<64)(ht:t<64)(hs:sp<2)(hp:sp=1->2<=i/\i<6):
  Pure W n cM [.int o,.int t,.int sp,.int i] σ (.int (cy o t sp (if sp=1 then i-2 else 0):Nat)):=by
 refine cu.body G xA rfl j ?_
 have key:∀fd:Nat,fd<4->Builtin.bitOr (Builtin.bitOr (Builtin.bitOr (t:Int) ((o:Int)*2^(6:Int).toNat)) ((fd:Int)*2^(12:Int).toNat)) ((sp:Int)*2^(14:Int).toNat)=((cy o t sp fd:Nat):Int):=by
  intro fd hf
  rw[show(o:Int)*2^(6:Int).toNat=((o*2^6:Nat):Int)from(Int.natCast_mul o (2^6)).symm,show(fd:Int)*2^(12:Int).toNat=((fd*2^12:Nat):Int)from(Int.natCast_mul fd (2^12)).symm,show(sp:Int)*2^(14:Int).toNat=((sp*2^14:Nat):Int)from(Int.natCast_mul sp (2^14)).symm,BM ht,BM (Ri ht ho),BM (Ri (Ri ht ho) hf)]
  exact ae (Nat.cast (R:=Int)) (by unfold cy;rw[Nat.mul_comm o,Nat.mul_comm fd,Nat.mul_comm sp])
 unfold rL
 ext
 refine AWS.split (λhb=>?_) (λhb=>?_)
 .have h1:sp=1:=by simp at hb;lia
  have h2:=hp h1
  ext
  refine⟨ae AV.int ?_,.refl _⟩
  rw[ag h1,<-key (i-2) (Nat.sub_lt_right_of_lt_add h2.1 h2.2)]
  congr 3
  exact(Int.natCast_sub h2.1).symm
 .have h1:¬sp=1:=by simp at hb;lia
  ext
  refine⟨ae AV.int ?_,.refl _⟩
  rw[ah h1,<-key 0 (by omega)]
  rfl
theorem BN(o t sp fd:Nat):cy o t sp fd=t+64*(o+64*(fd+4*sp)):=by
 unfold cy;rw[Nat.mul_add,Nat.mul_add,Nat.mul_add,<-Nat.mul_assoc,<-Nat.mul_assoc,<-Nat.mul_assoc,Nat.add_assoc,Nat.add_assoc]
theorem Sm(ht:t<64):cy o t sp fd/64=o+64*(fd+4*sp):=(ae (·/64) (BN o t sp fd)).trans (dv ht)
theorem Sn(ho:o<64)(ht:t<64):cy o t sp fd/4096=fd+4*sp:=(Nat.div_div_eq_div_mul _ 64 64).symm.trans ((ae (·/64) (Sm ht)).trans (dv ho))
theorem Tz(ho:o<64)(ht:t<64)(hf:fd<4):cy o t sp fd/16384=sp:=(Nat.div_div_eq_div_mul _ 4096 4).symm.trans ((ae (·/4) (Sn ho ht)).trans (dv hf))
theorem Kf(ho:o<64)(ht:t<64)(hf:fd<4):Builtin.bitAnd (((cy o t sp fd:Nat):Int).fdiv (2^(6:Int).toNat)) 63=(o:Int):=by
 have:(2:Int)^(6:Int).toNat=64:=by decide
 rw[this,ba _ (by lia),bitAnd_m6]
 exact ae (Nat.cast (R:=Int)) ((ae (· % 64) (Sm ht)).trans (md ho))
theorem PK(ht:t<64):Builtin.bitAnd ((cy o t sp fd:Nat):Int) 63=(t:Int):=by
 rw[bitAnd_m6]
 exact ae (Nat.cast (R:=Int)) ((ae (· % 64) (BN o t sp fd)).trans (md ht))
theorem ur(ho:o<64)(ht:t<64)(hf:fd<4)(hs:sp<2):Builtin.bitAnd (((cy o t sp fd:Nat):Int).fdiv (2^(14:Int).toNat)) 3=(sp:Int):=by
 have:(2:Int)^(14:Int).toNat=16384:=by decide
 rw[this,ba _ (by lia),bitAnd_m2]
 exact ae (Nat.cast (R:=Int)) ((ae (· % 4) (Tz ho ht hf)).trans (Nat.mod_eq_of_lt (ak hs (by decide))))
theorem G7(ho:o<64)(ht:t<64)(hf:fd<4):Builtin.bitAnd (((cy o t sp fd:Nat):Int).fdiv (2^(12:Int).toNat)) 3=(fd:Int):=by
 have:(2:Int)^(12:Int).toNat=4096:=by decide
 rw[this,ba _ (by lia),bitAnd_m2]
 exact ae (Nat.cast (R:=Int)) ((ae (· % 4) (Sn ho ht)).trans (md hf))
theorem jq(G:GF W)(i:1<=n)(ho:o<64)(ht:t<64)(hf:fd<4):Pure W n fR [.int (cy o t sp fd:Nat)] σ (.int o):=by
 refine cu.body G xB rfl i ?_
 unfold rM
 ext
 exact⟨ae AV.int (Kf ho ht hf),.refl _⟩
theorem j8(G:GF W)(i:1<=n)(ht:t<64):Pure W n gH [.int (cy o t sp fd:Nat)] σ (.int t):=by
 refine cu.body G Bx rfl i ?_
 unfold wk
 ext
 exact⟨ae AV.int (PK ht),.refl _⟩
theorem gj(G:GF W)(i:1<=n)(ho:o<64)(ht:t<64)(hf:fd<4)(hs:sp<2):Pure W n dS [.int (cy o t sp fd:Nat)] σ (.int sp):=by
 refine cu.body G sf rfl i ?_
 unfold lH
 ext
 exact⟨ae AV.int (ur ho ht hf hs),.refl _⟩
theorem xU(G:GF W)(i:1<=n)(ho:o<64)(ht:t<64)(hf:fd<4):Pure W n iy [.int (cy o t 1 fd:Nat)] σ (.int (fd+2:Nat)):=by
 refine cu.body G vj rfl i ?_
 unfold pD
 ext
 refine AWS.ifF ?_ ?_
 .rw[ur ho ht hf (by omega)];rfl
 .ext
  refine⟨ae AV.int ?_,.refl _⟩
  rw[G7 ho ht hf];lia
end
def Lo(f:Nat->Bool):Prop:=∀s,f s=true->s<32
theorem xV(hf:Lo f)(k:Nat):(mk f).fdiv (2^k)=mk (λs=>f (s+k)):=by
 rw[Gp]
 refine bP λs Z=>?_
 cases h:f (s+k)
 .simp
 .simp[hf _ h]
def gw(f:Nat->Bool):List Nat:=(List.range 32).filter f
theorem bY:s∈gw f↔s<32/\f s=true:=by
 unfold gw;rw[List.mem_filter,aN]
section
variable{W:Wd}{n:Nat}{σ:Hp}
theorem zt(k w:Nat):((2^k:Nat):Int).fdiv (2^w)=if w<=k then((2^(k-w):Nat):Int)else 0:=by
 have e:(2:Int)^w=((2^w:Nat):Int):=by simp
 rw[e,ba _ (Int.natCast_nonneg _)]
 split
 .rename_i h
  have:2^k=2^(k-w)*2^w:=by rw[<-Nat.pow_add,Nat.sub_add_cancel h]
  rw[this]
  show((2^(k-w)*2^w/2^w:Nat):Int)=_
  rw[Nat.mul_div_cancel _ (Nat.two_pow_pos w)]
 .rename_i h
  show((2^k/2^w:Nat):Int)=_
  rw[Nat.div_eq_of_lt (Nat.pow_lt_pow_right (by omega) (Nat.lt_of_not_le h))];rfl
theorem G8(k w:Nat):((((2^k:Nat):Int).fdiv (2^((w:Nat):Int).toNat)) != 0)=decide (w<=k):=by
 rw[a9,zt]
 split
 .rename_i h
  have:=Nat.two_pow_pos (k-w)
  rw[decide_eq_true h];exact aP.mpr (by omega)
 .rename_i h;simp[h]
theorem Ek(G:GF W)(H:1<=n)(k:Nat)(hk:k<32):Pure W n qL [.int ((2^k:Nat):Int)] σ (.int k):=by
 refine cu.body G By rfl H ?_
 unfold wm
 have hp:=Nat.two_pow_pos k
 ext
 refine AWS.ifF (aE.mpr (by omega)) ?_
 ext
 refine AWS.wh b0.none (λm ρ' bw=>∃j,ρ'=[some (.int ((2^k:Nat):Int)),some (.int ((2^j:Nat):Int)),none]/\σ=bw/\m=k+1-2^j) _ ⟨0,rfl,rfl,rfl⟩ ?_
 rintro m _ _ ⟨j,rfl,rfl,rfl⟩
 ext
 rw[G8]
 refine bE (λhb=>?_) (λhb=>?_)
 .have y:2^j<=k:=by simpa using hb
  have z:2^(j+1)=2^j*2:=Nat.pow_succ 2 j
  have:=aj y hk
  ext
  refine⟨k+1-2^(j+1),Nat.sub_lt_sub_left (Nat.lt_succ_of_le y) (Nat.pow_lt_pow_succ (by decide)),j+1,?_,rfl,rfl⟩
  rw[z];rfl
 .have y:k<2^j:=by simpa using hb
  ext
  refine AWS.wh b0.none (λm ρ' bw=>∃q,ρ'=[some (.int ((2^(k-q):Nat):Int)),some (.int ((2^m:Nat):Int)),some (.int (q:Int))]/\σ=bw/\q<=k/\k-q<2^m) j ⟨0,rfl,rfl,by omega,y⟩ ?_
  rintro m _ _ ⟨q,rfl,rfl,D,hm⟩
  ext
  refine bE (λhb=>?_) (λhb=>?_)
  .have h1:1<2^m:=aq.mp (aY hb)
   obtain⟨i,rfl⟩:∃i,m=i+1:=⟨m-1,by cases m;simp at h1;rfl⟩
   have e1:((2^(i+1):Nat):Int).fdiv 2=((2^i:Nat):Int):=by
    rw[ba _ (by lia),Nat.pow_succ];exact ae (Nat.cast (R:=Int)) (Nat.mul_div_cancel _ (by decide))
   have I:(0:Int)<=((2^(i+1):Nat):Int).fdiv 2:=by rw[e1];exact Int.natCast_nonneg _
   ext
   rw[e1]
   rw[G8]
   refine AWS.split (λhb=>?_) (λhb=>?_)
   .have h2:2^i<=k-q:=by simpa using hb
    ext
    refine⟨i,Nat.lt_succ_self i,q+2^i,?_,rfl,Nat.add_le_of_le_sub' D h2,aj (aw (Nat.sub_sub k q _).symm) (Nat.sub_lt_left_of_lt_add h2 (Nat.lt_of_lt_of_eq hm (Nat.two_pow_succ i)))⟩
    rw[a9,zt,ag h2,Nat.sub_sub]
    simp[Lake.setL]
   .have h2:k-q<2^i:=by simpa using hb
    ext
    exact⟨i,Nat.lt_succ_self i,q,rfl,rfl,D,h2⟩
  .have h1:¬1<2^m:=λh=>of_decide_eq_false hb (aq.mpr h)
   ext
   exact⟨ae AV.int (ae Nat.cast (Nat.le_antisymm D (Nat.le_of_sub_eq_zero (Nat.lt_one_iff.mp (ak hm (Nat.le_of_not_lt h1)))))),.refl _⟩
theorem Kg(k:Nat):Builtin.bitAnd ((2^k:Nat):Int) (-((2^k:Nat):Int))=((2^k:Nat):Int):=by
 have:=kbt_low k 0
 simpa using this
def vz(f:Nat->Bool)(k:Nat):Prop:=k<32/\∀s,s<32->f s=(s==k)
theorem vz.mk(h:vz f k):mk f=((2^k:Nat):Int):=by
 rw[Gm h.1];exact bP h.2
theorem zu(G:GF W)(i:2<=n)(h:vz f k):Pure W n pB [.int (mk f)] σ (.int k):=by
 refine cu.body G Ed rfl (by omega) ?_
 unfold y5
 rw[h.mk]
 ext
 rw[Kg]
 exact Ek G (by omega) k h.1 _ _ ⟨rfl,.refl _⟩
end
def bA(l:List Nat):List AV:=l.map λ(s:Nat)=>AV.int (s:Int)
theorem Lo.PL(h:Lo f)(k:Nat):Lo λs=>f (s+k):=λs hs=>by have:=h _ hs;lia
theorem Df(hf:Lo f)(k j:Nat):(mk λs=>f (s+k)).fdiv (2^((j:Nat):Int).toNat)=mk λs=>f (s+(k+j)):=by
 rw[a9,xV (hf.PL k)]
 refine bP λs Z=>?_
 congr 1;lia
theorem U8:(15:Int)=mk λs=>decide (s<4):=by decide +kernel
theorem br{σ:Hp}:(σ.set a o) a=some o:=by unfold Hp.set;rw[ag rfl]
theorem set_set{σ:Hp}:(σ.set a o).set a o'=σ.set a o':=by
 funext b;unfold Hp.set;split<;>rfl
theorem ct{σ:Hp}(h:b≠a):(σ.set a o) b=σ b:=by unfold Hp.set;rw[ah h]
theorem El(hk:k<=32)(h:∀s,s<32->f (s+k)=false):(List.range k).filter f=gw f:=by
 unfold gw
 have e:(32:Nat)=k+(32-k):=(Nat.add_sub_of_le hk).symm
 rw[e,List.range_add,List.filter_append]
 have:((List.range (32-k)).map (k+·)).filter f=[]:=by
  rw[List.filter_eq_nil_iff]
  intro x hx
  obtain⟨y,hy,rfl⟩:=List.mem_map.mp hx
  have:=aN.mp hy
  rw[Nat.add_comm,h y (ak this (Nat.sub_le _ _))];simp
 rw[this,aZ]
theorem So(f:Nat->Bool):Builtin.bitAnd (mk f) 1=if f 0 then 1 else 0:=by
 rw[Bs,cj]
 have e1:(λs=>f s&&(s==0))=λs=>(s==0)&&f 0:=by funext s;cases s<;>simp
 rw[e1]
 cases f 0
 .simp[cV]
 .simp
section
variable{W:Wd}{n:Nat}{σ:Hp}
theorem dz(G:GF W)(hn:1<=n)(hf:Lo f):g6 W n cJ [.int (mk f)] σ (bA (gw f)):=by
 refine g6.body G vk rfl hn ?_
 unfold pE
 ext
 refine⟨by decide,λa L=>?_⟩
 ext
 refine AWS.wh b0.none (λm ρ' bw=>∃k,ρ'=[some (.int (mk λs=>f (s+k))),some (.ref a),some (.int (k:Nat))]/\σ.set a (.list true (bA ((List.range k).filter f)))=bw/\m=64-k/\k<=32) 64 ⟨0,rfl,rfl,rfl,by omega⟩ ?_
 rintro m _ _ ⟨k,rfl,rfl,rfl,hk⟩
 ext
 refine bE (λhb=>?_) (λhb=>?_)
 .have hb:mk (λs=>f (s+k))≠0:=aP.mp hb
  refine AWS.wh b0.none (λm ρ' bw=>∃j,ρ'=[some (.int (mk λs=>f (s+j))),some (.ref a),some (.int (j:Nat))]/\σ.set a (.list true (bA ((List.range j).filter f)))=bw/\m=64-j/\k<=j/\mk (λs=>f (s+j))≠0) (64-k) ⟨k,rfl,rfl,rfl,by lia,hb⟩ ?_
  rintro m _ _ ⟨j,rfl,rfl,rfl,O,D⟩
  have z:j<32:=by
   rcases ay j 32 with h | h
   .exact h
   .refine absurd (c7.mpr λs hs=>?_) D
    cases e:f (s+j)
    .rfl
    .have:=hf _ e;lia
  ext
  rw[U8,cj]
  refine bE (λH=>?_) (λH=>?_)
  .have U:∀s,s<4->f (s+j)=false:=by
    have J:mk (λs=>f (s+j)&&decide (s<4))=0:=by simpa using H
    intro s hs
    have:=c7.mp J s (by omega)
    simpa[hs]using this
   ext
   refine⟨64-(j+4),Nat.sub_lt_sub_left (Nat.lt_trans z (by decide)) (Nat.lt_add_of_pos_right (by decide)),j+4,?_,?_,rfl,ai O (Nat.le_add_right j 4),?_⟩
   .show _=_
    rw[show(4:Int)=((4:Nat):Int)from rfl,Df hf]
    rfl
   .rw[List.range_add,List.filter_append]
    have:((List.range 4).map (j+·)).filter f=[]:=by
     rw[List.filter_eq_nil_iff]
     intro x hx
     obtain⟨y,hy,rfl⟩:=List.mem_map.mp hx
     have:=aN.mp hy
     rw[Nat.add_comm,U y this];simp
    rw[this,aZ]
   .intro J
    refine D (c7.mpr λs hs=>?_)
    rcases ay s 4 with h | h
    .exact U s h
    .have:=c7.mp J (s-4) (aj (Nat.sub_le s 4) hs)
     rwa[show s-4+(j+4)=s+j from(Nat.add_assoc _ j 4).symm.trans ((Nat.add_right_comm _ j 4).trans (ae (·+j) (Nat.sub_add_cancel h)))]at this
  .ext
   rw[So,Nat.zero_add]
   have i:AWS W (n-1) (CS.iw 0 Operator.RShift (CE.int 1) (CS.iw 2 Operator.Add (CE.int 1) CS.skip)) [some (.int (mk λs=>f (s+j))),some (.ref a),some (.int (j:Nat))] (σ.set a (.list true (bA ((List.range (j+1)).filter f))))
     (λo ρ' bw=>match o with
      | .next | .cont=>∃V,V<64-k/\∃k,ρ'=[some (.int (mk λs=>f (s+k))),some (.ref a),some (.int (k:Nat))]/\σ.set a (.list true (bA ((List.range k).filter f)))=bw/\V=64-k/\k<=32
      | .brk=>AWS W (n-1) (.ret (.var 1)) ρ' bw (λo Z I=>Bo σ (bA (gw f)) o I) (λZ=>b7)
      | .ret v=>Bo σ (bA (gw f)) (.ret v) bw) (λZ=>b7):=by
    ext
    refine⟨64-(j+1),Nat.sub_lt_sub_left (aj hk (by decide)) (Nat.lt_succ_of_le O),j+1,?_,rfl,rfl,z⟩
    rw[show(1:Int)=((1:Nat):Int)from rfl,Df hf]
    rfl
   cases e:f j
   .refine AWS.ifF (by simp) ?_
    refine AWS.skip ?_
    have e2:(List.range (j+1)).filter f=(List.range j).filter f:=by rw[List.range_succ,List.filter_append];simp[e]
    rw[e2]at i
    exact i
   .refine AWS.ifT (by simp) ?_
    ext
    refine⟨a,_,cB br,?_⟩
    ext
    have Y:((List.range j).filter f).length<=32:=ai (List.length_filter_le _ _) (by simp;omega)
    refine⟨_,br,by simp[bA];omega,trivial,?_⟩
    refine AWS.skip ?_
    have e2:(List.range (j+1)).filter f=(List.range j).filter f++[j]:=by rw[List.range_succ,List.filter_append];simp[e]
    rw[set_set]
    rw[e2]at i
    have e3:bA ((List.range j).filter f++[j])=bA ((List.range j).filter f)++[AV.int (j:Nat)]:=by simp[bA]
    rw[e3]at i
    exact i
 .have hb:mk (λs=>f (s+k))=0:=by simpa using hb
  ext
  refine⟨a,rfl,L,Sub.set L,?_⟩
  rw[br,El hk (λs hs=>c7.mp hb s hs)]
end
def zv(B:Bd)(a b:Nat):Option Nat:=(List.range 8).find? λd=>ray B d a b
def lj(B:Bd)(a b t:Nat):Bool:=match zv B a b with
 | none=>false
 | some d=>ray B d a t&&ray B (d ^^^ 2) b t
def lV(B:Bd)(a b t:Nat):Bool:=match zv B a b with
 | none=>false
 | some d=>(ray B d a t||ray B (d ^^^ 2) a t)||t==a
def Ng:Option Nat->Int
 | none=>-1
 | some d=>d
theorem Nh(k:Nat)(hk:k<1000):yQ 0 (k:Int) 1=some ((List.range k).map λ(i:Nat)=>AV.int (i:Int)):=by
 unfold yQ
 rw[ag (by lia),ag rfl]
 simp
theorem cN{k:Nat}(hk:k<1000):bO σ (.c8 0 (k:Int) 1)=some (bA (List.range k)):=Nh k hk
theorem bX{i:Nat}(h:(bA l)[i]? =some x):∃s,l[i]? =some s/\x=.int (s:Int):=by
 unfold bA at h
 rw[aF]at h
 cases e:l[i]? with
 | none=>rw[e]at h;cases h
 | some s=>rw[e]at h;cases h;exact⟨s,rfl,rfl⟩
theorem dq(h:(List.range k)[i]? =some s):s=i/\i<k:=by
 obtain⟨h1,h2⟩:=aS.mp h
 simp at h1 h2
 exact⟨h2.symm,h1⟩
theorem k6(h:∀d,d<n->p d=false):(List.range n).find? p=none:=by
 rw[List.find?_eq_none];intro x hx;simp[h x (aN.mp hx)]
theorem fK(hk:k<n)(h:∀d,d<k->p d=false)(hp:p k=true):(List.range n).find? p=some k:=by
 have e:n=k+(1+(n-k-1)):=((ae (k+·) (Nat.add_sub_of_le (Nat.sub_pos_of_lt hk))).trans (Nat.add_sub_of_le (Nat.le_of_lt hk))).symm
 rw[e,List.range_add,List.find?_append,k6 h,List.range_add]
 simp[List.find?,hp]
theorem Lo.lt(i:n<=32)(h:∀s,f s=true->s<n):Lo f:=λs hs=>ak (h s hs) i
theorem Dg{B:Bd}(hB:B.Ok){f r:Int}(h:0<=f/\f<B.F/\0<=r/\r<B.R):(r*B.F+f).toNat<B.N/\r*B.F+f=(((r*B.F+f).toNat:Nat):Int):=by
 obtain⟨h1,h2,h3,j⟩:=h
 have e:=hB.cm.2.2.2.2.2.2
 obtain⟨y,rfl⟩:=Int.eq_ofNat_of_zero_le h1
 obtain⟨i,rfl⟩:=Int.eq_ofNat_of_zero_le h3
 have h2:y<B.F:=aq.mp h2
 have j:i<B.R:=aq.mp j
 have e2:((i:Int)*B.F+y).toNat=i*B.F+y:=by
  rw[<-Int.natCast_mul,<-Int.natCast_add,a9]
 rw[e2]
 refine⟨?_,by push_cast;rfl⟩
 exact ak (Nat.add_lt_add_left h2 _) (ai (aw (Nat.succ_mul i B.F).symm) (ai (Nat.mul_le_mul_right _ j) (aw ((Nat.mul_comm _ _).trans e))))
theorem xW(hB:B.Ok)(h:ray B d s t=true):t<B.N:=by
 have key:∀(i dr:Int)(k:Nat)(f r:Int),∀t∈iO B i dr k f r,t<B.N:=by
  intro i dr k
  induction k with
  | zero=>intro f r t h;cases h
  | succ k j=>
   intro f r t h
   have h:t∈(if 0<=f/\f<B.F/\0<=r/\r<B.R then(r*B.F+f).toNat::iO B i dr k (f+i) (r+dr)else[]):=h
   split at h
   .rename_i hc
    rcases a8.mp h with rfl | h
    .exact(Dg hB hc).1
    .exact j _ _ _ h
   .cases h
 unfold ray bW tJ at h
 exact key _ _ _ _ _ _ (by simpa using h)
section
variable{W:Wd}{n:Nat}{σ:Hp}{A:Nat->Addr}{B:Bd}{P:Ps}{τ:Hp}
theorem G9(h:s<32):(Builtin.bitAnd ((mk f).fdiv (2^((s:Nat):Int).toNat)) 1 != 0)=f s:=by
 rw[a9,xw h]
 cases f s<;>rfl
theorem r0(G:GF W)(hA:bV A)(hB:B.Ok)(D:1<=n)(H:a<B.N)(hb:b<B.N):Pure W n jj [.ref (A 6),.int a,.int b] (wr A B P τ) (.int (Ng (zv B a b))):=by
 refine cu.body G xC rfl D ?_
 unfold rN
 have I:=hB.cm
 refine AWS.fi b0.none ?_
 ext
 refine⟨_,rfl,bA (List.range 8),λZ=>[some (.ref (A 6)),some (.int a),some (.int b),none,none],λZ=>wr A B P τ,λi=>∀d,d<i->ray B d a b=false,λZ h=>by lia,λZ Z=>cN (k:=8) (by omega),cN (k:=8) (by omega),
  ⟨rfl,rfl,rfl,trivial⟩,.refl _,λj=>?_,λi x hi j hx=>?_⟩
 .ext
  refine⟨ae AV.int ?_,.refl _⟩
  unfold zv
  have j:∀d,d<8->ray B d a b=false:=j
  rw[k6 j];rfl
 .obtain⟨s,e1,rfl⟩:=bX hx
  obtain⟨rfl,y⟩:=dq e1
  refine⟨_,rfl,?_⟩
  try dsimp only
  ext
  rw[G9 (by omega)]
  refine AWS.split (λz=>?_) (λz=>?_)
  .ext
   refine⟨ae AV.int ?_,.refl _⟩
   unfold zv
   rw[fK y j z];rfl
  .ext
   refine⟨λd hd=>?_,⟨rfl,rfl,rfl,trivial⟩,.refl _⟩
   rcases ay d s with h | h
   .exact j d h
   .have:d=s:=by lia
    rw[this];exact z
end
def pm:List Nat->Nat
 | []=>0
 | t::r=>2^t ||| pm r
theorem BO(l:List Nat)(i:Nat):(pm l).testBit i=l.contains i:=by
 induction l with
 | nil=>exact Nat.zero_testBit i
 | cons t r j=>
  show(2^t ||| pm r).testBit i=_
  rw[Nat.testBit_or,j,Nat.testBit_two_pow,List.contains_cons]
  exact ae (·||_) (bj.mpr (bk.trans (eq_comm.trans az.symm)))
theorem Ha(h:∀t∈l,t<32):mk (λt=>l.contains t)=((pm l:Nat):Int):=by
 refine(nG λi=>?_).symm
 rw[BO]
 cases e:l.contains i
 .simp
 .simp[h i (by simpa using e)]
def ij(l:List Nat)(occ:Nat->Bool):List Nat:=match l with
 | []=>[]
 | t::r=>if occ t then[t]else t::ij r occ
def i4(B:Bd)(d s:Nat)(occ:Nat->Bool)(t:Nat):Bool:=(ij (bW B d s) occ).contains t
theorem uu:∀t∈ij l occ,t∈l:=by
 induction l with
 | nil=>intro t h;exact h
 | cons a r i=>
  intro t h
  have h:t∈(if occ a=true then[a]else a::ij r occ):=h
  split at h
  .simp at h;subst h;exact .head _
  .rcases a8.mp h with rfl | h
   .exact .head _
   .exact .tail _ (i t h)
def Kh:List Nat->List Bool->List Nat
 | t::r,b::bs=>if b then t::Kh r bs else Kh r bs
 | _,_=>[]
def BP:List Nat->List Bool->List Nat
 | t::r,b::bs=>if b then[t]else t::BP r bs
 | _,_=>[]
theorem Ki(occ:Nat->Bool)(l:List Nat):Kh l (l.map occ)=l.filter occ:=by
 induction l with
 | nil=>rfl
 | cons t r i=>rw[List.filter_cons,<-i];rfl
theorem Em(occ:Nat->Bool)(l:List Nat):BP l (l.map occ)=ij l occ:=by
 induction l with
 | nil=>rfl
 | cons t r i=>
  show _=if occ t=true then[t]else t::ij r occ
  rw[<-i];rfl
def allB:Nat->List (List Bool)
 | 0=>[[]]
 | n+1=>(allB n).flatMap λl=>[true::l,false::l]
theorem Hb(occ:Nat->Bool)(l:List Nat):l.map occ∈allB l.length:=by
 induction l with
 | nil=>exact .head _
 | cons t r i=>
  refine bl.mpr ⟨_,i,?_⟩
  show occ t::r.map occ∈_
  cases occ t<;>simp
def sU(d:Nat):Bool:=decide (0<tI d)||d==1
def LD(S:Nat):Nat:=
 let b:=S >>> 1
 let b:=b ||| b >>> 1
 let b:=b ||| b >>> 2
 let b:=b ||| b >>> 4
 let b:=b ||| b >>> 8
 let b:=b ||| b >>> 16
 b ||| b >>> 32
def Hc(g:Bool)(p:List Nat)(bs:List Bool):Bool:=
 let S:=pm (Kh p bs)
 let R:=pm p
 let X:=pm (BP p bs)
 if S=0 then R==X else if g then(R &&& (S ^^^ (S-1)))==X else(R-(R &&& LD S))==X
theorem Kj(hB:B.Ok):∀d,d<8->∀s,s<B.N->((allB (bW B d s).length).all λbs=>Hc (sU d) (bW B d s) bs)=true:=by
 cases hB<;>decide +kernel
theorem Kk(p:List Nat)(occ:Nat->Bool)(hp:∀t∈p,t<32):Builtin.bitAnd (mk λt=>p.contains t) (mk occ)=((pm (p.filter occ):Nat):Int):=by
 rw[cj,<-Ha λt ht=>hp t (List.mem_filter.mp ht).1]
 refine bP λt Z=>?_
 rw[bj]
 simp[List.mem_filter]
section
variable{W:Wd}{n:Nat}{σ:Hp}{A:Nat->Addr}{B:Bd}{P:Ps}{τ:Hp}
theorem Sp{P:Nat->Prop}(i:P 0)(h1:P 1)(h2:P 2)(h3:P 3)(j:P 4)(y:P 5)(z:P 6)(D:P 7)(d:Nat)(h:d<8):P d:=by
 rcases lt8c h with h | h | h | h | h | h | h | h<;>(rw[h];assumption)
theorem En{d:Nat}(hd:d<8):cw σ (s7 gi 1) (.int (d:Int))=some (.int (tI d)):=
 Sp (P:=λd=>cw σ (s7 gi 1) (.int (d:Int))=some (.int (tI d))) rfl rfl rfl rfl rfl rfl rfl rfl d hd
theorem xX(G:GF W)(i:1<=n){d:Nat}(hd:d<8):Pure W n gc [.int d] σ (.bool (sU d)):=by
 refine cu.body G vl rfl i ?_
 unfold kB
 ext
 refine⟨_,En hd,?_⟩
 ext
 refine bE (λh=>?_) (λh=>?_)
 .refine⟨ae AV.bool ?_,.refl _⟩
  unfold sU;rw[show decide (0<tI d)=true from h];rfl
 .ext
  refine⟨ae AV.bool ?_,.refl _⟩
  have h:decide (0<tI d)=false:=h
  unfold sU;rw[h,Bool.false_or,bj];simp;lia
theorem PM(d:Nat):Builtin.bitXor (d:Int) 2=((d ^^^ 2:Nat):Int):=ox d 2
theorem wu(G:GF W)(hA:bV A)(hB:B.Ok)(j:2<=n)(i:a<B.N)(hb:b<B.N):Pure W n mD [.ref (A 6),.int a,.int b] (wr A B P τ) (.int (mk (lj B a b))):=by
 refine cu.body G Bz rfl (by omega) ?_
 unfold wo
 ext
 refine cu.m (r0 G hA hB (by omega) i hb) ?_
 ext
 cases e:zv B a b with
 | none=>
  try refine AWS.ifT rfl ?_
  ext
  refine⟨ae AV.int ?_,.refl _⟩
  rw[<-cV];unfold lj;rw[e]
 | some d=>
  have hd:d<8:=aN.mp (List.mem_of_find?_eq_some e)
  have hx:d ^^^ 2<8:=Nat.xor_lt_two_pow (n:=3) hd (by decide)
  refine AWS.ifF (decide_eq_false (show ¬((d:Int)<0)by lia)) ?_
  unfold Ng
  ext
  rw[PM]
  ext
  refine⟨ae AV.int ?_,.refl _⟩
  rw[cj];unfold lj;rw[e]
theorem jr(h:s<32):(1:Int)*2^((s:Nat):Int).toNat=mk λt=>t==s:=by rw[Int.one_mul,a9,xv h]
theorem Ni(G:GF W)(hA:bV A)(hB:B.Ok)(j:2<=n)(i:a<B.N)(hb:b<B.N):Pure W n Bu [.ref (A 6),.int a,.int b] (wr A B P τ) (.int (mk (lV B a b))):=by
 refine cu.body G JO rfl (by omega) ?_
 unfold Gy
 have y:=hB.cm
 ext
 refine cu.m (r0 G hA hB (by omega) i hb) ?_
 ext
 cases e:zv B a b with
 | none=>
  try refine AWS.ifT rfl ?_
  ext
  refine⟨ae AV.int ?_,.refl _⟩
  rw[<-cV];unfold lV;rw[e]
 | some d=>
  have hd:d<8:=aN.mp (List.mem_of_find?_eq_some e)
  have hx:d ^^^ 2<8:=Nat.xor_lt_two_pow (n:=3) hd (by decide)
  refine AWS.ifF (decide_eq_false (show ¬((d:Int)<0)by omega)) ?_
  unfold Ng
  ext
  rw[PM]
  ext
  refine⟨ae AV.int ?_,.refl _⟩
  rw[jr (by omega),da,da];unfold lV;rw[e]
theorem Eo(G:GF W)(hA:bV A)(hB:B.Ok)(j:3<=n)(i:a<B.N)(hb:b<B.N)(hc:c<B.N):Pure W n qM [.ref (A 6),.int a,.int b,.int c] (wr A B P τ) (.bool (lV B a b c)):=by
 refine cu.body G BA rfl (by omega) ?_
 unfold wq
 have y:=hB.cm
 ext
 refine cu.m (Ni G hA hB (by omega) i hb) ?_
 ext
 refine⟨ae AV.bool ?_,.refl _⟩
 rw[a9,xw (by omega)]
 cases lV B a b c<;>rfl
theorem Dh(hB:B.Ok)(h:t∈bW B d s):t<B.N:=xW hB (d:=d) (s:=s) (by unfold ray;simpa using h)
theorem Di(a:Nat)(k:Nat):(a:Int).fdiv (2^((k:Nat):Int).toNat)=((a >>> k:Nat):Int):=by
 rw[a9,show(2:Int)^k=((2^k:Nat):Int)by simp,ba _ (Int.natCast_nonneg _),Nat.shiftRight_eq_div_pow];rfl
theorem nY(G:GF W)(hA:bV A)(hB:B.Ok)(z:2<=n){d s:Nat}(hd:d<8)(hs:s<B.N):Pure W n gV [.ref (A 6),.int d,.int s,.int (mk occ)] (wr A B P τ) (.int (mk (i4 B d s occ))):=by
 refine cu.body G tP rfl (by omega) ?_
 unfold nK
 have D:=hB.cm
 have hp:∀t∈bW B d s,t<32:=λt ht=>by have:=Dh hB ht;omega
 have i:mk (ray B d s)=((pm (bW B d s):Nat):Int):=Ha hp
 have j:mk (i4 B d s occ)=((pm (ij (bW B d s) occ):Nat):Int):=Ha λt ht=>hp t (uu t ht)
 have y:Builtin.bitAnd (mk (ray B d s)) (mk occ)=((pm ((bW B d s).filter occ):Nat):Int):=Kk _ occ hp
 have hk:=aM.mp (Kj hB d hd s hs) _ (Hb occ (bW B d s))
 unfold Hc at hk
 rw[Ki,Em]at hk
 rw[j]
 generalize pm (ij (bW B d s) occ)=X at*
 ext
 rw[y]
 generalize pm ((bW B d s).filter occ)=S at*
 rw[i]
 generalize pm (bW B d s)=R at*
 try dsimp only at hk
 refine AWS.split (λh=>?_) (λh=>?_)
 .have h:S=0:=by have:=az.mp h;lia
  rw[ag h]at hk
  ext
  exact⟨ae AV.int (by rw[az.mp hk]),.refl _⟩
 .have h:¬S=0:=by have:=aE.mp h;lia
  rw[ah h]at hk
  ext
  refine cu.m (xX G (by omega) hd) ?_
  ext
  refine AWS.split (λh2=>?_) (λh2=>?_)
  .rw[ag h2]at hk
   ext
   refine⟨ae AV.int ?_,.refl _⟩
   rw[show(S:Int)-1=((S-1:Nat):Int)by lia,ox,iN,az.mp hk]
  .rw[ah (by rw[h2];simp)]at hk
   ext
   refine⟨ae AV.int ?_,.refl _⟩
   have e:∀k:Nat,(2:Int)^((k:Nat):Int).toNat=2^k:=λk=>by rw[a9]
   have H:∀(a k:Nat),(a:Int).fdiv (2^(Int.ofNat k).toNat)=((a >>> k:Nat):Int):=Di
   rw[<-az.mp hk,Int.ofNat_sub Nat.and_le_left,<-bitAnd_not]
   congr 2
   unfold LD
   simp only[<-mB,<-Di]
   rfl
end
def dY(B:Bd)(s:Nat)(occ:Nat->Bool)(t:Nat):Bool:=(List.range 4).any λd=>i4 B d s occ t
def ez(B:Bd)(s:Nat)(occ:Nat->Bool)(t:Nat):Bool:=(List.range 4).any λd=>i4 B (4+d) s occ t
def Dj(B:Bd)(k s:Nat)(occ:Nat->Bool)(t:Nat):Bool:=if k=3 then ez B s occ t else if k=4 then dY B s occ t else if k=5 then dY B s occ t||ez B s occ t else false
def gk(B:Bd)(bq k s:Nat)(occ:Nat->Bool)(t:Nat):Bool:=if k=1 then dI B bq s t else if k=2 then dk B s t else if k=6 then gA B s t else Dj B k s occ t
theorem any_succ:(List.range (i+1)).any p=((List.range i).any p||p i):=by rw[List.range_succ,List.any_append];simp
theorem uv(a k:Nat)(i:a<1000)(hk:k<1000)(σ:Hp):bO σ (.c8 (a:Int) ((a+k:Nat):Int) 1)=some (bA ((List.range k).map (a+·))):=by
 unfold bO yQ bA
 try dsimp only
 have h1:((a+k:Nat):Int)<2^40:=ao (aq.mpr (Nat.add_lt_add i hk)) (by decide)
 rw[ag (by lia),ag rfl,List.map_map]
 have:(((a+k:Nat):Int)-(a:Int)).toNat=k:=by rw[Int.natCast_add,Int.add_comm,Int.add_sub_cancel];rfl
 rw[this]
 congr 1
section
variable{W:Wd}{n:Nat}{σ:Hp}{A:Nat->Addr}{B:Bd}{P:Ps}{τ:Hp}
theorem eW(G:GF W)(hA:bV A)(hB:B.Ok)(j:3<=n)(hs:s<B.N):Pure W n cZ [.ref (A 6),.int s,.int (mk occ)] (wr A B P τ) (.int (mk (dY B s occ))):=by
 refine cu.body G si rfl (by omega) ?_
 unfold lI
 ext
 refine AWS.fi b0.none ?_
 ext
 refine⟨_,rfl,bA (List.range 4),λi=>[some (.ref (A 6)),some (.int s),some (.int (mk occ)),some (.int (mk λt=>(List.range i).any λd=>i4 B d s occ t)),none,none,none],λZ=>wr A B P τ,λZ=>True,trivial,
  λZ Z=>cN (k:=4) (by omega),cN (k:=4) (by omega),⟨rfl,rfl,rfl,by rw[<-cV];rfl,trivial⟩,.refl _,λZ=>?_,λi x hi Z hx=>?_⟩
 .try dsimp only
  ext
  exact⟨rfl,.refl _⟩
 .obtain⟨d,e1,rfl⟩:=bX hx
  obtain⟨rfl,hd⟩:=dq e1
  refine⟨_,rfl,?_⟩
  try dsimp only
  ext
  refine cu.m (nY G hA hB (by omega) (by omega) hs) ?_
  ext
  refine⟨trivial,⟨rfl,rfl,rfl,?_,trivial⟩,.refl _⟩
  rw[da]
  simp only[any_succ]
theorem df(G:GF W)(hA:bV A)(hB:B.Ok)(y:3<=n)(hs:s<B.N):Pure W n cv [.ref (A 6),.int s,.int (mk occ)] (wr A B P τ) (.int (mk (ez B s occ))):=by
 refine cu.body G pF rfl (by omega) ?_
 unfold jV
 ext
 refine AWS.fi b0.none ?_
 ext
 refine⟨_,rfl,bA ((List.range 4).map (4+·)),λi=>[some (.ref (A 6)),some (.int s),some (.int (mk occ)),some (.int (mk λt=>(List.range i).any λd=>i4 B (4+d) s occ t)),none,none,none],λZ=>wr A B P τ,λZ=>True,trivial,
  λZ Z=>uv 4 4 (by omega) (by omega) _,uv 4 4 (by omega) (by omega) _,⟨rfl,rfl,rfl,by rw[<-cV];rfl,trivial⟩,.refl _,λZ=>?_,λi x hi Z hx=>?_⟩
 .try dsimp only
  ext
  exact⟨rfl,.refl _⟩
 .obtain⟨d,e1,rfl⟩:=bX hx
  rw[aF]at e1
  cases e2:(List.range 4)[i]? with
  | none=>rw[e2]at e1;cases e1
  | some j=>
   rw[e2]at e1;cases e1
   obtain⟨rfl,hd⟩:=dq e2
   refine⟨_,rfl,?_⟩
   try dsimp only
   ext
   refine cu.m (nY G hA hB (by omega) (by lia) hs) ?_
   ext
   refine⟨trivial,⟨rfl,rfl,rfl,?_,trivial⟩,.refl _⟩
   rw[da]
   simp only[any_succ]
theorem sA(G:GF W)(hA:bV A)(hB:B.Ok)(i:4<=n)(hs:s<B.N):Pure W n ia [.ref (A 6),.int s,.int (mk occ)] (wr A B P τ) (.int (mk λt=>dY B s occ t||ez B s occ t)):=by
 refine cu.body G qP rfl (by omega) ?_
 unfold kR
 ext
 refine cu.m (eW G hA hB (by omega) hs) ?_
 ext
 refine cu.m (df G hA hB (by omega) hs) ?_
 ext
 exact⟨ae AV.int (da _ _),.refl _⟩
theorem qW(G:GF W)(hA:bV A)(hB:B.Ok)(y:5<=n){k s:Nat}(hs:s<B.N):Pure W n gI [.ref (A 6),.int k,.int s,.int (mk occ)] (wr A B P τ) (.int (mk (Dj B k s occ))):=by
 refine cu.body G pG rfl (by omega) ?_
 unfold jW
 ext
 refine AWS.split (λh=>?_) (λh=>?_)
 .have h:k=3:=by have:=az.mp h;lia
  subst h
  ext
  exact df G hA hB (by omega) hs _ _ ⟨rfl,.refl _⟩
 have h3:k≠3:=by have:=aE.mp h;lia
 ext
 refine AWS.split (λh=>?_) (λh=>?_)
 .have h:k=4:=by have:=az.mp h;lia
  subst h
  ext
  exact eW G hA hB (by omega) hs _ _ ⟨rfl,.refl _⟩
 have i:k≠4:=by have:=aE.mp h;lia
 ext
 refine AWS.split (λh=>?_) (λh=>?_)
 .have h:k=5:=by have:=az.mp h;lia
  subst h
  ext
  exact sA G hA hB (by omega) hs _ _ ⟨rfl,.refl _⟩
 have j:k≠5:=by have:=aE.mp h;lia
 ext
 refine⟨ae AV.int ?_,.refl _⟩
 rw[<-cV];unfold Dj;simp[h3,i,j]
theorem sC(G:GF W)(hA:bV A)(hB:B.Ok)(y:6<=n){bq k s:Nat}(hd:bq<2)(hs:s<B.N):Pure W n ib [.ref (A 6),.int bq,.int k,.int s,.int (mk occ)] (wr A B P τ) (.int (mk (gk B bq k s occ))):=by
 refine cu.body G qQ rfl (by omega) ?_
 unfold kT
 ext
 refine AWS.split (λh=>?_) (λh=>?_)
 .have h:k=1:=by have:=az.mp h;lia
  subst h
  ext
  exact⟨rfl,.refl _⟩
 have h3:k≠1:=by have:=aE.mp h;lia
 ext
 refine AWS.split (λh=>?_) (λh=>?_)
 .have h:k=2:=by have:=az.mp h;lia
  subst h
  ext
  exact⟨rfl,.refl _⟩
 have i:k≠2:=by have:=aE.mp h;lia
 ext
 refine AWS.split (λh=>?_) (λh=>?_)
 .have h:k=6:=by have:=az.mp h;lia
  subst h
  ext
  exact⟨rfl,.refl _⟩
 have j:k≠6:=by have:=aE.mp h;lia
 ext
 refine qW G hA hB (by omega) hs _ _ ⟨?_,.refl _⟩
 congr 2
 funext t
 unfold gk;simp[h3,i,j]
end
def zw(f:Nat->Bool):Bool:=decide (1<(gw f).length)
def eR(f:Nat->Bool):Bool:=(List.range 32).any f
theorem r4(n:Nat)(f:Nat->Bool):((List.range (n+1)).filter f).length=(if f 0 then 1 else 0)+((List.range n).filter λs=>f (s+1)).length:=by
 rw[List.range_succ_eq_map,List.filter_cons,List.filter_map]
 have:(f∘Nat.succ)=λs=>f (s+1):=rfl
 rw[this]
 split<;>simp<;>lia
theorem Hd(n:Nat)(f:Nat->Bool):lh n f≠0↔0<((List.range n).filter f).length:=by
 induction n generalizing f with
 | zero=>exact⟨λh=>(h rfl).elim,λh=>(aC 0 h).elim⟩
 | succ n i=>
  have:=i λs=>f (s+1)
  rw[r4]
  show(if f 0=true then 1 else 0)+2*lh n (λs=>f (s+1))≠0↔_
  split<;>lia
theorem Kl(x:Nat):(1+2*x) &&& (1+2*x-1)=2*x:=by
 refine Nat.eq_of_testBit_eq λi=>?_
 rw[Nat.testBit_and,show 1+2*x-1=2*x by lia]
 cases i with
 | zero=>simp[Nat.testBit_zero]
 | succ i=>
  rw[Nat.testBit_succ,Nat.testBit_succ,show(1+2*x)/2=x by lia,show 2*x/2=x by lia];simp
theorem He(h:x≠0):(2*x-1)/2=x-1:=by
 cases x with
 | zero=>exact absurd rfl h
 | succ x=>exact Nat.mul_add_div (by decide) x 1
theorem Hf(x:Nat)(h:x≠0):(2*x) &&& (2*x-1)=2*(x &&& (x-1)):=by
 refine Nat.eq_of_testBit_eq λi=>?_
 rw[Nat.testBit_and]
 cases i with
 | zero=>simp[Nat.testBit_zero]
 | succ i=>
  rw[Nat.testBit_succ,Nat.testBit_succ,Nat.testBit_succ,Nat.mul_div_cancel_left x (by decide),He h,Nat.mul_div_cancel_left _ (by decide),Nat.testBit_and]
theorem PO(m:Nat):2*m≠0↔m≠0:=Nat.mul_ne_zero_iff.trans (and_iff_right (by decide))
theorem Ep(n:Nat)(f:Nat->Bool):(lh n f &&& (lh n f-1))≠0↔1<((List.range n).filter f).length:=by
 induction n generalizing f with
 | zero=>exact⟨λh=>(h (Nat.zero_and _)).elim,λh=>(Nat.not_lt_zero 1 h).elim⟩
 | succ n i=>
  have i:=i λs=>f (s+1)
  have hp:=Hd n λs=>f (s+1)
  rw[r4]
  show(((if f 0=true then 1 else 0)+2*lh n (λs=>f (s+1))) &&& ((if f 0=true then 1 else 0)+2*lh n (λs=>f (s+1))-1))≠0↔_
  split
  .rw[Kl];exact(PO _).trans (hp.trans Nat.lt_add_right_iff_pos.symm)
  .rw[Nat.zero_add,Nat.zero_add]
   by_cases h:lh n (λs=>f (s+1))=0
   .rw[h]at hp ⊢;exact⟨λz=>absurd rfl z,λz=>absurd rfl (hp.mpr (Nat.lt_of_succ_lt z))⟩
   .rw[Hf _ h];exact(PO _).trans i
theorem Km(f:Nat->Bool):(Builtin.bitAnd (mk f) (mk f-1) != 0)=zw f:=by
 have hm:=Ep 32 f
 unfold zw gw
 unfold mk
 generalize lh 32 f=m at*
 rw[bj,bk,<-hm,aP]
 by_cases h:m=0
 .subst h;simp[Builtin.bitAnd]
 .rw[show(m:Int)-1=((m-1:Nat):Int)by lia,iN]
  exact not_congr ⟨Int.ofNat.inj,ae Int.ofNat⟩
theorem dF(f:Nat->Bool):(mk f != 0)=eR f:=by
 rw[bj,aP,Ne,c7]
 unfold eR
 rw[aU]
 constructor
 .intro h
  refine Classical.byContradiction λq=>h λs hs=>?_
  cases e:f s
  .rfl
  .exact absurd ⟨s,aN.mpr hs,e⟩ q
 .rintro⟨s,hs,e⟩ h
  rw[h s (aN.mp hs)]at e;cases e
def ll(c:Nat->Nat)(s:Nat):Bool:=sS c 0 s||sS c 1 s
def fv(c:Nat->Nat)(s:Nat):Bool:=kS c 4 s||kS c 5 s
def oJ(c:Nat->Nat)(s:Nat):Bool:=kS c 3 s||kS c 5 s
def mH(B:Bd)(c:Nat->Nat)(q bq t:Nat):Bool:=(dI B (1-bq) q t&&kS c 1 t)&&sS c bq t
def c5(B:Bd)(c:Nat->Nat)(q bq t:Nat):Bool:=mH B c q bq t||(((dk B q t&&kS c 2 t)||(gA B q t&&kS c 6 t))&&sS c bq t)
def kE(B:Bd)(c:Nat->Nat)(q:Nat)(occ:Nat->Bool)(t:Nat):Bool:=(dY B q occ t&&fv c t)||(ez B q occ t&&oJ c t)
def Hg(B:Bd)(c:Nat->Nat)(q:Nat)(occ:Nat->Bool)(t:Nat):Bool:=(c5 B c q 0 t||c5 B c q 1 t)||kE B c q occ t
def k7(B:Bd)(c:Nat->Nat)(q bq:Nat)(occ:Nat->Bool):Bool:=
 eR (c5 B c q bq)||(eR (λt=>dY B q occ t&&(fv c t&&sS c bq t))||eR (λt=>ez B q occ t&&(oJ c t&&sS c bq t)))
def eM(c:Nat->Nat)(bq k:Nat):Prop:=vz (λs=>sS c bq s&&kS c 6 s) k
section
variable{W:Wd}{n:Nat}{σ:Hp}{A:Nat->Addr}{B:Bd}{P:Ps}{τ:Hp}
theorem ik(G:GF W)(i:1<=n)(f:Nat->Bool):Pure W n ei [.int (mk f)] σ (.bool (zw f)):=by
 refine cu.body G qO rfl (by omega) ?_
 unfold kQ
 ext
 exact⟨ae AV.bool (Km f),.refl _⟩
theorem oK(G:GF W)(hA:bV A)(i:1<=n):Pure W n gJ [.ref (A 0)] (wr A B P τ) (.int (mk (ll P.c))):=by
 refine cu.body G y8 rfl (by omega) ?_
 unfold tR
 ext
 exact⟨ae AV.int (da _ _),.refl _⟩
theorem uw(G:GF W)(hA:bV A)(i:1<=n){bq k:Nat}(hs:bq<2)(hk:k<7):Pure W n jU [.ref (A 0),.int bq,.int k] (wr A B P τ) (.int (mk λs=>sS P.c bq s&&kS P.c k s)):=by
 refine cu.body G Ee rfl (by omega) ?_
 unfold y9
 ext
 exact⟨ae AV.int (cj _ _),.refl _⟩
theorem eE(G:GF W)(hA:bV A)(i:3<=n)(hs:bq<2)(hk:eM P.c bq k):Pure W n dc [.ref (A 0),.int bq] (wr A B P τ) (.int k):=by
 refine cu.body G tS rfl (by omega) ?_
 unfold nM
 ext
 rw[cj]
 ext
 exact zu G (by omega) hk _ _ ⟨rfl,.refl _⟩
theorem fO(G:GF W)(hA:bV A)(i:1<=n):Pure W n di [.ref (A 0)] (wr A B P τ) (.int (mk (fv P.c))):=by
 refine cu.body G nr rfl (by omega) ?_
 unfold iX
 ext
 exact⟨ae AV.int (da _ _),.refl _⟩
theorem d7(G:GF W)(hA:bV A)(i:1<=n):Pure W n cQ [.ref (A 0)] (wr A B P τ) (.int (mk (oJ P.c))):=by
 refine cu.body G nv rfl (by omega) ?_
 unfold iY
 ext
 exact⟨ae AV.int (da _ _),.refl _⟩
theorem qX(G:GF W)(hA:bV A)(hB:B.Ok)(i:1<=n){q bq:Nat}(hs:bq<2)(j:q<B.N):Pure W n gK [.ref (A 0),.int q,.int bq] (wr A B P τ) (.int (mk (mH B P.c q bq))):=by
 refine cu.body G pI rfl (by omega) ?_
 unfold jX
 ext
 rw[show(1:Int)-(bq:Int)=((1-bq:Nat):Int)by omega]
 ext
 rw[cj]
 ext
 exact⟨ae AV.int (cj _ _),.refl _⟩
theorem gS(G:GF W)(hA:bV A)(hB:B.Ok)(j:2<=n){q bq:Nat}(hs:bq<2)(i:q<B.N):Pure W n dT [.ref (A 0),.int q,.int bq] (wr A B P τ) (.int (mk (c5 B P.c q bq))):=by
 refine cu.body G pJ rfl (by omega) ?_
 unfold jY
 ext
 refine cu.m (qX G hA hB (by omega) hs i) ?_
 ext
 refine⟨ae AV.int ?_,.refl _⟩
 rw[cj,cj,da,cj,da];rfl
theorem qY(G:GF W)(hA:bV A)(hB:B.Ok)(y:4<=n)(i:q<B.N):Pure W n gL [.ref (A 0),.int q,.int (mk occ)] (wr A B P τ) (.int (mk (kE B P.c q occ))):=by
 refine cu.body G pK rfl (by omega) ?_
 unfold jZ
 have z:∀f g:Nat->Bool,eR g=false->mk (λt=>f t&&g t)=0:=λf g h=>by
  rw[<-dF,bo,c7]at h
  rw[c7];intro s hs;rw[h s hs];simp
 ext
 refine cu.m (fO G hA (by omega)) ?_
 ext
 rw[dF]
 refine AWS.split (λh1=>?_) (λh1=>?_)
 .ext
  refine cu.m (eW G hA hB (by omega) i) ?_
  ext
  refine cu.m (d7 G hA (by omega)) ?_
  ext
  rw[dF]
  refine AWS.split (λh=>?_) (λh2=>?_)
  .ext
   refine cu.m (df G hA hB (by omega) i) ?_
   ext
   refine⟨ae AV.int ?_,.refl _⟩
   rw[cj,cj,<-cV,da,da]
   refine bP λt Z=>?_
   unfold kE;rw[Bool.false_or]
  .ext
   refine⟨ae AV.int ?_,.refl _⟩
   rw[cj,<-cV,da]
   refine bP λt ht=>?_
   have:=c7.mp (z (ez B q occ) _ h2) t ht
   unfold kE;rw[this,Bool.false_or,Bool.or_false]
 .ext
  refine cu.m (d7 G hA (by omega)) ?_
  ext
  rw[dF]
  refine AWS.split (λh=>?_) (λh2=>?_)
  .ext
   refine cu.m (df G hA hB (by omega) i) ?_
   ext
   refine⟨ae AV.int ?_,.refl _⟩
   rw[cj,<-cV,da]
   refine bP λt ht=>?_
   have:=c7.mp (z (dY B q occ) _ h1) t ht
   unfold kE;rw[this]
  .ext
   refine⟨ae AV.int ?_,.refl _⟩
   rw[<-cV]
   refine bP λt ht=>?_
   have h3:=c7.mp (z (dY B q occ) _ h1) t ht
   have j:=c7.mp (z (ez B q occ) _ h2) t ht
   unfold kE;rw[h3,j];rfl
theorem ux(G:GF W)(hA:bV A)(hB:B.Ok)(j:5<=n)(i:q<B.N):Pure W n iP [.ref (A 0),.int q,.int (mk occ)] (wr A B P τ) (.int (mk (Hg B P.c q occ))):=by
 refine cu.body G sj rfl (by omega) ?_
 unfold lJ
 ext
 refine cu.m (gS G hA hB (by omega) (bq:=0) (by omega) i) ?_
 ext
 refine cu.m (gS G hA hB (by omega) (bq:=1) (by omega) i) ?_
 ext
 refine cu.m (qY G hA hB (by omega) i) ?_
 ext
 refine⟨ae AV.int ?_,.refl _⟩
 rw[da,da];rfl
theorem nZ(G:GF W)(hA:bV A)(hB:B.Ok)(y:5<=n){q bq:Nat}(hs:bq<2)(j:q<B.N):Pure W n dD [.ref (A 0),.int q,.int bq,.int (mk occ)] (wr A B P τ) (.bool (k7 B P.c q bq occ)):=by
 refine cu.body G tT rfl (by omega) ?_
 unfold nN
 have z:∀f g:Nat->Bool,eR g=false->eR (λt=>f t&&g t)=false:=λf g h=>by
  unfold eR at h ⊢
  rw[List.any_eq_false]at h ⊢
  intro s hs;have:=h s hs;simp only[Bool.not_eq_true]at this;rw[this];simp
 have Er:∀L:List (Option AV),eR (c5 B P.c q bq)=false->eR (λt=>dY B q occ t&&(fv P.c t&&sS P.c bq t))=false->AWS W (n-1)
   (.bL 7 (.bx .BitAnd (.call cQ (.cons (.var 0) .nil)) (.var 5))
    (.ret (.and (.bM .NotEq (.var 7) (.int 0)) (.bM .NotEq (.bx .BitAnd (.call cv (.cons (.var 4) (.cons (.var 1) (.cons (.var 3) .nil)))) (.var 7)) (.int 0)))))
   (some (.ref (A 0))::some (.int q)::some (.int bq)::some (.int (mk occ))::some (.ref (A 6))::some (.int (mk (sS P.c bq)))::some (.int (mk λt=>fv P.c t&&sS P.c bq t))::none::L) (wr A B P τ)
   (λo Z i=>Fin (.bool (k7 B P.c q bq occ)) (wr A B P τ) o i) (λZ=>b7):=by
  intro L h1 h2
  ext
  refine cu.m (d7 G hA (by omega)) ?_
  ext
  rw[cj,dF]
  refine bE (λh=>?_) (λh=>?_)
  .ext
   refine cu.m (df G hA hB (by omega) j) ?_
   ext
   refine⟨ae AV.bool ?_,.refl _⟩
   rw[cj,dF]
   unfold k7;rw[h1,h2];rfl
  .refine⟨ae AV.bool ?_,.refl _⟩
   unfold k7;rw[h,h1,h2,z _ _ h];rfl
 ext
 refine cu.m (gS G hA hB (by omega) hs j) ?_
 ext
 rw[dF]
 refine AWS.split (λh=>?_) (λh=>?_)
 .ext
  refine⟨ae AV.bool ?_,.refl _⟩
  unfold k7;rw[h];rfl
 ext
 refine cu.m (fO G hA (by omega)) ?_
 ext
 rw[cj,dF]
 refine bE (λh1=>?_) (λh1=>?_)
 .ext
  refine cu.m (eW G hA hB (by omega) j) ?_
  ext
  rw[cj,dF]
  refine AWS.split (λh2=>?_) (λh2=>?_)
  .ext
   refine⟨ae AV.bool ?_,.refl _⟩
   unfold k7;rw[h2];simp
  .refine AWS.skip ?_
   exact Er _ h h2
 .refine AWS.ifF rfl ?_
  refine AWS.skip ?_
  exact Er _ h (z _ _ h1)
def il(B:Bd)(c:Nat->Nat)(bq k t:Nat):Bool:=Hg B c k (ll c) t&&sS c (1-bq) t
def hK(B:Bd)(c:Nat->Nat)(bq k:Nat):Bool:=k7 B c k (1-bq) (ll c)
theorem one_sub{bq:Nat}(hs:bq<2):(1:Int)-(bq:Int)=((1-bq:Nat):Int):=(by decide:∀s:Nat,s<2->(1:Int)-(s:Int)=((1-s:Nat):Int)) bq hs
theorem Kn(hs:bq<2):(1:Int)-((1-bq:Nat):Int)=(bq:Int):=(by decide:∀s:Nat,s<2->(1:Int)-((1-s:Nat):Int)=(s:Int)) bq hs
theorem vA(G:GF W)(hA:bV A)(hB:B.Ok)(j:6<=n)(hs:bq<2)(hk:eM P.c bq k)(i:k<B.N):Pure W n jA [.ref (A 0),.int bq] (wr A B P τ) (.int (mk (il B P.c bq k))):=by
 refine cu.body G tU rfl (by omega) ?_
 unfold nO
 ext
 rw[da]
 refine cu.m (eE G hA (by omega) hs hk) ?_
 ext
 refine cu.m (ux G hA hB (by omega) i) ?_
 ext
 rw[one_sub hs]
 ext
 refine⟨ae AV.int ?_,.refl _⟩
 rw[cj];rfl
theorem BQ(G:GF W)(hA:bV A)(hB:B.Ok)(j:7<=n)(hs:P.bq<2)(hk:eM P.c P.bq k)(i:k<B.N):Pure W n oy [.ref (A 0)] (wr A B P τ) (.int (mk (il B P.c P.bq k))):=by
 refine cu.body G za rfl (by omega) ?_
 unfold tV
 ext
 exact vA G hA hB (by omega) hs hk i _ _ ⟨rfl,.refl _⟩
theorem vB(G:GF W)(hA:bV A)(hB:B.Ok)(j:6<=n)(hs:bq<2)(hk:eM P.c bq k)(i:k<B.N):Pure W n jB [.ref (A 0),.int bq] (wr A B P τ) (.bool (hK B P.c bq k)):=by
 refine cu.body G tW rfl (by omega) ?_
 unfold nQ
 ext
 rw[da]
 refine cu.m (eE G hA (by omega) hs hk) ?_
 ext
 rw[one_sub hs]
 exact nZ G hA hB (by omega) (by omega) i _ _ ⟨rfl,.refl _⟩
theorem kF(G:GF W)(hA:bV A)(hB:B.Ok)(j:7<=n)(hs:P.bq<2)(hk:eM P.c P.bq k)(i:k<B.N):Pure W n gM [.ref (A 0)] (wr A B P τ) (.bool (hK B P.c P.bq k)):=by
 refine cu.body G zb rfl (by omega) ?_
 unfold tX
 ext
 exact vB G hA hB (by omega) hs hk i _ _ ⟨rfl,.refl _⟩
end
def j9(B:Bd)(c:Nat->Nat)(bq k t:Nat):Bool:=((dY B k (λZ=>false) t&&fv c t)||(ez B k (λZ=>false) t&&oJ c t))&&sS c (1-bq) t
def uy(B:Bd)(c:Nat->Nat)(bq k t:Nat):Bool:=ll c t != j9 B c bq k t
def AJ(B:Bd)(c:Nat->Nat)(bq k a t:Nat):Bool:=lj B k a t&&uy B c bq k t
def jH(f:Nat->Bool):Bool:=eR f&& !zw f
def uz(B:Bd)(c:Nat->Nat)(bq k:Nat)(l:List Nat)(t:Nat):Bool:=l.any λa=>jH (AJ B c bq k a)&&AJ B c bq k a t
def Hh(B:Bd)(c:Nat->Nat)(bq k:Nat)(l:List Nat)(t:Nat):Bool:=l.any λa=>(jH (AJ B c bq k a)&&eR (λt=>AJ B c bq k a t&&sS c bq t))&&t==a
theorem zx(hB:B.Ok)(h:i4 B d s occ t=true):t<B.N:=by
 unfold i4 at h
 exact Dh hB (uu t (by simpa using h))
theorem uA(hB:B.Ok)(h:dY B s occ t=true):t<B.N:=by
 unfold dY at h
 obtain⟨d,_,e⟩:=aU.mp h
 exact zx hB e
theorem uB(hB:B.Ok)(h:ez B s occ t=true):t<B.N:=by
 unfold ez at h
 obtain⟨d,_,e⟩:=aU.mp h
 exact zx hB e
theorem zy(hB:B.Ok)(h:j9 B c bq k t=true):t<B.N:=by
 unfold j9 at h
 simp only[ax,bp]at h
 rcases h.1 with h | h
 .exact uA hB h.1
 .exact uB hB h.1
theorem take_snoc{α:Type}{l:List α}{x:α}(h:l[i]? =some x):l.take (i+1)=l.take i++[x]:=by rw[List.take_add_one,h];rfl
theorem eG{l:List Nat}(h:l[i]? =some a):(l.take (i+1)).any p=((l.take i).any p||p a):=by
 rw[take_snoc h,List.any_append]
 exact ae (_||·) (Bool.or_false _)
theorem gm(h:dZ (wr A B P τ) a):bO (wr A B P (τ.set a (.list w xs))) (.ref a)=some xs:=by
 unfold bO
 try dsimp only
 rw[bT (bG h).1,br]
theorem cO(h:dZ (wr A B P τ) a):Sub (wr A B P τ) (wr A B P (τ.set a o)):=jz (Sub.set (bG h).2)
section
variable{W:Wd}{n:Nat}{σ:Hp}{A:Nat->Addr}{B:Bd}{P:Ps}{τ:Hp}
theorem Ko(G:GF W)(hA:bV A)(hB:B.Ok)(i:3<=n)(hs:s<B.N):Pure W n cZ [.ref (A 6),.int s,.int 0] (wr A B P τ) (.int (mk (dY B s λZ=>false))):=by
 have:=eW (P:=P) (τ:=τ) (occ:=λZ=>false) G hA hB i hs
 rwa[cV]at this
theorem Es(G:GF W)(hA:bV A)(hB:B.Ok)(i:3<=n)(hs:s<B.N):Pure W n cv [.ref (A 6),.int s,.int 0] (wr A B P τ) (.int (mk (ez B s λZ=>false))):=by
 have:=df (P:=P) (τ:=τ) (occ:=λZ=>false) G hA hB i hs
 rwa[cV]at this
theorem xY(G:GF W)(hA:bV A)(hB:B.Ok)(j:4<=n)(hs:bq<2)(hk:eM P.c bq k)(i:k<B.N):Pure W n kv [.ref (A 0),.int bq] (wr A B P τ) (.int (mk (j9 B P.c bq k))):=by
 refine cu.body G vp rfl (by omega) ?_
 unfold pL
 ext
 refine cu.m (eE G hA (by omega) hs hk) ?_
 ext
 refine cu.m (Ko G hA hB (by omega) i) ?_
 ext
 refine cu.m (fO G hA (by omega)) ?_
 ext
 refine cu.m (Es G hA hB (by omega) i) ?_
 ext
 refine cu.m (d7 G hA (by omega)) ?_
 ext
 rw[one_sub hs]
 ext
 refine⟨ae AV.int ?_,.refl _⟩
 rw[cj,cj,da,cj];rfl
theorem BR(G:GF W)(hA:bV A)(hB:B.Ok)(J:5<=n)(hs:bq<2)(hk:eM P.c bq k)(H:k<B.N):Pure W n oz [.ref (A 0),.int bq] (wr A B P τ)
  (.cn [.int (mk (uz B P.c bq k (gw (j9 B P.c bq k)))),.int (mk (Hh B P.c bq k (gw (j9 B P.c bq k))))]):=by
 refine cu.body G zc rfl (by omega) ?_
 unfold tY
 have L:=hB.cm
 ext
 refine cu.m (eE G hA (by omega) hs hk) ?_
 ext
 refine cu.m (xY G hA hB (by omega) hs hk H) ?_
 ext
 rw[da,qJ]
 refine AWS.fi b0.none ?_
 ext
 refine g6.m (dz G (by omega) (Lo.lt (n:=B.N) (by lia) λs h=>zy hB h)) λa z=>?_
 have hl:∀i x,(gw (j9 B P.c bq k))[i]? =some x->x<B.N:=λi x h=>zy hB (bY.mp (aD h)).2
 generalize I:gw (j9 B P.c bq k)=l at*
 rw[bB (bG z).1]
 refine⟨_,λi=>[some (.ref (A 0)),some (.int bq),some (.int k),some (.int (mk (j9 B P.c bq k))),some (.int (mk (uy B P.c bq k))),some (.int (mk (uz B P.c bq k (l.take i)))),some (.int (mk (Hh B P.c bq k (l.take i)))),
   none,none,none,none,none,none,none,none,none],λZ=>wr A B P (τ.set a (.list true (bA l))),λZ=>True,trivial,λZ Z=>gm z,gm z,
  ⟨rfl,rfl,rfl,rfl,rfl,by rw[<-cV];rfl,by rw[<-cV];rfl,trivial⟩,.refl _,λZ=>?_,λi x hi Z hx=>?_⟩
 .try dsimp only
  ext
  refine⟨oc rfl,?_⟩
  refine⟨?_,cO z⟩
  have:(bA l).length=l.length:=by simp[bA]
  rw[this,aX]
 .obtain⟨s,e1,rfl⟩:=bX hx
  have D:=hl i s e1
  have y:mk (uz B P.c bq k (l.take (i+1)))=mk (λt=>uz B P.c bq k (l.take i) t||(jH (AJ B P.c bq k s)&&AJ B P.c bq k s t)):=by
   refine bP λt Z=>?_;unfold uz;rw[eG e1]
  have j:mk (Hh B P.c bq k (l.take (i+1)))=mk (λt=>Hh B P.c bq k (l.take i) t||((jH (AJ B P.c bq k s)&&eR (λt=>AJ B P.c bq k s t&&sS P.c bq t))&&t==s)):=by
   refine bP λt Z=>?_;unfold Hh;rw[eG e1]
  refine⟨_,rfl,?_⟩
  try dsimp only
  ext
  refine cu.m (wu G hA hB (by omega) H D) ?_
  ext
  rw[cj,dF,show(λt=>lj B k s t&&uy B P.c bq k t)=AJ B P.c bq k s from rfl]
  refine bE (λh1=>?_) (λh1=>?_)
  .ext
   refine cu.m (ik G (by omega) _) ?_
   ext
   refine AWS.split (λh2=>?_) (λh2=>?_)
   .have ho:jH (AJ B P.c bq k s)=true:=by unfold jH;rw[h1,h2];rfl
    rw[ho]at y j
    simp only[Bool.true_and]at y j
    ext
    rw[cj,dF]
    refine AWS.split (λh3=>?_) (λh3=>?_)
    .ext
     refine⟨trivial,⟨rfl,rfl,rfl,rfl,rfl,?_,?_,trivial⟩,.refl _⟩
     .rw[da,y]
     .rw[jr (by omega),da,j]
      simp only[h3,Bool.true_and]
    .ext
     refine⟨trivial,⟨rfl,rfl,rfl,rfl,rfl,?_,?_,trivial⟩,.refl _⟩
     .rw[da,y]
     .rw[j]
      simp only[h3,Bool.false_and,Bool.or_false]
   .have ho:jH (AJ B P.c bq k s)=false:=by unfold jH;rw[h2];simp
    rw[ho]at y j
    simp only[Bool.false_and,Bool.or_false]at y j
    ext
    exact⟨trivial,⟨rfl,rfl,rfl,rfl,rfl,by rw[y],by rw[j],trivial⟩,.refl _⟩
  .have ho:jH (AJ B P.c bq k s)=false:=by unfold jH;rw[h1];rfl
   rw[ho]at y j
   simp only[Bool.false_and,Bool.or_false]at y j
   try refine AWS.ifF rfl ?_
   ext
   exact⟨trivial,⟨rfl,rfl,rfl,rfl,rfl,by rw[y],by rw[j],trivial⟩,.refl _⟩
def gn(B:Bd)(c:Nat->Nat)(bq k t:Nat):Bool:=uz B c bq k (gw (j9 B c bq k)) t&&sS c bq t
theorem k8(G:GF W)(hA:bV A)(hB:B.Ok)(j:6<=n)(hs:bq<2)(hk:eM P.c bq k)(i:k<B.N):Pure W n eu [.ref (A 0),.int bq] (wr A B P τ) (.int (mk (gn B P.c bq k))):=by
 refine cu.body G qR rfl (by omega) ?_
 unfold kU
 ext
 refine cu.m (BR G hA hB (by omega) hs hk i) ?_
 ext
 refine⟨_,rfl,?_⟩
 ext
 refine⟨ae AV.int ?_,.refl _⟩
 rw[cj];rfl
end
theorem mI(f:Nat->Bool):(gw f).length<=32:=by
 unfold gw
 have:=List.length_filter_le f (List.range 32)
 simpa using this
theorem hO(l m:List Nat):bA (l++m)=bA l++bA m:=by unfold bA;rw[List.map_append]
theorem bR(l:List Nat):(bA l).length=l.length:=by unfold bA;simp
theorem Et{g:Nat->List Nat}{l:List Nat}(h:l[i]? =some x):(l.take (i+1)).flatMap g=(l.take i).flatMap g++g x:=by
 rw[take_snoc h,List.flatMap_append]
 exact ae (_++·) (aZ (g x))
theorem vC{g:Nat->List Nat}(l:List Nat)(i:Nat):((l.take i).flatMap g).length<=(l.flatMap g).length:=
 ai (Nat.le_add_right _ ((l.drop i).flatMap g).length) (aw (by rw[<-bh,<-List.flatMap_append,List.take_append_drop]))
theorem i5{α:Type}{g:α->List Nat}(l:List α)(h:∀x∈l,(g x).length<=b):(l.flatMap g).length<=l.length*b:=by
 induction l with
 | nil=>exact Nat.zero_le _
 | cons y r i=>
  show(g y++r.flatMap g).length<=(r.length+1)*b
  rw[bh,Nat.succ_mul,Nat.add_comm]
  exact Nat.add_le_add (i λx hx=>h x (.tail _ hx)) (h y (.head _))
section
variable{W:Wd}{n:Nat}{σ:Hp}{A:Nat->Addr}{B:Bd}{P:Ps}{τ:Hp}{ρ:Loc}
theorem Hi(h:τ a=none):Sub (τ.set o X) ((τ.set a Y).set o X):=by
 intro b x e
 unfold Hp.set at e ⊢
 split
 .rename_i hb;rw[ag hb]at e;exact e
 .rename_i hb
  rw[ah hb]at e
  rw[ah]
  .exact e
  .rintro rfl;rw[h]at e;cases e
@[reducible]def oq(N:Loc->Hp->Prop)(o:f6)(ρ:Loc)(σ:Hp):Prop:=match o with
 | .next=>N ρ σ
 | .cont=>N ρ σ
 | _=>False
inductive FO(W:Wd)(n:Nat)(A:Nat->Addr)(B:Bd)(P:Ps)(τ:Hp)(j o:Nat)(b k:CS)(L:Loc)(Q:f6->Loc->Hp->Prop)(E:Cx->Value->Shared->Prop)(M:Nat)(l:List Nat)(g:Nat->List Nat)(ms:List Nat)(ρ:Loc)(v:AV)(i:Hp):Prop
 | mk (a:Addr):v=.ref a->dZ (wr A B P τ) a->i=wr A B P (τ.set a (.list true (bA l)))->bJ L ρ->AWS W n k L (wr A B P (τ.set o (.list true (bA (ms++l.flatMap g))))) Q E->
   (∀x∈l,∀g7 y,g7 o=some (.list true (bA y))->y.length<=M->TG W n [j] b L (.int (x:Nat)) (wr A B P g7) (oq λρ' bw=>bJ L ρ'/\Sub (wr A B P (g7.set o (.list true (bA (y++g x))))) bw) E)->FO W n A B P τ j o b k L Q E M l g ms ρ v i
theorem AWS.ip{M:Nat}{j o:Nat}{it:CE}{b k:CS}{L:Loc}{Q:f6->Loc->Hp->Prop}{E:Cx->Value->Shared->Prop}(N:b0 W n E)(ho:fL A o=none){l:List Nat}{g:Nat->List Nat}{ms:List Nat}(D:τ o=some (.list true (bA ms)))
  (hb:ms.length+(l.flatMap g).length<=M)
  (h:AWE W n it ρ σ (FO W n A B P τ j o b k L Q E M l g ms ρ) b7):AWS W n (.cb [j] it b k) ρ σ Q E:=by
 refine AWS.fi N (AWE.bK h λv J h=>?_)
 obtain⟨a,e1,O,e2,Y,hk,U⟩:=h
 subst e1 e2
 have y:=(bG O).2
 have G:a≠o:=by rintro rfl;rw[D]at y;cases y
 have V:∀X:AO,bO (wr A B P ((τ.set a (.list true (bA l))).set o X)) (.ref a)=some (bA l):=by
  intro X
  unfold bO;dsimp only
  rw[bT (bG O).1,ct G,br]
 refine⟨bA l,λZ=>L,λi=>wr A B P ((τ.set a (.list true (bA l))).set o (.list true (bA (ms++(l.take i).flatMap g)))),λZ=>True,trivial,λi Z=>V _,gm O,Y,?_,λZ=>?_,λi x hi Z hx=>?_⟩
 .refine jz ?_
  intro b x e
  unfold Hp.set at e ⊢
  split at e
  .rename_i hb;subst hb
   rw[ah (Ne.symm G),D]
   simpa using e
  .exact e
 .rw[bR]
  try dsimp only
  rw[aX]
  exact AWS.loose (bJ.refl _) (jz (Hi y)) hk
 .obtain⟨s,e1,rfl⟩:=bX hx
  have H:(ms++(l.take i).flatMap g).length<=M:=by
   have:=vC (g:=g) l i
   rw[bh];lia
  obtain⟨z,t1,t2⟩:=U s (aD e1) _ _ br H
  refine⟨z,t1,AWS.bK t2 λo' ρ' bw q=>?_⟩
  have I:bJ L ρ'/\Sub (wr A B P ((((τ.set a (.list true (bA l))).set o (.list true (bA (ms++(l.take i).flatMap g))))).set o (.list true (bA (ms++(l.take i).flatMap g++g s))))) bw->
    True/\bJ L ρ'/\Sub (wr A B P ((τ.set a (.list true (bA l))).set o (.list true (bA (ms++(l.take (i+1)).flatMap g))))) bw:=by
   rintro⟨h1,h2⟩
   rw[set_set]at h2
   rw[Et e1,<-List.append_assoc]
   exact⟨trivial,h1,h2⟩
  cases o'
  case next=>exact I q
  case cont=>exact I q
  all_goals exact q.elim
theorem lW(ho:fL A o=none)(i:τ o=some (.list true (bA ms)))(h:k (.ref o::r) ρ (wr A B P τ)):KLat (wr A B P τ) (.ref o) r ρ k:=
 ⟨o,bA ms,cB ((bT ho).trans i),h⟩
theorem lX(ho:fL A o=none):(wr A B P τ).set o (.list true (bA ms++[.int (m:Nat)]))=wr A B P (τ.set o (.list true (bA (ms++[m])))):=by
 rw[bB ho,hO];rfl
theorem js(h:ms.length<=90000):(bA ms).length<=100000:=by rw[bR];omega
def kG(o:Nat)(l:List Nat):List Nat:=l.flatMap λt=>[cy o t 0 0]
theorem uC(o:Nat)(l:List Nat):(kG o l).length<=l.length:=by
 have:=i5 (g:=λt=>[cy o t 0 0]) (b:=1) l λx Z=>by simp
 unfold kG;lia
theorem zz(G:GF W)(hB:B.Ok)(H:2<=n){o or:Nat}{f:Nat->Bool}(ho:fL A o=none)(i:τ o=some (.list true (bA ms)))(hm:ms.length<=80000)(z:or<B.N)(hf:∀t,f t=true->t<B.N):
  cu W n lD [.int or,.int (mk f),.ref o] (wr A B P τ) .none (wr A B P (τ.set o (.list true (bA (ms++kG or (gw f)))))):=by
 refine cu.body G xE rfl (by omega) ?_
 unfold rP
 have I:=hB.cm
 have hl:=mI f
 ext
 refine AWS.ip (M:=90000) (B:=B) (P:=P) (L:=[some (.int or),some (.int (mk f)),some (.ref o),none,none,none,none,none]) (l:=gw f) (g:=λt=>[cy or t 0 0]) b0.none ho i ?_ ?_
 .have:=uC or (gw f);unfold kG at this;lia
 ext
 refine dz G (by omega) (Lo.lt (n:=B.N) (by lia) hf) _ _ λa y=>?_
 refine⟨a,rfl,y,bB (bG y).1,⟨rfl,rfl,rfl,trivial⟩,?_,λx hx g7 j h1 h2=>⟨_,rfl,?_⟩⟩
 .ext
  exact⟨rfl,.refl _⟩
 .have D:=hf x (bY.mp hx).2
  ext
  refine lW ho h1 ?_
  ext
  refine hG G (by omega) or x 0 0 (by omega) (by omega) (by omega) (by lia) _ _ ?_
  refine⟨bA j,(bT ho).trans h1,js h2,trivial,?_⟩
  rw[lX ho]
  ext
  exact⟨⟨rfl,rfl,rfl,trivial⟩,.refl _⟩
end
structure Ps.Ok(B:Bd)(P:Ps):Prop where
 eS:∀s,P.c s≠0->s<B.N
 bq:P.bq<2
theorem PQ(h:kS c k s=true):c s≠0:=by
 unfold kS at h;simp at h;exact h.1
theorem PR(h:sS c k s=true):c s≠0:=by
 unfold sS at h;simp at h;exact h.1
theorem wx{P:Ps}(i:P.Ok B)(h:sS P.c k s=true):s<B.N:=i.eS s (PR h)
theorem uD{B:Bd}(hB:B.Ok)(h:∀s,f s=true->s<B.N):Lo f:=Lo.lt (n:=B.N) (by have:=hB.cm;lia) h
def iA(c:Nat->Nat)(bq k s:Nat):Bool:=sS c bq s&&kS c k s
theorem gp{P:Ps}(i:P.Ok B)(h:iA P.c bq k s=true):s<B.N:=by
 unfold iA at h;rw[ax]at h;exact wx i h.1
def eX(B:Bd)(c:Nat->Nat)(bq k:Nat)(i:Nat->Bool):List Nat:=(gw (iA c bq k)).flatMap λo=>kG o (gw λt=>gk B bq k o (ll c) t&&i t)
theorem oM(B:Bd)(c:Nat->Nat)(bq k:Nat)(i:Nat->Bool):(eX B c bq k i).length<=1024:=by
 have:=i5 (g:=λo=>kG o (gw λt=>gk B bq k o (ll c) t&&i t)) (b:=32) (gw (iA c bq k)) λx Z=>ai (uC _ _) (mI _)
 have:=mI (iA c bq k)
 unfold eX;lia
def dn(B:Bd)(c:Nat->Nat)(bq i t:Nat):Bool:=if i=0 then sS c (1-bq) t else if i=1 then decide (t<B.N)&& !ll c t else decide (t<B.N)&& !sS c bq t
def ka(B:Bd)(bq:Nat)(f:Nat->Bool)(t:Nat):Bool:=if bq=0 then(decide (B.F<=t)&&f (t-B.F))&&decide (t<B.N)else f (t+B.F)
def c6(B:Bd)(bq s:Nat):Bool:=decide (s<B.N)&&s/B.F==(if bq=0 then B.R-1 else 0)
def ny(B:Bd)(bq i:Nat)(f:Nat->Bool)(t:Nat):Bool:=
 if i=0 then decide (1<=t)&&ka B bq (λs=>f s&& !(decide (s<B.N)&&s % B.F==B.F-1)) (t-1)else ka B bq (λs=>f s&& !(decide (s<B.N)&&s % B.F==0)) (t+1)
def gq(B:Bd)(c:Nat->Nat)(bq t:Nat):Bool:=ka B bq (iA c bq 1) t&&(decide (t<B.N)&& !ll c t)
section
variable{W:Wd}{n:Nat}{σ:Hp}{A:Nat->Addr}{B:Bd}{P:Ps}{τ:Hp}{ρ:Loc}
theorem zO{f:Nat->Bool}(h:∀s,f s=true->s<B.N):∀t,ka B bq f t=true->t<B.N:=by
 intro t ht
 unfold ka at ht
 split at ht
 .simp at ht;exact ht.2
 .have:=h _ ht;lia
theorem gr(G:GF W)(hA:bV A)(hB:B.Ok)(j:P.Ok B)(H:7<=n){o k:Nat}{f:Nat->Bool}(ho:fL A o=none)(y:τ o=some (.list true (bA ms)))(hm:ms.length<=70000)(hk:k<7)(hf:∀t,f t=true->t<B.N):
  cu W n cK [.ref (A 0),.int k,.int (mk f),.ref o] (wr A B P τ) .none (wr A B P (τ.set o (.list true (bA (ms++eX B P.c P.bq k f))))):=by
 refine cu.body G oB rfl (by omega) ?_
 unfold jl
 have I:=hB.cm
 have hs:=j.bq
 ext
 refine oK G hA (by omega) _ _ ?_
 ext
 refine AWS.ip (M:=80000) (B:=B) (P:=P) (L:=[some (.ref (A 0)),some (.int k),some (.int (mk f)),some (.ref o),some (.int (mk (ll P.c))),none,none,none,none,none,none,none]) (l:=gw (iA P.c P.bq k))
  (g:=λx=>kG x (gw λt=>gk B P.bq k x (ll P.c) t&&f t)) b0.none ho y ?_ ?_
 .have:=oM B P.c P.bq k f;unfold eX at this;omega
 ext
 refine uw G hA (by omega) hs hk _ _ ?_
 ext
 refine dz G (by omega) (uD hB λs h=>gp j h) _ _ λa z=>?_
 refine⟨a,rfl,z,bB (bG z).1,⟨rfl,rfl,rfl,rfl,rfl,trivial⟩,?_,λx hx g7 D h1 h2=>⟨_,rfl,?_⟩⟩
 .ext
  exact⟨rfl,.refl _⟩
 .have i:=gp j (bY.mp hx).2
  ext
  refine sC G hA hB (by omega) hs i _ _ ?_
  ext
  rw[cj]
  ext
  refine zz G hB (by omega) ho h1 h2 i (λt ht=>?_) _ _ ⟨trivial,?_⟩
  .rw[ax]at ht;exact hf t ht.2
  ext
  exact⟨⟨rfl,rfl,rfl,rfl,rfl,trivial⟩,.refl _⟩
theorem uE(G:GF W)(hA:bV A)(i:P.Ok B)(z:2<=n){st:Nat}(j:st<3):Pure W n iQ [.ref (A 0),.int st] (wr A B P τ) (.int (mk (dn B P.c P.bq st))):=by
 refine cu.body G sm rfl (by omega) ?_
 unfold lL
 have hs:=i.bq
 ext
 refine AWS.split (λh=>?_) (λh=>?_)
 .have h:st=0:=by have:=az.mp h;lia
  subst h
  ext
  rw[one_sub hs]
  ext
  exact⟨rfl,.refl _⟩
 have y:st≠0:=by have:=aE.mp h;lia
 ext
 refine AWS.split (λh=>?_) (λh=>?_)
 .have h:st=1:=by have:=az.mp h;lia
  subst h
  ext
  refine oK G hA (by omega) _ _ ?_
  ext
  exact⟨ae AV.int (gG _ _),.refl _⟩
 have h1:st≠1:=by have:=aE.mp h;omega
 ext
 refine⟨ae AV.int ?_,.refl _⟩
 rw[gG]
 refine bP λt Z=>?_
 unfold dn;rw[ah y,ah h1]
theorem lY(G:GF W)(hA:bV A)(i:1<=n){bq:Nat}(hs:bq<2):Pure W n g8 [.ref (A 6),.int bq] (wr A B P τ) (.int (if bq=0 then(B.F:Int)else -(B.F:Int))):=by
 refine cu.body G xF rfl (by omega) ?_
 unfold rQ
 ext
 refine AWS.split (λh=>?_) (λh=>?_)
 .have h:bq=0:=by have:=az.mp h;lia
  ext
  exact⟨by rw[ag h],.refl _⟩
 .have h:bq≠0:=by have:=aE.mp h;omega
  ext
  exact⟨by rw[ah h],.refl _⟩
theorem lZ(G:GF W)(hA:bV A)(hB:B.Ok)(i:1<=n){bq:Nat}(hs:bq<2):Pure W n g9 [.ref (A 6),.int bq] (wr A B P τ) (.int (mk (c6 B bq))):=by
 refine cu.body G xG rfl (by omega) ?_
 unfold rR
 have j:=hB.cm
 ext
 refine AWS.split (λh=>?_) (λh=>?_)
 .have h:bq=0:=by have:=az.mp h;lia
  ext
  rw[show(B.R:Int)-1=((B.R-1:Nat):Int)by lia]
  ext
  refine⟨ae AV.int (bP λt Z=>?_),.refl _⟩
  unfold c6;rw[ag h]
 .have h:bq≠0:=by have:=aE.mp h;lia
  ext
  refine⟨ae AV.int (bP λt Z=>?_),.refl _⟩
  unfold c6;rw[ah h]
theorem zQ(f:Nat->Bool):-(2^64)<mk f/\mk f<2^64:=by
 have h1:=D8 f
 have h2:=O7 f
 omega
theorem kH(G:GF W)(hA:bV A)(hB:B.Ok)(j:1<=n){bq:Nat}{f:Nat->Bool}(hs:bq<2)(hf:∀s,f s=true->s<B.N):Pure W n d4 [.ref (A 6),.int (mk f),.int bq] (wr A B P τ) (.int (mk (ka B bq f))):=by
 refine cu.body G vq rfl (by omega) ?_
 unfold pN
 have i:=hB.cm
 have hb:=zQ f
 ext
 refine AWS.split (λh=>?_) (λh=>?_)
 .have h:bq=0:=by have:=az.mp h;lia
  ext
  refine⟨ae AV.int ?_,.refl _⟩
  rw[a9,Gn λs Z h=>ak (Nat.add_lt_add_of_lt_of_le (hf s h) i.2.2.2.1) (ai (Nat.add_le_add_right i.1 4) (by decide)),cj]
  refine bP λt Z=>?_
  unfold ka;rw[ag h]
 .have h:bq≠0:=by have:=aE.mp h;lia
  ext
  refine⟨ae AV.int ?_,.refl _⟩
  rw[a9,xV (uD hB hf)]
  refine bP λt Z=>?_
  unfold ka;rw[ah h]
theorem sD(G:GF W)(hA:bV A)(hB:B.Ok)(z:2<=n){bq i:Nat}{f:Nat->Bool}(hs:bq<2)(hf:∀s,f s=true->s<B.N):Pure W n ie [.ref (A 6),.int (mk f),.int bq,.int i] (wr A B P τ) (.int (mk (ny B bq i f))):=by
 refine cu.body G qS rfl (by omega) ?_
 unfold kW
 have y:=hB.cm
 have j:∀(g:Nat->Bool)s,(f s&&g s)=true->s<B.N:=λg s h=>by rw[ax]at h;exact hf s h.1
 ext
 refine AWS.split (λh=>?_) (λh=>?_)
 .have h:i=0:=by have:=az.mp h;lia
  ext
  rw[show(B.F:Int)-1=((B.F-1:Nat):Int)by lia]
  ext
  rw[gG]
  refine kH G hA hB (by omega) hs (j _) _ _ ?_
  have hb:=zQ (ka B bq (λs=>f s&& !(decide (s<B.N)&&s % B.F==B.F-1)))
  ext
  refine⟨ae AV.int ?_,.refl _⟩
  rw[show(1:Int).toNat=1 from rfl,Gn λs Z h=>ak (Nat.add_lt_add_right (zO (j _) s h) 1) (ai (Nat.add_le_add_right y.1 1) (by decide))]
  refine bP λt Z=>?_
  unfold ny;rw[ag h]
 .have h:i≠0:=by have:=aE.mp h;lia
  ext
  rw[gG]
  refine kH G hA hB (by omega) hs (j _) _ _ ?_
  ext
  refine⟨ae AV.int ?_,.refl _⟩
  rw[show(1:Int).toNat=1 from rfl,xV (uD hB (zO (j _)))]
  refine bP λt Z=>?_
  unfold ny;rw[ah h]
theorem l0(G:GF W)(hA:bV A)(hB:B.Ok)(i:P.Ok B)(j:2<=n){bq:Nat}(hs:bq<2):Pure W n gf [.ref (A 0),.int bq] (wr A B P τ) (.cn [.int (mk (gq B P.c bq)),.int 0]):=by
 refine cu.body G so rfl (by omega) ?_
 unfold lM
 ext
 refine oK G hA (by omega) _ _ ?_
 ext
 rw[gG]
 refine uw G hA (by omega) (k:=1) hs (by omega) _ _ ?_
 ext
 refine kH G hA hB (by omega) hs (λs h=>gp (k:=1) i h) _ _ ?_
 ext
 refine⟨by simp,?_,.refl _⟩
 rw[cj];rfl
end
def qZ(st:Nat)(i:Bool):Bool:=if st=0 then i else if st=1 then !i else true
def cU(o t st:Nat)(i:Bool):List Nat:=(if st=1 then[]else[cy o t 1 3])++(if qZ st i then[cy o t 1 2,cy o t 1 1,cy o t 1 0]else[])
theorem uF(o t st:Nat)(i:Bool):(cU o t st i).length<=4:=by
 unfold cU
 split<;>split<;>simp
def kc(B:Bd)(bq t:Nat):Nat:=if bq=0 then t-B.F else t+B.F
def gT(B:Bd)(c:Nat->Nat)(bq:Nat)(i:Nat->Bool):List Nat:=(gw λt=>(gq B c bq t&&i t)&& !c6 B bq t).flatMap λt=>[cy (kc B bq t) t 0 0]
def kI(B:Bd)(c:Nat->Nat)(bq st:Nat)(i:Nat->Bool):List Nat:=(gw λt=>(gq B c bq t&&i t)&&c6 B bq t).flatMap λt=>cU (kc B bq t) t st false
section
variable{W:Wd}{n:Nat}{σ:Hp}{A:Nat->Addr}{B:Bd}{P:Ps}{τ:Hp}{ρ:Loc}
theorem uG(h:τ o=some X):τ.set o X=τ:=by
 funext b;unfold Hp.set;split
 .rename_i e;subst e;exact h.symm
 .rfl
theorem ke(G:GF W)(hn:2<=n){o or t st:Nat}(ho:fL A o=none)(z:τ o=some (.list true (bA ms)))(hm:ms.length<=85000)(U:or<64)(ht:t<64)(V:st<4):
  cu W n fh [.int or,.int t,.int st,.bool j,.ref o] (wr A B P τ) .none (wr A B P (τ.set o (.list true (bA (ms++cU or t st j))))):=by
 refine cu.body G pO rfl (by omega) ?_
 unfold j2
 have tail:∀(b:Bool)(g7:Hp)(i:List Nat),g7 o=some (.list true (bA i))->i.length<=86000->∀b5:AV,AWS W (n-1)
   (.bS (.var 5)
    (.cb [6] (.cI (.cons (.bD "ROOK" 4) (.cons (.bD "BISHOP" 3) (.cons (.bD "KNIGHT" 2) .nil))))
     (.expr (.append (.var 4) (.call cM (.cons (.var 0) (.cons (.var 1) (.cons (.bD "PROMOTION" 1) (.cons (.var 6) .nil)))))) .skip) .skip) .skip .skip)
   [some (.int or),some (.int t),some (.int st),some (.bool j),some (.ref o),some (.bool b),none,none,none,none,none,none,none,none,none] (wr A B P g7)
   (λo' Z y=>Fin .none (wr A B P (g7.set o (.list true (bA (i++if b then[cy or t 1 2,cy or t 1 1,cy or t 1 0]else[]))))) o' y) (λZ=>b7):=by
  intro b g7 i h1 h2 _
  ext
  cases b
  .refine AWS.ifF rfl ?_
   ext
   refine⟨rfl,?_⟩
   rw[ah (by simp),aZ,uG h1]
   exact .refl _
  .refine AWS.ifT rfl ?_
   rw[ag rfl]
   refine AWS.ip (M:=90000) (B:=B) (P:=P) (L:=[some (.int or),some (.int t),some (.int st),some (.bool j),some (.ref o),some (.bool true),none,none,none,none,none,none,none,none,none]) (l:=[4,3,2])
    (g:=λk=>[cy or t 1 (k-2)]) b0.none ho h1 (by simp;omega) ?_
   ext
   refine⟨by simp,λa J=>⟨a,rfl,J,bB (bG J).1,⟨rfl,rfl,rfl,rfl,rfl,rfl,trivial⟩,?_,λx hx Y D g1 g2=>⟨_,rfl,?_⟩⟩⟩
   .ext
    exact⟨rfl,.refl _⟩
   .have H:2<=x/\x<6:=by
     simp at hx;lia
    ext
    refine lW ho g1 ?_
    ext
    refine hG G (by omega) or t 1 x (by omega) (by omega) (by omega) (λZ=>H) _ _ ?_
    rw[ag rfl]
    refine⟨bA D,(bT ho).trans g1,js g2,trivial,?_⟩
    rw[lX ho]
    ext
    exact⟨⟨rfl,rfl,rfl,rfl,rfl,rfl,trivial⟩,.refl _⟩
 have EZ:∀(g7:Hp)(i:List Nat),g7 o=some (.list true (bA i))->i.length<=86000->AWS W (n-1)
   (.bS (.bM .Eq (.var 2) (.bD "CAPTURES" 0)) (.bL 5 (.var 3) .skip) (.bS (.bM .Eq (.var 2) (.bD "QUIETS" 1)) (.bL 5 (.not (.var 3)) .skip) (.bL 5 (.bool true) .skip) .skip)
   (.bS (.var 5)
    (.cb [6] (.cI (.cons (.bD "ROOK" 4) (.cons (.bD "BISHOP" 3) (.cons (.bD "KNIGHT" 2) .nil))))
     (.expr (.append (.var 4) (.call cM (.cons (.var 0) (.cons (.var 1) (.cons (.bD "PROMOTION" 1) (.cons (.var 6) .nil)))))) .skip) .skip) .skip .skip))
   [some (.int or),some (.int t),some (.int st),some (.bool j),some (.ref o),none,none,none,none,none,none,none,none,none,none] (wr A B P g7)
   (λo' Z y=>Fin .none (wr A B P (g7.set o (.list true (bA (i++if qZ st j then[cy or t 1 2,cy or t 1 1,cy or t 1 0]else[]))))) o' y) (λZ=>b7):=by
  intro g7 i h1 h2
  ext
  refine AWS.split (λh=>?_) (λh=>?_)
  .have h:st=0:=by have:=az.mp h;lia
   refine AWS.bL (AWE.var rfl ?_)
   refine AWS.norm (by dsimp only[Lake.setL]) ?_
   refine AWS.skip ?_
   have:=tail j g7 i h1 h2 .none
   unfold qZ;rw[ag h];exact this
  have O:st≠0:=by have:=aE.mp h;lia
  ext
  refine AWS.split (λh=>?_) (λh=>?_)
  .have h:st=1:=by have:=az.mp h;lia
   refine AWS.bL (AWE.not (AWE.var rfl ⟨_,rfl,?_⟩))
   refine AWS.norm (by dsimp only[Lake.setL]) ?_
   refine AWS.skip (AWS.skip ?_)
   have:=tail (!j) g7 i h1 h2 .none
   unfold qZ;rw[ah O,ag h];exact this
  have I:st≠1:=by have:=aE.mp h;lia
  refine AWS.bL (AWE.bool ?_)
  refine AWS.norm (by dsimp only[Lake.setL]) ?_
  refine AWS.skip (AWS.skip ?_)
  have:=tail true g7 i h1 h2 .none
  unfold qZ;rw[ah O,ah I];exact this
 refine AWS.norm0 (by dsimp only[loc0,pad,Nat.reduceSub]) ?_
 ext
 refine AWS.split (λh=>?_) (λh=>?_)
 .have h:st≠1:=by have:=aP.mp h;lia
  ext
  ext
  refine lW ho z ?_
  ext
  refine hG G (by omega) or t 1 5 (by omega) (by omega) (by omega) (λZ=>by lia) _ _ ?_
  rw[ag rfl]
  refine⟨bA ms,(bT ho).trans z,js (by omega),trivial,?_⟩
  rw[lX ho]
  refine AWS.skip ?_
  have:=EZ (τ.set o (.list true (bA (ms++[cy or t 1 3])))) (ms++[cy or t 1 3]) br (by rw[bh];simp;omega)
  rw[set_set,List.append_assoc]at this
  unfold cU;rw[ah h];exact this
 .have h:st=1:=by have:=bo.mp h;lia
  refine AWS.skip ?_
  have:=EZ τ ms z (by omega)
  unfold cU;rw[ag h];exact this
end
def kJ(B:Bd)(bq i t:Nat):Nat:=if bq=0 then t+2*i-(B.F+1)else t+B.F+2*i-1
def Eu(B:Bd)(c:Nat->Nat)(bq st:Nat)(j:Nat->Bool)(i:Nat):List Nat:=
 (gw λt=>ny B bq i (iA c bq 1) t&&(j t&&sS c (1-bq) t)).flatMap λt=>if c6 B bq t then cU (kJ B bq i t) t st true else[cy (kJ B bq i t) t 0 0]
def p9(B:Bd)(c:Nat->Nat)(bq st:Nat)(i:Nat->Bool):List Nat:=[0,1].flatMap (Eu B c bq st i)
def ir(B:Bd)(c:Nat->Nat)(bq st:Nat)(i:Nat->Bool):List Nat:=((if st=0 then[]else gT B c bq i)++kI B c bq st i)++(if st=1 then[]else p9 B c bq st i)
theorem oO(B:Bd)(c:Nat->Nat)(bq:Nat)(i:Nat->Bool):(gT B c bq i).length<=32:=by
 have:=i5 (g:=λt=>[cy (kc B bq t) t 0 0]) (b:=1) (gw λt=>(gq B c bq t&&i t)&& !c6 B bq t) λx Z=>by simp
 have:=mI λt=>(gq B c bq t&&i t)&& !c6 B bq t
 unfold gT;lia
theorem oP(B:Bd)(c:Nat->Nat)(bq st:Nat)(i:Nat->Bool):(kI B c bq st i).length<=128:=by
 have:=i5 (g:=λt=>cU (kc B bq t) t st false) (b:=4) (gw λt=>(gq B c bq t&&i t)&&c6 B bq t) λx Z=>uF _ _ _ _
 have:=mI λt=>(gq B c bq t&&i t)&&c6 B bq t
 unfold kI;lia
theorem uH(B:Bd)(c:Nat->Nat)(bq st:Nat)(i:Nat->Bool)(j:Nat):(Eu B c bq st i j).length<=128:=by
 have h1:=i5 (g:=λt=>if c6 B bq t then cU (kJ B bq j t) t st true else[cy (kJ B bq j t) t 0 0]) (b:=4) (gw λt=>ny B bq j (iA c bq 1) t&&(i t&&sS c (1-bq) t)) λx Z=>by
  split
  .exact uF _ _ _ _
  .simp
 have h2:=mI λt=>ny B bq j (iA c bq 1) t&&(i t&&sS c (1-bq) t)
 exact ai h1 (Nat.mul_le_mul_right 4 h2)
theorem wy(B:Bd)(c:Nat->Nat)(bq st:Nat)(i:Nat->Bool):(p9 B c bq st i).length<=256:=by
 have j:=uH B c bq st i 0
 have h1:=uH B c bq st i 1
 unfold p9;simp;exact Nat.add_le_add j h1
theorem mJ(B:Bd)(c:Nat->Nat)(bq st:Nat)(i:Nat->Bool):(ir B c bq st i).length<=500:=by
 have j:=oO B c bq i
 have h1:=oP B c bq st i
 have h2:=wy B c bq st i
 unfold ir;split<;>split<;>simp<;>first | exact ai (Nat.add_le_add j (Nat.add_le_add h1 h2)) (by decide) | lia
section
variable{W:Wd}{n:Nat}{σ:Hp}{A:Nat->Addr}{B:Bd}{P:Ps}{τ:Hp}{ρ:Loc}
theorem kf(h:gq B c bq t=true):t<B.N:=by
 unfold gq at h;simp at h;exact h.2.1
theorem mK(i:P.Ok B)(h:gq B P.c bq t=true):(t:Int)-(if bq=0 then(B.F:Int)else -(B.F:Int))=((kc B bq t:Nat):Int)/\kc B bq t<B.N:=by
 unfold gq ka at h
 rw[ax]at h
 have h:=h.1
 unfold kc
 split at h
 .rename_i hs
  rw[ag hs,ag hs]
  rw[ax,ax,bk]at h
  exact⟨(Int.ofNat_sub h.1.1).symm,gp i h.1.2⟩
 .rename_i hs
  rw[ah hs,ah hs]
  exact⟨Int.sub_neg ..,gp i h⟩
theorem oQ(G:GF W)(hA:bV A)(hB:B.Ok)(z:P.Ok B)(U:3<=n){o:Nat}(ho:fL A o=none)(D:τ o=some (.list true (bA ms)))(hm:ms.length<=80000):
  cu W n fN [.ref (A 0),.int (mk f),.ref o] (wr A B P τ) .none (wr A B P (τ.set o (.list true (bA (ms++gT B P.c P.bq f))))):=by
 refine cu.body G nx rfl (by omega) ?_
 unfold iZ
 have V:=hB.cm
 have hs:=z.bq
 have j:=oO B P.c P.bq f
 ext
 refine lY G hA (by omega) hs _ _ ?_
 ext
 refine l0 G hA hB z (by omega) hs _ _ ?_
 refine⟨_,rfl,rfl,?_⟩
 ext
 refine AWS.ip (M:=90000) (B:=B) (P:=P) (L:=[some (.ref (A 0)),some (.int (mk f)),some (.ref o),some (.ref (A 6)),some (.int (if P.bq=0 then(B.F:Int)else -(B.F:Int))),some (.int (mk (gq B P.c P.bq))),some (.int 0),none,none,none,none,none,none,none,none])
  (l:=gw λt=>(gq B P.c P.bq t&&f t)&& !c6 B P.bq t) (g:=λt=>[cy (kc B P.bq t) t 0 0]) b0.none ho D (by unfold gT at j;omega) ?_
 ext
 refine lZ G hA hB (by omega) hs _ _ ?_
 ext
 rw[cj,gG]
 refine dz G (by omega) (uD hB λs h=>by simp only[ax]at h;exact kf h.1.1) _ _ λa I=>?_
 refine⟨a,rfl,I,bB (bG I).1,⟨rfl,rfl,rfl,rfl,rfl,rfl,rfl,trivial⟩,?_,λx hx g7 H h1 h2=>⟨_,rfl,?_⟩⟩
 .refine AWS.ip (M:=90000) (B:=B) (P:=P) (L:=[some (.ref (A 0)),some (.int (mk f)),some (.ref o),some (.ref (A 6)),some (.int (if P.bq=0 then(B.F:Int)else -(B.F:Int))),some (.int (mk (gq B P.c P.bq))),some (.int 0),none,none,none,none,none,none,none,none])
   (l:=[]) (g:=λt=>[]) (ms:=ms++gT B P.c P.bq f) (τ:=τ.set o (.list true (bA (ms++gT B P.c P.bq f)))) b0.none ho br (by rw[bh,List.flatMap_nil];simp;omega) ?_
  ext
  rw[<-cV,cj]
  refine dz G (by omega) (uD hB λs h=>by simp at h) _ _ λJ y=>?_
  have e:gw (λs=>false&&f s)=[]:=by unfold gw;simp
  rw[e]
  refine⟨J,rfl,y,bB (bG y).1,⟨rfl,rfl,rfl,rfl,rfl,rfl,rfl,trivial⟩,?_,λx hx=>by cases hx⟩
  ext
  refine⟨rfl,?_⟩
  rw[set_set,List.flatMap_nil,aZ]
  exact .refl _
 .have i:=(bY.mp hx).2
  simp only[ax]at i
  have O:=kf i.1.1
  obtain⟨e1,e2⟩:=mK z i.1.1
  ext
  refine lW ho h1 ?_
  ext
  rw[e1]
  refine hG G (by omega) _ x 0 0 (by omega) (by omega) (by omega) (by lia) _ _ ?_
  refine⟨bA H,(bT ho).trans h1,js h2,trivial,?_⟩
  rw[lX ho]
  ext
  exact⟨⟨rfl,rfl,rfl,rfl,rfl,rfl,rfl,trivial⟩,.refl _⟩
theorem lp(G:GF W)(hA:bV A)(hB:B.Ok)(y:P.Ok B)(O:3<=n){o st:Nat}(ho:fL A o=none)(z:τ o=some (.list true (bA ms)))(hm:ms.length<=80000)(D:st<4):
  cu W n dm [.ref (A 0),.int st,.int (mk f),.ref o] (wr A B P τ) .none (wr A B P (τ.set o (.list true (bA (ms++kI B P.c P.bq st f))))):=by
 refine cu.body G kC rfl (by omega) ?_
 unfold gB
 have U:=hB.cm
 have hs:=y.bq
 have j:=oP B P.c P.bq st f
 ext
 refine lY G hA (by omega) hs _ _ ?_
 ext
 refine l0 G hA hB y (by omega) hs _ _ ?_
 ext
 refine⟨_,rfl,?_⟩
 ext
 refine AWS.ip (M:=85000) (B:=B) (P:=P) (L:=[some (.ref (A 0)),some (.int st),some (.int (mk f)),some (.ref o),some (.ref (A 6)),some (.int (if P.bq=0 then(B.F:Int)else -(B.F:Int))),some (.int (mk (gq B P.c P.bq))),none,none,none,none,none,none])
  (l:=gw λt=>(gq B P.c P.bq t&&f t)&&c6 B P.bq t) (g:=λt=>cU (kc B P.bq t) t st false) b0.none ho z (by unfold kI at j;omega) ?_
 ext
 refine lZ G hA hB (by omega) hs _ _ ?_
 ext
 rw[cj,cj]
 refine dz G (by omega) (uD hB λs h=>by simp only[ax]at h;exact kf h.1.1) _ _ λa H=>?_
 refine⟨a,rfl,H,bB (bG H).1,⟨rfl,rfl,rfl,rfl,rfl,rfl,rfl,trivial⟩,?_,λx hx g7 I h1 h2=>⟨_,rfl,?_⟩⟩
 .ext
  exact⟨rfl,.refl _⟩
 .have i:=(bY.mp hx).2
  simp only[ax]at i
  have J:=kf i.1.1
  obtain⟨e1,e2⟩:=mK y i.1.1
  ext
  rw[e1]
  refine ke G (by omega) ho h1 h2 (by omega) (by omega) D _ _ ⟨trivial,?_⟩
  ext
  exact⟨⟨rfl,rfl,rfl,rfl,rfl,rfl,rfl,trivial⟩,.refl _⟩
theorem PU{t F w:Nat}(h:F+1<=t+2*w):(t:Int)-((F:Int)+1-2*(w:Int))=((t+2*w-(F+1):Nat):Int):=
 (Int.sub_eq_add_neg.trans ((ae ((t:Int)+·) (Int.neg_sub _ _)).trans (Int.add_sub_assoc _ _ _).symm)).trans (Int.ofNat_sub h).symm
theorem PW{t F w:Nat}(h:1<=t+F+2*w):(t:Int)-(-(F:Int)+1-2*(w:Int))=((t+F+2*w-1:Nat):Int):=by
 rw[Int.natCast_sub h]
 show(t:Int)-(-(F:Int)+1-2*(w:Int))=(t:Int)+F+2*w-1
 generalize 2*(w:Int)=x
 generalize(F:Int)=y
 generalize(t:Int)=z
 omega
theorem zU(j:P.Ok B)(hw:i<2)(h:ny B bq i (iA P.c bq 1) t=true):
  (t:Int)-((if bq=0 then(B.F:Int)else -(B.F:Int))+1-2*(i:Int))=((kJ B bq i t:Nat):Int)/\kJ B bq i t<B.N:=by
 unfold ny ka at h
 unfold kJ
 rcases lt2c hw with rfl | rfl
 .rw[ag rfl]at h
  by_cases hs:bq=0
  .simp only[ag hs,ax,bk]at h ⊢
   exact⟨PU (w:=0) ((Nat.le_sub_iff_add_le h.1).mp h.2.1.1),aj (aw (Nat.sub_right_comm t B.F 1)) (gp j h.2.1.2.1)⟩
  .simp only[ah hs,ax,bk]at h ⊢
   exact⟨PW (w:=0) (ai h.1 (Nat.le_add_right _ _)),aj (aw (show t+B.F+2*0-1=t-1+B.F from Nat.sub_add_comm h.1)) (gp j h.2.1)⟩
 .rw[ah (by decide)]at h
  by_cases hs:bq=0
  .simp only[ag hs,ax,bk]at h ⊢
   exact⟨PU (w:=1) (Nat.succ_le_succ h.1.1),aj (aw (Nat.add_sub_add_right (t+1) 1 B.F)) (gp j h.1.2.1)⟩
  .simp only[ah hs,ax,bk]at h ⊢
   exact⟨PW (w:=1) (Nat.succ_le_succ (Nat.zero_le _)),aj (aw (Nat.add_right_comm t B.F 1)) (gp j h.1)⟩
theorem Kp(h:s<32):(Builtin.bitAnd (mk f) (1*2^((s:Nat):Int).toNat) != 0)=f s:=by
 rw[jr h,cj,dF]
 unfold eR
 rw[bj,aU]
 constructor
 .rintro⟨x,_,e⟩
  simp only[ax,az]at e
  rw[<-e.2];exact e.1
 .intro e;exact⟨s,aN.mpr h,by simp[e]⟩
theorem nz(G:GF W)(hA:bV A)(hB:B.Ok)(j:P.Ok B)(hn:3<=n){o st:Nat}(ho:fL A o=none)(D:τ o=some (.list true (bA ms)))(hm:ms.length<=80000)(H:st<4):
  cu W n dP [.ref (A 0),.int st,.int (mk f),.ref o] (wr A B P τ) .none (wr A B P (τ.set o (.list true (bA (ms++p9 B P.c P.bq st f))))):=by
 refine cu.body G lN rfl (by omega) ?_
 unfold iq
 have hN:=hB.cm
 have hs:=j.bq
 have y:=wy B P.c P.bq st f
 ext
 refine lZ G hA hB (by omega) hs _ _ ?_
 ext
 refine uw G hA (by omega) (k:=1) hs (by omega) _ _ ?_
 ext
 rw[one_sub hs]
 ext
 rw[cj]
 refine AWS.ip (M:=82000) (B:=B) (P:=P) (L:=[some (.ref (A 0)),some (.int st),some (.int (mk f)),some (.ref o),some (.ref (A 6)),some (.int P.bq),some (.int (mk (c6 B P.bq))),some (.int (mk (iA P.c P.bq 1))),some (.int (mk λt=>f t&&sS P.c (1-P.bq) t)),
   none,none,none,none,none,none,none,none,none,none,none,none,none]) (l:=[0,1]) (g:=Eu B P.c P.bq st f) b0.none ho D (by unfold p9 at y;omega) ?_
 ext
 refine⟨by simp,λa U=>⟨a,rfl,U,bB (bG U).1,⟨rfl,rfl,rfl,rfl,rfl,rfl,rfl,rfl,rfl,trivial⟩,?_,λw hw g7 V h1 h2=>⟨_,rfl,?_⟩⟩⟩
 .ext
  exact⟨rfl,.refl _⟩
 .have I:w<2:=by simp at hw;lia
  have J:=uH B P.c P.bq st f w
  ext
  refine lY G hA (by omega) hs _ _ ?_
  ext
  refine AWS.ip (M:=85000) (B:=B) (P:=P) (L:=[some (.ref (A 0)),some (.int st),some (.int (mk f)),some (.ref o),some (.ref (A 6)),some (.int P.bq),some (.int (mk (c6 B P.bq))),some (.int (mk (iA P.c P.bq 1))),some (.int (mk λt=>f t&&sS P.c (1-P.bq) t)),
   none,some (.int ((if P.bq=0 then(B.F:Int)else -(B.F:Int))+1-2*(w:Int))),none,none,none,none,none,none,none,none,none,none,none])
   (l:=gw λt=>ny B P.bq w (iA P.c P.bq 1) t&&(f t&&sS P.c (1-P.bq) t)) (g:=λt=>if c6 B P.bq t then cU (kJ B P.bq w t) t st true else[cy (kJ B P.bq w t) t 0 0]) b0.none ho h1 (by unfold Eu at J;omega) ?_
  ext
  refine sD G hA hB (by omega) hs (λs h=>gp (k:=1) j h) _ _ ?_
  ext
  rw[cj]
  refine dz G (by omega) (uD hB λs h=>by simp only[ax]at h;exact wx j h.2.2) _ _ λY z=>?_
  refine⟨Y,rfl,z,bB (bG z).1,⟨rfl,rfl,rfl,rfl,rfl,rfl,rfl,rfl,rfl,rfl,trivial⟩,?_,λx hx U9 O g1 g2=>⟨_,rfl,?_⟩⟩
  .ext
   exact⟨⟨rfl,rfl,rfl,rfl,rfl,rfl,rfl,rfl,rfl,trivial⟩,.refl _⟩
  .have i:=(bY.mp hx).2
   simp only[ax]at i
   have V7:=wx j i.2.2
   obtain⟨e1,e2⟩:=zU j I i.1
   ext
   rw[Kp (by omega)]
   refine AWS.split (λhl=>?_) (λhl=>?_)
   .ext
    rw[e1]
    refine ke G (by omega) ho g1 g2 (by omega) (by omega) H _ _ ⟨trivial,?_⟩
    ext
    rw[show(if c6 B P.bq x=true then cU (kJ B P.bq w x) x st true else[cy (kJ B P.bq w x) x 0 0])=cU (kJ B P.bq w x) x st true from ag hl]
    exact⟨⟨rfl,rfl,rfl,rfl,rfl,rfl,rfl,rfl,rfl,rfl,trivial⟩,.refl _⟩
   .ext
    refine lW ho g1 ?_
    ext
    rw[e1]
    refine hG G (by omega) _ x 0 0 (by omega) (by omega) (by omega) (by lia) _ _ ?_
    refine⟨bA O,(bT ho).trans g1,js (by omega),trivial,?_⟩
    rw[lX ho]
    ext
    rw[show(if c6 B P.bq x=true then cU (kJ B P.bq w x) x st true else[cy (kJ B P.bq w x) x 0 0])=[cy (kJ B P.bq w x) x 0 0]from ah (by rw[hl];simp)]
    exact⟨⟨rfl,rfl,rfl,rfl,rfl,rfl,rfl,rfl,rfl,rfl,trivial⟩,.refl _⟩
end
def Ew(f:Nat->Bool):Nat:=(gw f).headD 0
theorem l3(h:jH f=true):vz f (Ew f)/\gw f=[Ew f]:=by
 unfold jH at h
 simp only[ax,bc]at h
 obtain⟨h1,h2⟩:=h
 unfold zw at h2
 have h2:=of_decide_eq_false h2
 unfold eR at h1
 obtain⟨x,hx,e⟩:=aU.mp h1
 have hm:x∈gw f:=bY.mpr ⟨aN.mp hx,e⟩
 have hs:gw f=[Ew f]:=by
  unfold Ew
  cases q:gw f with
  | nil=>rw[q]at hm;cases hm
  | cons y r=>
   cases r with
   | nil=>rfl
   | cons z r=>rw[q]at h2;simp at h2
 refine⟨⟨?_,λs i=>?_⟩,hs⟩
 .have:Ew f∈gw f:=by rw[hs];simp
  exact(bY.mp this).1
 .rw[bj,az]
  constructor
  .intro q
   have:s∈gw f:=bY.mpr ⟨i,q⟩
   rw[hs]at this;simpa using this
  .rintro rfl
   have:Ew f∈gw f:=by rw[hs];simp
   exact(bY.mp this).2
def vD(B:Bd)(k:Nat)(g:Nat->Bool)(t:Nat):Bool:=jH g&&(g t||lj B k (Ew g) t)
def eA(B:Bd)(c:Nat->Nat)(bq k:Nat)(t:Nat):Bool:=vD B k (il B c bq k) t
def BS(B:Bd)(c:Nat->Nat)(bq k:Nat):List Nat:=
 (if eR (eA B c bq k)then ir B c bq 3 (eA B c bq k)++[2,3,4,5].flatMap (λq=>eX B c bq q (eA B c bq k))else[])++eX B c bq 6 (λt=>decide (t<B.N)&& !sS c bq t)
section
variable{W:Wd}{n:Nat}{σ:Hp}{A:Nat->Addr}{B:Bd}{P:Ps}{τ:Hp}{ρ:Loc}
theorem kg(G:GF W)(hA:bV A)(hB:B.Ok)(H:P.Ok B)(I:4<=n){o st:Nat}(ho:fL A o=none)(y:τ o=some (.list true (bA ms)))(hm:ms.length<=70000)(z:st<4):
  cu W n fj [.ref (A 0),.int st,.int (mk f),.ref o] (wr A B P τ) .none (wr A B P (τ.set o (.list true (bA (ms++ir B P.c P.bq st f))))):=by
 refine cu.body G pP rfl (by omega) ?_
 unfold j4
 have J:=oO B P.c P.bq f
 have L:=oP B P.c P.bq st f
 have j:∀(g7:Hp)(i:List Nat),g7 o=some (.list true (bA i))->i.length<=71000->AWS W (n-1)
   (.expr (.call dm (.cons (.var 0) (.cons (.var 1) (.cons (.var 2) (.cons (.var 3) .nil)))))
    (.bS (.bM .NotEq (.var 1) (.bD "QUIETS" 1)) (.expr (.call dP (.cons (.var 0) (.cons (.var 1) (.cons (.var 2) (.cons (.var 3) .nil))))) .skip) .skip .skip))
   [some (.ref (A 0)),some (.int st),some (.int (mk f)),some (.ref o),none,none,none,none,none] (wr A B P g7)
   (λo' Z D=>Fin .none (wr A B P (g7.set o (.list true (bA (i++(kI B P.c P.bq st f++if st=1 then[]else p9 B P.c P.bq st f)))))) o' D) (λZ=>b7):=by
  intro g7 i h1 h2
  ext
  refine lp G hA hB H (by omega) ho h1 (by omega) z _ _ ⟨trivial,?_⟩
  ext
  refine AWS.split (λh=>?_) (λh=>?_)
  .have h:st≠1:=by have:=aP.mp h;lia
   ext
   refine nz G hA hB H (by omega) ho br (by rw[bh];omega) z _ _ ⟨trivial,?_⟩
   ext
   refine⟨rfl,?_⟩
   rw[set_set,List.append_assoc,ah h]
   exact .refl _
  .have h:st=1:=by have:=bo.mp h;lia
   ext
   refine⟨rfl,?_⟩
   rw[ag h,aZ]
   exact .refl _
 refine AWS.norm0 (by dsimp only[loc0,pad,Nat.reduceSub]) ?_
 ext
 refine AWS.split (λh=>?_) (λh=>?_)
 .have h:st≠0:=by have:=aP.mp h;lia
  ext
  ext
  refine oQ G hA hB H (by omega) ho y (by omega) _ _ ⟨trivial,?_⟩
  refine AWS.skip ?_
  have:=j (τ.set o (.list true (bA (ms++gT B P.c P.bq f)))) (ms++gT B P.c P.bq f) br (by rw[bh];omega)
  rw[set_set,List.append_assoc]at this
  unfold ir;rw[ah h]
  rw[List.append_assoc (gT B P.c P.bq f)]
  exact this
 .have h:st=0:=by have:=bo.mp h;lia
  refine AWS.skip ?_
  have:=j τ ms y (by omega)
  unfold ir;rw[ag h,List.nil_append];exact this
theorem q0(G:GF W)(hA:bV A)(i:1<=n){o:Nat}:Pure W n fk [.ref (A 0),.ref o] (wr A B P τ) .none:=by
 refine cu.body G pQ rfl (by omega) ?_
 unfold j5
 ext
 try refine AWS.ifT rfl ?_
 ext
 exact⟨rfl,.refl _⟩
theorem rf(G:GF W)(hA:bV A)(j:1<=n){i:Nat}(hi:i<4):Pure W n gN [.ref (A 0),.int i] (wr A B P τ) (.int 1):=by
 refine cu.body G pM rfl (by omega) ?_
 unfold j1
 ext
 try refine AWS.ifT rfl ?_
 ext
 exact⟨rfl,.refl _⟩
theorem uI(G:GF W)(hA:bV A)(z:P.Ok B)(D:2<=n){o:Nat}:Pure W n eV [.ref (A 0),.ref o] (wr A B P τ) .none:=by
 refine cu.body G sk rfl (by omega) ?_
 unfold lK
 have hs:=z.bq
 ext
 refine AWS.fi b0.none ?_
 ext
 refine⟨oc rfl,λa j=>?_⟩
 rw[bB (bG j).1]
 have e:[AV.int (2*(P.bq:Int)),AV.int (2*(P.bq:Int)+1)]=bA [2*P.bq,2*P.bq+1]:=by unfold bA;simp
 rw[e]
 refine⟨bA [2*P.bq,2*P.bq+1],λZ=>[some (.ref (A 0)),some (.ref o),none,none,none,none,none,none,none,none,none,none],λZ=>wr A B P (τ.set a (.list true (bA [2*P.bq,2*P.bq+1]))),λZ=>True,trivial,λZ Z=>gm j,gm j,⟨rfl,rfl,trivial⟩,.refl _,λZ=>?_,λi x hi Z hx=>?_⟩
 .try dsimp only
  ext
  exact⟨rfl,cO j⟩
 .obtain⟨s,e1,rfl⟩:=bX hx
  have y:s<4:=by
   have:=aD e1
   simp at this;lia
  refine⟨_,rfl,?_⟩
  try dsimp only
  ext
  refine rf G hA (by omega) y _ _ ?_
  ext
  try refine AWS.ifF rfl ?_
  ext
  exact⟨trivial,⟨rfl,rfl,trivial⟩,.refl _⟩
theorem qa(G:GF W)(hA:bV A)(hB:B.Ok)(y:P.Ok B)(I:4<=n){g:Nat->Bool}(hk:eM P.c P.bq k)(z:k<B.N)(D:∀t,g t=true->t<B.N):
  Pure W n gh [.ref (A 0),.int (mk g)] (wr A B P τ) (.int (mk (vD B k g))):=by
 refine cu.body G oE rfl (by omega) ?_
 unfold jm
 have hs:=y.bq
 ext
 refine bE (λh=>?_) (λh=>?_)
 .ext
  refine⟨ae AV.int ?_,.refl _⟩
  have H:eR g=false:=by rw[<-dF];simpa using h
  rw[<-cV]
  refine bP λt Z=>?_
  unfold vD jH;rw[H];rfl
 have h1:eR g=true:=by rw[<-dF];simpa using h
 ext
 refine ik G (by omega) _ _ _ ?_
 ext
 refine AWS.split (λh=>?_) (λh=>?_)
 .ext
  refine⟨ae AV.int ?_,.refl _⟩
  rw[<-cV]
  refine bP λt Z=>?_
  unfold vD jH;rw[h];simp
 have ho:jH g=true:=by unfold jH;rw[h1,h];rfl
 obtain⟨j,J⟩:=l3 ho
 have i:Ew g<B.N:=D _ (by have:=j.2 _ j.1;rw[this];simp)
 ext
 refine eE G hA (by omega) hs hk _ _ ?_
 ext
 refine zu G (by omega) j _ _ ?_
 ext
 refine wu G hA hB (by omega) z i _ _ ?_
 ext
 refine⟨ae AV.int ?_,.refl _⟩
 rw[da]
 refine bP λt Z=>?_
 unfold vD;rw[ho];rfl
theorem xZ(G:GF W)(hA:bV A)(i:1<=n):Pure W n dU [.ref (A 0),v] (wr A B P τ) (.bool false):=by
 refine cu.body G jD rfl (by omega) ?_
 unfold fV
 ext
 try refine AWS.ifT rfl ?_
 ext
 exact⟨rfl,.refl _⟩
theorem wz(i:P.Ok B)(h:il B P.c bq k t=true):t<B.N:=by
 unfold il at h;rw[ax]at h;exact wx i h.2
theorem Nj(hB:B.Ok)(h:lj B a b t=true):t<B.N:=by
 unfold lj at h
 cases e:zv B a b with
 | none=>rw[e]at h;cases h
 | some d=>rw[e]at h;simp only[ax]at h;exact xW hB h.1
theorem zX(hB:B.Ok)(i:P.Ok B)(h:eA B P.c bq k t=true):t<B.N:=by
 unfold eA vD at h
 simp only[ax,bp]at h
 rcases h.2 with h | h
 .exact wz i h
 .exact Nj hB h
theorem mL(B:Bd)(c:Nat->Nat)(bq:Nat)(f:Nat->Bool)(l:List Nat):(l.flatMap λq=>eX B c bq q f).length<=l.length*1024:=i5 l λx Z=>oM _ _ _ _ _
theorem uJ(G:GF W)(hA:bV A)(hB:B.Ok)(y:P.Ok B)(hn:8<=n){o k:Nat}(ho:fL A o=none)(z:τ o=some (.list true (bA [])))(hk:eM P.c P.bq k)(I:k<B.N):
  cu W n iR [.ref (A 0),.ref o] (wr A B P τ) .none (wr A B P (τ.set o (.list true (bA (BS B P.c P.bq k))))):=by
 refine cu.body G su rfl (by omega) ?_
 unfold lO
 have hs:=y.bq
 have i:∀(g7:Hp)(j:List Nat),g7 o=some (.list true (bA j))->j.length<=70000->∀v:AV,AWS W (n-1)
   (.expr (.call cK (.cons (.var 0) (.cons (.bD "KING" 6) (.cons (.bx .BitAnd (.bt (.bt (.var 0) 14) 3) (.inv (.sub (.bt (.var 0) 18) (.bt (.var 0) 19)))) (.cons (.var 1) .nil))))) .skip)
   [some (.ref (A 0)),some (.ref o),some v,none,none,none,none,none,none,none,none,none,none,none,none,none] (wr A B P g7)
   (λo' Z D=>Fin .none (wr A B P (g7.set o (.list true (bA (j++eX B P.c P.bq 6 (λt=>decide (t<B.N)&& !sS P.c P.bq t)))))) o' D) (λZ=>b7):=by
  intro g7 j h1 h2 v
  ext
  rw[gG]
  ext
  refine gr G hA hB y (by omega) (k:=6) ho h1 h2 (by omega) (λt ht=>by simp only[ax,bk]at ht;exact ht.1) _ _ ⟨trivial,?_⟩
  ext
  exact⟨rfl,.refl _⟩
 ext
 refine BQ G hA hB (by omega) hs hk I _ _ ?_
 ext
 refine qa G hA hB y (by omega) hk I (λt h=>wz y h) _ _ ?_
 rw[show vD B k (il B P.c P.bq k)=eA B P.c P.bq k from rfl]
 have l1:=mJ B P.c P.bq 3 (eA B P.c P.bq k)
 have J:=mL B P.c P.bq (eA B P.c P.bq k) [2,3,4,5]
 ext
 rw[dF]
 refine AWS.split (λh=>?_) (λh=>?_)
 .ext
  refine kg G hA hB y (by omega) (st:=3) ho z (by simp) (by omega) _ _ ⟨trivial,?_⟩
  ext
  refine xZ G hA (by omega) _ _ ?_
  ext
  rw[List.nil_append]
  refine AWS.ip (M:=70000) (B:=B) (P:=P) (L:=[some (.ref (A 0)),some (.ref o),some (.int (mk (eA B P.c P.bq k))),none,none,none,none,none,none,none,none,none,none,none,none,none])
   (l:=[2,3,4,5]) (g:=λq=>eX B P.c P.bq q (eA B P.c P.bq k)) (τ:=τ.set o (.list true (bA (ir B P.c P.bq 3 (eA B P.c P.bq k))))) b0.none ho br (by simp at J ⊢;omega) ?_
  ext
  refine⟨by simp,λa O=>⟨a,rfl,O,bB (bG O).1,⟨rfl,rfl,rfl,trivial⟩,?_,λx hx U V g1 Y=>⟨_,rfl,?_⟩⟩⟩
  .refine AWS.skip ?_
   have:=i (τ.set o (.list true (bA (ir B P.c P.bq 3 (eA B P.c P.bq k)++[2,3,4,5].flatMap λq=>eX B P.c P.bq q (eA B P.c P.bq k))))) _ br (by rw[bh];simp at J ⊢;omega) (.int (mk (eA B P.c P.bq k)))
   rw[set_set]at this
   rw[set_set]
   unfold BS;rw[ag h];exact this
  .have H:x<7:=by simp at hx;lia
   ext
   refine gr G hA hB y (by omega) ho g1 Y H (λt ht=>zX hB y ht) _ _ ⟨trivial,?_⟩
   ext
   exact⟨⟨rfl,rfl,rfl,trivial⟩,.refl _⟩
 .refine AWS.skip ?_
  have:=i τ [] z (by simp) (.int (mk (eA B P.c P.bq k)))
  unfold BS;rw[h,ah (by simp)];exact this
end
def r5(B:Bd)(t:Nat):Bool:=decide (t<B.N)
def gu(B:Bd)(c:Nat->Nat)(bq k st:Nat):List Nat:=
 if st=3 then BS B c bq k else ir B c bq st (r5 B)++[2,3,4,5,6].flatMap λq=>eX B c bq q (dn B c bq st)
structure zY(B:Bd)(m:Nat):Prop where
 ex:∃o t sp fd,o<B.N/\t<B.N/\sp<2/\fd<4/\m=cy o t sp fd
def uK(m:Nat):Nat:=m/64 % 64
def NX(m:Nat):Nat:=m % 64
def TA(m:Nat):Nat:=m/16384 % 4
def TB(m:Nat):Nat:=m/4096 % 4
theorem eH(ho:o<64)(ht:t<64)(hf:fd<4)(hs:sp<2):uK (cy o t sp fd)=o/\NX (cy o t sp fd)=t/\TA (cy o t sp fd)=sp/\TB (cy o t sp fd)=fd:=by
 exact⟨(ae (· % 64) (Sm ht)).trans (md ho),(ae (· % 64) (BN o t sp fd)).trans (md ht),(ae (· % 4) (Tz ho ht hf)).trans (Nat.mod_eq_of_lt (ak hs (by decide))),(ae (· % 4) (Sn ho ht)).trans (md hf)⟩
def zZ(B:Bd)(c:Nat->Nat)(bq k o t:Nat):Bool:=if o=k then !k7 B c t (1-bq) (λs=>ll c s != (s==k))else if gn B c bq k o then lV B o t k else true
def oU(B:Bd)(c:Nat->Nat)(bq k m:Nat):Bool:=zZ B c bq k (uK m) (NX m)
def rg(B:Bd)(c:Nat->Nat)(bq k:Nat):List Nat:=(gu B c bq k (if hK B c bq k then 3 else 2)).filter (oU B c bq k)
def sE(B:Bd)(c:Nat->Nat)(bq k:Nat):Bool:=(if hK B c bq k then[3]else[0,1]).any λst=>(gu B c bq k st).any (oU B c bq k)
theorem wA{P:Ps}(i:P.Ok B){st t:Nat}(h:dn B P.c P.bq st t=true):t<B.N:=by
 unfold dn at h
 split at h
 .exact wx i h
 .split at h<;>(simp only[ax,bk]at h;exact h.1)
theorem PX(hB:B.Ok)(ho:o<B.N)(ht:t<B.N)(hs:sp<2)(hf:fd<4):zY B (cy o t sp fd):=⟨_,_,_,_,ho,ht,hs,hf,rfl⟩
theorem wB(hB:B.Ok){o t st:Nat}(ho:o<B.N)(ht:t<B.N)(h:m∈cU o t st i):zY B m:=by
 unfold cU at h
 rcases bg.mp h with h | h
 .split at h
  .cases h
  .simp at h;subst h;exact PX hB ho ht (by omega) (by omega)
 .split at h
  .simp at h;rcases h with rfl | rfl | rfl<;>exact PX hB ho ht (by omega) (by omega)
  .cases h
theorem rh{P:Ps}(hB:B.Ok)(i:P.Ok B)(hf:∀t,f t=true->t<B.N)(h:m∈eX B P.c P.bq q f):zY B m:=by
 unfold eX at h
 obtain⟨o,ho,h⟩:=bl.mp h
 unfold kG at h
 obtain⟨t,ht,h⟩:=bl.mp h
 simp at h;subst h
 have h2:=(bY.mp ht).2
 rw[ax]at h2
 exact PX hB (gp i (bY.mp ho).2) (hf _ h2.2) (by omega) (by omega)
theorem z0{P:Ps}(hB:B.Ok)(j:P.Ok B){st:Nat}(h:m∈ir B P.c P.bq st f):zY B m:=by
 unfold ir at h
 rcases bg.mp h with h | h
 .rcases bg.mp h with h | h
  .split at h
   .cases h
   .unfold gT at h
    obtain⟨t,ht,h⟩:=bl.mp h
    simp at h;subst h
    have h2:=(bY.mp ht).2
    simp only[ax]at h2
    exact PX hB (mK j h2.1.1).2 (kf h2.1.1) (by omega) (by omega)
  .unfold kI at h
   obtain⟨t,ht,h⟩:=bl.mp h
   have h2:=(bY.mp ht).2
   simp only[ax]at h2
   exact wB hB (mK j h2.1.1).2 (kf h2.1.1) h
 .split at h
  .cases h
  .unfold p9 at h
   obtain⟨w,hw,h⟩:=bl.mp h
   unfold Eu at h
   obtain⟨t,ht,h⟩:=bl.mp h
   have h2:=(bY.mp ht).2
   simp only[ax]at h2
   have ho:=(zU j (by simp at hw;lia) h2.1).2
   have i:=wx j h2.2.2
   split at h
   .exact wB hB ho i h
   .simp at h;subst h;exact PX hB ho i (by omega) (by omega)
theorem Dk{P:Ps}(hB:B.Ok)(i:P.Ok B){k st m:Nat}(h:m∈gu B P.c P.bq k st):zY B m:=by
 unfold gu at h
 split at h
 .unfold BS at h
  rcases bg.mp h with h | h
  .split at h
   .rcases bg.mp h with h | h
    .exact z0 hB i h
    .obtain⟨q,_,h⟩:=bl.mp h
     exact rh hB i (λt ht=>zX hB i ht) h
   .cases h
  .exact rh hB i (λt ht=>by simp only[ax,bk]at ht;exact ht.1) h
 .rcases bg.mp h with h | h
  .exact z0 hB i h
  .obtain⟨q,_,h⟩:=bl.mp h
   exact rh hB i (λt ht=>wA i ht) h
theorem z3(B:Bd)(c:Nat->Nat)(bq k st:Nat):(gu B c bq k st).length<=10000:=by
 unfold gu
 split
 .have j:=mJ B c bq 3 (eA B c bq k)
  have i:=mL B c bq (eA B c bq k) [2,3,4,5]
  have y:=oM B c bq 6 (λt=>decide (t<B.N)&& !sS c bq t)
  unfold BS
  split
  .simp only[bh];simp at i ⊢;exact ai (Nat.add_le_add (Nat.add_le_add j i) y) (by decide)
  .simp only[bh];simp;exact ai y (by decide)
 .have j:=mJ B c bq st (r5 B)
  have i:=mL B c bq (dn B c bq st) [2,3,4,5,6]
  simp only[bh];simp at i ⊢;exact ai (Nat.add_le_add j i) (by decide)
section
variable{W:Wd}{n:Nat}{σ:Hp}{A:Nat->Addr}{B:Bd}{P:Ps}{τ:Hp}{ρ:Loc}
theorem oV(G:GF W)(hA:bV A)(hB:B.Ok)(D:P.Ok B)(hn:9<=n){k st:Nat}(V:st<4)(hk:eM P.c P.bq k)(Y:k<B.N):g6 W n gO [.ref (A 0),.int st] (wr A B P τ) (bA (gu B P.c P.bq k st)):=by
 refine g6.body G ze rfl (by omega) ?_
 unfold t7
 have hs:=D.bq
 ext
 refine⟨oc rfl,λa O=>?_⟩
 have V8:=(bG O).2
 have i:=(bG O).1
 rw[bB i]
 have H:∀ms:List Nat,ms=gu B P.c P.bq k st->∀g7,Sub (τ.set a (.list true (bA ms))) g7->Bo (wr A B P τ) (bA (gu B P.c P.bq k st)) (.ret (.ref a)) (wr A B P g7):=by
  intro ms e g7 h
  refine⟨a,rfl,O,(cO O).trans (jz h),?_⟩
  rw[bT i,h a _ br,e]
 ext
 refine AWS.split (λh=>?_) (λh=>?_)
 .have h:st=3:=by have:=az.mp h;lia
  subst h
  ext
  refine uJ G hA hB D (by omega) i br hk Y _ _ ⟨trivial,?_⟩
  ext
  rw[set_set]
  exact H _ (by unfold gu;rw[ag rfl]) _ (.refl _)
 .have h:st≠3:=by have:=aE.mp h;lia
  have J:st<3:=by lia
  have l1:=mJ B P.c P.bq st (r5 B)
  have l2:=mL B P.c P.bq (dn B P.c P.bq st) [2,3,4,5,6]
  have I:∀g7,Sub (τ.set a (.list true (bA (gu B P.c P.bq k st)))) g7->AWS W (n-1)
    (.bS (.bM .NotEq (.var 1) (.bD "CAPTURES" 0)) (.expr (.call eV (.cons (.var 0) (.cons (.var 2) .nil))) .skip) .skip (.ret (.var 2)))
    [some (.ref (A 0)),some (.int st),some (.ref a),some (.int (mk (dn B P.c P.bq st))),none,none,none,none,none,none,none,none,none,none,none,none,none,none,none] (wr A B P g7)
    (λo Z j=>Bo (wr A B P τ) (bA (gu B P.c P.bq k st)) o j) (λZ=>b7):=by
   intro g7 z
   ext
   refine AWS.split (λh=>?_) (λh=>?_)
   .ext
    refine uI G hA D (by omega) _ _ ⟨trivial,?_⟩
    ext
    exact H _ rfl _ z
   .ext
    exact H _ rfl _ z
  have y:AWS W (n-1) (.cb [4] (.cI (.cons (.bD "KNIGHT" 2) (.cons (.bD "BISHOP" 3) (.cons (.bD "ROOK" 4) (.cons (.bD "QUEEN" 5) (.cons (.bD "KING" 6) .nil))))))
    (.expr (.call cK (.cons (.var 0) (.cons (.var 4) (.cons (.var 3) (.cons (.var 2) .nil))))) .skip)
    (.bS (.bM .NotEq (.var 1) (.bD "CAPTURES" 0)) (.expr (.call eV (.cons (.var 0) (.cons (.var 2) .nil))) .skip) .skip (.ret (.var 2))))
    [some (.ref (A 0)),some (.int st),some (.ref a),some (.int (mk (dn B P.c P.bq st))),none,none,none,none,none,none,none,none,none,none,none,none,none,none,none] (wr A B P (τ.set a (.list true (bA (ir B P.c P.bq st (r5 B))))))
    (λo Z j=>Bo (wr A B P τ) (bA (gu B P.c P.bq k st)) o j) (λZ=>b7):=by
   refine AWS.ip (M:=70000) (B:=B) (P:=P) (L:=[some (.ref (A 0)),some (.int st),some (.ref a),some (.int (mk (dn B P.c P.bq st))),none,none,none,none,none,none,none,none,none,none,none,none,none,none,none])
    (l:=[2,3,4,5,6]) (g:=λq=>eX B P.c P.bq q (dn B P.c P.bq st)) (τ:=τ.set a (.list true (bA (ir B P.c P.bq st (r5 B))))) b0.none i br (by simp at l2 ⊢;omega) ?_
   ext
   refine⟨by simp,λb hb=>⟨b,rfl,hb,bB (bG hb).1,⟨rfl,rfl,rfl,rfl,trivial⟩,?_,λx hx U9 V9 g1 g2=>⟨_,rfl,?_⟩⟩⟩
   .refine I _ ?_
    rw[set_set]
    unfold gu;rw[ah h]
    exact .refl _
   .have U:x<7:=by simp at hx;lia
    ext
    refine gr G hA hB D (by omega) i g1 g2 U (λt ht=>wA D ht) _ _ ⟨trivial,?_⟩
    ext
    exact⟨⟨rfl,rfl,rfl,rfl,trivial⟩,.refl _⟩
  ext
  refine uE G hA D (by omega) J _ _ ?_
  ext
  refine kg G hA hB D (by omega) (ms:=[]) (f:=r5 B) i br (by simp) (by omega) _ _ ⟨trivial,?_⟩
  rw[set_set,List.nil_append]
  ext
  refine AWS.split (λh=>?_) (λh=>?_)
  .ext
   ext
   refine q0 G hA (by omega) _ _ ⟨trivial,?_⟩
   refine AWS.skip ?_
   exact y
  .refine AWS.skip ?_
   exact y
theorem uL(G:GF W)(hA:bV A)(hB:B.Ok)(j:P.Ok B)(z:10<=n)(hk:eM P.c P.bq k)(y:k<B.N):
  g6 W n iT [.ref (A 0)] (wr A B P τ) (bA (gu B P.c P.bq k (if hK B P.c P.bq k then 3 else 2))):=by
 refine g6.body G sv rfl (by omega) ?_
 unfold lP
 have hs:=j.bq
 ext
 refine kF G hA hB (by omega) hs hk y _ _ ?_
 ext
 refine AWS.split (λh=>?_) (λh=>?_)
 .ext
  refine oV G hA hB j (by omega) (st:=3) (by omega) hk y _ _ λa i=>?_
  rw[ag h]
  exact⟨a,rfl,i,Sub.set i,br⟩
 .ext
  refine oV G hA hB j (by omega) (st:=2) (by omega) hk y _ _ λa i=>?_
  rw[ah (by rw[h];simp)]
  exact⟨a,rfl,i,Sub.set i,br⟩
theorem uM(G:GF W)(hA:bV A)(hB:B.Ok)(y:P.Ok B)(D:6<=n)(hm:zY B m)(hk:eM P.c P.bq k)(z:k<B.N):
  Pure W n iS [.ref (A 0),.int m,.int (mk (gn B P.c P.bq k))] (wr A B P τ) (.bool (oU B P.c P.bq k m)):=by
 obtain⟨o,t,sp,fd,ho,ht,j,i,rfl⟩:=hm
 refine cu.body G zd rfl (by omega) ?_
 unfold tZ
 have hs:=y.bq
 have H:=hB.cm
 obtain⟨e1,e2,_,_⟩:=eH (o:=o) (t:=t) (sp:=sp) (fd:=fd) (by omega) (by omega) i j
 unfold oU
 rw[e1,e2]
 ext
 refine gj G (by omega) (by omega) (by omega) i j _ _ ?_
 ext
 refine AWS.ifF (aE.mpr (by lia)) ?_
 ext
 refine AWS.ifF (aE.mpr (by lia)) ?_
 ext
 refine jq G (by omega) (by omega) (by omega) i _ _ ?_
 ext
 refine j8 G (by omega) (by omega) _ _ ?_
 ext
 refine eE G hA (by omega) hs hk _ _ ?_
 ext
 refine AWS.split (λh=>?_) (λh=>?_)
 .have h:o=k:=by have:=az.mp h;omega
  subst h
  ext
  rw[da,jr (by omega),qJ,one_sub hs]
  ext
  refine nZ G hA hB (by omega) (by omega) ht _ _ ?_
  ext
  refine⟨ae AV.bool ?_,.refl _⟩
  unfold zZ;rw[ag rfl];rfl
 .have h:o≠k:=by have:=aE.mp h;lia
  ext
  rw[a9,xw (by omega)]
  refine AWS.split (λh2=>?_) (λh2=>?_)
  .ext
   refine⟨ae AV.bool ?_,.refl _⟩
   unfold zZ;rw[ah h,ah]
   intro q;rw[q]at h2;simp at h2
  .have h2:gn B P.c P.bq k o=true:=by
    cases q:gn B P.c P.bq k o
    .rw[q]at h2;simp at h2
    .rfl
   ext
   refine Eo G hA hB (by omega) ho ht z _ _ ⟨ae AV.bool ?_,.refl _⟩
   unfold zZ;rw[ah h,ag h2]
end
theorem fw{l:List Nat}(h:l[i]? =some x):(l.take (i+1)).filter p=(l.take i).filter p++(if p x then[x]else[]):=by
 rw[take_snoc h,List.filter_append]
 exact ae (_++·) List.filter_cons
section
variable{W:Wd}{n:Nat}{σ:Hp}{A:Nat->Addr}{B:Bd}{P:Ps}{τ:Hp}{ρ:Loc}
theorem ya(G:GF W)(hA:bV A)(hB:B.Ok)(V:P.Ok B)(hn:7<=n){k mv:Nat}(J:fL A mv=none)(z:τ mv=some (.list true (bA j)))(hm:∀m∈j,zY B m)(Y:j.length<=20000)
  (hk:eM P.c P.bq k) (hq:k<B.N):g6 W n kx [.ref (A 0),.ref mv] (wr A B P τ) (bA (j.filter (oU B P.c P.bq k))):=by
 refine g6.body G vt rfl (by omega) ?_
 unfold pR
 have hs:=V.bq
 ext
 refine k8 G hA hB (by omega) hs hk hq _ _ ?_
 ext
 refine⟨oc rfl,λa I=>?_⟩
 have D:=(bG I).2
 have y:=(bG I).1
 have L:mv≠a:=by rintro rfl;rw[z]at D;cases D
 rw[bB y]
 have H:∀X,bO (wr A B P (τ.set a X)) (.ref mv)=some (bA j):=by
  intro X;unfold bO;dsimp only;rw[bT J,ct L,z]
 ext
 refine AWS.fi b0.none ?_
 ext
 refine⟨bA j,λZ=>[some (.ref (A 0)),some (.ref mv),some (.int (mk (gn B P.c P.bq k))),some (.ref a),none,none,none],λi=>wr A B P (τ.set a (.list true (bA ((j.take i).filter (oU B P.c P.bq k))))),λZ=>True,trivial,
  λZ Z=>H _,H _,⟨rfl,rfl,rfl,rfl,trivial⟩,.refl _,λZ=>?_,λi x hi Z hx=>?_⟩
 .try dsimp only
  rw[bR,aX]
  ext
  exact⟨a,rfl,I,cO I,by rw[bT y,br]⟩
 .obtain⟨m,e1,rfl⟩:=bX hx
  have O:=hm m (aD e1)
  refine⟨_,rfl,?_⟩
  try dsimp only
  rw[fw e1]
  ext
  refine uM G hA hB V (by omega) O hk hq _ _ ?_
  ext
  refine AWS.split (λh=>?_) (λh=>?_)
  .ext
   refine lW y br ?_
   ext
   have U:((j.take i).filter (oU B P.c P.bq k)).length<=90000:=by
    have h1:=List.length_filter_le (oU B P.c P.bq k) (j.take i)
    have h2:(j.take i).length<=j.length:=by rw[List.length_take];lia
    lia
   refine⟨bA ((j.take i).filter (oU B P.c P.bq k)),(bT y).trans br,js U,trivial,?_⟩
   rw[lX y,set_set]
   ext
   rw[ag h]
   exact⟨trivial,⟨rfl,rfl,rfl,rfl,trivial⟩,.refl _⟩
  .ext
   rw[ah (by rw[h];simp),aZ]
   exact⟨trivial,⟨rfl,rfl,rfl,rfl,trivial⟩,.refl _⟩
theorem eI(G:GF W)(hA:bV A)(hB:B.Ok)(j:P.Ok B)(D:11<=n)(hk:eM P.c P.bq k)(y:k<B.N):g6 W n de [.ref (A 0)] (wr A B P τ) (bA (rg B P.c P.bq k)):=by
 refine g6.body G ua rfl (by omega) ?_
 unfold nR
 ext
 refine uL G hA hB j (by omega) hk y _ _ λa z=>?_
 have i:=(bG z).1
 rw[bB i]
 ext
 have hl:=z3 B P.c P.bq k (if hK B P.c P.bq k then 3 else 2)
 refine ya G hA hB j (by omega) i br (λm h=>Dk hB j h) (by omega) hk y _ _ λb hb=>?_
 refine⟨b,rfl,?_,(cO z).trans (Sub.set hb),br⟩
 have:=(bG hb)
 rw[bT this.1]
 have h2:=this.2
 unfold Hp.set at h2
 split at h2
 .cases h2
 .exact h2
theorem rj(G:GF W)(hA:bV A)(hB:B.Ok)(D:P.Ok B)(hn:10<=n)(hk:eM P.c P.bq k)(H:k<B.N):Pure W n gP [.ref (A 0)] (wr A B P τ) (.bool (sE B P.c P.bq k)):=by
 refine cu.body G pT rfl (by omega) ?_
 unfold j6
 have hs:=D.bq
 have main:∀(a:Addr)(l:List Nat),dZ (wr A B P τ) a->(∀st∈l,st<4)->l=(if hK B P.c P.bq k then[3]else[0,1])->mrun W (n-1) (λo Z z=>Fin (.bool (sE B P.c P.bq k)) (wr A B P τ) o z) (λZ=>b7) (cS true (.bL 2 (.call eu (.cons (.var 0) (.cons (.bt (.var 0) 19) .nil))) (.cb [3] (.var 1) (.cb [4] (.call gO (.cons (.var 0) (.cons (.var 3) .nil))) (.bS (.call iS (.cons (.var 0) (.cons (.var 4) (.cons (.var 2) .nil)))) (.ret (.bool true)) .skip .skip) .skip) (.ret (.bool false))))) [] [some (.ref (A 0)),some (.ref a),none,none,none,none,none,none,none,none,none,none] (wr A B P (τ.set a (.list true (bA l)))):=by
  intro a l y I hl
  have Wa:=(bG y).1
  ext
  refine k8 G hA hB (by omega) hs hk H _ _ ?_
  ext
  refine AWS.fi b0.none ?_
  ext
  refine⟨bA l,λZ=>[some (.ref (A 0)),some (.ref a),some (.int (mk (gn B P.c P.bq k))),none,none,none,none,none,none,none,none,none],λZ=>wr A B P (τ.set a (.list true (bA l))),λi=>(l.take i).any (λst=>(gu B P.c P.bq k st).any (oU B P.c P.bq k))=false,by simp,
   λZ Z=>gm y,gm y,⟨rfl,rfl,rfl,trivial⟩,.refl _,λhh=>?_,λi x hi hh hx=>?_⟩
  .try dsimp only at hh ⊢
   rw[bR,aX]at hh
   ext
   refine⟨ae AV.bool ?_,cO y⟩
   unfold sE;rw[<-hl,hh]
  .obtain⟨st,e1,rfl⟩:=bX hx
   have J:=I st (aD e1)
   refine⟨_,rfl,?_⟩
   try dsimp only
   ext
   refine AWS.fi b0.none ?_
   ext
   refine oV G hA hB D (by omega) J hk H _ _ λb hb=>?_
   have L:=(bG hb).1
   rw[bB L]
   have O:∀m∈gu B P.c P.bq k st,zY B m:=λm h=>Dk hB D h
   generalize Y:gu B P.c P.bq k st=U at*
   refine⟨bA U,λZ=>[some (.ref (A 0)),some (.ref a),some (.int (mk (gn B P.c P.bq k))),some (.int st),none,none,none,none,none,none,none,none],λZ=>wr A B P ((τ.set a (.list true (bA l))).set b (.list true (bA U))),λj=>(U.take j).any (oU B P.c P.bq k)=false,by simp,
    λZ Z=>gm hb,gm hb,⟨rfl,rfl,rfl,rfl,trivial⟩,.refl _,λh2=>?_,λj x hj h2 V=>?_⟩
   .try dsimp only at h2 ⊢
    rw[bR,aX]at h2
    ext
    refine⟨?_,⟨rfl,rfl,rfl,trivial⟩,cO hb⟩
    rw[eG e1,hh,Y,h2];rfl
   .obtain⟨m,e2,rfl⟩:=bX V
    refine⟨_,rfl,?_⟩
    try dsimp only
    ext
    refine uM G hA hB D (by omega) (O m (aD e2)) hk H _ _ ?_
    ext
    refine AWS.split (λh=>?_) (λh=>?_)
    .ext
     refine⟨ae AV.bool ?_,(cO y).trans (cO hb)⟩
     unfold sE
     rw[<-hl]
     symm
     rw[aU]
     refine⟨st,aD e1,?_⟩
     rw[Y,aU]
     exact⟨m,aD e2,h⟩
    .ext
     refine⟨?_,⟨rfl,rfl,rfl,rfl,trivial⟩,.refl _⟩
     rw[eG e2,h2,h];rfl
 ext
 refine kF G hA hB (by omega) hs hk H _ _ ?_
 ext
 refine bE (λh=>?_) (λh=>?_)
 .ext
  refine⟨oc rfl,λa y=>?_⟩
  rw[bB (bG y).1]
  exact main a [3] y (by simp) (by rw[ag h])
 .ext
  refine⟨oc rfl,λa y=>?_⟩
  rw[bB (bG y).1]
  exact main a [0,1] y (by simp) (by rw[ah (by rw[h];simp)])
end
structure Rw where
 b:List AV
 ks:List AV
 sd:List AV
 P:Ps
def BU(A:Nat->Addr)(B:Bd)(R:Rw):List AO:=(((nH A B R.P).set 2 (.list true R.b)).set 3 (.list true R.ks)).set 4 (.list true R.sd)
def l4(A:Nat->Addr)(B:Bd)(R:Rw)(k:Nat):AO:=if k<21 then(BU A B R).getD k (.list true [])else we B k
def qb(A:Nat->Addr)(B:Bd)(R:Rw)(τ:Hp):Hp:=λx=>match fL A x with
 | some k=>some (l4 A B R k)
 | none=>τ x
def bU(B:Bd)(c:Nat->Nat):List AV:=(List.range B.N).map λs=>.int (c s)
def l5(c:Nat->Nat):List AV:=(List.range 7).map λk=>.int (mk (kS c k))
def l6(c:Nat->Nat):List AV:=(List.range 2).map λk=>.int (mk (sS c k))
section
variable{A:Nat->Addr}{B:Bd}{P:Ps}{R:Rw}{τ:Hp}
theorem BV:wr A B P τ=qb A B ⟨bU B P.c,l5 P.c,l6 P.c,P⟩ τ:=rfl
theorem BW(h1:b=bU B c)(h2:ks=l5 c)(h3:sd=l6 c):qb A B ⟨b,ks,sd,P⟩ τ=wr A B {P with c:=c} τ:=by
 subst h1 h2 h3;rfl
theorem n0(hA:bV A)(h:k<46):qb A B R τ (A k)=some (l4 A B R k):=by unfold qb;rw[tK hA h]
theorem Sq(hA:bV A)(hk:k<46)(h:l4 A B i k=o)(D:∀j,j<46->j≠k->l4 A B i j=l4 A B R j):(qb A B R τ).set (A k) o=qb A B i τ:=by
 funext y
 unfold qb Hp.set
 by_cases e:y=A k
 .subst e;rw[tK hA hk];simp[h]
 .rw[ah e]
  cases q:fL A y with
  | none=>simp only[q]
  | some j=>
   obtain⟨h1,h2⟩:=tL q
   simp only[q]
   rw[D j h1 (λz=>e (by rw[<-h2,z]))]
theorem Kq(hA:bV A)(hk:k<21)(h:BU A B y=(BU A B R).set k o):(qb A B R τ).set (A k) o=qb A B y τ:=by
 refine Sq hA (Nat.lt_trans hk (by decide)) ?_ λj Z i=>?_
 .unfold l4;rw[ag hk,h,getD_at hk]
 .unfold l4;rw[h,C8 i]
theorem Dl(hA:bV A):(qb A B R τ).set (A 2) (.list true l)=qb A B {R with b:=l} τ:=Kq hA (by decide) rfl
theorem Hj(hA:bV A):(qb A B R τ).set (A 3) (.list true l)=qb A B {R with ks:=l} τ:=Kq hA (by decide) rfl
theorem Hk(hA:bV A):(qb A B R τ).set (A 4) (.list true l)=qb A B {R with sd:=l} τ:=Kq hA (by decide) rfl
theorem uN(hA:bV A){v:Int}:(qb A B R τ).set (A 1) (.dict (hY (nq A R.P) 23 (.int v)))=qb A B {R with P:={R.P with key:=v}} τ:=Kq hA (by decide) rfl
theorem exR_pos{K:AV->Prop}(hA:bV A)(hw:lk (nq A R.P) k=some w)(hk:(bN 1).contains k=true)(h:K w):∃w,f9 (qb A B R τ) (.ref (A 0)) k=some w/\K w:=by
 exact⟨w,tM (n0 hA (k:=0) (by decide)) (n0 hA (k:=1) (by decide)) hk hw,h⟩
theorem exR_zob{K:AV->Prop}(hA:bV A)(hw:lk (JL A B) k=some w)(hk:(bN 2).contains k=true)(h:K w):∃w,f9 (qb A B R τ) (.ref (A 16)) k=some w/\K w:=by
 exact⟨w,tM (n0 hA (k:=16) (by decide)) (n0 hA (k:=17) (by decide)) hk hw,h⟩
theorem Hl{s:Nat}(hA:bV A)(i:j<46)(h:l4 A B R j=.list true l)(hs:l[s]? =some v)(y:s<1000)(hx:x=(s:Int)):cw (qb A B R τ) (.ref (A j)) (.int x)=some v:=by
 subst hx
 unfold cw
 simp only[n0 hA i,h,jQ]
 rw[ag (by lia)]
 simpa using hs
theorem exR_zp{K:AV->Prop}(hA:bV A){d:Nat}(hd:d<15)(hx:x=(d:Int))(h:K (.ref (A (31+d)))):∃w,cw (qb A B R τ) (.ref (A 18)) (.int x)=some w/\K w:=
 ⟨_,Hl hA (j:=18) (by omega) (l:=(List.range 15).map λp=>.ref (A (31+p))) rfl (by simp[hd]) (by omega) hx,h⟩
theorem Ex:l4 A B R (31+d)=fc B.N λs=>.int (2^(d*B.N+s)):=by
 have:l4 A B R (31+d)=cont A B R.P (31+d):=by
  unfold l4 cont;rw[ah (by lia),ah (by omega)]
 rw[this];exact pA
theorem exR_zrow{K:AV->Prop}(hA:bV A)(hB:B.Ok)(hd:d<15)(hs:s<B.N)(hx:x=(s:Int))(h:K (.int (2^(d*B.N+s)))):∃w,cw (qb A B R τ) (.ref (A (31+d))) (.int x)=some w/\K w:=
 ⟨_,Hl hA (j:=31+d) (by lia) Ex (by simp[hs]) (by have:=hB.cm;omega) hx,h⟩
theorem exR_b{K:AV->Prop}(hA:bV A){s:Nat}(hs:R.b[s]? =some v)(i:s<1000)(hx:x=(s:Int))(h:K v):∃w,cw (qb A B R τ) (.ref (A 2)) (.int x)=some w/\K w:=
 ⟨_,Hl hA (j:=2) (by omega) rfl hs i hx,h⟩
theorem exR_k{K:AV->Prop}(hA:bV A){s:Nat}(hs:R.ks[s]? =some v)(i:s<1000)(hx:x=(s:Int))(h:K v):∃w,cw (qb A B R τ) (.ref (A 3)) (.int x)=some w/\K w:=
 ⟨_,Hl hA (j:=3) (by omega) rfl hs i hx,h⟩
theorem exR_s{K:AV->Prop}(hA:bV A){s:Nat}(hs:R.sd[s]? =some v)(i:s<1000)(hx:x=(s:Int))(h:K v):∃w,cw (qb A B R τ) (.ref (A 4)) (.int x)=some w/\K w:=
 ⟨_,Hl hA (j:=4) (by omega) rfl hs i hx,h⟩
theorem Dm(hA:bV A):nh (qb A B R τ) (.ref (A 2))=some (A 2,R.b):=ph (n0 hA (k:=2) (by decide))
theorem Hm(hA:bV A):nh (qb A B R τ) (.ref (A 3))=some (A 3,R.ks):=ph (n0 hA (k:=3) (by decide))
theorem Hn(hA:bV A):nh (qb A B R τ) (.ref (A 4))=some (A 4,R.sd):=ph (n0 hA (k:=4) (by decide))
theorem Nk(hA:bV A)(hk:(bN 1).contains k=true):qz (qb A B R τ) (.ref (A 0)) k=some (A 1,nq A R.P):=by
 exact Bb (n0 hA (k:=0) (by decide)) (n0 hA (k:=1) (by decide)) hk (by simp[nq])
end
def dJ(c:Nat->Nat)(s v:Nat):Nat->Nat:=λt=>if t=s then v else c t
theorem map_set{v:AV}:((List.range n).map f).set i v=(List.range n).map λj=>if j=i then v else f j:=by
 apply List.ext_getElem?
 intro j
 rw[List.getElem?_set,aF,aF]
 by_cases y:j<n
 .rw[List.getElem?_range y]
  by_cases e:i=j
  .subst e;simp[y]
  .have:¬j=i:=λq=>e q.symm
   simp[e,this]
 .rw[List.getElem?_eq_none (by simp;omega)]
  simp;lia
def Pc(p:Nat):Prop:=p≠0/\p<15/\p % 8<7/\p % 8≠0
theorem l7{s v:Nat}:(bU B c).set s (.int v)=bU B (dJ c s v):=by
 unfold bU;rw[map_set]
 refine List.map_congr_left λj Z=>?_
 unfold dJ;split<;>rfl
theorem Ho(i:c s=0)(hp:Pc p):(l5 c).set (p % 8) (.int (mk λt=>kS c (p % 8) t||t==s))=l5 (dJ c s p):=by
 unfold l5;rw[map_set]
 refine List.map_congr_left λj Z=>?_
 obtain⟨h1,_,_,y⟩:=hp
 split
 .rename_i e;subst e
  congr 1
  refine bP λt Z=>?_
  unfold kS dJ
  by_cases ht:t=s
  .subst ht;simp[h1]
  .simp[ht]
 .rename_i e
  congr 1
  refine bP λt Z=>?_
  unfold kS dJ
  by_cases ht:t=s
  .subst ht;simp[i];intro _;exactλq=>e q.symm
  .simp[ht]
theorem Hq(i:c s=0)(hp:Pc p):(l6 c).set (p/8) (.int (mk λt=>sS c (p/8) t||t==s))=l6 (dJ c s p):=by
 unfold l6;rw[map_set]
 refine List.map_congr_left λj Z=>?_
 obtain⟨h1,_,_,y⟩:=hp
 split
 .rename_i e;subst e
  congr 1
  refine bP λt Z=>?_
  unfold sS dJ
  by_cases ht:t=s
  .subst ht;simp[h1]
  .simp[ht]
 .rename_i e
  congr 1
  refine bP λt Z=>?_
  unfold sS dJ
  by_cases ht:t=s
  .subst ht;simp[i];intro _;exactλq=>e q.symm
  .simp[ht]
theorem Ey(i:c s≠0):(l5 c).set (c s % 8) (.int (mk λt=>kS c (c s % 8) t != (t==s)))=l5 (dJ c s 0):=by
 unfold l5;rw[map_set]
 refine List.map_congr_left λj Z=>?_
 split
 .rename_i e;subst e
  congr 1
  refine bP λt Z=>?_
  unfold kS dJ
  by_cases ht:t=s
  .subst ht;simp[i]
  .rw[show(t==s)=false from aE.mpr ht];simp[ht]
 .rename_i e
  congr 1
  refine bP λt Z=>?_
  unfold kS dJ
  by_cases ht:t=s
  .subst ht;simp[i];exactλq=>e q.symm
  .simp[ht]
theorem Ez(i:c s≠0):(l6 c).set (c s/8) (.int (mk λt=>sS c (c s/8) t != (t==s)))=l6 (dJ c s 0):=by
 unfold l6;rw[map_set]
 refine List.map_congr_left λj Z=>?_
 split
 .rename_i e;subst e
  congr 1
  refine bP λt Z=>?_
  unfold sS dJ
  by_cases ht:t=s
  .subst ht;simp[i]
  .rw[show(t==s)=false from aE.mpr ht];simp[ht]
 .rename_i e
  congr 1
  refine bP λt Z=>?_
  unfold sS dJ
  by_cases ht:t=s
  .subst ht;simp[i];exactλq=>e q.symm
  .simp[ht]
theorem BX(y:c a≠0)(hb:c b=0):(l5 c).set (c a % 8) (.int (mk λt=>kS c (c a % 8) t != (t==a||t==b)))=l5 (dJ (dJ c a 0) b (c a)):=by
 have z:a≠b:=by rintro rfl;exact y hb
 unfold l5;rw[map_set]
 refine List.map_congr_left λj Z=>?_
 split
 .rename_i e;subst e
  congr 1
  refine bP λt Z=>?_
  unfold kS dJ
  by_cases ht:t=a
  .subst ht;simp[y,z]
  .by_cases i:t=b
   .subst i;simp[y,hb]
   .rw[show(t==a)=false from aE.mpr ht,show(t==b)=false from aE.mpr i];simp[ht,i]
 .rename_i e
  congr 1
  refine bP λt Z=>?_
  unfold kS dJ
  by_cases ht:t=a
  .subst ht;simp[y,z];exactλq=>e q.symm
  .by_cases i:t=b
   .subst i;simp[y,hb];exactλq=>e q.symm
   .simp[ht,i]
theorem BY(y:c a≠0)(hb:c b=0):(l6 c).set (c a/8) (.int (mk λt=>sS c (c a/8) t != (t==a||t==b)))=l6 (dJ (dJ c a 0) b (c a)):=by
 have z:a≠b:=by rintro rfl;exact y hb
 unfold l6;rw[map_set]
 refine List.map_congr_left λj Z=>?_
 split
 .rename_i e;subst e
  congr 1
  refine bP λt Z=>?_
  unfold sS dJ
  by_cases ht:t=a
  .subst ht;simp[y,z]
  .by_cases i:t=b
   .subst i;simp[y,hb]
   .rw[show(t==a)=false from aE.mpr ht,show(t==b)=false from aE.mpr i];simp[ht,i]
 .rename_i e
  congr 1
  refine bP λt Z=>?_
  unfold sS dJ
  by_cases ht:t=a
  .subst ht;simp[y,z];exactλq=>e q.symm
  .by_cases i:t=b
   .subst i;simp[y,hb];exactλq=>e q.symm
   .simp[ht,i]
section
local macro_rules (kind:=PyProof.Rows.tacticWalk_at_) | s=>tyk "\"me\"" s "!Z !6exR_pos !g !6exR_zob !g exR_zp !p hx !n rfl !e !c !4hA !3hd !,4 !g exR_zrow !p hx !n rfl !e !c !4hA !4hB !3hd !3hs !,6 !g !14 !,2"
section
variable{W:Wd}{n:Nat}{σ:Hp}{A:Nat->Addr}{B:Bd}{P:Ps}{τ:Hp}{ρ:Loc}
theorem jt(G:GF W)(hA:bV A)(hB:B.Ok)(y:2<=n)(hp:Pc p)(hs:s<B.N)(i:P.c s=0):∃key,cu W n du [.ref (A 0),.int p,.int s] (wr A B P τ) .none (wr A B {P with c:=dJ P.c s p,key:=key} τ):=by
 refine⟨Builtin.bitXor P.key (2^(p*B.N+s)),cu.body G xD rfl (by omega) ?_⟩
 unfold rO
 have z:=hB.cm
 obtain⟨D,H,j,I⟩:=id hp
 rw[BV (P:=P)]
 ext
 rw[jr (by omega)]
 refine⟨_,_,_,Dm hA,rfl,by lia,by lia,by simp[bU];omega,?_⟩
 rw[Dl hA]
 try dsimp only
 rw[a9,l7]
 ext
 refine mG G (by omega) p _ _ ?_
 refine exR_k hA (s:=p % 8) (v:=.int (mk (kS P.c (p % 8)))) (by simp[l5,j]) (by omega) rfl ?_
 ext
 refine⟨_,_,_,_,rfl,Hm hA,rfl,by lia,by omega,by simp[l5];omega,?_⟩
 rw[Hj hA]
 try dsimp only
 rw[a9,da,Ho i hp]
 ext
 refine mF G (by omega) p _ _ ?_
 refine exR_s hA (s:=p/8) (v:=.int (mk (sS P.c (p/8)))) (by
  have:p/8<2:=by lia
  simp[l6,this]) (by lia) rfl ?_
 ext
 refine⟨_,_,_,_,rfl,Hn hA,rfl,by lia,by lia,by simp[l6];lia,?_⟩
 rw[Hk hA]
 try dsimp only
 rw[a9,da,Hq i hp]
 ext
 refine⟨_,_,_,rfl,Nk hA rfl,?_⟩
 rw[uN hA]
 try dsimp only
 ext
 refine⟨rfl,?_⟩
 rw[BW rfl rfl rfl]
 exact .refl _
theorem kK(G:GF W)(hA:bV A)(hB:B.Ok)(y:2<=n)(hp:Pc (P.c s))(hs:s<B.N):∃key,cu W n fg [.ref (A 0),.int s] (wr A B P τ) (.int (P.c s)) (wr A B {P with c:=dJ P.c s 0,key:=key} τ):=by
 refine⟨Builtin.bitXor P.key (2^(P.c s*B.N+s)),cu.body G vo rfl (by omega) ?_⟩
 unfold pH
 have z:=hB.cm
 obtain⟨i,D,j,H⟩:=id hp
 rw[BV (P:=P)]
 ext
 refine exR_b hA (s:=s) (v:=.int (P.c s)) (by simp[bU,hs]) (by omega) rfl ?_
 ext
 rw[jr (by omega)]
 refine⟨_,_,_,Dm hA,rfl,by lia,by lia,by simp[bU];omega,?_⟩
 rw[Dl hA]
 try dsimp only
 rw[a9,lit0,l7]
 ext
 refine mG G (by omega) (P.c s) _ _ ?_
 refine exR_k hA (s:=P.c s % 8) (v:=.int (mk (kS P.c (P.c s % 8)))) (by simp[l5,j]) (by omega) rfl ?_
 ext
 refine⟨_,_,_,_,rfl,Hm hA,rfl,by lia,by omega,by simp[l5];omega,?_⟩
 rw[Hj hA]
 try dsimp only
 rw[a9,qJ,Ey i]
 ext
 refine mF G (by omega) (P.c s) _ _ ?_
 refine exR_s hA (s:=P.c s/8) (v:=.int (mk (sS P.c (P.c s/8)))) (by
  have:P.c s/8<2:=by lia
  simp[l6,this]) (by lia) rfl ?_
 ext
 refine⟨_,_,_,_,rfl,Hn hA,rfl,by lia,by lia,by simp[l6];lia,?_⟩
 rw[Hk hA]
 try dsimp only
 rw[a9,qJ,Ez i]
 ext
 refine⟨_,_,_,rfl,Nk hA rfl,?_⟩
 rw[uN hA]
 try dsimp only
 ext
 refine⟨rfl,?_⟩
 rw[BW rfl rfl rfl]
 exact .refl _
theorem n6(G:GF W)(hA:bV A)(hB:B.Ok)(D:2<=n)(hp:Pc (P.c a))(y:a<B.N)(hb:b<B.N)(i:P.c b=0):
  ∃key,cu W n cH [.ref (A 0),.int a,.int b] (wr A B P τ) .none (wr A B {P with c:=dJ (dJ P.c a 0) b (P.c a),key:=key} τ):=by
 refine⟨Builtin.bitXor P.key (Builtin.bitXor (2^(P.c a*B.N+a)) (2^(P.c a*B.N+b))),cu.body G tQ rfl (by omega) ?_⟩
 unfold nL
 have H:=hB.cm
 obtain⟨j,I,z,J⟩:=id hp
 rw[BV (P:=P)]
 ext
 refine exR_b hA (s:=a) (v:=.int (P.c a)) (by simp[bU,y]) (by omega) rfl ?_
 ext
 rw[jr (by omega),jr (by omega),da]
 refine⟨_,_,_,Dm hA,rfl,by lia,by lia,by simp[bU];omega,?_⟩
 rw[Dl hA]
 try dsimp only
 rw[a9,lit0,l7]
 ext
 refine⟨_,_,_,Dm hA,rfl,by omega,by omega,by simp[bU];omega,?_⟩
 rw[Dl hA]
 try dsimp only
 rw[a9,l7]
 ext
 refine mG G (by omega) (P.c a) _ _ ?_
 refine exR_k hA (s:=P.c a % 8) (v:=.int (mk (kS P.c (P.c a % 8)))) (by simp[l5,z]) (by omega) rfl ?_
 ext
 refine⟨_,_,_,_,rfl,Hm hA,rfl,by lia,by lia,by simp[l5];omega,?_⟩
 rw[Hj hA]
 try dsimp only
 rw[a9,qJ,BX j i]
 ext
 refine mF G (by omega) (P.c a) _ _ ?_
 refine exR_s hA (s:=P.c a/8) (v:=.int (mk (sS P.c (P.c a/8)))) (by
  have:P.c a/8<2:=by lia
  simp[l6,this]) (by lia) rfl ?_
 ext
 refine⟨_,_,_,_,rfl,Hn hA,rfl,by lia,by lia,by simp[l6];lia,?_⟩
 rw[Hk hA]
 try dsimp only
 rw[a9,qJ,BY j i]
 ext
 refine⟨_,_,_,rfl,Nk hA rfl,?_⟩
 rw[uN hA]
 try dsimp only
 ext
 refine⟨rfl,?_⟩
 rw[BW rfl rfl rfl]
 exact .refl _
end
def BZ(W:Wd)(n f:Nat)(l:List AV)(σ:Hp)(X:AV)(S:Hp->Prop):Prop:=∀(Q:AV->Hp->Prop)(E:Cx->Value->Shared->Prop),(∀bw,S bw->Q X bw)->CALL W n f l σ Q E
def Hr(X:AV)(S:Hp->Prop)(o:f6)(i:Hp):Prop:=match o with
 | .ret v=>v=X/\∃bw,S bw/\Sub bw i
 | .next=>AV.none=X/\∃bw,S bw/\Sub bw i
 | _=>False
section
variable{W:Wd}{n:Nat}{σ:Hp}
theorem BZ.body(G:GF W)(hc:bz f y m c=true)(hl:l.length=y)(z:1<=n)
  (h:AWS W (n-1) c (initLoc m l) σ (λo Z i=>Hr X S o i) (λZ=>b7)):BZ W n f l σ X S:=by
 intro Q E q
 obtain⟨k,rfl⟩:∃k,n=k+1:=⟨n-1,by lia⟩
 refine CALL.lB (CALL.body (Q:=λv i=>v=X/\∃bw,S bw/\Sub bw i) (E:=λZ=>b7) G hc hl jy.none (AWS.bK h λo ρ σ x=>?_)) (λv i h=>?_) λZ Z Z x=>x.elim
 .cases o
  case next=>exact⟨x.1,x.2⟩
  case ret=>exact⟨x.1,x.2⟩
  all_goals exact x
 .obtain⟨rfl,bw,hs,j⟩:=h
  exact⟨bw,j,q _ hs⟩
end
section
variable{A:Nat->Addr}{B:Bd}{P:Ps}{τ:Hp}
theorem wC(hA:bV A)(h:nH A B P'=(nH A B P).set 1 o):(wr A B P τ).set (A 1) o=wr A B P' τ:=Gr hA (by decide) h
theorem mN(hA:bV A):(wr A B P τ).set (A 1) (.dict (hY (nq A P) 22 (.int v)))=wr A B {P with cL:=v} τ:=wC hA rfl
theorem wD(hA:bV A):(wr A B P τ).set (A 1) (.dict (hY (nq A P) 3 (.int v)))=wr A B {P with full:=v} τ:=wC hA rfl
theorem uO(hA:bV A):(wr A B P τ).set (A 1) (.dict (hY (nq A P) 23 (.int v)))=wr A B {P with key:=v} τ:=wC hA rfl
theorem mO(hA:bV A){v:Nat}:(wr A B P τ).set (A 1) (.dict (hY (nq A P) 19 (.int (v:Int))))=wr A B {P with bq:=v} τ:=wC hA rfl
theorem Dn(hA:bV A):(wr A B P τ).set (A 1) (.dict (hY (nq A P) 21 (.int (-1))))=wr A B P τ:=wC hA rfl
theorem z4(hA:bV A):(wr A B P τ).set (A 1) (.dict (hY (nq A P) 20 (.int 0)))=wr A B P τ:=wC hA rfl
theorem wF(hA:bV A)(h:xs=l.map nj.av):(wr A B P τ).set (A 5) (.list true xs)=wr A B {P with cq:=l} τ:=by
 subst h;exact Gr hA (by decide) rfl
theorem nA(hA:bV A)(hk:(bN 1).contains k=true):qz (wr A B P τ) (.ref (A 0)) k=some (A 1,nq A P):=by
 exact Bb (ji hA (k:=0) (by decide)) (ji hA (k:=1) (by decide)) hk (by simp[nq])
theorem mP(hA:bV A):wr A B P τ (A 5)=some (.list true (P.cq.map nj.av)):=ji hA (by omega)
end
section
variable{W:Wd}{n:Nat}{σ:Hp}{A:Nat->Addr}{B:Bd}{P:Ps}{τ:Hp}{ρ:Loc}
structure EA(B:Bd)(c:Nat->Nat)(bq o t sp fd:Nat):Prop where
 ho:o<B.N
 ht:t<B.N
 ne:o≠t
 hs:sp<2
 hf:fd<4
 own:c o≠0/\c o/8=bq
 pc:Pc (c o)
 tk:c t=0\/Pc (c t)
 NY:c o % 8=1->t≠o+2*B.F/\o≠t+2*B.F
theorem vE(G:GF W)(hA:bV A)(hB:B.Ok)(i:2<=n)(M:EA B P.c P.bq o t sp fd):Pure W n jC [.ref (A 0),.int (cy o t sp fd:Nat)] (wr A B P τ) (.int (P.c o)):=by
 refine cu.body G ub rfl (by omega) ?_
 unfold nS
 have j:=hB.cm
 obtain⟨ho,ht,ne,hs,hf,own,pc,tk,NY⟩:=M
 ext
 refine jq G (by omega) (by omega) (by omega) hf _ _ ?_
 ext
 refine bE (λh=>?_) (λZ=>?_)
 .have:=aY h;omega
 ext
 refine j8 G (by omega) (by omega) _ _ ?_
 ext
 refine AWS.ifF (decide_eq_false (by lia)) ?_
 ext
 refine bE (λh=>?_) (λZ=>?_)
 .have:=az.mp h;exact absurd (by lia) own.1
 ext
 refine mF G (by omega) _ _ _ ?_
 ext
 refine AWS.ifF (by rw[own.2];simp) ?_
 ext
 exact⟨rfl,.refl _⟩
theorem l8(G:GF W)(hA:bV A)(i:2<=n)(ho:o<64)(ht:t<64)(hs:sp<2)(hf:fd<4):Pure W n cD [.ref (A 0),.int (cy o t sp fd:Nat)] (wr A B P τ) (.int t):=by
 refine cu.body G jE rfl (by omega) ?_
 unfold fW
 ext
 refine j8 G (by omega) ht _ _ ?_
 ext
 refine gj G (by omega) ho ht hf hs _ _ ?_
 ext
 refine AWS.ifT (aP.mpr (by lia)) ?_
 ext
 exact⟨rfl,.refl _⟩
theorem uP(G:GF W)(hA:bV A)(i:1<=n):Pure W n iU [.ref (A 0)] (wr A B P τ) .none:=by
 refine cu.body G sx rfl (by omega) ?_
 unfold lQ
 ext
 try refine AWS.ifF rfl ?_
 ext
 exact⟨rfl,.refl _⟩
theorem yb(G:GF W)(hA:bV A)(i:1<=n):Pure W n fp [.ref (A 0),.int (-1)] (wr A B P τ) .none:=by
 refine cu.body G vu rfl (by omega) ?_
 unfold pU
 ext
 try refine AWS.ifF rfl ?_
 ext
 refine⟨_,_,nA hA rfl,?_⟩
 rw[Dn hA]
 ext
 exact⟨rfl,.refl _⟩
theorem rk(G:GF W)(hA:bV A)(i:1<=n):Pure W n cR [.ref (A 0),.int 0] (wr A B P τ) .none:=by
 refine cu.body G pX rfl (by omega) ?_
 unfold j7
 ext
 try refine AWS.ifF rfl ?_
 ext
 exact⟨rfl,.refl _⟩
theorem vF(G:GF W)(hA:bV A)(hB:B.Ok)(i:1<=n)(ho:o<B.N)(ht:t<B.N):Pure W n dE [.ref (A 0),.int o,.int t] (wr A B P τ) (.int 0):=by
 refine cu.body G uc rfl (by omega) ?_
 unfold nT
 ext
 exact⟨ae AV.int (by decide),.refl _⟩
theorem sF(G:GF W)(hA:bV A)(hB:B.Ok)(i:1<=n){o t s:Nat}(h1:t≠o+2*B.F)(h2:o≠t+2*B.F):Pure W n dp [.ref (A 0),.int s,.int o,.int t] (wr A B P τ) (.int (-1)):=by
 refine cu.body G qT rfl (by omega) ?_
 unfold kX
 ext
 refine bE (λZ=>?_) (λh=>?_)
 .ext
  refine AWS.ifT (aP.mpr (by lia)) ?_
  ext
  exact⟨rfl,.refl _⟩
 .exact absurd (Int.ofNat.inj ((Int.sub_eq_iff_eq_add'.mp (bo.mp h)))) h1
end
end
def bH(c:Nat->Nat)(bq m:Nat):Nat->Nat:=λs=>if s=NX m then(if TA m=1 then bq*8+(TB m+2)else c (uK m))else if s=uK m then 0 else c s
section
variable{W:Wd}{n:Nat}{σ:Hp}{A:Nat->Addr}{B:Bd}{P:Ps}{τ:Hp}{ρ:Loc}
def wG(A:Nat->Addr)(B:Bd)(c:Nat->Nat)(bq:Nat)(full:Int)(cq:List nj)(τ:Hp)(σ:Hp):Prop:=∃cL key,σ=wr A B ⟨c,bq,cL,full,key,cq⟩ τ
theorem Dp(P':Ps)(h1:P'.c=c)(h2:P'.bq=bq)(h3:P'.full=full)(i:P'.cq=cq):wG A B c bq full cq τ (wr A B P' τ):=by
 subst h1 h2 h3 i
 exact⟨P'.cL,P'.key,rfl⟩
theorem kh(G:GF W)(hA:bV A)(hB:B.Ok)(L:P.bq<2)(hn:4<=n)(hh:P.cq.length<=90000)(M:EA B P.c P.bq o t sp fd)(Wb:sp=1->P.c o % 8=1):
  BZ W n fq [.ref (A 0),.int (cy o t sp fd:Nat)] (wr A B P τ) .none
   (wG A B (bH P.c P.bq (cy o t sp fd)) (1-P.bq) (P.full+P.bq) (P.cq++[⟨cy o t sp fd,P.c t,P.cL,P.key⟩]) τ):=by
 refine BZ.body G BC rfl (by omega) ?_
 unfold wt
 have hN:=hB.cm
 obtain⟨ho,ht,ne,hs,hf,own,pc,tk,NY⟩:=id M
 obtain⟨m1,m2,m3,m4⟩:=eH (o:=o) (t:=t) (sp:=sp) (fd:=fd) (by omega) (by omega) hf hs
 generalize hH:P.cq++[⟨cy o t sp fd,P.c t,P.cL,P.key⟩]=H
 generalize hC:bH P.c P.bq (cy o t sp fd)=I
 have U:∀s,I s=if s=t then(if sp=1 then P.bq*8+(fd+2)else P.c o)else if s=o then 0 else P.c s:=by
  intro s;rw[<-hC];unfold bH;rw[m1,m2,m3,m4]
 have y:∀(P2:Ps)(j:AV),P2.c=I->P2.bq=P.bq->P2.full=P.full->P2.cq=H->AWS W (n-1)
   (.expr (.call cR (.cons (.var 0) (.cons (.call dE (.cons (.var 0) (.cons (.var 4) (.cons (.var 5) .nil)))) .nil)))
    (.bS (.bM .Eq (.var 3) (.bD "BLACK" 1)) (.fZ (.var 0) 3 .Add (.int 1) .skip) .skip
     (.cg (.var 0) 19 (.bx .Sub (.int 1) (.var 3)) (.fZ (.var 0) 23 .BitXor (.bt (.bt (.var 0) 15) 19) .skip))))
   [some (.ref (A 0)),some (.int (cy o t sp fd:Nat)),some (.int (P.c o)),some (.int P.bq),some (.int o),some (.int t),some (.int sp),some j,some (.int t),some (.int (P.c t)),none,none,none,none,none,none,none,none,none,none,none,none,none,none,none,none,none,none,none,none,none,none]
   (wr A B P2 τ) (λo' Z i=>Hr .none (wG A B I (1-P.bq) (P.full+P.bq) H τ) o' i) (λZ=>b7):=by
  intro P2 j h1 h2 h3 J
  ext
  refine vF G hA hB (by omega) ho ht _ _ ?_
  ext
  refine rk G hA (by omega) _ _ ⟨trivial,?_⟩
  ext
  refine AWS.split (λh=>?_) (λh=>?_)
  .have h:P.bq=1:=by have:=az.mp h;lia
   ext
   refine⟨_,_,_,rfl,nA hA rfl,?_⟩
   rw[wD hA]
   ext
   refine⟨_,_,nA hA rfl,?_⟩
   rw[one_sub L,mO hA]
   ext
   refine⟨_,_,_,rfl,nA hA rfl,?_⟩
   rw[uO hA]
   ext
   refine⟨rfl,_,?_,.refl _⟩
   refine Dp _ h1 rfl ?_ J
   show P2.full+1=_
   rw[h3,h];rfl
  .have h:P.bq=0:=by have:=aE.mp h;lia
   ext
   refine⟨_,_,nA hA rfl,?_⟩
   rw[one_sub L,mO hA]
   ext
   refine⟨_,_,_,rfl,nA hA rfl,?_⟩
   rw[uO hA]
   ext
   refine⟨rfl,_,?_,.refl _⟩
   refine Dp _ h1 rfl ?_ J
   show P2.full=_
   rw[h3,h];lia
 have tailD:∀(P2:Ps)(j:AV),P2.c=I->P2.bq=P.bq->P2.full=P.full->P2.cq=H->AWS W (n-1)
   (.bS (.bM .Eq (.call fe (.cons (.var 2) .nil)) (.bD "PAWN" 1))
    (.cg (.var 0) 22 (.int 0) (.expr (.call fp (.cons (.var 0) (.cons (.call dp (.cons (.var 0) (.cons (.var 3) (.cons (.var 4) (.cons (.var 5) .nil))))) .nil))) .skip)) .skip
    (.expr (.call cR (.cons (.var 0) (.cons (.call dE (.cons (.var 0) (.cons (.var 4) (.cons (.var 5) .nil)))) .nil)))
    (.bS (.bM .Eq (.var 3) (.bD "BLACK" 1)) (.fZ (.var 0) 3 .Add (.int 1) .skip) .skip
     (.cg (.var 0) 19 (.bx .Sub (.int 1) (.var 3)) (.fZ (.var 0) 23 .BitXor (.bt (.bt (.var 0) 15) 19) .skip)))))
   [some (.ref (A 0)),some (.int (cy o t sp fd:Nat)),some (.int (P.c o)),some (.int P.bq),some (.int o),some (.int t),some (.int sp),some j,some (.int t),some (.int (P.c t)),none,none,none,none,none,none,none,none,none,none,none,none,none,none,none,none,none,none,none,none,none,none]
   (wr A B P2 τ) (λo' Z i=>Hr .none (wG A B I (1-P.bq) (P.full+P.bq) H τ) o' i) (λZ=>b7):=by
  intro P2 j h1 h2 h3 J
  ext
  refine mG G (by omega) _ _ _ ?_
  ext
  refine AWS.split (λh=>?_) (λh=>?_)
  .have h:P.c o % 8=1:=by have:=az.mp h;lia
   obtain⟨f1,f2⟩:=NY h
   ext
   refine⟨_,_,nA hA rfl,?_⟩
   rw[mN hA]
   ext
   refine sF G hA hB (by omega) f1 f2 _ _ ?_
   ext
   refine yb G hA (by omega) _ _ ⟨trivial,?_⟩
   refine AWS.skip ?_
   exact y _ j h1 h2 h3 J
  .refine AWS.skip ?_
   exact y P2 j h1 h2 h3 J
 have EZ:∀(P1:Ps)(j:AV),P1.c t=0->(∀s,s≠t->P1.c s=P.c s)->P1.bq=P.bq->P1.full=P.full->P1.cq=H->AWS W (n-1)
   (.bS (.bM .Eq (.var 6) (.bD "PROMOTION" 1))
    (.expr (.call fg (.cons (.var 0) (.cons (.var 4) .nil)))
    (.expr (.call du (.cons (.var 0) (.cons (.call gb (.cons (.var 3) (.cons (.call iy (.cons (.var 1) .nil)) .nil))) (.cons (.var 5) .nil)))) .skip))
    (.expr (.call cH (.cons (.var 0) (.cons (.var 4) (.cons (.var 5) .nil)))) .skip)
    (.bS (.bM .Eq (.var 6) (.bD "CASTLING" 3)) (.expr (.call cH (.cons (.var 0) (.cons (.sub (.var 7) (.int 0)) (.cons (.sub (.var 7) (.int 1)) .nil)))) .skip) .skip
    (.bS (.bM .Eq (.call fe (.cons (.var 2) .nil)) (.bD "PAWN" 1))
    (.cg (.var 0) 22 (.int 0) (.expr (.call fp (.cons (.var 0) (.cons (.call dp (.cons (.var 0) (.cons (.var 3) (.cons (.var 4) (.cons (.var 5) .nil))))) .nil))) .skip)) .skip
    (.expr (.call cR (.cons (.var 0) (.cons (.call dE (.cons (.var 0) (.cons (.var 4) (.cons (.var 5) .nil)))) .nil)))
    (.bS (.bM .Eq (.var 3) (.bD "BLACK" 1)) (.fZ (.var 0) 3 .Add (.int 1) .skip) .skip
     (.cg (.var 0) 19 (.bx .Sub (.int 1) (.var 3)) (.fZ (.var 0) 23 .BitXor (.bt (.bt (.var 0) 15) 19) .skip)))))))
   [some (.ref (A 0)),some (.int (cy o t sp fd:Nat)),some (.int (P.c o)),some (.int P.bq),some (.int o),some (.int t),some (.int sp),some j,some (.int t),some (.int (P.c t)),none,none,none,none,none,none,none,none,none,none,none,none,none,none,none,none,none,none,none,none,none,none]
   (wr A B P1 τ) (λo' Z i=>Hr .none (wG A B I (1-P.bq) (P.full+P.bq) H τ) o' i) (λZ=>b7):=by
  intro P1 j g1 V h2 h3 J
  have go:=V o ne
  have z:∀P2:Ps,P2.c=I->P2.bq=P.bq->P2.full=P.full->P2.cq=H->AWS W (n-1)
    (.bS (.bM .Eq (.var 6) (.bD "CASTLING" 3)) (.expr (.call cH (.cons (.var 0) (.cons (.sub (.var 7) (.int 0)) (.cons (.sub (.var 7) (.int 1)) .nil)))) .skip) .skip
    (.bS (.bM .Eq (.call fe (.cons (.var 2) .nil)) (.bD "PAWN" 1))
    (.cg (.var 0) 22 (.int 0) (.expr (.call fp (.cons (.var 0) (.cons (.call dp (.cons (.var 0) (.cons (.var 3) (.cons (.var 4) (.cons (.var 5) .nil))))) .nil))) .skip)) .skip
    (.expr (.call cR (.cons (.var 0) (.cons (.call dE (.cons (.var 0) (.cons (.var 4) (.cons (.var 5) .nil)))) .nil)))
    (.bS (.bM .Eq (.var 3) (.bD "BLACK" 1)) (.fZ (.var 0) 3 .Add (.int 1) .skip) .skip
     (.cg (.var 0) 19 (.bx .Sub (.int 1) (.var 3)) (.fZ (.var 0) 23 .BitXor (.bt (.bt (.var 0) 15) 19) .skip))))))
    [some (.ref (A 0)),some (.int (cy o t sp fd:Nat)),some (.int (P.c o)),some (.int P.bq),some (.int o),some (.int t),some (.int sp),some j,some (.int t),some (.int (P.c t)),none,none,none,none,none,none,none,none,none,none,none,none,none,none,none,none,none,none,none,none,none,none]
    (wr A B P2 τ) (λo' Z i=>Hr .none (wG A B I (1-P.bq) (P.full+P.bq) H τ) o' i) (λZ=>b7):=by
   intro P2 h1 h2 h3 J
   ext
   refine AWS.ifF (aE.mpr (by lia)) ?_
   refine AWS.skip ?_
   exact tailD P2 j h1 h2 h3 J
  ext
  refine AWS.split (λh=>?_) (λh=>?_)
  .have h:sp=1:=by have:=az.mp h;lia
   subst h
   obtain⟨D,e1⟩:=kK (P:=P1) (τ:=τ) (n:=n-1) G hA hB (by omega) (s:=o) (by rw[go];exact pc) ho
   have O:P.bq*8+(fd+2)<15:=by lia
   obtain⟨Sr,e2⟩:=jt (P:={P1 with c:=dJ P1.c o 0,key:=D}) (τ:=τ) (n:=n-1) G hA hB (by omega) (p:=P.bq*8+(fd+2)) (s:=t) ⟨by lia,O,by lia,by lia⟩ ht (by
    show dJ P1.c o 0 t=0
    unfold dJ;rw[ah (Ne.symm ne)];exact g1)
   ext
   refine e1 _ _ ⟨trivial,?_⟩
   ext
   refine xU G (by omega) (by omega) (by omega) hf _ _ ?_
   ext
   refine p8 G (by omega) P.bq (fd+2) L _ _ ?_
   ext
   refine e2 _ _ ⟨trivial,?_⟩
   refine AWS.skip ?_
   refine z _ ?_ h2 h3 J
   show dJ (dJ P1.c o 0) t (P.bq*8+(fd+2))=I
   funext s
   rw[U]
   unfold dJ
   by_cases e:s=t
   .simp[e]
   .simp only[e,if_false]
    split
    .rfl
    .exact V s e
  .have h:sp=0:=by have:=aE.mp h;lia
   subst h
   obtain⟨D,e1⟩:=n6 (P:=P1) (τ:=τ) (n:=n-1) G hA hB (by omega) (a:=o) (b:=t) (by rw[go];exact pc) ho ht g1
   ext
   refine e1 _ _ ⟨trivial,?_⟩
   refine AWS.skip ?_
   refine z _ ?_ h2 h3 J
   show dJ (dJ P1.c o 0) t (P1.c o)=I
   funext s
   rw[U]
   unfold dJ
   by_cases e:s=t
   .simp[e,go]
   .simp only[e,if_false]
    split
    .rfl
    .exact V s e
 ext
 refine vE G hA hB (by omega) M _ _ ?_
 ext
 refine jq G (by omega) (by omega) (by omega) hf _ _ ?_
 ext
 refine j8 G (by omega) (by omega) _ _ ?_
 ext
 refine gj G (by omega) (by omega) (by omega) hf hs _ _ ?_
 ext
 refine⟨oc rfl,?_⟩
 ext
 refine AWS.ifF (aE.mpr (by lia)) ?_
 ext
 refine l8 G hA (by omega) (by omega) (by omega) hs hf _ _ ?_
 ext
 refine⟨A 5,_,cB (mP hA),?_⟩
 ext
 refine⟨by simp,P.cq.map nj.av,mP hA,by simp;omega,trivial,?_⟩
 rw[wF hA (l:=P.cq++[⟨cy o t sp fd,P.c t,P.cL,P.key⟩]) (by rw[List.map_append];rfl),hH]
 ext
 refine uP G hA (by omega) _ _ ⟨trivial,?_⟩
 ext
 refine⟨_,_,_,rfl,nA hA rfl,?_⟩
 rw[mN hA]
 ext
 refine AWS.split (λh=>?_) (λh=>?_)
 .have h:P.c t≠0:=by have:=aP.mp h;lia
  have Y:Pc (P.c t):=tk.resolve_left h
  obtain⟨D,e1⟩:=kK (P:={P with cq:=H,cL:=P.cL+1}) (τ:=τ) (n:=n-1) G hA hB (by omega) (s:=t) Y ht
  ext
  refine e1 _ _ ⟨trivial,?_⟩
  ext
  refine⟨_,_,nA hA rfl,?_⟩
  rw[mN hA]
  refine AWS.skip ?_
  refine EZ _ _ ?_ ?_ rfl rfl rfl
  .show dJ P.c t 0 t=0
   unfold dJ;rw[ag rfl]
  .intro s Va
   show dJ P.c t 0 s=P.c s
   unfold dJ;rw[ah Va]
 .have h:P.c t=0:=by have:=bo.mp h;lia
  refine AWS.skip ?_
  exact EZ _ _ h (λZ Z=>rfl) rfl rfl rfl
end
section
variable{W:Wd}{n:Nat}{σ:Hp}{A:Nat->Addr}{B:Bd}{P:Ps}{τ:Hp}{ρ:Loc}
theorem uQ(hA:bV A)(h:P.cq.length<=90001):lg (wr A B P τ) (.ref (A 5))=some (P.cq.length:Int):=by
 unfold lg
 simp only[mP hA]
 rw[ag (by simp;omega)]
 simp
theorem z5(G:GF W)(hA:bV A)(hB:B.Ok)(hn:4<=n)(L:bq<2)(hh:H0.length<=90000)(M:EA B c bq o t sp fd)(U:sp=1->c o % 8=1)
  (hc:P.c=bH c bq (cy o t sp fd)) (V:P.bq=1-bq) (hH:P.cq=H0++[⟨cy o t sp fd,c t,cL,key⟩]):
  cu W n dw [.ref (A 0)] (wr A B P τ) .none (wr A B ⟨c,bq,cL,P.full-bq,key,H0⟩ τ):=by
 refine cu.body G xH rfl (by omega) ?_
 unfold rS
 have hN:=hB.cm
 obtain⟨ho,ht,ne,hs,hf,own,pc,tk,NY⟩:=id M
 obtain⟨m1,m2,m3,m4⟩:=eH (o:=o) (t:=t) (sp:=sp) (fd:=fd) (by omega) (by omega) hf hs
 have y:∀s,P.c s=if s=t then(if sp=1 then bq*8+(fd+2)else c o)else if s=o then 0 else c s:=by
  intro s;rw[hc];unfold bH;rw[m1,m2,m3,m4]
 have z:∀(P3:Ps),P3.bq=bq->P3.cq=H0->P3.c=c->∀f:Int,f=P3.full->f=P.full-bq->AWS W (n-1)
   (.cg (.var 0) 20 (.var 3) (.cg (.var 0) 21 (.var 4) (.cg (.var 0) 22 (.var 5) (.cg (.var 0) 23 (.var 6) .skip))))
   [some (.ref (A 0)),some (.int (cy o t sp fd:Nat)),some (.int (c t)),some (.int 0),some (.int (-1)),some (.int cL),some (.int key),some (.int bq),some (.int o),some (.int t),some (.int sp),none,none,none,none,none,none,none,none,none,none,none,none,none,none,none,none,none]
   (wr A B P3 τ) (λo' Z i=>Fin .none (wr A B ⟨c,bq,cL,P.full-bq,key,H0⟩ τ) o' i) (λZ=>b7):=by
  intro P3 h1 h2 h3 f O h5
  ext
  refine⟨_,_,nA hA rfl,?_⟩
  rw[z4 hA]
  ext
  refine⟨_,_,nA hA rfl,?_⟩
  rw[Dn hA]
  ext
  refine⟨_,_,nA hA rfl,?_⟩
  rw[mN hA]
  ext
  refine⟨_,_,nA hA rfl,?_⟩
  rw[uO hA]
  ext
  refine⟨rfl,?_⟩
  rw[<-h5,O,<-h3,<-h1,<-h2]
  exact .refl _
 have D:∀(P3:Ps),P3.bq=bq->P3.cq=H0->P3.c=c->P3.full=P.full->AWS W (n-1)
   (.bS (.bM .Eq (.var 7) (.bD "BLACK" 1)) (.fZ (.var 0) 3 .Sub (.int 1) .skip) .skip
   (.cg (.var 0) 20 (.var 3) (.cg (.var 0) 21 (.var 4) (.cg (.var 0) 22 (.var 5) (.cg (.var 0) 23 (.var 6) .skip)))))
   [some (.ref (A 0)),some (.int (cy o t sp fd:Nat)),some (.int (c t)),some (.int 0),some (.int (-1)),some (.int cL),some (.int key),some (.int bq),some (.int o),some (.int t),some (.int sp),none,none,none,none,none,none,none,none,none,none,none,none,none,none,none,none,none]
   (wr A B P3 τ) (λo' Z i=>Fin .none (wr A B ⟨c,bq,cL,P.full-bq,key,H0⟩ τ) o' i) (λZ=>b7):=by
  intro P3 h1 h2 h3 O
  ext
  refine AWS.split (λh=>?_) (λh=>?_)
  .have h:bq=1:=by have:=az.mp h;lia
   ext
   refine⟨_,_,_,rfl,nA hA rfl,?_⟩
   rw[wD hA]
   refine AWS.skip ?_
   exact z _ h1 h2 h3 _ rfl (by show P3.full-1=_;lia)
  .have h:bq=0:=by have:=aE.mp h;lia
   refine AWS.skip ?_
   exact z P3 h1 h2 h3 _ rfl (by lia)
 have H:∀(P2:Ps),P2.bq=bq->P2.cq=H0->(∀s,P2.c s=if s=o then c o else if s=t then 0 else c s)->P2.full=P.full->AWS W (n-1)
   (.bS (.bM .Eq (.var 10) (.bD "CASTLING" 3)) (.bL 11 (.call lG (.cons (.bt (.var 0) 14) (.cons (.var 7) (.cons (.var 9) .nil)))) (.expr (.call cH (.cons (.var 0) (.cons (.sub (.var 11) (.int 1)) (.cons (.sub (.var 11) (.int 0)) .nil)))) .skip)) .skip
   (.bS (.bM .NotEq (.var 2) (.bD "EMPTY" 0)) (.expr (.call du (.cons (.var 0) (.cons (.var 2) (.cons (.call cD (.cons (.var 0) (.cons (.var 1) .nil))) .nil)))) .skip) .skip
   (.bS (.bM .Eq (.var 7) (.bD "BLACK" 1)) (.fZ (.var 0) 3 .Sub (.int 1) .skip) .skip
   (.cg (.var 0) 20 (.var 3) (.cg (.var 0) 21 (.var 4) (.cg (.var 0) 22 (.var 5) (.cg (.var 0) 23 (.var 6) .skip)))))))
   [some (.ref (A 0)),some (.int (cy o t sp fd:Nat)),some (.int (c t)),some (.int 0),some (.int (-1)),some (.int cL),some (.int key),some (.int bq),some (.int o),some (.int t),some (.int sp),none,none,none,none,none,none,none,none,none,none,none,none,none,none,none,none,none]
   (wr A B P2 τ) (λo' Z i=>Fin .none (wr A B ⟨c,bq,cL,P.full-bq,key,H0⟩ τ) o' i) (λZ=>b7):=by
  intro P2 h1 h2 h3 O
  ext
  refine AWS.ifF (aE.mpr (by lia)) ?_
  refine AWS.skip ?_
  ext
  refine AWS.split (λh=>?_) (λh=>?_)
  .have h:c t≠0:=by have:=aP.mp h;lia
   obtain⟨I,e1⟩:=jt (P:=P2) (τ:=τ) (n:=n-1) G hA hB (by omega) (p:=c t) (s:=t) (tk.resolve_left h) ht (by rw[h3,ah (Ne.symm ne),ag rfl])
   ext
   refine l8 G hA (by omega) (by omega) (by omega) hs hf _ _ ?_
   ext
   refine e1 _ _ ⟨trivial,?_⟩
   refine AWS.skip ?_
   refine D _ h1 h2 ?_ O
   show dJ P2.c t (c t)=c
   funext s
   unfold dJ
   by_cases e:s=t
   .simp[e]
   .simp only[e,if_false];rw[h3]
    by_cases j:s=o
    .simp[j]
    .simp[e,j]
  .have h:c t=0:=by have:=bo.mp h;lia
   refine AWS.skip ?_
   refine D P2 h1 h2 ?_ O
   funext s
   rw[h3]
   by_cases j:s=o
   .simp[j]
   .by_cases e:s=t
    .simp[e,h,Ne.symm ne]
    .simp[e,j]
 ext
 have Th:P.cq.length=H0.length+1:=by rw[hH];simp
 refine⟨_,uQ hA (by lia),?_⟩
 ext
 refine AWS.ifF (aE.mpr (by lia)) ?_
 ext
 refine AWE.pop ?_
 ext
 refine⟨A 5,H0.map nj.av,nj.av ⟨cy o t sp fd,c t,cL,key⟩,rfl,?_,by simp;omega,_,rfl,rfl,?_⟩
 .rw[mP hA,hH,List.map_append];rfl
 rw[wF hA (l:=H0) rfl]
 ext
 have es:(1:Int)-(P.bq:Int)=(bq:Int):=by rw[V];exact Kn L
 refine⟨_,_,nA hA rfl,?_⟩
 rw[es,mO hA]
 ext
 refine jq G (by omega) (by omega) (by omega) hf _ _ ?_
 ext
 refine j8 G (by omega) (by omega) _ _ ?_
 ext
 refine gj G (by omega) (by omega) (by omega) hf hs _ _ ?_
 ext
 refine AWS.split (λh=>?_) (λh=>?_)
 .have h:sp=1:=by have:=az.mp h;lia
  subst h
  have J:P.c t=bq*8+(fd+2):=by rw[y,ag rfl,ag rfl]
  have Y:c o=bq*8+1:=by have:=U rfl;have:=own.2;lia
  obtain⟨I,e1⟩:=kK (P:={P with cq:=H0,bq:=bq}) (τ:=τ) (n:=n-1) G hA hB (by omega) (s:=t) (by show Pc (P.c t);rw[J];exact⟨by lia,by lia,by lia,by lia⟩) ht
  obtain⟨Sr,e2⟩:=jt (P:={P with cq:=H0,bq:=bq,c:=dJ P.c t 0,key:=I}) (τ:=τ) (n:=n-1) G hA hB (by omega) (p:=bq*8+1) (s:=o) ⟨by lia,by lia,by lia,by lia⟩ ho (by
   show dJ P.c t 0 o=0
   unfold dJ;rw[ah ne,y,ah ne,ag rfl])
  ext
  refine e1 _ _ ⟨trivial,?_⟩
  ext
  refine p8 G (by omega) bq 1 L _ _ ?_
  ext
  refine e2 _ _ ⟨trivial,?_⟩
  refine AWS.skip ?_
  refine H _ rfl rfl ?_ rfl
  intro s
  show dJ (dJ P.c t 0) o (bq*8+1) s=_
  unfold dJ
  by_cases e:s=o
  .simp[e,Y]
  .by_cases j:s=t
   .rw[ah e,ag j,ah e,ag j]
   .simp only[e,j,if_false];rw[y,ah j,ah e]
 .have h:sp=0:=by have:=aE.mp h;lia
  subst h
  have J:P.c t=c o:=by rw[y,ag rfl,ah (by lia)]
  obtain⟨I,e1⟩:=n6 (P:={P with cq:=H0,bq:=bq}) (τ:=τ) (n:=n-1) G hA hB (by omega) (a:=t) (b:=o) (by show Pc (P.c t);rw[J];exact pc) ht ho (by show P.c o=0;rw[y,ah ne,ag rfl])
  ext
  refine e1 _ _ ⟨trivial,?_⟩
  refine AWS.skip ?_
  refine H _ rfl rfl ?_ rfl
  intro s
  show dJ (dJ P.c t 0) o (P.c t) s=_
  unfold dJ
  by_cases e:s=o
  .simp[e,J]
  .by_cases j:s=t
   .rw[ah e,ag j,ah e,ag j]
   .simp only[e,j,if_false];rw[y,ah j,ah e]
end
def kq(c:Nat->Nat)(bq:Nat):Nat:=((List.range 32).find? λs=>sS c bq s&&kS c 6 s).getD 0
def bI(B:Bd)(c:Nat->Nat)(bq:Nat):List Nat:=rg B c bq (kq c bq)
def u9(B:Bd)(c:Nat->Nat)(bq:Nat):Bool:=hK B c bq (kq c bq)
def sG(B:Bd)(L:(Nat->Nat)->Nat->Bool)(c:Nat->Nat)(bq:Nat):Bool:=(bI B c bq).any λm=>L (bH c bq m) (1-bq)
def dj(B:Bd):Nat->(Nat->Nat)->Nat->Bool
 | 0,c,bq=>u9 B c bq&& !sE B c bq (kq c bq)
 | m+1,c,bq=>if(bI B c bq).length=0 then u9 B c bq else(bI B c bq).all λr=>sG B (dj B m) (bH c bq r) (1-bq)
def gx(B:Bd):Nat->(Nat->Nat)->Nat->Bool
 | 0,_,_=>false
 | m+1,c,bq=>sG B (dj B m) c bq
def sH(l:List Nat)(p:Nat->Bool)(g:Nat->List Nat):List Nat:=match l.find? p with
 | some r=>r::g r
 | none=>[]
def Dq(B:Bd)(L:(Nat->Nat)->Nat->Bool)(H:(Nat->Nat)->Nat->List Nat)(c:Nat->Nat)(bq:Nat):List Nat:=sH (bI B c bq) (λr=>L (bH c bq r) (1-bq)) λr=>H (bH c bq r) (1-bq)
def l9(B:Bd):Nat->(Nat->Nat)->Nat->List Nat
 | 0,_,_=>[]
 | m+1,c,bq=>sH (bI B c bq) (λr=>!gx B m (bH c bq r) (1-bq)) λr=>Dq B (dj B m) (l9 B m) (bH c bq r) (1-bq)
def i6(B:Bd)(m:Nat)(c:Nat->Nat)(bq:Nat):List Nat:=Dq B (dj B m) (l9 B m) c bq
structure Gd(B:Bd)(S:(Nat->Nat)->Nat->Prop):Prop where
 eS:∀c bq,S c bq->∀s,c s≠0->s<B.N
 bq:∀c bq,S c bq->bq<2
 king:∀c bq,S c bq->eM c bq (kq c bq)/\kq c bq<B.N
 mv:∀c bq,S c bq->∀m∈bI B c bq,S (bH c bq m) (1-bq)/\∃o t sp fd,m=cy o t sp fd/\EA B c bq o t sp fd/\(sp=1->c o % 8=1)
theorem Gd.ok(g:Gd B S){P:Ps}(h:S P.c P.bq):P.Ok B:=⟨g.eS _ _ h,g.bq _ _ h⟩
theorem B0(B:Bd)(c:Nat->Nat)(bq k:Nat):(rg B c bq k).length<=20000:=by
 unfold rg
 have h1:=List.length_filter_le (oU B c bq k) (gu B c bq k (if hK B c bq k then 3 else 2))
 have:=z3 B c bq k (if hK B c bq k then 3 else 2)
 lia
section
variable{W:Wd}{n:Nat}{σ:Hp}{A:Nat->Addr}{B:Bd}{P:Ps}{τ:Hp}{ρ:Loc}{S:(Nat->Nat)->Nat->Prop}
theorem gY(i:fL A a=none):bO (wr A B P (τ.set a (.list true (bA l)))) (.ref a)=some (bA l):=by
 unfold bO;dsimp only;rw[bT i,br]
theorem len_list(i:fL A a=none)(h:τ a=some (.list true (bA l)))(hl:l.length<=90000):lg (wr A B P τ) (.ref a)=some (l.length:Int):=by
 unfold lg
 simp only[bT i,h]
 rw[ag (by rw[bR];omega),bR]
theorem eY(G:GF W)(hA:bV A)(hB:B.Ok)(y:4<=n)(i:P.bq<2)(hh:P.cq.length<=90000)(M:EA B P.c P.bq o t sp fd)(j:sp=1->P.c o % 8=1):
  cu W n dw [.ref (A 0)] (wr A B ⟨bH P.c P.bq (cy o t sp fd),1-P.bq,cL,P.full+P.bq,key,P.cq++[⟨cy o t sp fd,P.c t,P.cL,P.key⟩]⟩ τ) .none (wr A B P τ):=by
 have u:=z5 (W:=W) (n:=n) (A:=A) (B:=B) (τ:=τ) (P:=⟨bH P.c P.bq (cy o t sp fd),1-P.bq,cL,P.full+P.bq,key,P.cq++[⟨cy o t sp fd,P.c t,P.cL,P.key⟩]⟩) (c:=P.c) (bq:=P.bq) (H0:=P.cq) (cL:=P.cL) (key:=P.key) G hA hB y i hh M j rfl rfl rfl
 try dsimp only at u
 rw[show P.full+(P.bq:Int)-(P.bq:Int)=P.full by lia]at u
 exact u
def Ks(W:Wd)(A:Nat->Addr)(B:Bd)(S:(Nat->Nat)->Nat->Prop)(m:Nat):Prop:=∀(n:Nat)(P:Ps)(τ:Hp),11+2*m<=n->S P.c P.bq->P.cq.length+2*m<=80000->Pure W n ky [.ref (A 0),.int (m:Nat)] (wr A B P τ) (.bool (gx B m P.c P.bq))
def Dr(W:Wd)(A:Nat->Addr)(B:Bd)(S:(Nat->Nat)->Nat->Prop)(m:Nat):Prop:=∀(n:Nat)(P:Ps)(τ:Hp),12+2*m<=n->S P.c P.bq->P.cq.length+2*m+1<=80000->Pure W n gW [.ref (A 0),.int (m:Nat)] (wr A B P τ) (.bool (dj B m P.c P.bq))
theorem Hs(G:GF W):Ks W A B S 0:=by
 intro n P τ i j hh
 refine cu.body G rU rfl (by omega) ?_
 unfold oG
 ext
 try refine AWS.ifT rfl ?_
 ext
 exact⟨rfl,.refl _⟩
theorem EB(G:GF W)(hA:bV A)(hB:B.Ok)(g:Gd B S):Dr W A B S 0:=by
 intro n P τ z i hh
 have j:=g.ok i
 have hs:=j.bq
 obtain⟨hk,y⟩:=g.king _ _ i
 refine cu.body G lR rfl (by omega) ?_
 unfold jF
 ext
 try refine AWS.ifT rfl ?_
 ext
 refine kF G hA hB (by omega) hs hk y _ _ ?_
 ext
 refine bE (λh=>?_) (λh=>?_)
 .ext
  refine rj G hA hB j (by omega) hk y _ _ ?_
  ext
  refine⟨ae AV.bool ?_,.refl _⟩
  show _=(u9 B _ _&& !sE B _ _ _)
  unfold u9
  rw[h];simp
 .ext
  refine⟨ae AV.bool ?_,.refl _⟩
  show _=(u9 B _ _&& !sE B _ _ _)
  unfold u9
  rw[h];rfl
theorem z6(G:GF W)(hA:bV A)(hB:B.Ok)(g:Gd B S)(hl:Dr W A B S m):Ks W A B S (m+1):=by
 intro n P τ O z hh
 have J:=g.ok z
 have hs:=J.bq
 obtain⟨hk,L⟩:=g.king _ _ z
 refine cu.body G rU rfl (by omega) ?_
 unfold oG
 ext
 refine AWS.ifF (decide_eq_false (by lia)) ?_
 ext
 refine AWS.fi b0.none ?_
 ext
 refine eI G hA hB J (by lia) hk L _ _ λa D=>?_
 have j:=(bG D).1
 rw[bB j]
 refine⟨bA (bI B P.c P.bq),λZ=>[some (.ref (A 0)),some (.int ((m+1:Nat):Int)),none,none,none,none,none,none],λZ=>wr A B P (τ.set a (.list true (bA (bI B P.c P.bq)))),λi=>((bI B P.c P.bq).take i).any (λr=>dj B m (bH P.c P.bq r) (1-P.bq))=false,by simp,
   λZ Z=>gY j,gY j,⟨rfl,rfl,trivial⟩,.refl _,λhh=>?_,λi x hi h2 hx=>?_⟩
 .try dsimp only at hh ⊢
  rw[bR,aX]at hh
  ext
  refine⟨ae AV.bool ?_,cO D⟩
  exact hh.symm
 .obtain⟨r,e1,rfl⟩:=bX hx
  obtain⟨H,o,t,sp,fd,rfl,M,y⟩:=g.mv _ _ z r (aD e1)
  refine⟨_,rfl,?_⟩
  try dsimp only
  ext
  refine kh G hA hB hs (by lia) (by lia) M y _ _ λbw I=>⟨trivial,?_⟩
  obtain⟨cL,key,rfl⟩:=I
  ext
  have e2:((m+1:Nat):Int)-1=(m:Nat):=by lia
  rw[e2]
  refine hl (n-1) ⟨bH P.c P.bq (cy o t sp fd),1-P.bq,cL,P.full+P.bq,key,P.cq++[⟨cy o t sp fd,P.c t,P.cL,P.key⟩]⟩ _ (by lia) H (by simp;lia) _ _ ?_
  ext
  refine eY G hA hB (by lia) hs (by lia) M y _ _ ⟨trivial,?_⟩
  ext
  refine AWS.split (λh=>?_) (λh=>?_)
  .ext
   refine⟨ae AV.bool ?_,cO D⟩
   show true=sG B (dj B m) P.c P.bq
   symm
   exact aU.mpr ⟨_,aD e1,h⟩
  .ext
   refine⟨?_,⟨rfl,rfl,trivial⟩,.refl _⟩
   rw[eG e1,h2,h];rfl
end
theorem vG{l:List Nat}(h:l[i]? =some x):(l.take (i+1)).all p=((l.take i).all p&&p x):=by
 rw[take_snoc h,List.all_append]
 exact ae (_&&·) (Bool.and_true _)
theorem mf{l:List Nat}(h:l[i]? =some x)(j:(l.take i).find? p=none)(hp:p x=true):l.find? p=some x:=by
 rw[<-List.take_append_drop (i+1) l,take_snoc h,List.find?_append,List.find?_append,j,List.find?_cons_of_pos hp];rfl
theorem mh{l:List Nat}(h:l[i]? =some x)(j:(l.take i).find? p=none)(hp:p x=false):(l.take (i+1)).find? p=none:=by
 rw[take_snoc h,List.find?_append,j]
 exact List.find?_cons_of_neg (by rw[hp];exact Bool.false_ne_true)
section
variable{W:Wd}{n:Nat}{σ:Hp}{A:Nat->Addr}{B:Bd}{P:Ps}{τ:Hp}{ρ:Loc}{S:(Nat->Nat)->Nat->Prop}
theorem EC(G:GF W)(hA:bV A)(hB:B.Ok)(g:Gd B S)(hl:Ks W A B S (m+1)):Dr W A B S (m+1):=by
 intro n P τ V D hh
 have J:=g.ok D
 have hs:=J.bq
 obtain⟨hk,L⟩:=g.king _ _ D
 have O:=B0 B P.c P.bq (kq P.c P.bq)
 refine cu.body G lR rfl (by omega) ?_
 unfold jF
 ext
 refine AWS.ifF (decide_eq_false (by lia)) ?_
 ext
 refine eI G hA hB J (by lia) hk L _ _ λa z=>?_
 have j:=(bG z).1
 rw[bB j]
 ext
 refine⟨_,len_list j br (by omega),?_⟩
 ext
 refine AWS.split (λh=>?_) (λh=>?_)
 .have h:(bI B P.c P.bq).length=0:=by have:=az.mp h;unfold bI;lia
  ext
  refine kF G hA hB (by lia) hs hk L _ _ ?_
  ext
  refine⟨ae AV.bool ?_,cO z⟩
  show _=(if(bI B _ _).length=0 then u9 B _ _ else(bI B _ _).all λr=>sG B (dj B m) (bH _ _ r) (1-_))
  rw[ag h];rfl
 have U:¬(bI B P.c P.bq).length=0:=by have:=aE.mp h;unfold bI;lia
 ext
 refine AWS.fi b0.none ?_
 ext
 refine⟨bA (bI B P.c P.bq),λZ=>[some (.ref (A 0)),some (.int ((m+1:Nat):Int)),some (.ref a),none,none,none,none,none,none,none,none,none],λZ=>wr A B P (τ.set a (.list true (bA (bI B P.c P.bq)))),λi=>((bI B P.c P.bq).take i).all (λr=>sG B (dj B m) (bH P.c P.bq r) (1-P.bq))=true,by simp,
   λZ Z=>gY j,gY j,⟨rfl,rfl,rfl,trivial⟩,.refl _,λhh=>?_,λi x hi h2 hx=>?_⟩
 .try dsimp only at hh ⊢
  rw[bR,aX]at hh
  ext
  refine⟨ae AV.bool ?_,cO z⟩
  show _=(if(bI B _ _).length=0 then u9 B _ _ else(bI B _ _).all λr=>sG B (dj B m) (bH _ _ r) (1-_))
  rw[ah U];exact hh.symm
 .obtain⟨r,e1,rfl⟩:=bX hx
  obtain⟨H,o,t,sp,fd,rfl,M,y⟩:=g.mv _ _ D r (aD e1)
  refine⟨_,rfl,?_⟩
  try dsimp only
  ext
  refine kh G hA hB hs (by lia) (by lia) M y _ _ λbw I=>⟨trivial,?_⟩
  obtain⟨cL,key,rfl⟩:=I
  ext
  refine hl (n-1) ⟨bH P.c P.bq (cy o t sp fd),1-P.bq,cL,P.full+P.bq,key,P.cq++[⟨cy o t sp fd,P.c t,P.cL,P.key⟩]⟩ _ (by lia) H (by simp;lia) _ _ ?_
  ext
  refine eY G hA hB (by lia) hs (by lia) M y _ _ ⟨trivial,?_⟩
  ext
  refine AWS.split (λh=>?_) (λh=>?_)
  .have h:gx B (m+1) (bH P.c P.bq (cy o t sp fd)) (1-P.bq)=false:=by simpa using h
   ext
   refine⟨ae AV.bool ?_,cO z⟩
   show _=(if(bI B _ _).length=0 then u9 B _ _ else(bI B _ _).all λr=>sG B (dj B m) (bH _ _ r) (1-_))
   rw[ah U]
   symm
   rw[List.all_eq_false]
   have h:sG B (dj B m) (bH P.c P.bq (cy o t sp fd)) (1-P.bq)=false:=h
   exact⟨_,aD e1,by rw[h];simp⟩
  .have h:gx B (m+1) (bH P.c P.bq (cy o t sp fd)) (1-P.bq)=true:=by simpa using h
   ext
   refine⟨?_,⟨rfl,rfl,rfl,trivial⟩,.refl _⟩
   have h:sG B (dj B m) (bH P.c P.bq (cy o t sp fd)) (1-P.bq)=true:=h
   rw[vG e1,h2,h];rfl
theorem z7(G:GF W)(hA:bV A)(hB:B.Ok)(g:Gd B S)(m:Nat):Ks W A B S m/\Dr W A B S m:=by
 induction m with
 | zero=>exact⟨Hs G,EB G hA hB g⟩
 | succ m i=>exact⟨z6 G hA hB g i.2,EC G hA hB g (z6 G hA hB g i.2)⟩
theorem z8{g:Nat->List Nat}(h:∀r,(g r).length<=b):(sH l p g).length<=b+1:=by
 unfold sH
 split
 .have:=h (by assumption);simp;omega
 .simp
theorem uR(B:Bd)(m:Nat)(c:Nat->Nat)(bq:Nat):(l9 B m c bq).length<=2*m/\(i6 B m c bq).length<=2*m+1:=by
 have i:∀m,(∀c bq,(l9 B m c bq).length<=2*m)->∀c bq,(i6 B m c bq).length<=2*m+1:=λm h c bq=>z8 (b:=2*m) λr=>h _ _
 induction m generalizing c bq with
 | zero=>
  have h:∀c bq,(l9 B 0 c bq).length<=2*0:=λc bq=>Nat.le_refl _
  exact⟨h c bq,i 0 h c bq⟩
 | succ m j=>
  have h:∀c bq,(l9 B (m+1) c bq).length<=2*(m+1):=λc bq=>z8 (b:=2*m+1) λr=>(j _ _).2
  exact⟨h c bq,i _ h c bq⟩
def Ht(W:Wd)(A:Nat->Addr)(B:Bd)(S:(Nat->Nat)->Nat->Prop)(m:Nat):Prop:=∀(n:Nat)(P:Ps)(τ:Hp),13+2*m<=n->m<=9->S P.c P.bq->P.cq.length+2*m+2<=80000->g6 W n gX [.ref (A 0),.int ((m+1:Nat):Int)] (wr A B P τ) (bA (i6 B m P.c P.bq))
def Ds(W:Wd)(A:Nat->Addr)(B:Bd)(S:(Nat->Nat)->Nat->Prop)(m:Nat):Prop:=∀(n:Nat)(P:Ps)(τ:Hp),12+2*m<=n->m<=9->S P.c P.bq->P.cq.length+2*m+1<=80000->g6 W n iV [.ref (A 0),.int (m:Int)] (wr A B P τ) (bA (l9 B m P.c P.bq))
theorem wH(G:GF W):Ds W A B S 0:=by
 intro n P τ j hm y hh
 refine g6.body G kY rfl (by omega) ?_
 unfold i0
 ext
 try refine AWS.ifT rfl ?_
 ext
 refine⟨oc rfl,λa i=>?_⟩
 exact⟨a,rfl,i,Sub.set i,br⟩
end
theorem ki(h:l.find? p=some r):sH l p g=r::g r:=by unfold sH;rw[h]
theorem rn(h:l.find? p=none):sH l p g=[]:=by unfold sH;rw[h]
theorem qc(l:List Nat):(l.flatMap λx=>[x])=l:=by induction l with
 | nil=>rfl
 | cons a l i=>simp[i]
theorem qd(h:Sub σ bw)(hb:dZ bw b):σ b=none:=by
 cases e:σ b with
 | none=>rfl
 | some o=>have:=h b o e;unfold dZ at hb;rw[hb]at this;cases this
section
variable{W:Wd}{n:Nat}{σ:Hp}{A:Nat->Addr}{B:Bd}{P:Ps}{τ:Hp}{ρ:Loc}{S:(Nat->Nat)->Nat->Prop}
theorem wI(G:GF W)(hA:bV A)(hB:B.Ok)(g:Gd B S)(hl:Ds W A B S m):Ht W A B S m:=by
 intro n P τ hn hm O hh
 have hP:=g.ok O
 have hs:=hP.bq
 obtain⟨hk,hq⟩:=g.king _ _ O
 refine g6.body G ud rfl (by lia) ?_
 unfold nX
 ext
 refine AWS.fi b0.none ?_
 ext
 refine eI G hA hB hP (by omega) hk hq _ _ λa J=>?_
 have z:=(bG J).1
 have U:=(bG J).2
 rw[bB z]
 refine⟨bA (bI B P.c P.bq),λZ=>[some (.ref (A 0)),some (.int ((m+1:Nat):Int)),none,none,none,none,none,none,none,none,none],λZ=>wr A B P (τ.set a (.list true (bA (bI B P.c P.bq)))),λi=>((bI B P.c P.bq).take i).find? (λr=>dj B m (bH P.c P.bq r) (1-P.bq))=none,by simp,
   λZ Z=>gY z,gY z,⟨rfl,rfl,trivial⟩,.refl _,λhh=>?_,λi x hi h2 hx=>?_⟩
 .try dsimp only at hh ⊢
  rw[bR,aX]at hh
  ext
  refine⟨oc rfl,λb hb=>?_⟩
  refine⟨b,rfl,qd (cO J) hb,(cO J).trans (Sub.set hb),?_⟩
  rw[br]
  unfold i6 Dq
  rw[rn hh];rfl
 .obtain⟨r,e1,rfl⟩:=bX hx
  obtain⟨H,o,t,sp,fd,rfl,M,D⟩:=g.mv _ _ O r (aD e1)
  refine⟨_,rfl,?_⟩
  try dsimp only
  ext
  refine kh G hA hB hs (by lia) (by lia) M D _ _ λbw V=>⟨trivial,?_⟩
  obtain⟨cL,key,rfl⟩:=V
  ext
  refine⟨oc rfl,λb hb=>?_⟩
  have I:=(bG hb).1
  have Vb:b≠a:=by
   rintro rfl
   have:=(bG hb).2;rw[br]at this;cases this
  rw[bB I,show AO.list true []=AO.list true (bA [])from rfl]
  try refine AWS.norm (by dsimp only[Lake.setL]) ?_
  ext
  have e2:((m+1:Nat):Int)-1=(m:Nat):=by lia
  rw[e2]
  refine(z7 G hA hB g m).2 (n-1) ⟨bH P.c P.bq (cy o t sp fd),1-P.bq,cL,P.full+P.bq,key,P.cq++[⟨cy o t sp fd,P.c t,P.cL,P.key⟩]⟩ _ (by lia) H (by simp;lia) _ _ ?_
  ext
  refine AWS.split (λh=>?_) (λh=>?_)
  .ext
   refine⟨oc rfl,λd hd=>?_⟩
   have y:=(bG hd).1
   have j:=(bG hd).2
   rw[bB y,show AO.list true [AV.int (cy o t sp fd:Nat)]=AO.list true (bA [cy o t sp fd])from rfl]
   try refine AWS.norm (by dsimp only[Lake.setL]) ?_
   have Vc:=(uR B m (bH P.c P.bq (cy o t sp fd)) (1-P.bq)).1
   refine AWS.ip (M:=90000) (B:=B) (P:=⟨bH P.c P.bq (cy o t sp fd),1-P.bq,cL,P.full+P.bq,key,P.cq++[⟨cy o t sp fd,P.c t,P.cL,P.key⟩]⟩) (τ:=((τ.set a (.list true (bA (bI B P.c P.bq)))).set b (.list true (bA []))).set d (.list true (bA [cy o t sp fd]))) (L:=[some (.ref (A 0)),some (.int ((m+1:Nat):Int)),some (.int (cy o t sp fd:Nat)),some (.ref d),none,none,none,none,none,none,none]) (l:=l9 B m (bH P.c P.bq (cy o t sp fd)) (1-P.bq)) (g:=λx=>[x]) (ms:=[cy o t sp fd]) b0.none y br (by rw[qc,List.length_singleton];lia) ?_
   ext
   rw[e2]
   refine hl (n-1) ⟨bH P.c P.bq (cy o t sp fd),1-P.bq,cL,P.full+P.bq,key,P.cq++[⟨cy o t sp fd,P.c t,P.cL,P.key⟩]⟩ _ (by lia) (by omega) H (by simp;lia) _ _ λf hf=>?_
   refine⟨f,rfl,hf,bB (bG hf).1,⟨rfl,rfl,rfl,rfl,trivial⟩,?_,λx hx g7 Y h1 h2=>⟨_,rfl,?_⟩⟩
   .rw[qc,set_set]
    ext
    refine eY G hA hB (by lia) hs (by lia) M D _ _ ⟨trivial,?_⟩
    ext
    refine⟨_,len_list y br (by simp;lia),?_⟩
    ext
    refine AWS.ifT (decide_eq_true (by simp)) ?_
    ext
    refine⟨d,rfl,?_,?_,?_⟩
    .unfold dZ at hd
     have h3:τ d=none:=by
      unfold Hp.set at j
      split at j
      .cases j
      .split at j
       .cases j
       .exact j
     rw[bT y];exact h3
    .refine jz λx o' hx=>?_
     unfold Hp.set
     have n1:x≠d:=by
      rintro rfl
      unfold Hp.set at j
      split at j
      .cases j
      .split at j
       .cases j
       .rw[j]at hx;cases hx
     have n2:x≠b:=by
      rintro rfl
      have:=(bG hb).2
      unfold Hp.set at this
      split at this
      .cases this
      .rw[this]at hx;cases hx
     have n3:x≠a:=by rintro rfl;rw[U]at hx;cases hx
     rw[ah n1,ah n2,ah n3];exact hx
    .rw[bT y,br]
     unfold i6 Dq
     rw[ki (mf e1 h2 h)];rfl
   .ext
    refine lW y h1 ?_
    ext
    refine⟨bA Y,(bT y).trans h1,js h2,trivial,?_⟩
    rw[lX y]
    ext
    exact⟨⟨rfl,rfl,rfl,rfl,trivial⟩,.refl _⟩
  .ext
   refine eY G hA hB (by omega) hs (by lia) M D _ _ ⟨trivial,?_⟩
   ext
   refine⟨_,len_list I br (by simp),?_⟩
   ext
   try refine AWS.ifF rfl ?_
   ext
   refine⟨mh e1 h2 h,⟨rfl,rfl,trivial⟩,jz λx o' hx=>?_⟩
   unfold Hp.set at hx ⊢
   have:=(bG hb).2
   unfold Hp.set at this
   split
   .rename_i Ss;subst Ss
    rw[this]at hx;cases hx
   .exact hx
theorem wJ(G:GF W)(hA:bV A)(hB:B.Ok)(g:Gd B S)(hl:Ht W A B S m):Ds W A B S (m+1):=by
 intro n P τ hn hm O hh
 have hP:=g.ok O
 have hs:=hP.bq
 obtain⟨hk,hq⟩:=g.king _ _ O
 refine g6.body G kY rfl (by omega) ?_
 unfold i0
 ext
 refine AWS.ifF (decide_eq_false (by lia)) ?_
 ext
 refine AWS.fi b0.none ?_
 ext
 refine eI G hA hB hP (by lia) hk hq _ _ λa J=>?_
 have z:=(bG J).1
 have U:=(bG J).2
 rw[bB z]
 refine⟨bA (bI B P.c P.bq),λZ=>[some (.ref (A 0)),some (.int ((m+1:Nat):Int)),none,none,none,none,none,none,none,none,none],λZ=>wr A B P (τ.set a (.list true (bA (bI B P.c P.bq)))),λi=>((bI B P.c P.bq).take i).find? (λr=>!gx B m (bH P.c P.bq r) (1-P.bq))=none,by simp,
   λZ Z=>gY z,gY z,⟨rfl,rfl,trivial⟩,.refl _,λhh=>?_,λi x hi h2 hx=>?_⟩
 .try dsimp only at hh ⊢
  rw[bR,aX]at hh
  ext
  refine⟨oc rfl,λb hb=>?_⟩
  refine⟨b,rfl,qd (cO J) hb,(cO J).trans (Sub.set hb),?_⟩
  rw[br]
  show _=some (AO.list true (bA (sH _ _ _)))
  rw[rn hh];rfl
 .obtain⟨r,e1,rfl⟩:=bX hx
  obtain⟨H,o,t,sp,fd,rfl,M,D⟩:=g.mv _ _ O r (aD e1)
  refine⟨_,rfl,?_⟩
  try dsimp only
  ext
  refine kh G hA hB hs (by lia) (by lia) M D _ _ λbw V=>⟨trivial,?_⟩
  obtain⟨cL,key,rfl⟩:=V
  ext
  refine⟨oc rfl,λb hb=>?_⟩
  have I:=(bG hb).1
  have Vb:b≠a:=by
   rintro rfl
   have:=(bG hb).2;rw[br]at this;cases this
  rw[bB I,show AO.list true []=AO.list true (bA [])from rfl]
  try refine AWS.norm (by dsimp only[Lake.setL]) ?_
  ext
  have e2:((m+1:Nat):Int)-1=(m:Nat):=by lia
  rw[e2]
  refine(z7 G hA hB g m).1 (n-1) ⟨bH P.c P.bq (cy o t sp fd),1-P.bq,cL,P.full+P.bq,key,P.cq++[⟨cy o t sp fd,P.c t,P.cL,P.key⟩]⟩ _ (by lia) H (by simp;lia) _ _ ?_
  ext
  refine AWS.split (λh=>?_) (λh=>?_)
  .ext
   refine⟨oc rfl,λd hd=>?_⟩
   have y:=(bG hd).1
   have j:=(bG hd).2
   rw[bB y,show AO.list true [AV.int (cy o t sp fd:Nat)]=AO.list true (bA [cy o t sp fd])from rfl]
   try refine AWS.norm (by dsimp only[Lake.setL]) ?_
   have Vc:=(uR B m (bH P.c P.bq (cy o t sp fd)) (1-P.bq)).2
   refine AWS.ip (M:=90000) (B:=B) (P:=⟨bH P.c P.bq (cy o t sp fd),1-P.bq,cL,P.full+P.bq,key,P.cq++[⟨cy o t sp fd,P.c t,P.cL,P.key⟩]⟩) (τ:=((τ.set a (.list true (bA (bI B P.c P.bq)))).set b (.list true (bA []))).set d (.list true (bA [cy o t sp fd]))) (L:=[some (.ref (A 0)),some (.int ((m+1:Nat):Int)),some (.int (cy o t sp fd:Nat)),some (.ref d),none,none,none,none,none,none,none]) (l:=i6 B m (bH P.c P.bq (cy o t sp fd)) (1-P.bq)) (g:=λx=>[x]) (ms:=[cy o t sp fd]) b0.none y br (by rw[qc,List.length_singleton];lia) ?_
   ext
   refine hl (n-1) ⟨bH P.c P.bq (cy o t sp fd),1-P.bq,cL,P.full+P.bq,key,P.cq++[⟨cy o t sp fd,P.c t,P.cL,P.key⟩]⟩ _ (by lia) (by lia) H (by simp;lia) _ _ λf hf=>?_
   refine⟨f,rfl,hf,bB (bG hf).1,⟨rfl,rfl,rfl,rfl,trivial⟩,?_,λx hx g7 Y h1 h2=>⟨_,rfl,?_⟩⟩
   .rw[qc,set_set]
    ext
    refine eY G hA hB (by lia) hs (by lia) M D _ _ ⟨trivial,?_⟩
    ext
    refine⟨_,len_list y br (by simp;lia),?_⟩
    ext
    refine AWS.ifT (decide_eq_true (by simp)) ?_
    ext
    refine⟨d,rfl,?_,?_,?_⟩
    .unfold dZ at hd
     have h3:τ d=none:=by
      unfold Hp.set at j
      split at j
      .cases j
      .split at j
       .cases j
       .exact j
     rw[bT y];exact h3
    .refine jz λx o' hx=>?_
     unfold Hp.set
     have n1:x≠d:=by
      rintro rfl
      unfold Hp.set at j
      split at j
      .cases j
      .split at j
       .cases j
       .rw[j]at hx;cases hx
     have n2:x≠b:=by
      rintro rfl
      have:=(bG hb).2
      unfold Hp.set at this
      split at this
      .cases this
      .rw[this]at hx;cases hx
     have n3:x≠a:=by rintro rfl;rw[U]at hx;cases hx
     rw[ah n1,ah n2,ah n3];exact hx
    .rw[bT y,br]
     show _=some (AO.list true (bA (sH _ _ _)))
     rw[ki (mf e1 h2 h)];rfl
   .ext
    refine lW y h1 ?_
    ext
    refine⟨bA Y,(bT y).trans h1,js h2,trivial,?_⟩
    rw[lX y]
    ext
    exact⟨⟨rfl,rfl,rfl,rfl,trivial⟩,.refl _⟩
  .ext
   refine eY G hA hB (by omega) hs (by lia) M D _ _ ⟨trivial,?_⟩
   ext
   refine⟨_,len_list I br (by simp),?_⟩
   ext
   try refine AWS.ifF rfl ?_
   ext
   refine⟨mh e1 h2 h,⟨rfl,rfl,trivial⟩,jz λx o' hx=>?_⟩
   unfold Hp.set at hx ⊢
   have:=(bG hb).2
   unfold Hp.set at this
   split
   .rename_i Ss;subst Ss
    rw[this]at hx;cases hx
   .exact hx
end
def Step(B:Bd)(P:Ps)(m:Nat)(Q:Ps):Prop:=m∈bI B P.c P.bq/\∃cL key,Q=⟨bH P.c P.bq m,1-P.bq,cL,P.full+P.bq,key,P.cq++[⟨m,P.c (NX m),P.cL,P.key⟩]⟩
class inductive dG (B:Bd) (P:Ps):List Nat->Ps->Prop
 | nil:dG B P [] P
 | snoc {l:List Nat} {Q:Ps} {m:Nat} {i:Ps}:dG B P l Q->Step B Q m i->dG B P (l++[m]) i
theorem dG.inv(h:dG B P l Q):(l=[]/\Q=P)\/∃i m j,l=i++[m]/\dG B P i j/\Step B j m Q:=by
 cases h with
 | nil=>exact .inl ⟨rfl,rfl⟩
 | snoc h s=>exact .inr ⟨_,_,_,rfl,h,s⟩
theorem dG.zero(h:dG B P [] Q):Q=P:=by
 rcases h.inv with ⟨_,e⟩ | ⟨i,m,j,e,_⟩
 .exact e
 .simp at e
theorem dG.Er(h:dG B P (l++[m]) Q):∃i,dG B P l i/\Step B i m Q:=by
 rcases h.inv with ⟨e,_⟩ | ⟨j,y,i,e,h1,h2⟩
 .simp at e
 .obtain⟨rfl,e2⟩:=List.append_inj' e rfl
  cases e2
  exact⟨_,h1,h2⟩
def i7(c:Nat->Nat)(bq:Nat):List Nat->(Nat->Nat) × Nat
 | []=>(c,bq)
 | m::l=>i7 (bH c bq m) (1-bq) l
theorem uS(l:List Nat)(c:Nat->Nat)(bq m:Nat):i7 c bq (l++[m])=(bH (i7 c bq l).1 (i7 c bq l).2 m,1-(i7 c bq l).2):=by
 induction l generalizing c bq with
 | nil=>rfl
 | cons x l i=>exact i _ _
theorem dG.i7(h:dG B P l Q):(Q.c,Q.bq)=i7 P.c P.bq l/\Q.cq.length=P.cq.length+l.length/\Q.cq.map (·.m)=P.cq.map (·.m)++l:=by
 induction h with
 | nil=>exact⟨rfl,by simp,by simp⟩
 | snoc h s i=>
  obtain⟨_,cL,key,rfl⟩:=s
  refine⟨?_,?_,?_⟩
  .rw[uS,<-i.1]
  .simp[i.2.1];lia
  .simp[i.2.2]
def Nl(B:Bd)(c:Nat->Nat)(bq:Nat)(l:List Nat):Prop:=∀i m,l[i]? =some m->m∈bI B (i7 c bq (l.take i)).1 (i7 c bq (l.take i)).2
theorem dG.Nm(g:Gd B S)(i:S P.c P.bq)(h:dG B P l Q):S Q.c Q.bq:=by
 induction h with
 | nil=>exact i
 | snoc h s j=>
  obtain⟨hm,cL,key,rfl⟩:=s
  exact(g.mv _ _ j _ hm).1
def z9(W:Wd)(n f:Nat)(l:List AV)(σ:Hp)(S:Hp->Prop):Prop:=∀(Q:AV->Hp->Prop)(E:Cx->Value->Shared->Prop),(∀C v s,rZ W S false C v s->E C v s)->CALL W n f l σ Q E
section
variable{W:Wd}{n:Nat}{σ:Hp}{A:Nat->Addr}{B:Bd}{P Q:Ps}{τ:Hp}{ρ:Loc}{S:(Nat->Nat)->Nat->Prop}
theorem CALL.Ge{E j:Cx->Value->Shared->Prop}(h:CALL W n f l σ R E)(he:∀C e s,E C e s->j C e s):CALL W n f l σ R j:=
 CALL.lB h (λv i q=>⟨i,.refl _,q⟩) he
theorem z9.body(G:GF W)(hc:bz f i m c=true)(hl:l.length=i)(j:1<=n)
  (h:AWS W (n-1) c (initLoc m l) σ (λZ Z Z=>False) (λC v s=>rZ W T false C v s)):z9 W n f l σ T:=by
 intro R E he
 obtain⟨k,rfl⟩:∃k,n=k+1:=⟨n-1,by omega⟩
 refine CALL.Ge (CALL.body (E:=λC v s=>rZ W T false C v s) G hc hl rZ.MX (AWS.bK h λo ρ σ x=>x.elim)) he
theorem ED(G:GF W)(hA:bV A)(hB:B.Ok)(g:Gd B S)(y:4<=n)(j:S P.c P.bq)(hh:P.cq.length<=80000)(hm:m∈bI B P.c P.bq):
  BZ W n fq [.ref (A 0),.int (m:Nat)] (wr A B P τ) .none (λbw=>∃Q,Step B P m Q/\bw=wr A B Q τ):=by
 obtain⟨_,o,t,sp,fd,rfl,M,i⟩:=g.mv _ _ j m hm
 intro R E q
 refine kh G hA hB (g.bq _ _ j) y (by omega) M i _ _ λbw h=>q _ ?_
 obtain⟨cL,key,rfl⟩:=h
 have D:=hB.cm
 obtain⟨_,z,_⟩:=eH (o:=o) (t:=t) (sp:=sp) (fd:=fd) (by have:=M.ho;omega) (by have:=M.ht;omega) M.hf M.hs
 exact⟨_,⟨hm,cL,key,rfl⟩,by rw[z]⟩
theorem Aa(G:GF W)(hA:bV A)(hB:B.Ok)(g:Gd B S)(y:4<=n)(j:S P.c P.bq)(hh:P.cq.length<=80000)(st:Step B P m Q):
  cu W n dw [.ref (A 0)] (wr A B Q τ) .none (wr A B P τ):=by
 obtain⟨hm,cL,key,rfl⟩:=st
 obtain⟨_,o,t,sp,fd,rfl,M,i⟩:=g.mv _ _ j m hm
 have D:=hB.cm
 obtain⟨_,z,_⟩:=eH (o:=o) (t:=t) (sp:=sp) (fd:=fd) (by have:=M.ho;omega) (by have:=M.ht;omega) M.hf M.hs
 have:=eY (W:=W) (n:=n) (A:=A) (B:=B) (P:=P) (τ:=τ) (cL:=cL) (key:=key) G hA hB y (g.bq _ _ j) (by omega) M i
 rw[z];exact this
theorem qe(h:Sub a b)(e:bO a v=some xs):bO b v=some xs:=by
 unfold bO at e ⊢
 cases v with
 | ref x=>
  try dsimp only at e ⊢
  cases q:a x with
  | none=>rw[q]at e;cases e
  | some o=>rw[h x o q];rw[q]at e;exact e
 | _=>exact e
theorem wK{l:List Nat}(h:j<l.length):l.take (j+1)=l.take j++[l[j]]:=by
 rw[List.take_add_one,aJ h];rfl
theorem qf(G:GF W)(hA:bV A)(hB:B.Ok)(g:Gd B S)(Y:5<=n)(O:S P.c P.bq)(hh:P.cq.length+l.length<=900)(h:dG B P l Q):
  cu W n dx [.ref (A 0),.int (l.length:Nat)] (wr A B Q τ) .none (wr A B P τ):=by
 refine cu.body G nU rfl (by omega) ?_
 unfold kD
 obtain⟨_,hl,_⟩:=h.i7
 ext
 refine⟨_,uQ hA (by lia),?_⟩
 ext
 refine AWS.ifF (decide_eq_false (by lia)) ?_
 ext
 refine AWS.fr b0.none ?_
 ext
 refine⟨_,rfl,bA (List.range l.length),λi ρ σ=>i<=l.length/\(∃z,dG B P (l.take (l.length-i)) z/\Sub (wr A B z τ) σ)/\bJ [some (.ref (A 0)),some (.int (l.length:Nat)),none,none,none,none,none] ρ,
  cN (by lia),⟨Nat.zero_le _,⟨Q,by rw[Nat.sub_zero,aX];exact h,.refl _⟩,⟨rfl,rfl,trivial⟩⟩,λi ρ σ U=>?_⟩
 obtain⟨hi,⟨z,h1,h2⟩,h3⟩:=U
 refine⟨qe h2 (cN (by lia)),λe=>?_,λx hx=>?_⟩
 .rw[bR,aW]at e
  subst e
  rw[Nat.sub_self,List.take_zero]at h1
  have:=h1.zero
  subst this
  refine AWS.loose h3 h2 ?_
  ext
  exact⟨rfl,.refl _⟩
 .obtain⟨s,e1,rfl⟩:=bX hx
  obtain⟨rfl,y⟩:=dq e1
  obtain⟨j,D⟩:∃j,l.length-s=j+1:=⟨l.length-s-1,(Nat.sub_add_cancel (Nat.sub_pos_of_lt y)).symm⟩
  have H:j<l.length:=ak (Nat.lt_of_lt_of_eq (Nat.lt_succ_self j) D.symm) (Nat.sub_le _ _)
  rw[D,wK H]at h1
  obtain⟨Q2,I,V⟩:=h1.Er
  have J:=I.Nm g O
  obtain⟨_,L,_⟩:=I.i7
  have lt:bJ [some (.ref (A 0)),some (.int (l.length:Nat)),none,none,none,none,none] (Lake.setL ρ 2 (.int (s:Nat))):=bJ.free h3 rfl
  refine⟨_,rfl,AWS.loose lt h2 ?_⟩
  ext
  refine Aa G hA hB g (by omega) J (by rw[L,List.length_take];exact ai (Nat.add_le_add_left (Nat.min_le_right _ _) _) (ai hh (by decide))) V _ _ ⟨trivial,?_⟩
  ext
  refine⟨y,⟨Q2,?_,.refl _⟩,⟨rfl,rfl,trivial⟩⟩
  rw[show l.length-(s+1)=j from ae Nat.pred D]
  exact I
theorem Ab(G:GF W)(X:XF W)(hA:bV A)(i:1<=n)(hk:P.cq.length<k)(hh:P.cq.length<=900):
  z9 W n dx [.ref (A 0),.int (k:Nat)] (wr A B P τ) (λbw=>Sub (wr A B P τ) bw):=by
 refine z9.body G nU rfl i ?_
 unfold kD
 ext
 refine⟨_,uQ hA (by omega),?_⟩
 ext
 refine AWS.ifT (decide_eq_true (by lia)) ?_
 exact AWS.iE G X (.refl _)
end
theorem kj(l:List Nat):qs (bA l)=some (l.map λx:Nat=>(x:Int)):=by
 induction l with
 | nil=>rfl
 | cons x l i=>exact ae (Option.map (((x:Nat):Int)::·)) i
theorem kL(l:List Nat)(m:Nat):(l.map λx:Nat=>(x:Int)).contains (m:Int)=l.contains m:=by
 induction l with
 | nil=>rfl
 | cons x l i=>
  rw[List.map_cons,List.contains_cons,List.contains_cons,i]
  congr 1
  rw[bj];simp;lia
section
variable{W:Wd}{n:Nat}{σ:Hp}{A:Nat->Addr}{B:Bd}{P Q:Ps}{τ:Hp}{ρ:Loc}{S:(Nat->Nat)->Nat->Prop}{E:Cx->Value->Shared->Prop}
theorem uU{m:Nat}(i:fL A a=none)(h:τ a=some (.list true (bA l))):o9 (wr A B P τ) .NotIn (.int m) (.ref a)=some (!l.contains m):=by
 rw[yG];unfold dM
 try dsimp only
 rw[bT i,h]
 try dsimp only
 rw[kj,Option.map_some,kL]
def Rb(A:Nat->Addr)(B:Bd)(P:Ps)(τ:Hp)(mv:Addr)(l:List Nat)(i:Nat)(ρ:Loc)(σ:Hp):Prop:=
 i<=l.length/\(∃j,dG B P (l.take i) j/\Sub (wr A B j τ) σ)/\bJ [some (.ref (A 0)),some (.ref mv),some (.int (i:Nat)),none,none,none,none,none] ρ
abbrev Nn:CS:=(.bS (.bM .NotIn (.var 3) (.call de (.cons (.var 0) .nil)))
 (.expr (.call dx (.cons (.var 0) (.cons (.var 2) .nil)))
 (.iE "BadMove" "a move that isn't legal"))
 .skip
 (.expr (.call fq (.cons (.var 0) (.cons (.var 3) .nil)))
 (.iw 2 .Add (.int 1)
 .skip)))
theorem Dt(G:GF W)(hA:bV A)(hB:B.Ok)(g:Gd B S)(hn:11<=n)(O:S P.c P.bq){mv:Addr}{l:List Nat}(hh:P.cq.length+l.length<=900)(ok:Nl B P.c P.bq l){i m:Nat}(hm:l[i]? =some m)
  {ρ:Loc} {σ:Hp} (J:Rb A B P τ mv l i ρ σ):
  AWS W n Nn (Lake.setL ρ 3 (.int (m:Nat))) σ (λo ρ' bw=>match o with | .next | .cont=>Rb A B P τ mv l (i+1) ρ' bw | _=>False) E:=by
 obtain⟨hi,⟨I,h1,h2⟩,h3⟩:=J
 have y:=(aS.mp hm).1
 have z:=h1.Nm g O
 obtain⟨hc,H,_⟩:=h1.i7
 have j:m∈bI B I.c I.bq:=by
  have:=ok i m hm
  rw[<-hc]at this;exact this
 have U:=g.ok z
 obtain⟨hk,V⟩:=g.king _ _ z
 have lt:bJ [some (.ref (A 0)),some (.ref mv),some (.int (i:Nat)),some (.int (m:Nat)),none,none,none,none] (Lake.setL ρ 3 (.int (m:Nat))):=bJ.nE (i:=3) h3
 refine AWS.loose lt h2 ?_
 ext
 refine eI G hA hB U (by omega) hk V _ _ λa L=>?_
 have D:=(bG L).1
 rw[bB D]
 refine⟨_,dR.val (uU D br),?_⟩
 refine AWS.ifF (by simpa[bI]using j) ?_
 refine AWS.skip ?_
 ext
 refine ED G hA hB g (by omega) z (by rw[H,List.length_take];lia) j _ _ λbw Y=>?_
 obtain⟨Q2,st,e⟩:=Y
 refine⟨trivial,?_⟩
 subst e
 ext
 refine⟨y,⟨Q2,?_,jz (Sub.set (bG L).2)⟩,⟨rfl,rfl,?_,trivial⟩⟩
 .have e:l[i]=m:=by
   have:=aJ y
   rw[hm]at this;exact(af this).symm
  rw[wK y,e]
  exact .snoc h1 st
 .exact ae AV.int (by lia)
theorem B1(G:GF W)(hA:bV A)(hB:B.Ok)(g:Gd B S)(H:12<=n)(D:S P.c P.bq)(j:fL A mv=none)(y:τ mv=some (.list true (bA l)))(hh:P.cq.length+l.length<=900)(ok:Nl B P.c P.bq l):
  BZ W n gQ [.ref (A 0),.ref mv] (wr A B P τ) .none (λbw=>∃Q,dG B P l Q/\bw=wr A B Q τ):=by
 refine BZ.body G rT rfl (by omega) ?_
 unfold oF
 ext
 refine AWS.fr b0.none ?_
 ext
 have it:∀(Q:Ps)(σ:Hp),Sub (wr A B Q τ) σ->bO σ (.ref mv)=some (bA l):=λQ σ h=>qe h (by unfold bO;dsimp only;rw[bT j,y])
 refine⟨bA l,Rb A B P τ mv l,it _ _ (.refl _),⟨Nat.zero_le _,⟨P,by rw[List.take_zero];exact .nil,.refl _⟩,⟨rfl,rfl,rfl,trivial⟩⟩,λi ρ σ J=>⟨?_,λe=>?_,λx hx=>?_⟩⟩
 .obtain⟨_,⟨z,_,h⟩,_⟩:=J;exact it _ _ h
 .obtain⟨_,⟨z,h1,h⟩,h3⟩:=J
  rw[bR]at e
  subst e
  rw[aX]at h1
  refine AWS.loose h3 h ?_
  ext
  exact⟨rfl,_,⟨z,h1,rfl⟩,.refl _⟩
 .obtain⟨m,e1,rfl⟩:=bX hx
  refine⟨_,rfl,AWS.bK (Dt G hA hB g (by omega) D hh ok e1 J) λo ρ' bw h=>?_⟩
  cases o<;>first | exact h | exact h.elim
theorem Hu(G:GF W)(X:XF W)(hA:bV A)(hB:B.Ok)(g:Gd B S)(hn:12<=n)(D:S P.c P.bq)(H:fL A mv=none)(I:τ mv=some (.list true (bA (l++[x]))))(hh:P.cq.length+l.length<=900)
  (ok:Nl B P.c P.bq l) (hx:x∉bI B (i7 P.c P.bq l).1 (i7 P.c P.bq l).2):
  z9 W n gQ [.ref (A 0),.ref mv] (wr A B P τ) (λbw=>Sub (wr A B P τ) bw):=by
 refine z9.body G rT rfl (by omega) ?_
 unfold oF
 ext
 refine AWS.fr rZ.Pn ?_
 ext
 have it:∀(Q:Ps)(σ:Hp),Sub (wr A B Q τ) σ->bO σ (.ref mv)=some (bA (l++[x])):=λQ σ h=>qe h (by unfold bO;dsimp only;rw[bT H,I])
 refine⟨bA (l++[x]),Rb A B P τ mv l,it _ _ (.refl _),⟨Nat.zero_le _,⟨P,by rw[List.take_zero];exact .nil,.refl _⟩,⟨rfl,rfl,rfl,trivial⟩⟩,λi ρ σ J=>⟨?_,λe=>?_,λy hy=>?_⟩⟩
 .obtain⟨_,⟨U,_,h⟩,_⟩:=J;exact it _ _ h
 .obtain⟨hi,_⟩:=J
  rw[bR]at e;simp at e;lia
 .obtain⟨m,e1,rfl⟩:=bX hy
  refine⟨_,rfl,?_⟩
  rcases ay i l.length with L | hge
  .rw[List.getElem?_append_left L]at e1
   refine AWS.bK (Dt G hA hB g (by omega) D hh ok e1 J) λo ρ' bw h=>?_
   cases o<;>first | exact h | exact h.elim
  .obtain⟨hi,⟨U,h1,h2⟩,h3⟩:=J
   have O:i=l.length:=by lia
   subst O
   have:m=x:=by
    rw[List.getElem?_append_right (Nat.le_refl _),Nat.sub_self]at e1
    simpa using e1.symm
   subst this
   rw[aX]at h1
   have j:=h1.Nm g D
   obtain⟨hc,Y,_⟩:=h1.i7
   rw[<-hc]at hx
   have hP:=g.ok j
   obtain⟨hk,hq⟩:=g.king _ _ j
   have lt:bJ [some (.ref (A 0)),some (.ref mv),some (.int (l.length:Nat)),some (.int (m:Nat)),none,none,none,none] (Lake.setL ρ 3 (.int (m:Nat))):=bJ.nE (i:=3) h3
   refine AWS.loose lt h2 ?_
   ext
   refine eI G hA hB hP (by omega) hk hq _ _ λa V=>?_
   have z:=(bG V).1
   rw[bB z]
   refine⟨_,dR.val (uU z br),?_⟩
   refine AWS.ifT (by simpa[bI]using hx) ?_
   refine AWS.pv (by assumption) ?_
   ext
   refine qf (P:=P) (Q:=U) (S:=S) G hA hB g (by omega) D hh h1 _ _ ⟨trivial,?_⟩
   exact AWS.iE G X (jz (Sub.set (bG V).2))
end
def gC(B:Bd)(m:Nat)(c:Nat->Nat)(bq:Nat):List Nat:=match(List.range m).find? λk=>decide ((i6 B k c bq).length>0)with
 | some k=>i6 B k c bq
 | none=>[]
theorem vH:∀{l:List nj}{i:Nat}{r:nj},l[i]? =some r->bA ((l.take i).map (·.m))++[AV.int (r.m:Nat)]=bA ((l.take (i+1)).map (·.m)):=by
 intro l i r h
 rw[List.take_add_one,h,List.map_append,hO];rfl
section
variable{W:Wd}{n:Nat}{σ:Hp}{A:Nat->Addr}{B:Bd}{P Q:Ps}{τ:Hp}{ρ:Loc}{S:(Nat->Nat)->Nat->Prop}{E:Cx->Value->Shared->Prop}
theorem EE(G:GF W)(hA:bV A)(hB:B.Ok)(g:Gd B S)(m:Nat):Ds W A B S m/\Ht W A B S m:=by
 induction m with
 | zero=>exact⟨wH G,wI G hA hB g (wH G)⟩
 | succ m i=>exact⟨wJ G hA hB g i.2,wI G hA hB g (wJ G hA hB g i.2)⟩
theorem r6(G:GF W)(hA:bV A)(hB:B.Ok)(g:Gd B S)(I:14+2*m<=n)(hm:m<=9)(H:S P.c P.bq)(hh:P.cq.length<=900):
  g6 W n fS [.ref (A 0),.int (m:Nat)] (wr A B P τ) (bA (gC B m P.c P.bq)):=by
 refine g6.body G xI rfl (by lia) ?_
 unfold rV
 refine AWS.fi b0.none ?_
 ext
 have it:∀(i:Nat)(σ:Hp),bO σ (.c8 1 ((m:Int)+1) 1)=some (bA ((List.range m).map (1+·))):=λi σ=>by
  have:=uv 1 m (by omega) (by omega) σ
  rw[show((1+m:Nat):Int)=(m:Int)+1 by lia]at this
  exact this
 refine⟨_,rfl,bA ((List.range m).map (1+·)),λZ=>[some (.ref (A 0)),some (.int (m:Nat)),none,none,none,none,none],λZ=>wr A B P τ,λi=>(List.range i).find? (λk=>decide ((i6 B k P.c P.bq).length>0))=none,rfl,
  λi Z=>it i _,it 0 _,⟨rfl,rfl,trivial⟩,.refl _,λh=>?_,λi x hi h hx=>?_⟩
 .try dsimp only at h ⊢
  rw[bR,aV,aW]at h
  ext
  refine⟨oc rfl,λb hb=>?_⟩
  refine⟨b,rfl,hb,Sub.set hb,?_⟩
  rw[br]
  unfold gC
  rw[h];rfl
 .try dsimp only at h
  obtain⟨s,e1,rfl⟩:=bX hx
  have y:i<m:=by rw[bR,aV,aW]at hi;exact hi
  have es:s=i+1:=by
   rw[aF,List.getElem?_range y]at e1
   have:1+i=s:=by simpa using e1
   lia
  subst es
  refine⟨_,rfl,?_⟩
  try dsimp only
  ext
  refine(EE G hA hB g i).2 (n-1) P τ (by lia) (by lia) H (by lia) _ _ λa z=>?_
  have j:=(bG z).1
  rw[bB j]
  have hl:=(uR B i P.c P.bq).2
  ext
  refine⟨_,len_list j br (by lia),?_⟩
  ext
  refine AWS.split (λhd=>?_) (λhd=>?_)
  .have hd:(i6 B i P.c P.bq).length>0:=by have:=aY hd;omega
   ext
   refine⟨a,rfl,z,cO z,?_⟩
   rw[bT j,br]
   unfold gC
   rw[fK (k:=i) y (λd D=>?_) (decide_eq_true hd)]
   have:=List.find?_eq_none.mp h d (aN.mpr D)
   simpa using this
  .have hd:¬(i6 B i P.c P.bq).length>0:=by have:=of_decide_eq_false hd;lia
   ext
   refine⟨?_,⟨rfl,rfl,trivial⟩,cO z⟩
   rw[List.range_succ,List.find?_append,h]
   simpa using hd
theorem yc(G:GF W)(hA:bV A)(L:1<=n)(hh:P.cq.length<=900):g6 W n d5 [.ref (A 0)] (wr A B P τ) (bA (P.cq.map (·.m))):=by
 refine g6.body G vw rfl (by omega) ?_
 unfold pY
 refine AWS.norm0 (by dsimp only[loc0,pad,Nat.reduceSub]) ?_
 refine AWS.ret ?_
 refine AWE.comp (by decide) ?_ ?_
 .intro sc e h
  first | exact tl h | exact pa h | exact pb h | exact qv h
 ext
 refine⟨P.cq.map nj.av,by unfold bO;dsimp only;rw[mP hA],λD J=>?_⟩
 have j:=(bG J).1
 have y:dZ (wr A B P τ) D:=J
 refine⟨λi out ρ' bw=>i<=P.cq.length/\out=bA ((P.cq.take i).map (·.m))/\bJ [none,none] ρ'/\bw=wr A B P (τ.set D (.list true out)),⟨Nat.zero_le _,rfl,?_,bB j⟩,λi out ρ' bw z=>?_⟩
 .exact trivial
 obtain⟨hi,ho,hl,hs⟩:=z
 refine⟨?_,?_,?_,λe=>?_,λx hx=>?_⟩
 .subst hs
  unfold bO;dsimp only;rw[mP hA]
 .subst hs;rw[bT j,br]
 .subst ho;simp[bR,List.length_take];lia
 .subst hs ho
  rw[aV]at e
  subst e
  rw[aX]
  exact⟨D,rfl,y,cO y,by rw[bT j];exact br⟩
 .subst hs
  rw[aF]at hx
  obtain⟨r,e1,rfl⟩:=aH.mp hx
  have H:=(aS.mp e1).1
  refine⟨_,rfl,?_⟩
  unfold px
  try dsimp only
  rw[ag rfl]
  have I:bJ [none,some (nj.av r)] (Lake.setL ρ' 1 (nj.av r)):=bJ.nE (i:=1) hl
  refine AWE.sub (AWE.var (I.get rfl) (AWE.int ⟨.int (r.m:Nat),rfl,?_⟩))
  refine⟨by rw[bT j,br],H,?_,?_,?_⟩
  .subst ho
   rw[vH e1]
  .have:=bJ.len hl
   cases ρ' with
   | nil=>exact nb this rfl
   | cons a r=>
    cases r with
    | nil=>exact nb this rfl
    | cons b r=>
     cases r with
     | nil=>exact trivial
     | cons c r=>exact nb this rfl
  .rw[bB j,set_set]
theorem z9.PY(h:z9 W n f l σ T)(R:AV->Hp->Prop):CALL W n f l σ R (λC v s=>rZ W T false C v s):=h R _ λZ Z Z x=>x
theorem B2(G:GF W)(X:XF W)(hA:bV A)(i:3<=n)(hk:P.cq.length<k)(hh:P.cq.length<=900):
  Pure W n gR [.ref (A 0),mv,.int (k:Nat)] (wr A B P τ) (.bool true):=by
 refine cu.body G uj rfl (by omega) ?_
 unfold qV
 ext
 refine AWS.w4 (S:=λbw=>Sub (wr A B P τ) bw) G X ?_ λρ' bw h=>⟨rfl,h⟩
 ext
 refine AWS.ifT (decide_eq_true (by lia)) ?_
 refine AWS.pv (by assumption) ?_
 ext
 exact(Ab G X hA (by omega) hk hh).PY _
theorem Hv(G:GF W)(X:XF W)(hA:bV A)(hB:B.Ok)(g:Gd B S)(z:14<=n)(y:S P.c P.bq)(i:fL A mv=none)(j:τ mv=some (.list true (bA (l++[x]))))(hh:P.cq.length+l.length<=900)
  (ok:Nl B P.c P.bq l) (hx:x∉bI B (i7 P.c P.bq l).1 (i7 P.c P.bq l).2):
  Pure W n gR [.ref (A 0),.ref mv,.int 0] (wr A B P τ) (.bool true):=by
 refine cu.body G uj rfl (by omega) ?_
 unfold qV
 ext
 refine AWS.w4 (S:=λbw=>Sub (wr A B P τ) bw) G X ?_ λρ' bw h=>⟨rfl,h⟩
 ext
 try refine AWS.ifF rfl ?_
 refine AWS.pv (by assumption) ?_
 ext
 exact(Hu G X hA hB g (by omega) y i j hh ok hx).PY _
end
def mj(B:Bd)(s:Nat):Nat:=(s % B.F+s/B.F) % 2
def wL(B:Bd)(c:Nat->Nat)(k:Nat):Bool:=((gw (kS c k)).any λs=>mj B s==0)&&((gw (kS c k)).any λs=>mj B s==1)
def oW(B:Bd)(c:Nat->Nat):Bool:=if eR (λs=>(kS c 1 s||kS c 4 s)||kS c 5 s)then false else if eR (kS c 2)then !eR (kS c 3)&& !zw (kS c 2)else !wL B c 3
theorem Hw:(3:Int)=mk (λt=>t==0||t==1):=by
 rw[<-da,<-Bs,<-xv (s:=1) (by omega)];decide
section
variable{W:Wd}{n:Nat}{σ:Hp}{A:Nat->Addr}{B:Bd}{P Q:Ps}{τ:Hp}{ρ:Loc}{S:(Nat->Nat)->Nat->Prop}{E:Cx->Value->Shared->Prop}
theorem sI(G:GF W)(hA:bV A)(hB:B.Ok)(i:1<=n)(hs:s<B.N):Pure W n ig [.ref (A 6),.int s] (wr A B P τ) (.int (mj B s:Nat)):=by
 refine cu.body G qU rfl (by omega) ?_
 unfold kZ
 have j:=hB.cm
 ext
 refine⟨ae AV.int ?_,.refl _⟩
 rw[Int.fmod_eq_emod_of_nonneg _ (by lia),ba _ (by omega)]
 have:((s:Int) % (B.F:Int)+(s:Int)/(B.F:Int))=((s % B.F+s/B.F:Nat):Int):=by simp
 rw[this,show(1:Int)=((1:Nat):Int)from rfl,iN,Nat.and_one_is_mod];rfl
theorem EF(G:GF W)(hA:bV A)(hB:B.Ok)(H:P.Ok B)(J:3<=n):Pure W n dW [.ref (A 0)] (wr A B P τ) (.bool (!wL B P.c 3)):=by
 refine cu.body G jG rfl (by omega) ?_
 unfold fX
 have lo:∀s,kS P.c 3 s=true->s<B.N:=λs h=>H.eS s (PQ h)
 have L:=hB.cm
 ext
 refine AWS.fi b0.none ?_
 ext
 refine dz G (by omega) (Lo.lt (n:=B.N) (by lia) lo) _ _ λa y=>?_
 have j:=(bG y).1
 rw[bB j]
 refine⟨bA (gw (kS P.c 3)),λi=>[some (.ref (A 0)),some (.int (mk λt=>((gw (kS P.c 3)).take i).any λs=>mj B s==t)),none,none,none,none],λZ=>wr A B P (τ.set a (.list true (bA (gw (kS P.c 3))))),λZ=>True,trivial,
  λZ Z=>gY j,gY j,⟨rfl,by rw[List.take_zero];exact ae AV.int cV,trivial⟩,.refl _,λZ=>?_,λi x hi Z hx=>?_⟩
 .try dsimp only
  rw[bR,aX]
  ext
  refine⟨ae AV.bool ?_,cO y⟩
  have e:((mk λt=>(gw (kS P.c 3)).any λs=>mj B s==t)=3)↔wL B P.c 3=true:=by
   rw[Hw]
   unfold wL
   constructor
   .intro h
    have I:=Bq h 0 (by omega)
    have h1:=Bq h 1 (by omega)
    rw[I,h1];rfl
   .intro h
    rw[ax]at h
    refine bP λt ht=>?_
    by_cases z:t=0
    .subst z;rw[h.1];rfl
    .by_cases D:t=1
     .subst D;rw[h.2];rfl
     .rw[show(t==0||t==1)=false by simp[z,D]]
      rw[List.any_eq_false]
      intro s _
      unfold mj
      simp;lia
  cases hb:wL B P.c 3
  .rw[aP.mpr];rfl
   intro h;rw[e.mp h]at hb;cases hb
  .rw[e.mpr hb];rfl
 .obtain⟨s,e1,rfl⟩:=bX hx
  have hs:=lo s (bY.mp (aD e1)).2
  refine⟨_,rfl,?_⟩
  try dsimp only
  ext
  refine sI G hA hB (by omega) hs _ _ ?_
  have hc:mj B s<2:=Nat.mod_lt _ (by omega)
  ext
  refine⟨trivial,⟨rfl,ae AV.int ?_,trivial⟩,.refl _⟩
  rw[a9,Int.one_mul,xv (by omega),da]
  refine bP λt ht=>?_
  rw[eG e1]
  congr 1
  rw[bj];simp;lia
theorem qg(G:GF W)(hA:bV A)(hB:B.Ok)(i:P.Ok B)(j:4<=n):Pure W n eP [.ref (A 0)] (wr A B P τ) (.bool (oW B P.c)):=by
 refine cu.body G oH rfl (by omega) ?_
 unfold jn
 have y:=hB.cm
 ext
 rw[da,da]
 refine AWS.split (λh=>?_) (λh=>?_)
 .rw[dF]at h
  ext
  refine⟨ae AV.bool ?_,.refl _⟩
  unfold oW
  rw[ag h]
 rw[dF]at h
 ext
 refine AWS.split (λh2=>?_) (λh2=>?_)
 .have h2:eR (kS P.c 2)=false:=by
   rw[<-dF,bo]
   exact az.mp h2
  ext
  refine EF G hA hB i (by omega) _ _ ?_
  ext
  refine⟨ae AV.bool ?_,.refl _⟩
  unfold oW
  rw[ah (by rw[h];simp),ah (by rw[h2];simp)]
 .have h2:eR (kS P.c 2)=true:=by
   rw[<-dF,aP]
   exact aE.mp h2
  ext
  refine bE (λh3=>?_) (λh3=>?_)
  .have h3:eR (kS P.c 3)=false:=by
    rw[<-dF,bo]
    exact az.mp h3
   ext
   refine ik G (by omega) _ _ _ ?_
   ext
   refine⟨ae AV.bool ?_,.refl _⟩
   unfold oW
   rw[ah (by rw[h];simp),ag h2,h3];rfl
  .have h3:eR (kS P.c 3)=true:=by
    rw[<-dF,aP]
    exact aE.mp h3
   ext
   refine⟨ae AV.bool ?_,.refl _⟩
   unfold oW
   rw[ah (by rw[h];simp),ag h2,h3];exact ‹(mk (kS P.c 3)==0)=false›
end
def qq(c:Nat->Nat)(one:Bool):List Nat->List Nat
 | []=>[]
 | x::r=>x::if c x != 0||one then[]else qq c one r
def d9(kind bq:Nat):List (Int × Int):=
 if kind=1 then[(1,1-(bq:Int)*2),(-1,1-(bq:Int)*2)]else if kind=2 then f7 else if kind=3 then cW.drop 4 else if kind=4 then cW.take 4 else cW
def dA(k:Nat):Bool:=k==1||k==2||k==6
def cA(B:Bd)(c:Nat->Nat)(s:Nat):List Nat:=(d9 (c s % 8) (c s/8)).flatMap λw=>qq c (dA (c s % 8)) (tJ B w.1 w.2 s)
def bZ(c:Nat->Nat)(t:Nat):Bool:=c t != 0
def mQ(B:Bd)(c:Nat->Nat)(i bq:Nat):Bool:=(List.range B.N).all λs=>!(c s != 0&&c s/8 != bq&&(cA B c s).contains i)
def qh(B:Bd)(c:Nat->Nat)(bq:Nat):Nat:=((List.range B.N).find? λs=>c s==bq*8+6).getD 0
def cF(B:Bd)(c:Nat->Nat)(bq:Nat):Bool:=mQ B c (qh B c bq) bq
def cz(B:Bd)(c:Nat->Nat)(bq s:Nat):List Nat:=
 ((cA B c s).filter λt=>(c t != 0&&c t/8 != bq)||(c t==0&& !(c s % 8==1)))++
  (if c s % 8=1/\c (if bq=0 then s+B.F else s-B.F)=0 then[if bq=0 then s+B.F else s-B.F]else[])
def dQ(B:Bd)(c:Nat->Nat)(bq s t:Nat):List Nat:=
 if cF B (Hx c s t) bq then(if c s % 8=1/\(t/B.F=0\/t/B.F=B.R-1)then(List.range 4).map λf=>cy s t 1 f else[cy s t 0 0])else[]
where Hx (c:Nat->Nat) (s t:Nat):Nat->Nat:=λu=>if u=t then c s else if u=s then 0 else c u
def i8(B:Bd)(c:Nat->Nat)(bq:Nat):List Nat:=(List.range B.N).flatMap λs=>if c s≠0/\c s/8=bq then(cz B c bq s).flatMap λt=>dQ B c bq s t else[]
theorem rp(c:Nat->Nat)(l:List Nat):qq c false l=ij l (bZ c):=by
 induction l with
 | nil=>rfl
 | cons x r i=>
  show(x::if(c x != 0||false)=true then[]else qq c false r)=if(c x != 0)=true then[x]else x::ij r (bZ c)
  rw[i,Bool.or_false]
  split<;>rfl
theorem mR(c:Nat->Nat)(l:List Nat):qq c true l=l.head?.toList:=by
 cases l with
 | nil=>rfl
 | cons x r=>exact ae (x::·) (ag (Bool.or_true _))
theorem head_mem{l:List Nat}:l.head?.toList.contains t=(l.head? ==some t):=by
 cases l with
 | nil=>rfl
 | cons x r=>
  rw[bj]
  simp
  exact eq_comm
theorem uV(hk:1<=c s % 8/\c s % 8<=6)(hs:c s/8<2):(cA B c s).contains t=gk B (c s/8) (c s % 8) s (bZ c) t:=by
 have i:∀d,d<8->cW[d]? =some (Lv d,tI d):=by decide
 generalize j:c s % 8=k at*
 generalize hw:c s/8=w at*
 unfold cA
 rw[j,hw]
 have any:∀(l:List (Int × Int))(g:Int × Int->List Nat),(l.flatMap g).contains t=l.any λw=>(g w).contains t:=by
  intro l g
  induction l with
  | nil=>rfl
  | cons a l y=>rw[List.flatMap_cons,List.any_cons,<-y,bj];simp
 rw[any]
 rcases(show k=1\/k=2\/k=3\/k=4\/k=5\/k=6 by lia)with rfl | rfl | rfl | rfl | rfl | rfl
 .rcases(show w=0\/w=1 by omega)with rfl | rfl
  .show((qq c true (tJ B 1 1 s)).contains t||((qq c true (tJ B (-1) 1 s)).contains t||false))=dI B 0 s t
   rw[mR,mR,head_mem,head_mem,Bool.or_false];rfl
  .show((qq c true (tJ B 1 (-1) s)).contains t||((qq c true (tJ B (-1) (-1) s)).contains t||false))=dI B 1 s t
   rw[mR,mR,head_mem,head_mem,Bool.or_false];rfl
 .show(f7.any λw=>(qq c true (tJ B w.1 w.2 s)).contains t)=dk B s t
  unfold dk
  congr 1;funext w;rw[mR,head_mem]
 .show((cW.drop 4).any λw=>(qq c false (tJ B w.1 w.2 s)).contains t)=ez B s (bZ c) t
  unfold ez i4
  simp only[rp]
  rfl
 .show((cW.take 4).any λw=>(qq c false (tJ B w.1 w.2 s)).contains t)=dY B s (bZ c) t
  unfold dY i4
  simp only[rp]
  rfl
 .show(cW.any λw=>(qq c false (tJ B w.1 w.2 s)).contains t)=(dY B s (bZ c) t||ez B s (bZ c) t)
  unfold dY ez i4
  simp only[rp]
  show((cW.take 4++cW.drop 4).any _)=_
  rw[List.any_append]
  rfl
 .show(cW.any λw=>(qq c true (tJ B w.1 w.2 s)).contains t)=gA B s t
  unfold gA
  simp only[mR,head_mem]
  rfl
def f5(l:List Nat)(t:Nat):List Nat:=l.takeWhile λu=>!(Nat.beq u t)
theorem B3(occ:Nat->Bool)(t:Nat)(l:List Nat):(ij l occ).contains t=(l.contains t&&(f5 l t).all λu=>!occ u):=by
 induction l with
 | nil=>rfl
 | cons x r i=>
  show(if occ x=true then[x]else x::ij r occ).contains t=_
  by_cases e:x=t
  .have b:f5 (x::r) t=[]:=by unfold f5;rw[List.takeWhile_cons,e,Nat.beq_refl];rfl
   have c:∀r:List Nat,(x::r).contains t=true:=λr=>by rw[List.contains_cons,e,beq_self_eq_true];rfl
   rw[b,c]
   by_cases ho:occ x=true
   .rw[ag ho];exact c _
   .rw[ah ho];exact c _
  .have nb:Nat.beq x t=false:=eq_false_of_ne_true λh=>e (aL h)
   have nt:(t==x)=false:=aE.mpr (Ne.symm e)
   have b:f5 (x::r) t=x::f5 r t:=by unfold f5;rw[List.takeWhile_cons,nb];rfl
   rw[b,List.all_cons,List.contains_cons,nt,Bool.false_or]
   by_cases ho:occ x=true
   .rw[ag ho,ho,List.contains_cons,nt];exact(Bool.and_false _).symm
   .rw[ah ho,eq_false_of_ne_true ho,List.contains_cons,nt,Bool.false_or];exact i
theorem kl(B:Bd)(d s:Nat)(occ:Nat->Bool)(t:Nat):i4 B d s occ t=(ray B d s t&&(f5 (bW B d s) t).all λu=>!occ u):=B3 occ t _
def Np(B:Bd):Bool:=(List.range B.N).all λs=>(List.range B.N).all λt=>
 ((List.range 2).all λw=>dI B w t s==dI B (1-w) s t)&&dk B t s==dk B s t&&gA B t s==gA B s t&&
 ((List.range 8).all λd=>ray B d s t==ray B (d ^^^ 2) t s&&(!(ray B d s t)||(f5 (bW B d s) t==(f5 (bW B (d ^^^ 2) t) s).reverse)))
theorem Nq(hB:B.Ok):Np B=true:=by
 cases hB<;>decide +kernel
section
variable{B:Bd}{s t:Nat}
theorem Du(hB:B.Ok)(hs:s<B.N)(ht:t<B.N):(∀w,w<2->dI B w t s=dI B (1-w) s t)/\dk B t s=dk B s t/\gA B t s=gA B s t/\
  ∀d,d<8->ray B d s t=ray B (d ^^^ 2) t s/\(ray B d s t=true->f5 (bW B d s) t=(f5 (bW B (d ^^^ 2) t) s).reverse):=by
 have:=aM.mp (aM.mp (Nq hB) s (aN.mpr hs)) t (aN.mpr ht)
 simp only[ax,az]at this
 obtain⟨⟨⟨h1,h2⟩,h3⟩,i⟩:=this
 refine⟨λw hw=>?_,h2,h3,λd hd=>?_⟩
 .have:=aM.mp h1 w (aN.mpr hw)
  exact az.mp this
 .have:=aM.mp i d (aN.mpr hd)
  simp only[ax,az,bp,bc]at this
  refine⟨this.1,λh=>?_⟩
  rcases this.2 with q | q
  .rw[h]at q;cases q
  .exact q
theorem fY(hB:B.Ok)(hs:s<B.N)(ht:t<B.N)(hd:d<8)(occ:Nat->Bool):i4 B d s occ t=i4 B (d ^^^ 2) t occ s:=by
 obtain⟨h1,h2⟩:=(Du hB hs ht).2.2.2 d hd
 rw[kl,kl,<-h1]
 cases h:ray B d s t with
 | false=>rfl
 | true=>rw[h2 h,List.all_reverse]
theorem PZ(p q:Nat->Bool)(i:p 0=q 2)(h1:p 1=q 3)(h2:p 2=q 0)(h3:p 3=q 1):(List.range 4).any p=(List.range 4).any q:=by
 show(p 0||(p 1||(p 2||(p 3||false))))=(q 0||(q 1||(q 2||(q 3||false))))
 rw[i,h1,h2,h3]
 cases q 0<;>cases q 1<;>cases q 2<;>cases q 3<;>rfl
theorem Hy(hB:B.Ok)(hs:s<B.N)(ht:t<B.N)(occ:Nat->Bool):dY B s occ t=dY B t occ s:=
 PZ _ _ (fY hB hs ht (by omega) occ) (fY hB hs ht (by omega) occ) (fY hB hs ht (by omega) occ) (fY hB hs ht (by omega) occ)
theorem Hz(hB:B.Ok)(hs:s<B.N)(ht:t<B.N)(occ:Nat->Bool):ez B s occ t=ez B t occ s:=
 PZ _ _ (fY hB hs ht (by omega) occ) (fY hB hs ht (by omega) occ) (fY hB hs ht (by omega) occ) (fY hB hs ht (by omega) occ)
end
structure ju(B:Bd)(c:Nat->Nat):Prop where
 eS:∀s,c s≠0->s<B.N
 pc:∀s,c s≠0->Pc (c s)
def dH(B:Bd)(c:Nat->Nat)(bq:Nat)(occ:Nat->Bool)(s q:Nat):Bool:=sS c bq s&&gk B bq (c s % 8) s occ q
theorem i9(hc:ju B c):ll c=bZ c:=by
 funext s
 unfold ll bZ sS
 by_cases h:c s=0
 .rw[h];rfl
 .have:=hc.pc s h
  obtain⟨h1,h2,h3,i⟩:=this
  have:c s/8=0\/c s/8=1:=by lia
  rcases this with q | q<;>simp[q,h]
theorem rq(hB:B.Ok)(hc:ju B c)(i:q<B.N)(hs:bq<2)(occ:Nat->Bool):
  (c5 B c q bq s||((dY B q occ s&&(fv c s&&sS c bq s))||(ez B q occ s&&(oJ c s&&sS c bq s))))=dH B c bq occ s q:=by
 unfold dH c5 mH
 cases e:sS c bq s with
 | false=>simp
 | true=>
  have y:c s≠0:=by unfold sS at e;simp at e;exact e.1
  have z:=hc.eS s y
  obtain⟨L,O,U,V⟩:=hc.pc s y
  obtain⟨D,I,J,_⟩:=Du hB i z
  have G:=Hy hB i z occ
  have H:=Hz hB i z occ
  have D:=D bq hs
  unfold fv oJ
  have kk:∀j,kS c j s=(c s % 8==j):=λj=>by unfold kS;simp[y]
  rw[kk 1,kk 2,kk 3,kk 4,kk 5,kk 6]
  generalize c s % 8=k at*
  rcases(show k=1\/k=2\/k=3\/k=4\/k=5\/k=6 by omega)with rfl | rfl | rfl | rfl | rfl | rfl
  .show _=(true&&dI B bq s q)
   rw[D];simp
  .show _=(true&&dk B s q)
   rw[I];simp
  .show _=(true&&ez B s occ q)
   rw[<-H];simp
  .show _=(true&&dY B s occ q)
   rw[<-G];simp
  .show _=(true&&(dY B s occ q||ez B s occ q))
   rw[<-G,<-H];simp
  .show _=(true&&gA B s q)
   rw[J];simp
theorem mU(hB:B.Ok)(hc:ju B c)(y:q<B.N)(hs:bq<2)(occ:Nat->Bool):k7 B c q bq occ=(List.range B.N).any λs=>dH B c bq occ s q:=by
 rw[bj]
 have z:=hB.cm
 have i:∀f:Nat->Bool,eR f=true↔∃t,t<32/\f t=true:=λf=>by
  unfold eR;rw[aU];simp
 unfold k7
 simp only[bp,i,aU,aN]
 have j:∀s,dH B c bq occ s q=true->s<B.N:=λs h=>by
  unfold dH sS at h
  simp only[ax,aP]at h
  exact hc.eS s h.1.1
 constructor
 .rintro(⟨t,_,h⟩ | ⟨t,_,h⟩ | ⟨t,_,h⟩)
  .have:dH B c bq occ t q=true:=by rw[<-rq hB hc y hs occ,h];rfl
   exact⟨t,j t this,this⟩
  .have:dH B c bq occ t q=true:=by rw[<-rq hB hc y hs occ,h];simp
   exact⟨t,j t this,this⟩
  .have:dH B c bq occ t q=true:=by rw[<-rq hB hc y hs occ,h];simp
   exact⟨t,j t this,this⟩
 .rintro⟨s,h1,h2⟩
  rw[<-rq hB hc y hs occ]at h2
  simp only[bp]at h2
  rcases h2 with h | h | h
  .exact .inl ⟨s,by omega,h⟩
  .exact .inr (.inl ⟨s,by omega,h⟩)
  .exact .inr (.inr ⟨s,by omega,h⟩)
theorem Ac(hB:B.Ok)(hc:ju B c)(y:q<B.N)(hs:bq<2):mQ B c q bq=!k7 B c q (1-bq) (ll c):=by
 rw[mU hB hc y (by omega),i9 hc]
 have z:∀s,(c s != 0&&c s/8 != bq&&(cA B c s).contains q)=dH B c (1-bq) (bZ c) s q:=by
  intro s
  unfold dH sS
  by_cases j:c s=0
  .rw[j];rfl
  .obtain⟨D,G,H,I⟩:=hc.pc s j
   rw[uV (by lia) (by lia)]
   by_cases hd:c s/8=bq
   .have h1:(c s/8==1-bq)=false:=aE.mpr (by omega)
    have h2:(c s/8 != bq)=false:=by rw[hd];simp
    rw[h1,h2];simp
   .have i:c s/8=1-bq:=by omega
    have h1:(c s/8==1-bq)=true:=az.mpr i
    have h2:(c s/8 != bq)=true:=aP.mpr hd
    rw[h1,h2,i]
 unfold mQ
 simp only[z]
 rw[List.not_any_eq_all_not]
structure Wf1(B:Bd)(c:Nat->Nat):Prop where
 cells:ju B c
 king:∀w,w<2->∃k,k<B.N/\∀s,c s=w*8+6↔s=k
structure AK(B:Bd)(c:Nat->Nat):Prop extends Wf1 B c where
 pawn:∀s,c s % 8=1->0<s/B.F/\s/B.F<B.R-1
structure Wf(B:Bd)(c:Nat->Nat)(bq:Nat):Prop where
 w0:AK B c
 sd:bq<2
 free:cF B c (1-bq)=true
theorem HA(c:Nat->Nat)(w s:Nat)(hw:w<2):(sS c w s&&kS c 6 s)=decide (c s=w*8+6):=by
 unfold sS kS
 rw[bj]
 simp only[ax,aP,az,bk]
 exact⟨λh=>by rw[<-Nat.div_add_mod (c s) 8,h.1.2,h.2.2,Nat.mul_comm],λh=>by rw[h];exact⟨⟨Nat.succ_ne_zero _,d8 (by decide)⟩,Nat.succ_ne_zero _,m8 (by decide)⟩⟩
section
variable{B:Bd}{c:Nat->Nat}{w:Nat}
theorem Wf1.kq(hB:B.Ok)(h:Wf1 B c)(hw:w<2):kq c w<B.N/\(∀s,c s=w*8+6↔s=Lake.kq c w)/\eM c w (Lake.kq c w)/\qh B c w=Lake.kq c w:=by
 obtain⟨k,h1,h2⟩:=h.king w hw
 have i:=hB.cm
 have e1:Lake.kq c w=k:=by
  unfold Lake.kq
  have e:(List.range 32).find? (λs=>sS c w s&&kS c 6 s)=some k:=by
   refine fK (k:=k) (by omega) (λd hd=>?_) ?_
   .rw[HA c w d hw,decide_eq_false_iff_not,h2];lia
   .rw[HA c w k hw,bk,h2]
  rw[e];rfl
 have e2:qh B c w=k:=by
  unfold qh
  have e:(List.range B.N).find? (λs=>c s==w*8+6)=some k:=by
   refine fK (k:=k) h1 (λd hd=>?_) ?_
   .rw[aE,Ne,h2];lia
   .rw[az,h2]
  rw[e];rfl
 rw[e1,e2]
 refine⟨h1,h2,⟨by omega,λs hs=>?_⟩,rfl⟩
 dsimp only
 rw[HA c w s hw,bj,bk,az,h2]
theorem Ad(hB:B.Ok)(h:Wf1 B c)(hw:w<2):cF B c w=!u9 B c w:=by
 obtain⟨h1,h2,h3,i⟩:=h.kq hB hw
 unfold cF
 rw[i,Ac hB h.cells h1 hw]
 rfl
theorem Ae(hB:B.Ok)(h:Wf1 B c)(hw:w<2):cF B c w=true↔∀s,dH B c (1-w) (bZ c) s (Lake.kq c w)=false:=by
 obtain⟨h1,h2,h3,i⟩:=h.kq hB hw
 unfold cF
 rw[i,Ac hB h.cells h1 hw,mU hB h.cells h1 (by omega),i9 h.cells,bc,List.any_eq_false]
 constructor
 .intro q s
  by_cases hs:s<B.N
  .have:=q s (aN.mpr hs)
   simpa using this
  .unfold dH sS
   have:c s=0:=by
    cases Nat.eq_zero_or_pos (c s)with
    | inl h=>exact h
    | inr hp=>exact absurd (h.cells.eS s (by lia)) hs
   rw[this];rfl
 .intro q s _
  rw[q s];simp
end
structure St where
 oc:Bool
 x:Bool
 p:Bool
 q:Bool
def vI:List St->Bool
 | []=>false
 | s::r=>if s.oc then s.x else vI r
def vJ:List St->Bool
 | []=>false
 | s::r=>if s.q then false else if s.p then vJ r else if s.oc then s.x else vJ r
def LF:List St->Bool
 | []=>false
 | s::r=>s.q||(!s.oc&&LF r)
def Af(l:List St):Bool:=l.any λs=>s.p
def B4(l:List St):Bool:=l.any λs=>s.q
def Dv:List St->Nat->Bool->Bool
 | [],_,_=>false
 | s::r,n,f=>if s.x then(n==1&&f)||Dv r n f else if s.oc then Dv r (n+1) (f||s.p)else Dv r n f
def oX(l:List St):Bool:=Dv l 0 false
def Dw(s:St):Bool:=(!s.x||s.oc)&&(!s.p||(s.oc&& !s.x&& !s.q))
def TC(f:St->Bool)(l:List St):Bool:=decide ((l.filter f).length<=1)
def Kt:List St->Bool->Bool
 | [],_=>true
 | s::r,w=>if s.p||s.q then(if w then true else Kt r true)else if w then(if s.oc then !(r.any λs=>s.p||s.q)else Kt r w)else Kt r w
def Vd(l:List St):Bool:=!(Af l&&B4 l)||Kt l false
def vK(l:List St):Bool:=l.all Dw&&TC (λs=>s.p) l&&TC (λs=>s.q) l&&Vd l
def B5(l:List St):Bool:=!(vK l)||(vJ l==if vI l then !LF l else(Af l&&(oX l&& !B4 l)))
def Ag:List Bool:=[true,false]
def lr:List St:=Ag.flatMap λa=>Ag.flatMap λb=>Ag.flatMap λc=>Ag.map λd=>⟨a,b,c,d⟩
theorem mV(b:Bool):b∈Ag:=by
 cases(b)
 .exact .tail _ (.head _)
 .exact .head _
theorem c3(s:St):s∈lr:=bl.mpr ⟨s.oc,mV _,bl.mpr ⟨s.x,mV _,bl.mpr ⟨s.p,mV _,List.mem_map.mpr ⟨s.q,mV _,rfl⟩⟩⟩⟩
theorem Su:B5 []=true:=by decide +kernel
theorem Sv:(lr.all λa=>B5 [a])=true:=by decide +kernel
theorem Sw:(lr.all λa=>lr.all λb=>B5 [a,b])=true:=by decide +kernel
theorem Sx:(lr.all λa=>lr.all λb=>lr.all λc=>B5 [a,b,c])=true:=by decide +kernel
@[elab_as_elim]theorem Sy{α:Type}{C:List α->Prop}(l:List α)(h:l.length<=3)(i:C [])(h1:∀a,C [a])(h2:∀a b,C [a,b])(h3:∀a b c,C [a,b,c]):C l:=by
 cases l with
 | nil=>exact i
 | cons a l=>
  cases l with
  | nil=>exact h1 a
  | cons b l=>
   cases l with
   | nil=>exact h2 a b
   | cons c l=>
    cases l with
    | nil=>exact h3 a b c
    | cons d l=>exact absurd (Nat.le_of_succ_le_succ (Nat.le_of_succ_le_succ (Nat.le_of_succ_le_succ h))) (Nat.not_succ_le_zero _)
theorem Ku(l:List St)(h:l.length<=3):B5 l=true:=
 Sy (C:=λl=>B5 l=true) l h Su (λa=>aM.mp Sv a (c3 a)) (λa b=>aM.mp (aM.mp Sw a (c3 a)) b (c3 b)) λa b c=>aM.mp (aM.mp (aM.mp Sx a (c3 a)) b (c3 b)) c (c3 c)
theorem Kv(hl:l.length<=3)(i:vK l=true):vJ l=if vI l then !LF l else(Af l&&(oX l&& !B4 l)):=by
 have:=Ku l hl
 unfold B5 at this
 rw[i]at this
 simpa using this
def yd(B:Bd):Bool:=(List.range B.N).all λk=>(List.range 8).all λd=>
 decide ((bW B d k).length<=3)&&((bW B d k).all λa=>decide (a<B.N)&&Nat.blt 0 1&&
  ((List.range 8).all λi=>!(ray B i k a)||Nat.beq d i)&&
  ((List.range B.N).all λu=>lj B k a u==(f5 (bW B d k) a).contains u)&&
  ((List.range B.N).all λt=>Nat.beq t k||Nat.beq t a||(lV B a t k==(ray B d k t||ray B (d ^^^ 2) k t)))&&
  ((bW B (d ^^^ 2) k).all λt=>lj B a t k)&&
  ((bW B d k).all λt=>(bW B d k).all λu=>!(((f5 (bW B d k) u).contains a&&(f5 (bW B d k) t).contains u)||((f5 (bW B d k) u).contains t&&(f5 (bW B d k) a).contains u))||lj B a t u))
theorem Qa:yd ⟨3,4⟩=true:=by decide +kernel
theorem Qb:yd ⟨2,4⟩=true:=by decide +kernel
theorem Qc:yd ⟨4,3⟩=true:=by decide +kernel
theorem Rc{l:List Nat}(h:(a::b::l).Nodup):a≠b:=λq=>(List.nodup_cons.mp h).1 (q▸.head _)
theorem TF{a b c:Nat}(h:[a,b,c].Nodup):a≠b/\a≠c/\b≠c:=⟨Rc h,λq=>(List.nodup_cons.mp h).1 (q▸.tail _ (.head _)),Rc (List.nodup_cons.mp h).2⟩
theorem gv{a b:Nat}:Nat.beq a b=decide (a=b):=by
 by_cases h:a=b
 .subst h;simp
 .rw[decide_eq_false h]
  cases e:Nat.beq a b with
  | false=>rfl
  | true=>exact absurd (aL e) h
theorem eB(x:Nat)(r:List Nat):f5 (x::r) x=[]:=by
 unfold f5;rw[List.takeWhile_cons];simp
theorem fG(r:List Nat)(h:x≠t):f5 (x::r) t=x::f5 r t:=by
 unfold f5;rw[List.takeWhile_cons,gv];simp[h]
section
variable{oc X:Nat->Bool}{o t:Nat}
def b8(oc X:Nat->Bool)(o t u:Nat):St:=⟨oc u,X u,Nat.beq u o,Nat.beq u t⟩
theorem Sz{a b:Nat}(h:a=b):Nat.beq a b=true:=by rw[h];exact Nat.beq_refl b
theorem SA{a b:Nat}(h:¬a=b):¬Nat.beq a b=true:=λe=>h (aL e)
theorem TH{P Q:Nat->Prop}:(∃s∈a::r,Q s/\∀u∈f5 (a::r) s,P u)↔Q a\/(P a/\∃s∈r,Q s/\∀u∈f5 r s,P u):=by
 constructor
 .rintro⟨s,hs,h1,h2⟩
  by_cases e:a=s
  .rw[e];exact .inl h1
  .rw[fG r e]at h2
   rcases a8.mp hs with q | hs
   .exact absurd q.symm e
   .exact .inr ⟨h2 a (.head _),s,hs,h1,λu i=>h2 u (.tail _ i)⟩
 .have z:Q a->∃s∈a::r,Q s/\∀u∈f5 (a::r) s,P u:=λh=>⟨a,.head _,h,by rw[eB];exactλu i=>absurd i a7⟩
  rintro(h | ⟨j,s,hs,h1,h2⟩)
  .exact z h
  .by_cases e:a=s
   .rw[<-e]at h1;exact z h1
   .refine⟨s,.tail _ hs,h1,?_⟩
    rw[fG r e]
    exactλu i=>(a8.mp i).elim (λq=>q▸j) (h2 u)
theorem HB(i:∀u,X u=true->oc u=true)(L:List Nat):vI (L.map (b8 oc X o t))=true↔∃s∈L,X s=true/\∀u∈f5 L s,oc u=false:=by
 induction L with
 | nil=>exact⟨λh=>ff h,λ⟨s,h,_⟩=>absurd h a7⟩
 | cons a r j=>
  refine Iff.trans ?_ (TH (P:=λu=>oc u=false) (Q:=λs=>X s=true)).symm
  show(if oc a=true then X a else vI (r.map (b8 oc X o t)))=true↔_
  by_cases ho:oc a=true
  .rw[ag ho];exact⟨.inl,λh=>h.elim id λz=>by rw[ho]at z;exact ff z.1.symm⟩
  .rw[ah ho,j];exact⟨λh=>.inr ⟨eq_false_of_ne_true ho,h⟩,λh=>h.elim (λz=>absurd (i _ z) ho) (·.2)⟩
theorem Ah(D:∀u,X u=true->oc u=true)(j:X o=false)(L:List Nat):vJ (L.map (b8 oc X o t))=true↔∃s∈L,(s≠t/\X s=true)/\∀u∈f5 L s,u≠t/\(u=o\/oc u=false):=by
 induction L with
 | nil=>exact⟨λh=>ff h,λ⟨s,h,_⟩=>absurd h a7⟩
 | cons a r y=>
  refine Iff.trans ?_ (TH (P:=λu=>u≠t/\(u=o\/oc u=false)) (Q:=λs=>s≠t/\X s=true)).symm
  show(if Nat.beq a t=true then false else if Nat.beq a o=true then vJ (r.map (b8 oc X o t))else if oc a=true then X a else vJ (r.map (b8 oc X o t)))=true↔_
  by_cases ht:a=t
  .rw[ag (Sz ht)];exact⟨λh=>ff h,λh=>h.elim (λz=>absurd ht z.1) λz=>absurd ht z.1.1⟩
  .rw[ah (SA ht)]
   by_cases i:a=o
   .rw[ag (Sz i),y];exact⟨λh=>.inr ⟨⟨ht,.inl i⟩,h⟩,λh=>h.elim (λz=>by rw[i,j]at z;exact ff z.2) (·.2)⟩
   .rw[ah (SA i)]
    by_cases ho:oc a=true
    .rw[ag ho];exact⟨λh=>.inl ⟨ht,h⟩,λh=>h.elim (·.2) λz=>z.1.2.elim (λq=>absurd q i) λq=>by rw[ho]at q;exact ff q.symm⟩
    .rw[ah ho,y];exact⟨λh=>.inr ⟨⟨ht,.inr (eq_false_of_ne_true ho)⟩,h⟩,λh=>h.elim (λz=>absurd (D _ z.2) ho) (·.2)⟩
theorem Kw(L:List Nat):LF (L.map (b8 oc X o t))=true↔t∈L/\∀u∈f5 L t,oc u=false:=by
 induction L with
 | nil=>exact⟨λh=>ff h,λh=>absurd h.1 a7⟩
 | cons a r j=>
  show(Nat.beq a t||(!oc a&&LF (r.map (b8 oc X o t))))=true↔_
  by_cases e:a=t
  .rw[Sz e,Bool.true_or];subst e
   exact⟨λZ=>⟨.head _,by rw[eB];exactλu i=>absurd i a7⟩,λZ=>rfl⟩
  .rw[eq_false_of_ne_true (SA e),Bool.false_or,fG r e,ax,j,bc]
   exact⟨λh=>⟨.tail _ h.2.1,λu i=>(a8.mp i).elim (λq=>q▸h.1) (h.2.2 u)⟩,λh=>⟨h.2 a (.head _),(a8.mp h.1).elim (λq=>absurd q.symm e) id,λu i=>h.2 u (.tail _ i)⟩⟩
theorem HC(L:List Nat):Af (L.map (b8 oc X o t))=true↔o∈L:=by
 unfold Af b8
 rw[List.any_map,aU]
 simp[gv]
theorem HD(L:List Nat):B4 (L.map (b8 oc X o t))=true↔t∈L:=by
 unfold B4 b8
 rw[List.any_map,aU]
 simp[gv]
def vL(oc X:Nat->Bool)(o:Nat)(L:List Nat):Prop:=∃a∈L,X a=true/\∀u,(u∈f5 L a/\oc u=true/\X u=false)↔u=o
theorem Nr(ho:oc o=true/\X o=false):¬(∀u,(u∈([]:List Nat)/\oc u=true/\X u=false)↔u=o):=λh=>by
 have:=(h o).mpr rfl;cases this.1
theorem Kx(ho:oc o=true/\X o=false):(∀u,(u∈[a]/\oc u=true/\X u=false)↔u=o)↔a=o:=by
 constructor
 .intro h
  have:=(h o).mpr rfl
  exact(bf.mp this.1).symm
 .rintro rfl u
  constructor
  .intro h;exact bf.mp h.1
  .rintro rfl;exact⟨.head _,ho⟩
theorem Qd(ho:oc o=true/\X o=false)(i:a≠b):(∀u,(u∈[a,b]/\oc u=true/\X u=false)↔u=o)↔(a=o/\¬(oc b=true/\X b=false))\/(b=o/\¬(oc a=true/\X a=false)):=by
 constructor
 .intro h
  have:=((h o).mpr rfl).1
  rcases a8.mp this with q | q
  .subst q
   exact .inl ⟨rfl,λhb=>i ((h b).mp ⟨.tail _ (.head _),hb⟩).symm⟩
  .have q:=bf.mp q
   subst q
   exact .inr ⟨rfl,λj=>i ((h a).mp ⟨.head _,j⟩)⟩
 .rintro(⟨rfl,hb⟩ | ⟨rfl,j⟩) u
  .constructor
   .rintro⟨h1,h2⟩
    rcases a8.mp h1 with q | q
    .exact q
    .have q:=bf.mp q
     subst q;exact absurd h2 hb
   .rintro rfl;exact⟨.head _,ho⟩
  .constructor
   .rintro⟨h1,h2⟩
    rcases a8.mp h1 with q | q
    .subst q;exact absurd h2 j
    .exact bf.mp q
   .rintro rfl;exact⟨.tail _ (.head _),ho⟩
def TJ(s r:St):Bool:=!(Dw s&&Dw r&& !(s.p&&r.p))||(oX [s,r]==(r.x&&s.p))
def TK(s r z:St):Bool:=!(Dw s&&Dw r&&Dw z&& !(s.p&&r.p))||(oX [s,r,z]==((r.x&&s.p)||(z.x&&((s.p&& !(r.oc&& !r.x))||(r.p&& !(s.oc&& !s.x))))))
theorem Nt:(lr.all λa=>lr.all λb=>TJ a b)=true:=by decide +kernel
theorem Nu:(lr.all λa=>lr.all λb=>lr.all λc=>TK a b c)=true:=by decide +kernel
theorem ja(j:∀u,X u=true->oc u=true)(ho:oc o=true/\X o=false)(i:o≠t)(u:Nat):Dw (b8 oc X o t u)=true:=by
 unfold Dw b8
 dsimp only
 rw[gv,gv,ax,bp,bp]
 constructor
 .cases h:X u with
  | false=>exact .inl rfl
  | true=>exact .inr (j u h)
 .by_cases e:u=o
  .subst e;right;rw[ho.1,ho.2];simp[i]
  .left;simp[e]
theorem HE(y:∀u,X u=true->oc u=true)(ho:oc o=true/\X o=false)(j:o≠t)(L:List Nat)(hl:L.length<=3):L.Nodup->(oX (L.map (b8 oc X o t))=true↔vL oc X o L):=by
 refine Sy L hl (λZ=>⟨λh=>ff h,λ⟨s,h,_⟩=>absurd h a7⟩) (λa nd=>?_) (λa b nd=>?_) (λa b c nd=>?_)
 .show oX [b8 oc X o t a]=true↔_
  unfold vL
  have e1:f5 [a] a=[]:=eB _ _
  constructor
  .intro h
   have h:(if X a=true then(Nat.beq 0 1&&false)||false else if oc a=true then false else false)=true:=h
   by_cases q:X a=true
   .rw[ag q]at h;exact ff h
   .rw[ah q,ite_self]at h;exact ff h
  .rintro⟨s,hs,h1,h2⟩
   have:=bf.mp hs
   subst this
   rw[e1]at h2
   exact absurd h2 (Nr ho)
 .show oX [b8 oc X o t a,b8 oc X o t b]=true↔_
  have i:=Rc nd
  have e1:f5 [a,b] a=[]:=eB _ _
  have e2:f5 [a,b] b=[a]:=by rw[fG _ i,eB]
  have:vL oc X o [a,b]↔X b=true/\a=o:=by
   unfold vL
   constructor
   .rintro⟨s,hs,h1,h2⟩
    rcases a8.mp hs with q | q
    .subst q;rw[e1]at h2;exact absurd h2 (Nr ho)
    .have q:=bf.mp q
     subst q;rw[e2]at h2;exact⟨h1,(Kx ho).mp h2⟩
   .rintro⟨h1,h2⟩
    exact⟨b,.tail _ (.head _),h1,by rw[e2];exact(Kx ho).mpr h2⟩
  rw[this]
  have k:=aM.mp (aM.mp Nt _ (c3 (b8 oc X o t a))) _ (c3 (b8 oc X o t b))
  unfold TJ at k
  rw[ja y ho j a,ja y ho j b]at k
  have z:((b8 oc X o t a).p&&(b8 oc X o t b).p)=false:=by
   unfold b8;dsimp only;rw[gv,gv]
   by_cases h1:a=o
   .have:b≠o:=λh2=>i (h1.trans h2.symm)
    simp[this]
   .simp[h1]
  rw[z]at k
  have k:oX [b8 oc X o t a,b8 oc X o t b]=((b8 oc X o t b).x&&(b8 oc X o t a).p):=by simpa using k
  show oX [b8 oc X o t a,b8 oc X o t b]=true↔_
  rw[k,ax]
  unfold b8
  dsimp only
  rw[gv,bk]
 .show oX [b8 oc X o t a,b8 oc X o t b,b8 oc X o t c]=true↔_
  obtain⟨i,D,G⟩:=TF nd
  have e1:f5 [a,b,c] a=[]:=eB _ _
  have e2:f5 [a,b,c] b=[a]:=by rw[fG _ i,eB]
  have e3:f5 [a,b,c] c=[a,b]:=by rw[fG _ D,fG _ G,eB]
  have:vL oc X o [a,b,c]↔(X b=true/\a=o)\/(X c=true/\((a=o/\¬(oc b=true/\X b=false))\/(b=o/\¬(oc a=true/\X a=false)))):=by
   unfold vL
   constructor
   .rintro⟨s,hs,h1,h2⟩
    rcases a8.mp hs with q | q
    .subst q;rw[e1]at h2;exact absurd h2 (Nr ho)
    .rcases a8.mp q with q | q
     .subst q;rw[e2]at h2;exact .inl ⟨h1,(Kx ho).mp h2⟩
     .have q:=bf.mp q
      subst q;rw[e3]at h2;exact .inr ⟨h1,(Qd ho i).mp h2⟩
   .rintro(⟨h1,h2⟩ | ⟨h1,h2⟩)
    .exact⟨b,.tail _ (.head _),h1,by rw[e2];exact(Kx ho).mpr h2⟩
    .exact⟨c,.tail _ (.tail _ (.head _)),h1,by rw[e3];exact(Qd ho i).mpr h2⟩
  rw[this]
  have k:=aM.mp (aM.mp (aM.mp Nu _ (c3 (b8 oc X o t a))) _ (c3 (b8 oc X o t b))) _ (c3 (b8 oc X o t c))
  unfold TK at k
  rw[ja y ho j a,ja y ho j b,ja y ho j c]at k
  have z:((b8 oc X o t a).p&&(b8 oc X o t b).p)=false:=by
   unfold b8;dsimp only;rw[gv,gv]
   by_cases h1:a=o
   .have:b≠o:=λh2=>i (h1.trans h2.symm)
    simp[this]
   .simp[h1]
  rw[z]at k
  have k:oX [b8 oc X o t a,b8 oc X o t b,b8 oc X o t c]=(((b8 oc X o t b).x&&(b8 oc X o t a).p)||((b8 oc X o t c).x&&(((b8 oc X o t a).p&& !((b8 oc X o t b).oc&& !(b8 oc X o t b).x))||((b8 oc X o t b).p&& !((b8 oc X o t a).oc&& !(b8 oc X o t a).x))))):=by simpa using k
  show oX [b8 oc X o t a,b8 oc X o t b,b8 oc X o t c]=true↔_
  rw[k]
  unfold b8
  dsimp only
  rw[gv,gv]
  simp only[bp,ax,bk,bc]
  have H:∀p q:Bool,((p&& !q)=false)↔¬(p=true/\q=false):=by decide
  rw[H,H]
end
theorem Nv(hB:B.Ok):yd B=true:=by
 cases hB
 .exact Qa
 .exact Qb
 .exact Qc
def ye:List Nat->Bool
 | []=>true
 | a::r=>!(r.contains a)&&ye r
theorem wM(h:ye l=true):l.Nodup:=by
 induction l with
 | nil=>exact List.nodup_nil
 | cons a r i=>exact List.nodup_cons.mpr ⟨λm=>ff ((hW (bC h).1).symm.trans (List.contains_iff_mem.mpr m)),i (bC h).2⟩
def Qe(B:Bd):Bool:=(List.range B.N).all λk=>(List.range 8).all λd=>ye (bW B d k)&& !((bW B d k).contains k)
theorem Qf(hB:B.Ok):Qe B=true:=by
 cases hB<;>decide +kernel
structure Ve(B:Bd)(k d:Nat):Prop where
 len:(bW B d k).length<=3
 nd:(bW B d k).Nodup
 nk:k∉bW B d k
 lt:∀a∈bW B d k,a<B.N
 one:∀a∈bW B d k,∀i,i<8->a∈bW B i k->d=i
 lj:∀a∈bW B d k,∀u,u<B.N->(lj B k a u=true↔u∈f5 (bW B d k) a)
 line:∀a∈bW B d k,∀t,t<B.N->t≠k->t≠a->(lV B a t k=true↔t∈bW B d k\/t∈bW B (d ^^^ 2) k)
 Vf:∀a∈bW B d k,∀t∈bW B (d ^^^ 2) k,Lake.lj B a t k=true
 EZ:∀a∈bW B d k,∀t∈bW B d k,∀u∈bW B d k,(a∈f5 (bW B d k) u/\u∈f5 (bW B d k) t)\/(t∈f5 (bW B d k) u/\u∈f5 (bW B d k) a)->Lake.lj B a t u=true
theorem mW:ray B d s t=true↔t∈bW B d s:=by unfold ray;simp
theorem km(hB:B.Ok)(hk:k<B.N)(hd:d<8):Ve B k d:=by
 have h:=aM.mp (aM.mp (Nv hB) k (aN.mpr hk)) d (aN.mpr hd)
 have h2:=aM.mp (aM.mp (Qf hB) k (aN.mpr hk)) d (aN.mpr hd)
 rw[ax]at h h2
 obtain⟨I,J⟩:=h
 have i:=λa j=>aM.mp J a j
 simp only[ax,bk]at i
 refine⟨aY I,wM h2.1,by simpa using h2.2,λa j=>(i a j).1.1.1.1.1.1,λa j L y hm=>?_,λa j u D=>?_,λa j t ht h1 h2=>?_,λa j t ht=>?_,λa j t ht u D hc=>?_⟩
 .have:=aM.mp (i a j).1.1.1.1.2 L (aN.mpr y)
  rw[mW.mpr hm,gv]at this
  simpa using this
 .have:=aM.mp (i a j).1.1.1.2 u (aN.mpr D)
  rw[az.mp this];simp
 .have:=aM.mp (i a j).1.1.2 t (aN.mpr ht)
  rw[gv,gv,decide_eq_false h1,decide_eq_false h2]at this
  have this:lV B a t k=(ray B d k t||ray B (d ^^^ 2) k t):=by simpa using this
  rw[this,bp,mW,mW]
 .exact aM.mp (i a j).1.2 t ht
 .have:=aM.mp (aM.mp (i a j).2 t ht) u D
  rw[bp,bc]at this
  rcases this with q | q
  .exfalso
   rw[Bool.or_eq_false_iff,Bool.and_eq_false_iff,Bool.and_eq_false_iff]at q
   rcases hc with ⟨G,H⟩ | ⟨G,H⟩
   .rcases q.1 with z | z
    .simp at z;exact z G
    .simp at z;exact z H
   .rcases q.2 with z | z
    .simp at z;exact z G
    .simp at z;exact z H
  .exact q
def Xd(c:Nat->Nat)(e d u:Nat):Bool:=(if d<4 then fv c u else oJ c u)&&sS c e u
theorem hQ(hB:B.Ok)(hc:ju B c)(hk:k<B.N)(he:e<2)(occ:Nat->Bool)(s:Nat):
  dH B c e occ s k=true↔c5 B c k e s=true\/∃d,d<8/\s∈bW B d k/\Xd c e d s=true/\∀u∈f5 (bW B d k) s,occ u=false:=by
 rw[<-rq hB hc hk he occ]
 simp only[bp,ax]
 unfold dY ez
 simp only[aU,aN,kl,ax,mW,aM,bc]
 unfold Xd
 constructor
 .rintro(h | ⟨⟨d,hd,h1,h2⟩,h3,j⟩ | ⟨⟨d,hd,h1,h2⟩,h3,j⟩)
  .exact .inl h
  .exact .inr ⟨d,ak hd (by decide),h1,by rw[ag hd,h3,j];rfl,h2⟩
  .exact .inr ⟨4+d,Nat.add_lt_add_left hd 4,h1,by rw[ah (Nat.not_lt.mpr (Nat.le_add_right 4 d)),h3,j];rfl,h2⟩
 .rintro(h | ⟨d,hd,h1,h2,h3⟩)
  .exact .inl h
  .rw[ax]at h2
   by_cases i:d<4
   .rw[ag i]at h2
    exact .inr (.inl ⟨⟨d,i,h1,h3⟩,h2.1,h2.2⟩)
   .rw[ah i]at h2
    refine .inr (.inr ⟨⟨d-4,Nat.sub_lt_right_of_lt_add (Nat.not_lt.mp i) hd,?_⟩,h2.1,h2.2⟩)
    rw[Nat.add_sub_of_le (Nat.not_lt.mp i)]
    exact⟨h1,h3⟩
def NZ(s r:St):Bool:=!(s.p&&r.p)&& !(s.q&&r.q)
def TL(s:St):Bool:=!(Dw s)||vK [s]
def TM(s r:St):Bool:=!(Dw s&&Dw r&&NZ s r)||vK [s,r]
def TN(s r z:St):Bool:=!(Dw s&&Dw r&&Dw z&&NZ s r&&NZ s z&&NZ r z&& !((s.p||s.q)&&(z.p||z.q)&&r.oc&& !(r.p||r.q)))||vK [s,r,z]
theorem Nw:(lr.all λa=>TL a)=true:=by decide +kernel
theorem Nx:(lr.all λa=>lr.all λb=>TM a b)=true:=by decide +kernel
theorem Ny:(lr.all λa=>lr.all λb=>lr.all λc=>TN a b c)=true:=by decide +kernel
theorem yf{oc X:Nat->Bool}(h:a≠b):NZ (b8 oc X o t a) (b8 oc X o t b)=true:=by
 unfold NZ b8
 dsimp only
 rw[gv,gv,gv,gv]
 by_cases h1:a=o<;>by_cases h2:b=o<;>by_cases h3:a=t<;>by_cases i:b=t<;>simp[h1,h2,h3,i]<;>lia
theorem HF{oc X:Nat->Bool}(z:∀u,X u=true->oc u=true)(ho:oc o=true/\X o=false)(i:o≠t)(L:List Nat)(hl:L.length<=3):L.Nodup->
  (∀a∈L,∀b∈L,(a=o/\b=t)\/(a=t/\b=o)->∀u∈L,a∈f5 L u->u∈f5 L b->oc u=false)->vK (L.map (b8 oc X o t))=true:=by
 refine Sy L hl (λZ Z=>(by decide:vK []=true)) (λa nd G=>?_) (λa b nd G=>?_) (λa b c nd G=>?_)
 .show vK [b8 oc X o t a]=true
  have k:=aM.mp Nw _ (c3 (b8 oc X o t a))
  unfold TL at k
  rw[ja z ho i a]at k
  simpa using k
 .show vK [b8 oc X o t a,b8 oc X o t b]=true
  have j:=Rc nd
  have k:=aM.mp (aM.mp Nx _ (c3 (b8 oc X o t a))) _ (c3 (b8 oc X o t b))
  unfold TM at k
  rw[ja z ho i a,ja z ho i b,yf j]at k
  simpa using k
 .show vK [b8 oc X o t a,b8 oc X o t b,b8 oc X o t c]=true
  obtain⟨j,y,D⟩:=TF nd
  have e2:f5 [a,b,c] b=[a]:=by rw[fG _ j,eB]
  have e3:f5 [a,b,c] c=[a,b]:=by rw[fG _ y,fG _ D,eB]
  have k:=aM.mp (aM.mp (aM.mp Ny _ (c3 (b8 oc X o t a))) _ (c3 (b8 oc X o t b))) _ (c3 (b8 oc X o t c))
  unfold TN at k
  have H:(((b8 oc X o t a).p||(b8 oc X o t a).q)&&((b8 oc X o t c).p||(b8 oc X o t c).q)&&(b8 oc X o t b).oc&& !((b8 oc X o t b).p||(b8 oc X o t b).q))=false:=by
   unfold b8
   dsimp only
   rw[gv,gv,gv,gv,gv,gv]
   have h:=G a (.head _) c (.tail _ (.tail _ (.head _)))
   by_cases hh:(a=o/\c=t)\/(a=t/\c=o)
   .have:=h hh b (.tail _ (.head _)) (by rw[e2];exact .head _) (by rw[e3];exact .tail _ (.head _))
    rw[this];simp
   .rw[Bool.and_eq_false_iff,Bool.and_eq_false_iff,Bool.and_eq_false_iff]
    left;left
    rw[Bool.or_eq_false_iff,Bool.or_eq_false_iff]
    simp only[decide_eq_false_iff_not]
    by_cases h1:a=o
    .right
     exact⟨λq=>y (h1.trans q.symm),λq=>hh (.inl ⟨h1,q⟩)⟩
    .by_cases h2:a=t
     .right
      exact⟨λq=>hh (.inr ⟨h2,q⟩),λq=>y (h2.trans q.symm)⟩
     .left;exact⟨h1,h2⟩
  rw[ja z ho i a,ja z ho i b,ja z ho i c,yf j,yf y,yf D,H]at k
  simpa using k
theorem Nz:∀x,x<32->((List.range 32).filter λs=>s==x)=[x]:=by
 have:(List.range 32).all (λx=>((List.range 32).filter λs=>s==x)==[x])=true:=by decide +kernel
 intro x hx
 exact az.mp (aM.mp this x (aN.mpr hx))
theorem Ai(h:vz f x):gw f=[x]:=by
 unfold gw
 rw[<-Nz x h.1]
 exact List.filter_congr λs hs=>h.2 s (aN.mp hs)
theorem qi(h:vz f x):jH f=true:=by
 unfold jH eR zw
 rw[Ai h,ax]
 refine⟨aU.mpr ⟨x,aN.mpr h.1,by rw[h.2 x h.1];simp⟩,by simp⟩
theorem Ky(hl:∀s,f s=true->s<32):(jH f&&f x)=true↔∀s,f s=true↔s=x:=by
 rw[ax]
 constructor
 .rintro⟨h1,h2⟩ s
  obtain⟨h3,_⟩:=l3 h1
  have e:x=Ew f:=by
   have:=h3.2 x (hl x h2)
   rw[h2]at this
   simpa using this.symm
  constructor
  .intro h
   have:=h3.2 s (hl s h)
   rw[h]at this
   have:s=Ew f:=by simpa using this.symm
   rw[this,e]
  .rintro rfl;exact h2
 .intro h
  have hx:=(h x).mpr rfl
  refine⟨qi (x:=x) ⟨hl x hx,λs Z=>?_⟩,hx⟩
  rw[bj,h s,az]
structure Il(B:Bd)(c:Nat->Nat)(bq k o t:Nat):Prop where
 cells:ju B c
 sd:bq<2
 hk:k<B.N
 ck:c k=bq*8+6
 ho:o<B.N
 ht:t<B.N
 ok:o≠k
 ot:o≠t
 own:sS c bq o=true
 nt:sS c bq t=false
 reach:∀u,u<B.N->lj B o t u=true->bZ c u=false
section
variable{B:Bd}{c:Nat->Nat}{bq k o t:Nat}
theorem uW(h:Xd c e d u=true):bZ c u=true:=by
 unfold Xd sS at h
 simp only[ax]at h
 exact h.2.1
theorem Il.Qg(M:Il B c bq k o t):bZ c o=true:=by
 have:=M.own;unfold sS at this;rw[ax]at this;exact this.1
theorem Il.Xo(M:Il B c bq k o t)(d:Nat):Xd c (1-bq) d o=false:=by
 have h1:=M.own
 have h2:=M.sd
 unfold sS at h1
 unfold Xd sS
 rw[ax,az]at h1
 have:(c o/8==1-bq)=false:=aE.mpr (by omega)
 rw[this];simp
theorem uX(hB:B.Ok)(hk:k<B.N):j9 B c bq k u=true↔∃d,d<8/\u∈bW B d k/\Xd c (1-bq) d u=true:=by
 unfold j9 dY ez Xd
 simp only[ax,bp,aU,aN,kl,mW]
 constructor
 .rintro⟨⟨⟨d,hd,h1,_⟩,h2⟩ | ⟨⟨d,hd,h1,_⟩,h2⟩,h3⟩
  .exact⟨d,by omega,h1,by rw[ag hd];exact h2,h3⟩
  .exact⟨4+d,by lia,h1,by rw[ah (by lia)];exact h2,h3⟩
 .rintro⟨d,hd,h1,h2,h3⟩
  by_cases i:d<4
  .rw[ag i]at h2
   exact⟨.inl ⟨⟨d,i,h1,by simp⟩,h2⟩,h3⟩
  .rw[ah i]at h2
   refine⟨.inr ⟨⟨d-4,by omega,?_⟩,h2⟩,h3⟩
   rw[show 4+(d-4)=d by omega]
   exact⟨h1,by simp⟩
theorem mX(h:u∈f5 l a):u∈l:=(List.takeWhile_sublist _).subset h
theorem B6(hB:B.Ok)(hc:ju B c)(hk:k<B.N)(hd:d<8)(z:a∈bW B d k)(u:Nat):
  AJ B c bq k a u=true↔u∈f5 (bW B d k) a/\bZ c u=true/\Xd c (1-bq) d u=false:=by
 have g:=km hB hk hd
 have hb:lj B k a u=true->u<B.N:=λh=>by
  unfold lj at h
  split at h
  .cases h
  .rw[ax]at h;exact xW hB h.1
 have hs:u∈f5 (bW B d k) a->(uy B c bq k u=true↔bZ c u=true/\Xd c (1-bq) d u=false):=by
  intro j
  have i:=mX j
  have e1:j9 B c bq k u=Xd c (1-bq) d u:=by
   rw[bj,uX hB hk]
   constructor
   .rintro⟨D,y,h1,h2⟩
    rw[g.one u i D y h1];exact h2
   .intro h;exact⟨d,hd,i,h⟩
  unfold uy
  rw[e1,i9 hc]
  cases h1:bZ c u<;>cases h2:Xd c (1-bq) d u<;>simp
  have:=uW h2;rw[h1]at this;cases this
 unfold AJ
 rw[ax]
 constructor
 .rintro⟨h1,h2⟩
  have j:=(g.lj a z u (hb h1)).mp h1
  exact⟨j,(hs j).mp h2⟩
 .rintro⟨h1,h2⟩
  exact⟨(g.lj a z u (g.lt u (mX h1))).mpr h1,(hs h1).mpr h2⟩
theorem Dx(hB:B.Ok)(M:Il B c bq k o t):gn B c bq k o=true↔∃d,d<8/\vL (bZ c) (Xd c (1-bq) d) o (bW B d k):=by
 have j:=hB.cm
 unfold gn uz vL
 rw[M.own,Bool.and_true,aU]
 have key:∀d a,d<8->a∈bW B d k->((jH (AJ B c bq k a)&&AJ B c bq k a o)=true↔∀u,(u∈f5 (bW B d k) a/\bZ c u=true/\Xd c (1-bq) d u=false)↔u=o):=by
  intro d a hd i
  have g:=km hB M.hk hd
  rw[Ky λs hs=>by
   have:=g.lt s (mX ((B6 hB M.cells M.hk hd i s).mp hs).1)
   omega]
  constructor
  .intro h u;rw[<-B6 hB M.cells M.hk hd i];exact h u
  .intro h u;rw[B6 hB M.cells M.hk hd i];exact h u
 constructor
 .rintro⟨a,i,h⟩
  obtain⟨d,hd,h1,h2⟩:=(uX hB M.hk).mp (bY.mp i).2
  exact⟨d,hd,a,h1,h2,(key d a hd h1).mp h⟩
 .rintro⟨d,hd,a,h1,h2,h3⟩
  have g:=km hB M.hk hd
  exact⟨a,bY.mpr ⟨by have:=g.lt a h1;omega,(uX hB M.hk).mpr ⟨d,hd,h1,h2⟩⟩,(key d a hd h1).mpr h3⟩
end
theorem Dy(i:a∈l)(hb:b∈l)(h:a≠b):a∈f5 l b\/b∈f5 l a:=by
 induction l with
 | nil=>exact absurd i a7
 | cons x r j=>
  by_cases h1:x=a
  .rw[h1,fG r h];exact .inl (.head _)
  .by_cases h2:x=b
   .rw[h2,fG r (Ne.symm h)];exact .inr (.head _)
   .rw[fG r h1,fG r h2]
    exact(j ((a8.mp i).resolve_left (Ne.symm h1)) ((a8.mp hb).resolve_left (Ne.symm h2))).imp (.tail _) (.tail _)
theorem EG(h:a∈f5 l b)(i:u∈f5 l a):u∈f5 l b:=by
 induction l with
 | nil=>exact absurd h a7
 | cons x r j=>
  by_cases h2:x=b
  .rw[h2,eB]at h;exact absurd h a7
  .rw[fG r h2]at h ⊢
   by_cases h1:x=a
   .rw[h1,eB]at i;exact absurd i a7
   .rw[fG r h1]at i
    rcases a8.mp h with q | h
    .exact absurd q.symm h1
    .exact(a8.mp i).elim (λq=>q▸.head _) λi=>.tail _ (j h i)
def NA(B:Bd):Bool:=(List.range B.N).all λk=>(List.range B.N).all λs=>!(dk B k s||gA B k s||dI B 0 k s||dI B 1 k s)||(List.range B.N).all λu=>!(lj B k s u)
theorem HG(hB:B.Ok):NA B=true:=by
 cases hB<;>decide +kernel
section
variable{B:Bd}{c:Nat->Nat}{bq k o t:Nat}
theorem Dz(hB:B.Ok)(h:lj B a b u=true):u<B.N:=by
 unfold lj at h
 split at h
 .cases h
 .rw[ax]at h;exact xW hB h.1
theorem oY(h:c5 B c k e s=true):c s≠0/\(c s % 8=1\/c s % 8=2\/c s % 8=6)/\(dk B k s||gA B k s||dI B (1-e) k s)=true:=by
 unfold c5 mH kS at h
 simp only[bp,ax,az,aP]at h
 rcases h with ⟨⟨h1,h2,h3⟩,_⟩ | ⟨⟨h1,h2,h3⟩ | ⟨h1,h2,h3⟩,_⟩
 .exact⟨h2,.inl h3,by rw[h1];simp⟩
 .exact⟨h2,.inr (.inl h3),by rw[h1];simp⟩
 .exact⟨h2,.inr (.inr h3),by rw[h1];simp⟩
theorem Aj(hB:B.Ok)(hc:ju B c)(hk:k<B.N)(he:e<2)(h:c5 B c k e s=true):lj B k s u=false:=by
 obtain⟨h1,_,h3⟩:=oY h
 cases q:lj B k s u with
 | false=>rfl
 | true=>
  have:=aM.mp (aM.mp (HG hB) k (aN.mpr hk)) s (aN.mpr (hc.eS s h1))
  rw[bp,bc]at this
  rcases this with z | z
  .rcases(show 1-e=0\/1-e=1 by omega)with y | y
   .rw[y]at h3
    simp only[Bool.or_eq_false_iff]at z
    rw[z.1.1.1,z.1.1.2,z.1.2]at h3;cases h3
   .rw[y]at h3
    simp only[Bool.or_eq_false_iff]at z
    rw[z.1.1.1,z.1.1.2,z.2]at h3;cases h3
  .have:=aM.mp z u (aN.mpr (Dz hB q))
   rw[q]at this;cases this
theorem wN(hB:B.Ok)(hc:ju B c)(hk:k<B.N)(hs:bq<2)(s:Nat):il B c bq k s=dH B c (1-bq) (bZ c) s k:=by
 rw[<-rq hB hc hk (by omega),<-i9 hc]
 unfold il Hg kE
 cases e:sS c (1-bq) s with
 | false=>
  unfold c5 mH
  rw[e];simp
 | true=>
  have i:c5 B c k bq s=false:=by
   have:sS c bq s=false:=by
    unfold sS at e ⊢
    rw[ax,az]at e
    rw[aE.mpr (by omega)];simp
   unfold c5 mH;rw[this];simp
  rcases(show bq=0\/bq=1 by omega)with q | q
  .subst q;rw[i];simp
  .subst q;rw[i];simp
def qj(c:Nat->Nat)(o t u:Nat):Bool:=decide (u=t)||(decide (u≠o)&&bZ c u)
theorem kM:qj c o t u=false↔u≠t/\(u=o\/bZ c u=false):=by
 unfold qj
 by_cases h1:u=t<;>by_cases h2:u=o<;>simp[h1,h2]
def vM(B:Bd)(c:Nat->Nat)(bq k o t d:Nat):List St:=(bW B d k).map (b8 (bZ c) (Xd c (1-bq) d) o t)
theorem Il.NB(hB:B.Ok)(M:Il B c bq k o t)(hd:d<8):vJ (vM B c bq k o t d)=if vI (vM B c bq k o t d)then !LF (vM B c bq k o t d)else(Af (vM B c bq k o t d)&&(oX (vM B c bq k o t d)&& !B4 (vM B c bq k o t d))):=by
 have g:=km hB M.hk hd
 refine Kv (by unfold vM;rw[aV];exact g.len) (HF (oc:=bZ c) (X:=Xd c (1-bq) d) (o:=o) (t:=t) (λu h=>uW h) ⟨M.Qg,M.Xo d⟩ M.ot _ g.len g.nd λa y b hb i u j h1 h2=>?_)
 refine M.reach u (g.lt u j) ?_
 rcases i with ⟨rfl,rfl⟩ | ⟨rfl,rfl⟩
 .exact g.EZ a y b hb u j (.inl ⟨h1,h2⟩)
 .exact g.EZ b hb a y u j (.inr ⟨h1,h2⟩)
theorem EH(hB:B.Ok)(M:Il B c bq k o t):(∀s,s≠t->dH B c (1-bq) (qj c o t) s k=false)↔(∀s,s≠t->c5 B c k (1-bq) s=false)/\∀d,d<8->vJ (vM B c bq k o t d)=false:=by
 have he:1-bq<2:=by omega
 constructor
 .intro h
  refine⟨λs hs=>?_,λd hd=>?_⟩
  .cases q:c5 B c k (1-bq) s with
   | false=>rfl
   | true=>
    have:=(hQ hB M.cells M.hk he (qj c o t) s).mpr (.inl q)
    rw[h s hs]at this;cases this
  .cases q:vJ (vM B c bq k o t d)with
   | false=>rfl
   | true=>
    obtain⟨s,h1,⟨h2,h3⟩,j⟩:=(Ah (oc:=bZ c) (X:=Xd c (1-bq) d) (o:=o) (t:=t) (λu h=>uW h) (M.Xo d) _).mp q
    have:=(hQ hB M.cells M.hk he (qj c o t) s).mpr (.inr ⟨d,hd,h1,h3,λu i=>kM.mpr (j u i)⟩)
    rw[h s h2]at this;cases this
 .rintro⟨h1,h2⟩ s hs
  cases q:dH B c (1-bq) (qj c o t) s k with
  | false=>rfl
  | true=>
   rcases(hQ hB M.cells M.hk he (qj c o t) s).mp q with z | ⟨d,hd,y,D,G⟩
   .rw[h1 s hs]at z;cases z
   .have:=(Ah (oc:=bZ c) (X:=Xd c (1-bq) d) (λu h=>uW h) (M.Xo d) (bW B d k)).mpr ⟨s,y,⟨hs,D⟩,λu i=>kM.mp (G u i)⟩
    have e:=h2 d hd
    unfold vM at e
    rw[e]at this;cases this
theorem Kz(hB:B.Ok)(M:Il B c bq k o t):(∀s,s≠t->dH B c (1-bq) (qj c o t) s k=false)↔(hK B c bq k=true->eA B c bq k t=true)/\(gn B c bq k o=true->lV B o t k=true):=by
 have he:1-bq<2:=by omega
 have hN:=hB.cm
 have X:=λd u(h:Xd c (1-bq) d u=true)=>uW h
 have hS:∀d,vI (vM B c bq k o t d)=true↔∃s∈bW B d k,Xd c (1-bq) d s=true/\∀u∈f5 (bW B d k) s,bZ c u=false:=λd=>HB (X d) _
 have uT:∀d,LF (vM B c bq k o t d)=true↔t∈bW B d k/\∀u∈f5 (bW B d k) t,bZ c u=false:=λd=>Kw _
 have aO:∀d,Af (vM B c bq k o t d)=true↔o∈bW B d k:=λd=>HC _
 have aT:∀d,B4 (vM B c bq k o t d)=true↔t∈bW B d k:=λd=>HD _
 have pS:∀d,d<8->(oX (vM B c bq k o t d)=true↔vL (bZ c) (Xd c (1-bq) d) o (bW B d k)):=λd hd=>HE (X d) ⟨M.Qg,M.Xo d⟩ M.ot _ (km hB M.hk hd).len (km hB M.hk hd).nd
 have SD:∀d,vL (bZ c) (Xd c (1-bq) d) o (bW B d k)->o∈bW B d k:=λd q'=>by obtain⟨a,_,_,h⟩:=q';exact mX ((h o).mpr rfl).1
 have ck:hK B c bq k=true↔∃s,dH B c (1-bq) (bZ c) s k=true:=by
  unfold hK
  rw[mU hB M.cells M.hk he,i9 M.cells,aU]
  constructor
  .rintro⟨s,_,h⟩;exact⟨s,h⟩
  .rintro⟨s,h⟩
   refine⟨s,aN.mpr ?_,h⟩
   unfold dH sS at h
   simp only[ax,aP]at h
   exact M.cells.eS s h.1.1
 have j:∀s,dH B c (1-bq) (bZ c) s k=true->s<32:=λs h=>by
  unfold dH sS at h
  simp only[ax,aP]at h
  have:=M.cells.eS s h.1.1
  omega
 have cf:il B c bq k=λs=>dH B c (1-bq) (bZ c) s k:=funext λs=>wN hB M.cells M.hk M.sd s
 have V:=λs=>hQ hB M.cells M.hk he (bZ c) s
 have H:∀d s,d<8->s∈bW B d k->Xd c (1-bq) d s=true->(∀u∈f5 (bW B d k) s,bZ c u=false)->dH B c (1-bq) (bZ c) s k=true:=λd s hd h1 h2 h3=>(V s).mpr (.inr ⟨d,hd,h1,h2,h3⟩)
 have first:∀d a b,a∈bW B d k->b∈bW B d k->bZ c a=true->bZ c b=true->(∀u∈f5 (bW B d k) a,bZ c u=false)->(∀u∈f5 (bW B d k) b,bZ c u=false)->a=b:=by
  intro d a b ha hb oa ob h1 h2
  by_cases e:a=b
  .exact e
  .rcases Dy ha hb e with q | q
   .rw[h2 a q]at oa;cases oa
   .rw[h1 b q]at ob;cases ob
 have D:∀d,d<8->o∈bW B d k->t≠k->(lV B o t k=true↔t∈bW B d k):=by
  intro d hd ho I
  have g:=km hB M.hk hd
  rw[g.line o ho t M.ht I (Ne.symm M.ot)]
  constructor
  .rintro(h | h)
   .exact h
   .have:=M.reach k M.hk (g.Vf o ho t h)
    unfold bZ at this
    rw[M.ck]at this
    simp at this
  .exact .inl
 have I:t≠k:=by
  rintro rfl
  have:=M.nt
  unfold sS at this
  rw[M.ck]at this
  have NC:=M.sd
  rw[Bool.and_eq_false_iff]at this
  rcases this with q | q
  .simp at q
  .have:(bq*8+6)/8=bq:=d8 (by decide)
   rw[this]at q;simp at q
 rw[EH hB M]
 constructor
 .rintro⟨S1,S2⟩
  have up:∀d,d<8->vI (vM B c bq k o t d)=true->t∈bW B d k/\∀u∈f5 (bW B d k) t,bZ c u=false:=by
   intro d hd h
   have:=M.NB hB hd
   rw[S2 d hd,h,ag rfl]at this
   exact(uT d).mp (by simpa using this.symm)
  refine⟨λhc=>?_,λhp=>?_⟩
  .obtain⟨i,h0⟩:=ck.mp hc
   unfold eA vD
   rw[cf]
   by_cases O:c5 B c k (1-bq) t=true
   .
    have U:dH B c (1-bq) (bZ c) t k=true:=(V t).mpr (.inl O)
    have only:vz (λs=>dH B c (1-bq) (bZ c) s k) t:=by
     refine⟨j t U,λs Z=>?_⟩
     rw[bj,az]
     constructor
     .intro hs
      rcases(V s).mp hs with z | ⟨d,hd,G,L,J⟩
      .by_cases e:s=t
       .exact e
       .rw[S1 s e]at z;cases z
      .have Y:=up d hd ((hS d).mpr ⟨s,G,L,J⟩)
       have ot:bZ c t=true:=by
        have:=(oY O).1
        unfold bZ;simpa using this
       exact first d s t G Y.1 (X d s L) ot J Y.2
     .rintro rfl;exact U
    dsimp only;rw[qi only,U];rfl
   .have TO:∀s,c5 B c k (1-bq) s=false:=λs=>by
     by_cases e:s=t
     .rw[e];simpa using O
     .exact S1 s e
    rcases(V i).mp h0 with z | ⟨d,hd,G,L,J⟩
    .rw[TO i]at z;cases z
    have Y:=up d hd ((hS d).mpr ⟨i,G,L,J⟩)
    have g:=km hB M.hk hd
    have only:vz (λs=>dH B c (1-bq) (bZ c) s k) i:=by
     refine⟨j i h0,λs Z=>?_⟩
     rw[bj,az]
     constructor
     .intro hs
      rcases(V s).mp hs with z | ⟨d',TP,y1,y2,y3⟩
      .rw[TO s]at z;cases z
      .have u2:=up d' TP ((hS d').mpr ⟨s,y1,y2,y3⟩)
       have:=g.one t Y.1 d' TP u2.1
       subst this
       exact first d s i y1 G (X d s y2) (X d i L) y3 J
     .rintro rfl;exact h0
    have lw:Ew (λs=>dH B c (1-bq) (bZ c) s k)=i:=by
     have:=(l3 (qi only)).2
     rw[Ai only]at this
     simpa using this.symm
    rw[qi only,lw,Bool.true_and,bp]
    by_cases e:t=i
    .left;rw[e];exact h0
    .right
     refine(g.lj i G t M.ht).mpr ?_
     rcases Dy Y.1 G e with q | q
     .exact q
     .have:=Y.2 i q
      rw[X d i L]at this;cases this
  .obtain⟨d,hd,hP⟩:=(Dx hB M).mp hp
   have ho:=SD d hP
   rw[D d hd ho I]
   have NB:=M.NB hB hd
   rw[S2 d hd]at NB
   by_cases h:vI (vM B c bq k o t d)=true
   .exact(up d hd h).1
   .rw[ah h,(aO d).mpr ho,(pS d hd).mpr hP]at NB
    exact(aT d).mp (by simpa using NB.symm)
 .rintro⟨E1,E2⟩
  have E:∀x,dH B c (1-bq) (bZ c) x k=true->vz (λs=>dH B c (1-bq) (bZ c) s k) x/\(t=x\/lj B k x t=true):=by
   intro x hx
   have h:=E1 (ck.mpr ⟨x,hx⟩)
   unfold eA vD at h
   rw[cf,ax,bp]at h
   obtain⟨h1,h2⟩:=h
   obtain⟨h3,_⟩:=l3 h1
   have e:∀y,dH B c (1-bq) (bZ c) y k=true->y=Ew (λs=>dH B c (1-bq) (bZ c) s k):=λy hy=>by
    have:=h3.2 y (j y hy)
    dsimp only at this
    rw[hy]at this
    simpa using this.symm
   rw[e x hx]
   refine⟨h3,?_⟩
   rcases h2 with h2 | h2
   .exact .inl (e t h2)
   .exact .inr h2
  refine⟨λs hs=>?_,λd hd=>?_⟩
  .cases q:c5 B c k (1-bq) s with
   | false=>rfl
   | true=>
    obtain⟨_,z⟩:=E s ((V s).mpr (.inl q))
    rcases z with z | z
    .exact absurd z.symm hs
    .rw[Aj hB M.cells M.hk he q]at z;cases z
  .have g:=km hB M.hk hd
   rw[M.NB hB hd]
   by_cases h:vI (vM B c bq k o t d)=true
   .rw[ag h]
    obtain⟨s,G,L,J⟩:=(hS d).mp h
    obtain⟨_,z⟩:=E s (H d s hd G L J)
    have:LF (vM B c bq k o t d)=true:=by
     rw[uT]
     rcases z with z | z
     .rw[z];exact⟨G,J⟩
     .have hb:=(g.lj s G t M.ht).mp z
      exact⟨mX hb,λu hu=>J u (EG hb hu)⟩
    rw[this];rfl
   .rw[ah h]
    cases a1:Af (vM B c bq k o t d)with
    | false=>rfl
    | true=>
     cases a2:oX (vM B c bq k o t d)with
     | false=>rfl
     | true=>
      have ho:=(aO d).mp a1
      have:=E2 ((Dx hB M).mpr ⟨d,hd,(pS d hd).mp a2⟩)
      rw[D d hd ho I]at this
      rw[(aT d).mpr this];rfl
end
def dK(c:Nat->Nat)(o t p:Nat):Nat->Nat:=λs=>if s=t then p else if s=o then 0 else c s
def DA(B:Bd):Bool:=(List.range B.N).all λt=>!(dk B t t||gA B t t||dI B 0 t t||dI B 1 t t)
theorem KA(hB:B.Ok):DA B=true:=by cases hB<;>decide +kernel
section
variable{B:Bd}{c:Nat->Nat}{bq o t p:Nat}
theorem HH(hp:p≠0):bZ (dK c o t p)=qj c o t:=by
 funext u
 unfold bZ dK qj bZ
 by_cases h1:u=t
 .simp[h1,hp]
 .by_cases h2:u=o
  .subst h2;simp[h1]
  .simp[h1,h2]
theorem Ak(hs:bq<2)(hp:p/8=bq)(own:sS c bq o=true)(occ:Nat->Bool)(s q:Nat):dH B (dK c o t p) (1-bq) occ s q=(decide (s≠t)&&dH B c (1-bq) occ s q):=by
 unfold dH
 by_cases h1:s=t
 .subst h1
  have:sS (dK c o s p) (1-bq) s=false:=by
   unfold sS dK
   rw[ag rfl,aE.mpr (show p/8≠1-bq by omega)];simp
  rw[this];simp
 .by_cases h2:s=o
  .subst h2
   have e1:sS (dK c s t p) (1-bq) s=false:=by
    unfold sS dK
    rw[ah h1,ag rfl];rfl
   have e2:sS c (1-bq) s=false:=by
    unfold sS at own ⊢
    rw[ax,az]at own
    rw[aE.mpr (show c s/8≠1-bq by omega)];simp
   rw[e1,e2];simp
  .have e:dK c o t p s=c s:=by unfold dK;rw[ah h1,ah h2]
   have e2:sS (dK c o t p) (1-bq) s=sS c (1-bq) s:=by unfold sS;rw[e]
   rw[e,e2];simp[h1]
theorem EI(hB:B.Ok)(h:Wf1 B (dK c o t p))(hs:bq<2)(hp:p/8=bq)(j:p≠0)(own:sS c bq o=true):
  cF B (dK c o t p) bq=true↔∀s,s≠t->dH B c (1-bq) (qj c o t) s (kq (dK c o t p) bq)=false:=by
 rw[Ae hB h hs,HH j]
 constructor
 .intro q s i
  have:=q s
  rw[Ak hs hp own]at this
  simpa[i]using this
 .intro q s
  rw[Ak hs hp own]
  by_cases i:s=t
  .simp[i]
  .simp[i,q s i]
theorem HI(hB:B.Ok)(hc:ju B c)(hs:bq<2)(ht:t<B.N)(hk:c k=bq*8+6)(G:k≠t):
  (∀s,s≠t->dH B c (1-bq) (qj c k t) s t=false)↔k7 B c t (1-bq) (λs=>ll c s != (s==k))=false:=by
 have he:1-bq<2:=by omega
 rw[mU hB hc ht he,List.any_eq_false]
 have ok:bZ c k=true:=by unfold bZ;rw[hk];simp
 have same:∀s,s≠t->(dH B c (1-bq) (qj c k t) s t=dH B c (1-bq) (λs=>ll c s != (s==k)) s t):=by
  intro s i
  rw[bj,hQ hB hc ht he,hQ hB hc ht he]
  have:∀d,d<8->s∈bW B d t->((∀u∈f5 (bW B d t) s,qj c k t u=false)↔∀u∈f5 (bW B d t) s,(ll c u != (u==k))=false):=by
   intro d hd hm
   have g:=km hB ht hd
   constructor
   .intro h u j
    obtain⟨h1,h2⟩:=kM.mp (h u j)
    rw[i9 hc]
    rcases h2 with h2 | h2
    .rw[h2,ok];simp
    .have:u≠k:=by rintro rfl;rw[ok]at h2;cases h2
     rw[h2];simp[this]
   .intro h u j
    refine kM.mpr ⟨?_,?_⟩
    .rintro rfl;exact g.nk (mX j)
    .have:=h u j
     rw[i9 hc]at this
     by_cases e:u=k
     .exact .inl e
     .right
      have e2:(u==k)=false:=aE.mpr e
      rw[e2]at this
      simpa using this
  constructor
  .rintro(h | ⟨d,hd,h1,h2,h3⟩)
   .exact .inl h
   .exact .inr ⟨d,hd,h1,h2,(this d hd h1).mp h3⟩
  .rintro(h | ⟨d,hd,h1,h2,h3⟩)
   .exact .inl h
   .exact .inr ⟨d,hd,h1,h2,(this d hd h1).mpr h3⟩
 have self:∀occ,dH B c (1-bq) occ t t=false:=by
  intro occ
  cases q:dH B c (1-bq) occ t t with
  | false=>rfl
  | true=>
   rcases(hQ hB hc ht he occ t).mp q with z | ⟨d,hd,z,_⟩
   .obtain⟨_,_,h3⟩:=oY z
    exfalso
    have:DA B=true:=KA hB
    have:=aM.mp this t (aN.mpr ht)
    unfold c5 at z
    simp only[bc,Bool.or_eq_false_iff]at this
    rcases(show 1-(1-bq)=0\/1-(1-bq)=1 by omega)with y | y<;>rw[y]at h3<;>simp[this.1.1.1,this.1.1.2,this.1.2,this.2]at h3
   .exact absurd z (km hB ht hd).nk
 constructor
 .intro h s _
  by_cases e:s=t
  .rw[e,self];simp
  .rw[<-same s e,h s e];simp
 .intro h s i
  rw[same s i]
  cases q:dH B c (1-bq) (λs=>ll c s != (s==k)) s t with
  | false=>rfl
  | true=>
   have D:=q
   unfold dH sS at D
   simp only[ax,aP]at D
   have:=h s (aN.mpr (hc.eS s D.1.1))
   rw[q]at this;exact absurd rfl this
end
section
variable{B:Bd}{c:Nat->Nat}{o t p:Nat}
theorem yg(hB:B.Ok)(h:Wf1 B c)(I:c o≠0)(ht:t<B.N)(J:o≠t)(hp:p=c o\/(Pc p/\p % 8≠1/\p % 8≠6/\c o % 8=1))
  (hk:∀w,w<2->c t≠w*8+6):Wf1 B (dK c o t p)/\∀w,w<2->kq (dK c o t p) w=if kq c w=o then t else kq c w:=by
 have y:Pc p:=by
  rcases hp with rfl | hp
  .exact h.cells.pc o I
  .exact hp.1
 have king:∀w,w<2->∀s,dK c o t p s=w*8+6↔s=if kq c w=o then t else kq c w:=by
  intro w hw s
  obtain⟨_,k2,_,_⟩:=h.kq hB hw
  unfold dK
  by_cases i:kq c w=o
  .rw[ag i]
   have j:c o=w*8+6:=(k2 o).mpr i.symm
   have z:p=c o:=by
    rcases hp with hp | hp
    .exact hp
    .exact absurd (hp.2.2.2.symm.trans ((ae (· % 8) j).trans ((show ∀w,w<2->(w*8+6) % 8=6 by decide) w hw))) (by decide)
   by_cases h1:s=t
   .rw[ag h1,z,j];simp[h1]
   .rw[ah h1]
    by_cases h2:s=o
    .rw[ag h2]
     constructor
     .intro q;exact absurd q.symm (Nat.succ_ne_zero _)
     .intro q;exact absurd q h1
    .rw[ah h2,k2]
     constructor
     .intro q;exact absurd (q.trans i) h2
     .intro q;exact absurd q h1
  .rw[ah i]
   have D:kq c w≠t:=λq=>hk w hw ((k2 t).mpr q.symm)
   by_cases h1:s=t
   .rw[ag h1]
    constructor
    .intro q
     rcases hp with hp | hp
     .rw[hp]at q;exact absurd ((k2 o).mp q).symm i
     .exact absurd ((ae (· % 8) q).trans ((show ∀w,w<2->(w*8+6) % 8=6 by decide) w hw)) hp.2.2.1
    .intro q;exact absurd (q.symm.trans h1) D
   .rw[ah h1]
    by_cases h2:s=o
    .rw[ag h2]
     constructor
     .intro q;exact absurd q.symm (Nat.succ_ne_zero _)
     .intro q;exact absurd (q.symm.trans h2) i
    .rw[ah h2,k2]
 have G:∀w,w<2->(if kq c w=o then t else kq c w)<B.N:=λw hw=>by
  split
  .exact ht
  .exact(h.kq hB hw).1
 have H:Wf1 B (dK c o t p):=by
  refine⟨⟨λs hs=>?_,λs hs=>?_⟩,λw hw=>⟨_,G w hw,king w hw⟩⟩
  .unfold dK at hs
   split at hs
   .rename_i e;rw[e];exact ht
   .split at hs
    .exact absurd rfl hs
    .exact h.cells.eS s hs
  .unfold dK at hs ⊢
   split
   .exact y
   .rename_i e1
    rw[ah e1]at hs
    split
    .rename_i e2;rw[ag e2]at hs;exact absurd rfl hs
    .rename_i e2;rw[ah e2]at hs;exact h.cells.pc s hs
 exact⟨H,λw hw=>((king w hw _).mp (((H.kq hB hw).2.1 _).mpr rfl))⟩
end
section
variable{B:Bd}{c:Nat->Nat}{bq o t p:Nat}
theorem yh(hB:B.Ok)(h:Wf1 B c)(hs:bq<2)(own:sS c bq o=true)(nt:sS c bq t=false)(ht:t<B.N)(i:o≠t)
  (hp:p=c o\/(Pc p/\p % 8≠1/\p % 8≠6/\c o % 8=1)) (j:p/8=bq) (hk:∀w,w<2->c t≠w*8+6)
  (reach:o≠kq c bq->∀u,u<B.N->lj B o t u=true->bZ c u=false):
  cF B (dK c o t p) bq=true↔((o≠kq c bq->hK B c bq (kq c bq)=true->eA B c bq (kq c bq) t=true)/\zZ B c bq (kq c bq) o t=true):=by
 have y:c o≠0:=by unfold sS at own;simp at own;exact own.1
 obtain⟨G,H⟩:=yg hB h y ht i hp hk
 obtain⟨k1,k2,_,_⟩:=h.kq hB hs
 have D:p≠0:=by
  rcases hp with hp | hp
  .rw[hp];exact y
  .exact hp.1.1
 rw[EI hB G hs j D own,H bq hs]
 unfold zZ
 by_cases e:o=kq c bq
 .rw[ag e.symm,ag e]
  have ck:c o=bq*8+6:=(k2 o).mpr e
  have:=HI (B:=B) (c:=c) (bq:=bq) (t:=t) hB h.cells hs ht (k:=o) ck i
  rw[this,<-e]
  constructor
  .intro q;exact⟨λz=>absurd rfl z,by rw[q];rfl⟩
  .rintro⟨_,q⟩;simpa using q
 .rw[ah (Ne.symm e),ah e]
  have M:Il B c bq (kq c bq) o t:=⟨h.cells,hs,k1,(k2 _).mpr rfl,h.cells.eS o y,ht,e,i,own,nt,reach e⟩
  rw[Kz hB M]
  constructor
  .rintro⟨h1,h2⟩
   refine⟨λZ=>h1,?_⟩
   split
   .rename_i q;exact h2 q
   .rfl
  .rintro⟨h1,h2⟩
   refine⟨h1 e,λq=>?_⟩
   rw[ag q]at h2;exact h2
end
def yi(B:Bd):Bool:=(List.range 2).all λbq=>(List.range B.N).all λt=>(List.range B.N).all λo=>
 (dI B bq o t==((List.range 2).any λw=>Nat.beq o (kJ B bq w t)&&ny B bq w (λs=>Nat.beq s o) t))&&
 ((List.range 2).all λw=>!(ny B bq w (λs=>Nat.beq s o) t)||Nat.beq o (kJ B bq w t))
theorem Qh:yi ⟨3,4⟩=true:=by decide +kernel
theorem Qi:yi ⟨2,4⟩=true:=by decide +kernel
theorem Qj:yi ⟨4,3⟩=true:=by decide +kernel
theorem DB(hf:∀s,f s=true->s<B.N):ny B bq w f t=true↔∃o,f o=true/\ny B bq w (λs=>Nat.beq s o) t=true:=by
 have one:∀(g:Nat->Bool)(x:Nat),g x=true↔∃o,g o=true/\Nat.beq x o=true:=λg x=>by
  constructor
  .intro h;exact⟨x,h,Nat.beq_refl x⟩
  .rintro⟨o,h,e⟩;rw[aL e];exact h
 unfold ny ka
 split<;>split
 all_goals
  simp only[ax]
  rw[one f]
  constructor
  .intro h
   first
    | (obtain⟨h1,⟨h2,⟨⟨o,h3,i⟩,j⟩⟩,y⟩:=h;exact⟨o,h3,h1,⟨h2,i,j⟩,y⟩)
    | (obtain⟨h1,⟨o,h3,i⟩,j⟩:=h;exact⟨o,h3,h1,i,j⟩)
    | (obtain⟨⟨h2,⟨⟨o,h3,i⟩,j⟩⟩,y⟩:=h;exact⟨o,h3,⟨h2,i,j⟩,y⟩)
    | (obtain⟨⟨o,h3,i⟩,j⟩:=h;exact⟨o,h3,i,j⟩)
  .intro h
   first
    | (obtain⟨o,h3,h1,⟨h2,i,j⟩,y⟩:=h;exact⟨h1,⟨h2,⟨o,h3,i⟩,j⟩,y⟩)
    | (obtain⟨o,h3,h1,i,j⟩:=h;exact⟨h1,⟨o,h3,i⟩,j⟩)
    | (obtain⟨o,h3,⟨h2,i,j⟩,y⟩:=h;exact⟨⟨h2,⟨o,h3,i⟩,j⟩,y⟩)
    | (obtain⟨o,h3,i,j⟩:=h;exact⟨⟨o,h3,i⟩,j⟩)
theorem HJ(hB:B.Ok)(hs:bq<2)(ho:o<B.N)(ht:t<B.N):
  (dI B bq o t=true↔∃w,w<2/\o=kJ B bq w t/\ny B bq w (λs=>Nat.beq s o) t=true)/\∀w,w<2->ny B bq w (λs=>Nat.beq s o) t=true->o=kJ B bq w t:=by
 have h:yi B=true:=by
  cases hB
  .exact Qh
  .exact Qi
  .exact Qj
 have h:=aM.mp (aM.mp (aM.mp h bq (aN.mpr hs)) t (aN.mpr ht)) o (aN.mpr ho)
 rw[ax,az]at h
 obtain⟨h1,h2⟩:=h
 refine⟨?_,λw hw hc=>?_⟩
 .rw[h1,aU]
  constructor
  .rintro⟨w,hw,q⟩
   rw[ax,gv,bk]at q
   exact⟨w,aN.mp hw,q⟩
  .rintro⟨w,hw,i,j⟩
   exact⟨w,aN.mpr hw,by rw[ax,gv,bk];exact⟨i,j⟩⟩
 .have:=aM.mp h2 w (aN.mpr hw)
  rw[hc,gv]at this
  simpa using this
theorem Al(hB:B.Ok)(hc:∀s,c s≠0->s<B.N){bq st m:Nat}(hs:bq<2):
  m∈p9 B c bq st i↔∃o t,iA c bq 1 o=true/\dI B bq o t=true/\i t=true/\sS c (1-bq) t=true/\m∈(if c6 B bq t then cU o t st true else[cy o t 0 0]):=by
 have D:=hB.cm
 have oN:∀s,iA c bq 1 s=true->s<B.N:=λs h=>by
  unfold iA sS at h;simp only[ax,aP]at h;exact hc s h.1.1
 have z:∀s,sS c (1-bq) s=true->s<B.N:=λs h=>by
  unfold sS at h;simp only[ax,aP]at h;exact hc s h.1
 unfold p9
 rw[bl]
 unfold Eu
 constructor
 .rintro⟨w,hw,h⟩
  obtain⟨t,ht,hm⟩:=bl.mp h
  have h2:=(bY.mp ht).2
  rw[ax,ax]at h2
  obtain⟨o,ho,j⟩:=(DB oN).mp h2.1
  have y:w<2:=by simp at hw;lia
  obtain⟨k1,k2⟩:=HJ hB hs (oN o ho) (z t h2.2.2)
  have e:=k2 w y j
  exact⟨o,t,ho,k1.mpr ⟨w,y,e,j⟩,h2.2.1,h2.2.2,by rw[e];exact hm⟩
 .rintro⟨o,t,ho,hp,h1,h2,hm⟩
  obtain⟨k1,k2⟩:=HJ hB hs (oN o ho) (z t h2)
  obtain⟨w,hw,e,j⟩:=k1.mp hp
  refine⟨w,by simp;omega,bl.mpr ⟨t,bY.mpr ⟨by have:=z t h2;omega,?_⟩,by rw[<-e];exact hm⟩⟩
  rw[ax,ax]
  exact⟨(DB oN).mpr ⟨o,ho,j⟩,h1,h2⟩
def gD(B:Bd)(bq o:Nat):Nat:=if bq=0 then o+B.F else o-B.F
theorem uY(h:AK B c)(hs:bq<2):
  gq B c bq t=true↔∃o,iA c bq 1 o=true/\t=gD B bq o/\o=kc B bq t/\bZ c t=false/\t<B.N:=by
 unfold gq ka gD kc
 rw[i9 h.cells]
 rcases(show bq=0\/bq=1 by omega)with rfl | rfl
 .simp only[if_true,ax,bk,bc]
  constructor
  .rintro⟨⟨⟨h1,h2⟩,h3⟩,j,i⟩
   exact⟨t-B.F,h2,by omega,rfl,i,j⟩
  .rintro⟨o,h1,h2,h3,j,i⟩
   exact⟨⟨⟨by lia,by rw[<-h3];exact h1⟩,i⟩,i,j⟩
 .rw[ah (by omega),ah (by omega)]
  simp only[ax,bk,bc]
  constructor
  .rintro⟨h1,j,i⟩
   exact⟨t+B.F,h1,by rw[ah (by lia),Nat.add_sub_cancel],rfl,i,j⟩
  .rintro⟨o,h1,h2,h3,j,i⟩
   exact⟨by rw[<-h3];exact h1,i,j⟩
theorem fx(hB:B.Ok)(h:AK B c){bq st m:Nat}(hs:bq<2):
  m∈ir B c bq st i↔∃o t,iA c bq 1 o=true/\i t=true/\
   ((st≠1/\dI B bq o t=true/\sS c (1-bq) t=true/\m∈(if c6 B bq t then cU o t st true else[cy o t 0 0]))\/
    (t=gD B bq o/\bZ c t=false/\t<B.N/\((c6 B bq t=true/\m∈cU o t st false)\/(c6 B bq t=false/\st≠0/\m=cy o t 0 0)))):=by
 have I:=hB.cm
 unfold ir
 rw[bg,bg]
 constructor
 .rintro((q | q) | q)
  .split at q
   .cases q
   .rename_i y
    unfold gT at q
    obtain⟨t,ht,hm⟩:=bl.mp q
    have h2:=(bY.mp ht).2
    rw[ax,ax,bc]at h2
    obtain⟨o,k1,k2,k3,j,k5⟩:=(uY h hs).mp h2.1.1
    rw[<-k3]at hm
    exact⟨o,t,k1,h2.1.2,.inr ⟨k2,j,k5,.inr ⟨h2.2,y,by simpa using hm⟩⟩⟩
  .unfold kI at q
   obtain⟨t,ht,hm⟩:=bl.mp q
   have h2:=(bY.mp ht).2
   rw[ax,ax]at h2
   obtain⟨o,k1,k2,k3,j,k5⟩:=(uY h hs).mp h2.1.1
   rw[<-k3]at hm
   exact⟨o,t,k1,h2.1.2,.inr ⟨k2,j,k5,.inl ⟨h2.2,hm⟩⟩⟩
  .split at q
   .cases q
   .rename_i y
    obtain⟨o,t,k1,k2,k3,j,k5⟩:=(Al hB h.cells.eS hs).mp q
    exact⟨o,t,k1,k3,.inl ⟨y,k2,j,k5⟩⟩
 .rintro⟨o,t,k1,k2,(⟨k3,j,k5,D⟩ | ⟨k3,j,k5,D⟩)⟩
  .right
   rw[ah k3]
   exact(Al hB h.cells.eS hs).mpr ⟨o,t,k1,j,k2,k5,D⟩
  .left
   have G:o=kc B bq t:=by
    unfold gD at k3
    unfold kc
    have hp:c o % 8=1:=by
     unfold iA kS at k1;simp only[ax,az]at k1;exact k1.2.2
    have:=(h.pawn o hp).1
    have J:B.F<=o:=by
     rcases ay o B.F with z | z
     .rw[Nat.div_eq_of_lt z]at this;lia
     .exact z
    split at k3<;>rename_i z
    .rw[ag z];first | exact(Nat.sub_eq_of_eq_add k3).symm | exact(Nat.sub_add_cancel J).symm.trans (by rw[k3]) | lia
    .rw[ah z];first | exact(Nat.sub_eq_of_eq_add k3).symm | exact(Nat.sub_add_cancel J).symm.trans (by rw[k3]) | lia
   have on:gq B c bq t=true:=(uY h hs).mpr ⟨o,k1,k3,G,j,k5⟩
   rcases D with ⟨D,H⟩ | ⟨D,H,L⟩
   .right
    unfold kI
    refine bl.mpr ⟨t,bY.mpr ⟨ak k5 (ai I.1 (by decide)),?_⟩,by rw[<-G];exact H⟩
    rw[ax,ax];exact⟨⟨on,k2⟩,D⟩
   .left
    rw[ah H]
    unfold gT
    refine bl.mpr ⟨t,bY.mpr ⟨ak k5 (ai I.1 (by decide)),?_⟩,by rw[<-G,L];exact .head _⟩
    rw[ax,ax,bc];exact⟨⟨on,k2⟩,D⟩
theorem eJ(hB:B.Ok)(h:AK B c)(hf:∀t,f t=true->t<B.N):
  m∈eX B c bq q f↔∃o t,iA c bq q o=true/\gk B bq q o (bZ c) t=true/\f t=true/\m=cy o t 0 0:=by
 have j:=hB.cm
 unfold eX kG
 rw[i9 h.cells]
 constructor
 .intro hm
  obtain⟨o,ho,hm⟩:=bl.mp hm
  obtain⟨t,ht,hm⟩:=bl.mp hm
  have h2:=(bY.mp ht).2
  rw[ax]at h2
  exact⟨o,t,(bY.mp ho).2,h2.1,h2.2,by simpa using hm⟩
 .rintro⟨o,t,h1,h2,h3,i⟩
  have oN:o<B.N:=by
   unfold iA sS at h1;simp only[ax,aP]at h1;exact h.cells.eS o h1.1.1
  refine bl.mpr ⟨o,bY.mpr ⟨by omega,h1⟩,bl.mpr ⟨t,bY.mpr ⟨by have:=hf t h3;omega,?_⟩,by rw[i];exact .head _⟩⟩
  rw[ax];exact⟨h2,h3⟩
theorem iD(o t m:Nat)(i:Bool):m∈cU o t 2 i↔∃f,f<4/\m=cy o t 1 f:=by
 unfold cU qZ
 simp
 constructor
 .rintro(h | h | h | h)
  .exact⟨3,by omega,h⟩
  .exact⟨2,by omega,h⟩
  .exact⟨1,by omega,h⟩
  .exact⟨0,by omega,h⟩
 .rintro⟨f,hf,h⟩
  rcases(show f=0\/f=1\/f=2\/f=3 by omega)with rfl | rfl | rfl | rfl
  .exact .inr (.inr (.inr h))
  .exact .inr (.inr (.inl h))
  .exact .inr (.inl h)
  .exact .inl h
structure kn(B:Bd)(c:Nat->Nat)(bq o t:Nat):Prop where
 own:sS c bq o=true
 lt:t<B.N
 nt:sS c bq t=false
 mv:(c o % 8≠1/\gk B bq (c o % 8) o (bZ c) t=true)\/(c o % 8=1/\((dI B bq o t=true/\sS c (1-bq) t=true)\/(t=gD B bq o/\bZ c t=false)))
def dX(B:Bd)(c:Nat->Nat)(bq o t m:Nat):Prop:=if c o % 8=1/\c6 B bq t=true then ∃f,f<4/\m=cy o t 1 f else m=cy o t 0 0
theorem fH:iA c bq q o=true↔sS c bq o=true/\c o % 8=q:=by
 unfold iA kS sS
 simp only[ax,az,aP]
 constructor
 .rintro⟨h1,h2⟩;exact⟨h1,h2.2⟩
 .rintro⟨h1,h2⟩;exact⟨h1,h1.1,h2⟩
theorem rt(hs:bq<2)(h:sS c (1-bq) t=true):sS c bq t=false:=by
 unfold sS at h ⊢
 simp only[ax,az]at h
 rw[aE.mpr (show c t/8≠bq by omega)];simp
theorem Am(hB:B.Ok)(h:AK B c)(hs:bq<2):m∈gu B c bq k 2↔∃o t,kn B c bq o t/\dX B c bq o t m:=by
 have st:∀t,dn B c bq 2 t=true↔t<B.N/\sS c bq t=false:=λt=>by
  unfold dn
  rw[ah (by lia),ah (by lia)]
  simp
 unfold gu
 rw[ah (by lia),bg,fx hB h hs,bl]
 constructor
 .rintro(⟨o,t,h1,h2,h3⟩ | ⟨q,L,hm⟩)
  .obtain⟨I,i⟩:=fH.mp h1
   rcases h3 with ⟨_,D,j,G⟩ | ⟨D,j,G,H⟩
   .refine⟨o,t,⟨I,aY h2,rt hs j,.inr ⟨i,.inl ⟨D,j⟩⟩⟩,?_⟩
    unfold dX
    split at G
    .rename_i z;rw[ag ⟨i,z⟩];exact(iD _ _ _ _).mp G
    .rename_i z;rw[ah (λy=>z y.2)];simpa using G
   .have nt:sS c bq t=false:=by
     unfold sS;unfold bZ at j;rw[j];rfl
    refine⟨o,t,⟨I,G,nt,.inr ⟨i,.inr ⟨D,j⟩⟩⟩,?_⟩
    unfold dX
    rcases H with ⟨z,H⟩ | ⟨z,_,H⟩
    .rw[ag ⟨i,z⟩];exact(iD _ _ _ _).mp H
    .rw[ah (λy=>by rw[z]at y;cases y.2)];exact H
  .obtain⟨o,t,h1,h2,h3,D⟩:=(eJ hB h λt ht=>((st t).mp ht).1).mp hm
   obtain⟨I,i⟩:=fH.mp h1
   obtain⟨O,U⟩:=(st t).mp h3
   have J:q≠1:=by rintro rfl;simp at L
   refine⟨o,t,⟨I,O,U,.inl ⟨by rw[i];exact J,by rw[i];exact h2⟩⟩,?_⟩
   unfold dX
   rw[ah (λy=>J (i.symm.trans y.1))];exact D
 .rintro⟨o,t,C,hm⟩
  have V:c o≠0:=by have:=C.own;unfold sS at this;simp at this;exact this.1
  obtain⟨Y,p2,p3,p4⟩:=h.cells.pc o V
  unfold dX at hm
  rcases C.mv with ⟨e,hp⟩ | ⟨e,hp⟩
  .right
   rw[ah (λy=>e y.1)]at hm
   refine⟨c o % 8,?_,(eJ hB h λt ht=>((st t).mp ht).1).mpr ⟨o,t,fH.mpr ⟨C.own,rfl⟩,hp,(st t).mpr ⟨C.lt,C.nt⟩,hm⟩⟩
   simp;lia
  .left
   refine⟨o,t,fH.mpr ⟨C.own,e⟩,decide_eq_true C.lt,?_⟩
   rcases hp with ⟨h1,h2⟩ | ⟨h1,h2⟩
   .left
    refine⟨by lia,h1,h2,?_⟩
    split at hm
    .rename_i z;rw[ag z.2];exact(iD _ _ _ _).mpr hm
    .rename_i z;rw[ah (λy=>z ⟨e,y⟩),hm];exact .head _
   .right
    refine⟨h1,h2,C.lt,?_⟩
    split at hm
    .rename_i z;exact .inl ⟨z.2,(iD _ _ _ _).mpr hm⟩
    .rename_i z
     refine .inr ⟨?_,by lia,hm⟩
     cases y:c6 B bq t with
     | false=>rfl
     | true=>exact absurd ⟨e,y⟩ z
theorem EJ(hB:B.Ok)(h:ju B c)(hs:bq<2)(hk:k<B.N)(he:eA B c bq k t=true):t<B.N/\sS c bq t=false:=by
 have i:1-bq<2:=by omega
 unfold eA vD at he
 rw[ax,bp]at he
 obtain⟨h1,h2⟩:=he
 rcases h2 with h2 | h2
 .have e:sS c (1-bq) t=true:=by unfold il at h2;rw[ax]at h2;exact h2.2
  refine⟨?_,rt hs e⟩
  unfold sS at e;simp only[ax,aP]at e;exact h.eS t e.1
 .have j:=Dz hB h2
  refine⟨j,?_⟩
  obtain⟨h3,_⟩:=l3 h1
  have hx:il B c bq k (Ew (il B c bq k))=true:=by
   rw[h3.2 _ h3.1];simp
  rw[wN hB h hk hs]at hx
  rcases(hQ hB h hk i (bZ c) _).mp hx with z | ⟨d,hd,y,G,D⟩
  .rw[Aj hB h hk i z]at h2;cases h2
  .have:=D t (((km hB hk hd).lj _ y t j).mp h2)
   unfold sS;unfold bZ at this;rw[this];rfl
theorem jv(o t m:Nat)(i:Bool):m∈cU o t 3 i↔∃f,f<4/\m=cy o t 1 f:=by
 rw[<-iD o t m i];rfl
theorem KC(hB:B.Ok)(h:AK B c)(hs:bq<2)(hk:k<B.N):m∈gu B c bq k 3↔∃o t,kn B c bq o t/\dX B c bq o t m/\(c o % 8≠6->eA B c bq k t=true):=by
 have I:=λt=>EJ (t:=t) hB h.cells hs hk
 unfold gu
 rw[ag rfl]
 unfold BS
 rw[bg]
 have j:∀t,(decide (t<B.N)&& !sS c bq t)=true↔t<B.N/\sS c bq t=false:=λt=>by simp
 constructor
 .rintro(q | q)
  .split at q
   .rename_i V
    rw[bg,fx hB h hs,bl]at q
    rcases q with ⟨o,t,h1,h2,h3⟩ | ⟨q,hq,hm⟩
    .obtain⟨G,i⟩:=fH.mp h1
     obtain⟨e1,e2⟩:=I t h2
     rcases h3 with ⟨_,D,L,J⟩ | ⟨D,L,J,H⟩
     .refine⟨o,t,⟨G,e1,e2,.inr ⟨i,.inl ⟨D,L⟩⟩⟩,?_,λZ=>h2⟩
      unfold dX
      split at J
      .rename_i z;rw[ag ⟨i,z⟩];exact(jv _ _ _ _).mp J
      .rename_i z;rw[ah (λy=>z y.2)];simpa using J
     .refine⟨o,t,⟨G,e1,e2,.inr ⟨i,.inr ⟨D,L⟩⟩⟩,?_,λZ=>h2⟩
      unfold dX
      rcases H with ⟨z,H⟩ | ⟨z,_,H⟩
      .rw[ag ⟨i,z⟩];exact(jv _ _ _ _).mp H
      .rw[ah (λy=>by rw[z]at y;cases y.2)];exact H
    .obtain⟨o,t,h1,h2,h3,D⟩:=(eJ hB h λt ht=>(I t ht).1).mp hm
     obtain⟨G,i⟩:=fH.mp h1
     obtain⟨e1,e2⟩:=I t h3
     have Y:q≠1:=by rintro rfl;simp at hq
     refine⟨o,t,⟨G,e1,e2,.inl ⟨by rw[i];exact Y,by rw[i];exact h2⟩⟩,?_,λZ=>h3⟩
     unfold dX
     rw[ah (λy=>Y (i.symm.trans y.1))];exact D
   .cases q
  .obtain⟨o,t,h1,h2,h3,D⟩:=(eJ hB h λt ht=>((j t).mp ht).1).mp q
   obtain⟨G,i⟩:=fH.mp h1
   obtain⟨e1,e2⟩:=(j t).mp h3
   refine⟨o,t,⟨G,e1,e2,.inl ⟨by lia,by rw[i];exact h2⟩⟩,?_,λy=>absurd i y⟩
   unfold dX
   rw[ah (λy=>by lia)];exact D
 .rintro⟨o,t,C,hm,he⟩
  have h0:c o≠0:=by have:=C.own;unfold sS at this;simp at this;exact this.1
  obtain⟨p1,p2,p3,p4⟩:=h.cells.pc o h0
  unfold dX at hm
  by_cases O:c o % 8=6
  .right
   rw[ah (λy=>by lia)]at hm
   have hp:gk B bq 6 o (bZ c) t=true:=by
    rcases C.mv with ⟨_,hp⟩ | ⟨e,_⟩
    .rw[O]at hp;exact hp
    .omega
   exact(eJ hB h λt ht=>((j t).mp ht).1).mpr ⟨o,t,fH.mpr ⟨C.own,O⟩,hp,(j t).mpr ⟨C.lt,C.nt⟩,hm⟩
  .left
   have U:=he O
   have hN:=hB.cm
   have yw:=C.lt
   rw[ag (by unfold eR;exact aU.mpr ⟨t,aN.mpr (by omega),U⟩)]
   rw[bg]
   rcases C.mv with ⟨e,hp⟩ | ⟨e,hp⟩
   .right
    rw[ah (λy=>e y.1)]at hm
    refine bl.mpr ⟨c o % 8,?_,(eJ hB h λt ht=>(I t ht).1).mpr ⟨o,t,fH.mpr ⟨C.own,rfl⟩,hp,U,hm⟩⟩
    simp;lia
   .left
    refine(fx hB h hs).mpr ⟨o,t,fH.mpr ⟨C.own,e⟩,U,?_⟩
    rcases hp with ⟨h1,h2⟩ | ⟨h1,h2⟩
    .left
     refine⟨by lia,h1,h2,?_⟩
     split at hm
     .rename_i z;rw[ag z.2];exact(jv _ _ _ _).mpr hm
     .rename_i z;rw[ah (λy=>z ⟨e,y⟩),hm];exact .head _
    .right
     refine⟨h1,h2,C.lt,?_⟩
     split at hm
     .rename_i z;exact .inl ⟨z.2,(jv _ _ _ _).mpr hm⟩
     .rename_i z
      refine .inr ⟨?_,by lia,hm⟩
      cases y:c6 B bq t with
      | false=>rfl
      | true=>exact absurd ⟨e,y⟩ z
theorem EK(hB:B.Ok)(h:AK B c){bq k m st:Nat}(hs:bq<2)(J:st<2)(hm:m∈gu B c bq k st):m∈gu B c bq k 2:=by
 have H:∀t,dn B c bq 2 t=true↔t<B.N/\sS c bq t=false:=λt=>by
  unfold dn
  rw[ah (by lia),ah (by lia)]
  simp
 have I:∀t,dn B c bq st t=true->t<B.N/\sS c bq t=false:=λt ht=>by
  unfold dn at ht
  split at ht
  .refine⟨?_,rt hs ht⟩
   unfold sS at ht;simp only[ax,aP]at ht;exact h.cells.eS t ht.1
  .rw[ag (by lia),ax,bk,bc,i9 h.cells]at ht
   refine⟨ht.1,?_⟩
   unfold sS;have:=ht.2;unfold bZ at this;rw[this];rfl
 have pm:∀o t i,m∈cU o t st i->m∈cU o t 2 i:=λo t i z=>by
  rw[iD]
  unfold cU at z
  rcases bg.mp z with z | z
  .split at z
   .cases z
   .simp at z;exact⟨3,by omega,z⟩
  .split at z
   .simp at z
    rcases z with z | z | z
    .exact⟨2,by omega,z⟩
    .exact⟨1,by omega,z⟩
    .exact⟨0,by omega,z⟩
   .cases z
 unfold gu at hm ⊢
 rw[ah (by lia),bg,fx hB h hs,bl]at hm
 rw[ah (by lia),bg,fx hB h hs,bl]
 rcases hm with ⟨o,t,h1,h2,h3⟩ | ⟨q,L,hm⟩
 .left
  refine⟨o,t,h1,h2,?_⟩
  rcases h3 with ⟨_,j,G,y⟩ | ⟨j,G,y,D⟩
  .left
   refine⟨by omega,j,G,?_⟩
   split at y
   .rename_i z;rw[ag z];exact pm _ _ _ y
   .rename_i z;rw[ah z];exact y
  .right
   refine⟨j,G,y,?_⟩
   rcases D with ⟨z,D⟩ | ⟨z,_,D⟩
   .exact .inl ⟨z,pm _ _ _ D⟩
   .exact .inr ⟨z,by lia,D⟩
 .right
  obtain⟨o,t,h1,h2,h3,j⟩:=(eJ hB h λt ht=>(I t ht).1).mp hm
  exact⟨q,L,(eJ hB h λt ht=>((H t).mp ht).1).mpr ⟨o,t,h1,h2,(H t).mpr (I t h3),j⟩⟩
theorem EL(hB:B.Ok)(h:AK B c)(hs:bq<2)(C:kn B c bq o t):∃st,st<2/\∃sp fd,sp<2/\fd<4/\cy o t sp fd∈gu B c bq k st:=by
 have z:c o≠0:=by have:=C.own;unfold sS at this;simp at this;exact this.1
 obtain⟨G,H,I,J⟩:=h.cells.pc o z
 have i:∀st m,st<2->(m∈ir B c bq st (r5 B)\/∃q∈[2,3,4,5,6],m∈eX B c bq q (dn B c bq st))->m∈gu B c bq k st:=by
  intro st m D q
  unfold gu
  rw[ah (by lia),bg,bl]
  exact q
 rcases C.mv with ⟨e,hp⟩ | ⟨e,hp⟩
 .have y:c o % 8∈[2,3,4,5,6]:=by simp;lia
  by_cases he:sS c (1-bq) t=true
  .refine⟨0,by omega,0,0,by omega,by omega,i 0 _ (by omega) (.inr ⟨_,y,?_⟩)⟩
   refine(eJ hB h λt ht=>?_).mpr ⟨o,t,fH.mpr ⟨C.own,rfl⟩,hp,?_,rfl⟩
   .unfold dn at ht
    rw[ag rfl]at ht
    unfold sS at ht;simp only[ax,aP]at ht;exact h.cells.eS t ht.1
   .unfold dn;rw[ag rfl];exact he
  .have oc:bZ c t=false:=by
    unfold bZ
    cases q:(c t != 0)with
    | false=>rfl
    | true=>
     have j:c t≠0:=aP.mp q
     obtain⟨L,t2,O,U⟩:=h.cells.pc t j
     have nt:=C.nt
     unfold sS at he nt
     rw[q]at he nt
     simp at he nt
     exact absurd (bi (zP t2) hs nt) he
   refine⟨1,by omega,0,0,by omega,by omega,i 1 _ (by omega) (.inr ⟨_,y,?_⟩)⟩
   refine(eJ hB h λt ht=>?_).mpr ⟨o,t,fH.mpr ⟨C.own,rfl⟩,hp,?_,rfl⟩
   .unfold dn at ht
    rw[ah (by lia),ag rfl]at ht
    simp at ht;exact ht.1
   .unfold dn
    rw[ah (by omega),ag rfl,i9 h.cells,oc]
    simp[C.lt]
 .have full:r5 B t=true:=decide_eq_true C.lt
  rcases hp with ⟨h1,h2⟩ | ⟨h1,h2⟩
  .by_cases hl:c6 B bq t=true
   .refine⟨0,by omega,1,3,by omega,by omega,i 0 _ (by omega) (.inl ((fx hB h hs).mpr ⟨o,t,fH.mpr ⟨C.own,e⟩,full,.inl ⟨by lia,h1,h2,?_⟩⟩))⟩
    rw[ag hl];unfold cU;simp
   .refine⟨0,by omega,0,0,by omega,by omega,i 0 _ (by omega) (.inl ((fx hB h hs).mpr ⟨o,t,fH.mpr ⟨C.own,e⟩,full,.inl ⟨by omega,h1,h2,?_⟩⟩))⟩
    rw[ah hl];exact .head _
  .cases hl:c6 B bq t with
   | true=>
    refine⟨0,by omega,1,3,by omega,by omega,i 0 _ (by omega) (.inl ((fx hB h hs).mpr ⟨o,t,fH.mpr ⟨C.own,e⟩,full,.inr ⟨h1,h2,C.lt,.inl ⟨hl,?_⟩⟩⟩))⟩
    unfold cU;simp
   | false=>
    exact⟨1,by omega,0,0,by omega,by omega,i 1 _ (by omega) (.inl ((fx hB h hs).mpr ⟨o,t,fH.mpr ⟨C.own,e⟩,full,.inr ⟨h1,h2,C.lt,.inr ⟨hl,by lia,rfl⟩⟩⟩))⟩
def Qk(B:Bd):Bool:=(List.range 2).all λbq=>(List.range B.N).all λo=>!(Nat.blt 0 (o/B.F)&&Nat.blt (o/B.F) (B.R-1))||
 (Nat.blt (gD B bq o) B.N&&((List.range B.N).all λt=>!(dI B bq o t||Nat.beq t (gD B bq o))||
 ((c6 B bq t==(Nat.beq (t/B.F) 0||Nat.beq (t/B.F) (B.R-1)))&& !(Nat.beq t (o+2*B.F))&& !(Nat.beq o (t+2*B.F))&&((List.range B.N).all λu=>!lj B o t u))))
theorem Ql(hB:B.Ok):Qk B=true:=by
 cases hB<;>decide +kernel
theorem An(hB:B.Ok)(hs:bq<2)(ho:o<B.N)(h1:0<o/B.F)(h2:o/B.F<B.R-1):gD B bq o<B.N/\
  ∀t,t<B.N->(dI B bq o t=true\/t=gD B bq o)->(c6 B bq t=true↔t/B.F=0\/t/B.F=B.R-1)/\t≠o+2*B.F/\o≠t+2*B.F/\∀u,u<B.N->lj B o t u=false:=by
 have:=aM.mp (aM.mp (Ql hB) bq (aN.mpr hs)) o (aN.mpr ho)
 simp only[bp,bc,ax,Bool.and_eq_false_iff,gv,bk,decide_eq_false_iff_not]at this
 have y:Nat.blt 0 (o/B.F)=true:=Nat.ble_eq.mpr h1
 have z:Nat.blt (o/B.F) (B.R-1)=true:=Nat.ble_eq.mpr h2
 rcases this with (q | q) | ⟨D,G⟩
 .rw[y]at q;cases q
 .rw[z]at q;cases q
 .refine⟨Nat.ble_eq.mp D,λt ht hm=>?_⟩
  have:=aM.mp G t (aN.mpr ht)
  simp only[bp,bc,ax,Bool.or_eq_false_iff,bk,decide_eq_false_iff_not,az]at this
  rcases this with ⟨i,j⟩ | ⟨⟨⟨i,j⟩,H⟩,I⟩
  .rcases hm with hm | hm
   .rw[i]at hm;cases hm
   .exact absurd hm j
  .refine⟨by rw[i];simp,j,H,λu J=>?_⟩
   have:=aM.mp I u (aN.mpr J)
   simpa using this
section
variable{B:Bd}{c:Nat->Nat}{bq o t m:Nat}
theorem kn.c0(C:kn B c bq o t):c o≠0/\c o/8=bq:=by
 have:=C.own
 unfold sS at this
 simp only[ax,aP,az]at this
 exact this
theorem kn.ne(C:kn B c bq o t):o≠t:=by
 intro e
 have h1:=C.own
 have h2:=C.nt
 rw[e,h2]at h1;cases h1
theorem Ao(h:bZ c s=false):c s=0:=by
 unfold bZ at h;simpa using h
theorem kn.B7(hB:B.Ok)(h:Wf B c bq)(C:kn B c bq o t):∀w,w<2->c t≠w*8+6:=by
 intro w hw e
 have hs:=h.sd
 by_cases i:w=bq
 .have:=C.nt
  unfold sS at this
  rw[e,i]at this
  have h1:(bq*8+6 != 0)=true:=aP.mpr (Nat.succ_ne_zero _)
  have h2:((bq*8+6)/8==bq)=true:=az.mpr (d8 (by decide))
  rw[h1,h2]at this;cases this
 .have j:w=1-bq:=bi hw hs i
  have h1:=(Ae hB h.w0.toWf1 (w:=1-bq) (by omega)).mp h.free o
  rw[<-((h.w0.toWf1.kq hB (w:=1-bq) (by omega)).2.1 t).mp (by rw[e,j]),show 1-(1-bq)=bq by omega]at h1
  unfold dH at h1
  rw[C.own,Bool.true_and]at h1
  rcases C.mv with ⟨_,hp⟩ | ⟨hk,hp⟩
  .rw[hp]at h1;cases h1
  .rcases hp with ⟨hp,_⟩ | ⟨_,hp⟩
   .rw[hk]at h1
    have:gk B bq 1 o (bZ c) t=dI B bq o t:=rfl
    rw[this,hp]at h1;cases h1
   .rw[Ao hp]at e;lia
theorem DC(hB:B.Ok)(hk:k<B.N)(hs:s<B.N)(h:(dk B k s||gA B k s||dI B 0 k s||dI B 1 k s)=true)(i:u<B.N):lj B k s u=false:=by
 have:=aM.mp (aM.mp (HG hB) k (aN.mpr hk)) s (aN.mpr hs)
 rw[h]at this
 simp only[Bool.not_true,Bool.false_or]at this
 have:=aM.mp this u (aN.mpr i)
 simpa using this
theorem wO(hB:B.Ok)(hd:d<8)(ho:o<B.N)(h:i4 B d o occ t=true)(i:u<B.N)(hb:lj B o t u=true):occ u=false:=by
 rw[kl,ax,aM]at h
 have:=h.2 u (((km hB ho hd).lj t (mW.mp h.1) u i).mp hb)
 simpa using this
theorem kn.reach(hB:B.Ok)(h:AK B c)(hs:bq<2)(C:kn B c bq o t)(i:u<B.N)(hb:lj B o t u=true):bZ c u=false:=by
 have ho:=h.cells.eS o C.c0.1
 have no:∀{b:Bool},b=false->b=true->bZ c u=false:=λe f=>by rw[e]at f;cases f
 rcases C.mv with ⟨hk,hp⟩ | ⟨hk,hp⟩
 .obtain⟨y,z,D,G⟩:=h.cells.pc o C.c0.1
  have j:dY B o (bZ c) t=true->bZ c u=false:=λq=>by
   obtain⟨d,hd,q⟩:=aU.mp q
   exact wO hB (by have:=aN.mp hd;omega) ho q i hb
  have bi:ez B o (bZ c) t=true->bZ c u=false:=λq=>by
   obtain⟨d,hd,q⟩:=aU.mp q
   exact wO hB (by have:=aN.mp hd;lia) ho q i hb
  generalize c o % 8=k at*
  rcases(show k=2\/k=3\/k=4\/k=5\/k=6 by lia)with rfl | rfl | rfl | rfl | rfl
  .have hp:dk B o t=true:=hp
   exact no (DC hB ho C.lt (by rw[hp];simp) i) hb
  .exact bi hp
  .exact j hp
  .have hp:(dY B o (bZ c) t||ez B o (bZ c) t)=true:=hp
   rcases bp .. ▸hp with q | q
   .exact j q
   .exact bi q
  .have hp:gA B o t=true:=hp
   exact no (DC hB ho C.lt (by rw[hp];simp) i) hb
 .obtain⟨h1,h2⟩:=h.pawn o hk
  refine no (((An hB hs ho h1 h2).2 t C.lt ?_).2.2.2 u i) hb
  rcases hp with ⟨hp,_⟩ | ⟨hp,_⟩
  .exact .inl hp
  .exact .inr hp
theorem dX.LG(hm:dX B c bq o t m):∃sp fd,sp<2/\fd<4/\m=cy o t sp fd/\((c o % 8=1/\c6 B bq t=true)↔sp=1):=by
 unfold dX at hm
 split at hm
 .rename_i e
  obtain⟨f,hf,hm⟩:=hm
  exact⟨1,f,by omega,hf,hm,by simp[e]⟩
 .rename_i e
  exact⟨0,0,by omega,by omega,hm,⟨λq=>absurd q e,λq=>absurd q (by lia)⟩⟩
theorem dX.ft(hB:B.Ok)(h:AK B c)(C:kn B c bq o t)(hm:dX B c bq o t m):uK m=o/\NX m=t:=by
 obtain⟨sp,fd,h1,h2,h3,_⟩:=hm.LG
 have i:=hB.cm
 have ho:=h.cells.eS o C.c0.1
 have ht:=C.lt
 have:=eH (o:=o) (t:=t) (fd:=fd) (sp:=sp) (by omega) (by omega) h2 h1
 rw[h3];exact⟨this.1,this.2.1⟩
theorem kn.Rd(hB:B.Ok)(h:Wf B c bq)(C:kn B c bq o t):
  cF B (dK c o t (c o)) bq=true↔((c o % 8≠6->hK B c bq (kq c bq)=true->eA B c bq (kq c bq) t=true)/\zZ B c bq (kq c bq) o t=true):=by
 have hk:o≠kq c bq↔c o % 8≠6:=by
  have:=(h.w0.toWf1.kq hB h.sd).2.1 o
  have e:=C.c0
  have:o=kq c bq↔c o % 8=6:=by
   rw[<-this];exact T2 e.2 (by decide)
  rw[Ne,this]
 rw[yh hB h.w0.toWf1 h.sd C.own C.nt C.lt C.ne (.inl rfl) C.c0.2 (C.B7 hB h) (λZ u i hb=>C.reach hB h.w0 h.sd i hb),hk]
theorem wQ(hB:B.Ok)(h:Wf B c bq):m∈bI B c bq↔∃o t,kn B c bq o t/\dX B c bq o t m/\cF B (dK c o t (c o)) bq=true:=by
 have z:=(h.w0.toWf1.kq hB h.sd).1
 unfold bI rg
 rw[List.mem_filter]
 have i:∀o t,kn B c bq o t->dX B c bq o t m->oU B c bq (kq c bq) m=zZ B c bq (kq c bq) o t:=λo t C hm=>by
  obtain⟨e1,e2⟩:=hm.ft hB h.w0 C
  unfold oU;rw[e1,e2]
 by_cases hi:hK B c bq (kq c bq)=true
 .rw[ag hi,KC hB h.w0 h.sd z]
  constructor
  .rintro⟨⟨o,t,C,hm,he⟩,hl⟩
   refine⟨o,t,C,hm,(C.Rd hB h).mpr ⟨λq Z=>he q,by rw[<-i o t C hm];exact hl⟩⟩
  .rintro⟨o,t,C,hm,hf⟩
   obtain⟨y,j⟩:=(C.Rd hB h).mp hf
   exact⟨⟨o,t,C,hm,λq=>y q hi⟩,by rw[i o t C hm];exact j⟩
 .rw[ah hi,Am hB h.w0 h.sd]
  constructor
  .rintro⟨⟨o,t,C,hm⟩,hl⟩
   refine⟨o,t,C,hm,(C.Rd hB h).mpr ⟨λZ q=>absurd q hi,by rw[<-i o t C hm];exact hl⟩⟩
  .rintro⟨o,t,C,hm,hf⟩
   obtain⟨y,j⟩:=(C.Rd hB h).mp hf
   exact⟨⟨o,t,C,hm⟩,by rw[i o t C hm];exact j⟩
theorem DD(hB:B.Ok)(h:Wf B c bq):sE B c bq (kq c bq)=true↔bI B c bq≠[]:=by
 have y:=hB.cm
 unfold sE bI rg
 by_cases hi:hK B c bq (kq c bq)=true
 .rw[ag hi,ag hi]
  simp only[List.any_cons,List.any_nil,Bool.or_false,aU,ne_eq,List.filter_eq_nil_iff,Bool.not_eq_true,Classical.not_forall,Bool.not_eq_false,exists_prop]
 .rw[ah hi,ah hi]
  constructor
  .intro q
   obtain⟨st,j,q⟩:=aU.mp q
   obtain⟨m,hm,q⟩:=aU.mp q
   have i:st<2:=by simp at j;lia
   exact List.ne_nil_of_mem (List.mem_filter.mpr ⟨EK hB h.w0 h.sd i hm,q⟩)
  .intro q
   obtain⟨m,hm⟩:=List.exists_mem_of_ne_nil _ q
   obtain⟨hm,hl⟩:=List.mem_filter.mp hm
   obtain⟨o,t,C,hc⟩:=(Am hB h.w0 h.sd).mp hm
   obtain⟨st,i,sp,fd,h1,h2,h3⟩:=EL (k:=kq c bq) hB h.w0 h.sd C
   refine aU.mpr ⟨st,by simp;omega,aU.mpr ⟨_,h3,?_⟩⟩
   obtain⟨e1,e2⟩:=hc.ft hB h.w0 C
   have ho:=h.w0.cells.eS o C.c0.1
   have ht:=C.lt
   have:=eH (o:=o) (t:=t) (fd:=fd) (sp:=sp) (by omega) (by omega) h2 h1
   unfold oU at hl ⊢
   rw[this.1,this.2.1];rw[e1,e2]at hl;exact hl
end
section
variable{B:Bd}{c:Nat->Nat}{bq o t m:Nat}
theorem EM(hB:B.Ok)(h:gk B bq k o occ t=true)(hk:k≠1):t<B.N:=by
 have hd:∀(i dr:Int),(tJ B i dr o).head? =some t->t<B.N:=by
  intro i dr e
  have e:(if 0<=((o % B.F:Nat):Int)+i/\((o % B.F:Nat):Int)+i<B.F/\0<=((o/B.F:Nat):Int)+dr/\((o/B.F:Nat):Int)+dr<B.R then((((o/B.F:Nat):Int)+dr)*B.F+(((o % B.F:Nat):Int)+i)).toNat::iO B i dr 3 (((o % B.F:Nat):Int)+i+i) (((o/B.F:Nat):Int)+dr+dr)else[]).head? =some t:=e
  split at e
  .rename_i y
   cases e
   exact(Dg hB y).1
  .cases e
 unfold gk at h
 rw[ah hk]at h
 split at h
 .obtain⟨j,_,h⟩:=aU.mp h
  exact hd _ _ (az.mp h)
 .split at h
  .obtain⟨d,_,h⟩:=aU.mp h
   exact hd _ _ (az.mp h)
  .unfold Dj at h
   split at h
   .exact uB hB h
   .split at h
    .exact uA hB h
    .split at h
     .rcases bp .. ▸h with h | h
      .exact uA hB h
      .exact uB hB h
     .cases h
theorem mY(hB:B.Ok)(h:AK B c)(hs:bq<2)(own:sS c bq o=true):t∈cz B c bq o↔kn B c bq o t:=by
 have i:c o≠0/\c o/8=bq:=by
  unfold sS at own
  simp only[ax,aP,az]at own
  exact own
 obtain⟨H,I,J,L⟩:=h.cells.pc o i.1
 have hh:t∈cA B c o↔gk B bq (c o % 8) o (bZ c) t=true:=by
  rw[<-i.2,<-uV (by lia) (by lia)];simp
 have y:(c t != 0&&c t/8 != bq)=sS c (1-bq) t:=by
  unfold sS
  by_cases ht:c t=0
  .rw[ht];rfl
  .have:=h.cells.pc t ht
   have:c t/8<2:=zP this.2.1
   rw[aP.mpr ht,Bool.true_and,Bool.true_and,bj]
   simp
   exact bb this hs
 have j:sS c bq t=false↔(sS c (1-bq) t=true\/c t=0):=by
  unfold sS
  by_cases ht:c t=0
  .simp[ht]
  .have:=h.cells.pc t ht
   have:c t/8<2:=zP this.2.1
   simp[ht]
   exact bb this hs
 have z:(if bq=0 then o+B.F else o-B.F)=gD B bq o:=rfl
 unfold cz
 rw[bg,List.mem_filter,hh,y,z]
 constructor
 .rintro(⟨h1,h2⟩ | h1)
  .simp only[bp,ax,az,bc,aE]at h2
   refine⟨own,?_,j.mpr (h2.imp id And.left),?_⟩
   .rcases h2 with h2 | h2
    .unfold sS at h2
     simp only[ax,aP]at h2
     exact h.cells.eS t h2.1
    .exact EM hB h1 h2.2
   .by_cases hk:c o % 8=1
    .refine .inr ⟨hk,.inl ?_⟩
     rw[hk]at h1
     exact⟨h1,h2.resolve_right λq=>q.2 hk⟩
    .exact .inl ⟨hk,h1⟩
  .split at h1
   .rename_i e
    simp only[bf]at h1
    obtain⟨D,G⟩:=h.pawn o e.1
    have:=(An hB hs (h.cells.eS o i.1) D G).1
    refine⟨own,by rw[h1];exact this,j.mpr (.inr (by rw[h1];exact e.2)),.inr ⟨e.1,.inr ⟨h1,?_⟩⟩⟩
    unfold bZ;rw[h1,e.2];rfl
   .cases h1
 .rintro C
  rcases C.mv with ⟨hk,hp⟩ | ⟨hk,hp⟩
  .refine .inl ⟨hp,?_⟩
   have:=j.mp C.nt
   simp only[bp,ax,az,bc,aE]
   exact this.imp id λq=>⟨q,hk⟩
  .rcases hp with ⟨hp,he⟩ | ⟨hp,he⟩
   .refine .inl ⟨by rw[hk];exact hp,?_⟩
    rw[he];rfl
   .have:=Ao he
    rw[hp]at this
    rw[ag ⟨hk,this⟩,hp]
    exact .inr (.head _)
theorem Ap(hB:B.Ok)(h:AK B c)(hs:bq<2)(C:kn B c bq o t)(hk:c o % 8=1):c6 B bq t=true↔t/B.F=0\/t/B.F=B.R-1:=by
 obtain⟨h1,h2⟩:=h.pawn o hk
 refine((An hB hs (h.cells.eS o C.c0.1) h1 h2).2 t C.lt ?_).1
 rcases C.mv with ⟨e,_⟩ | ⟨_,⟨e,_⟩ | ⟨e,_⟩⟩
 .exact absurd hk e
 .exact .inl e
 .exact .inr e
theorem hU(hB:B.Ok)(h:Wf B c bq):m∈i8 B c bq↔m∈bI B c bq:=by
 rw[wQ hB h]
 unfold i8
 rw[bl]
 have own:∀s,(c s≠0/\c s/8=bq)↔sS c bq s=true:=λs=>by
  unfold sS
  simp only[ax,aP,az]
 have st:∀o t,kn B c bq o t->(m∈dQ B c bq o t↔dX B c bq o t m/\cF B (dK c o t (c o)) bq=true):=by
  intro o t C
  have e:dQ.Hx c o t=dK c o t (c o):=rfl
  unfold dQ dX
  rw[e]
  by_cases hf:cF B (dK c o t (c o)) bq=true
  .rw[ag hf]
   have:(c o % 8=1/\(t/B.F=0\/t/B.F=B.R-1))↔(c o % 8=1/\c6 B bq t=true):=and_congr_right λhk=>(Ap hB h.w0 h.sd C hk).symm
   by_cases hl:c o % 8=1/\c6 B bq t=true
   .rw[ag (this.mpr hl),ag hl]
    simp only[List.mem_map,aN,hf,and_true]
    exact⟨λi=>by obtain⟨f,h1,h2⟩:=i;exact⟨f,h1,h2.symm⟩,λi=>by obtain⟨f,h1,h2⟩:=i;exact⟨f,h1,h2.symm⟩⟩
   .rw[ah (λq=>hl (this.mp q)),ah hl]
    simp[hf]
  .rw[ah hf]
   simp[hf]
 constructor
 .rintro⟨o,ho,hm⟩
  split at hm
  .rename_i e
   obtain⟨t,ht,hm⟩:=bl.mp hm
   have C:=(mY hB h.w0 h.sd ((own o).mp e)).mp ht
   exact⟨o,t,C,(st o t C).mp hm⟩
  .cases hm
 .rintro⟨o,t,C,hm⟩
  refine⟨o,aN.mpr (h.w0.cells.eS o C.c0.1),?_⟩
  rw[ag C.c0,bl]
  exact⟨t,(mY hB h.w0 h.sd C.own).mpr C,(st o t C).mpr hm⟩
end
section
variable{B:Bd}{c:Nat->Nat}{bq o t m:Nat}
def uZ(c:Nat->Nat)(bq o sp fd:Nat):Nat:=if sp=1 then bq*8+(fd+2)else c o
theorem rz(hB:B.Ok)(ho:o<B.N)(ht:t<B.N)(hs:sp<2)(hf:fd<4):bH c bq (cy o t sp fd)=dK c o t (uZ c bq o sp fd):=by
 have i:=hB.cm
 obtain⟨h1,h2,h3,j⟩:=eH (o:=o) (t:=t) (fd:=fd) (sp:=sp) (ak ho (ai i.1 (by decide))) (ak ht (ai i.1 (by decide))) hf hs
 funext s
 unfold bH dK uZ
 rw[h1,h2,h3,j]
theorem qk(hB:B.Ok)(h:Wf B c bq)(hm:m∈bI B c bq):Wf B (bH c bq m) (1-bq)/\∃o t sp fd,m=cy o t sp fd/\EA B c bq o t sp fd/\(sp=1->c o % 8=1):=by
 obtain⟨o,t,C,hc,hf⟩:=(wQ hB h).mp hm
 obtain⟨sp,fd,h1,h2,rfl,y⟩:=hc.LG
 have i:=C.c0
 have hs:=h.sd
 have ho:=h.w0.cells.eS o i.1
 have D:=h.w0.cells.pc o i.1
 have hp:uZ c bq o sp fd=c o\/(Pc (uZ c bq o sp fd)/\uZ c bq o sp fd % 8≠1/\uZ c bq o sp fd % 8≠6/\c o % 8=1):=by
  unfold uZ
  split
  .rename_i e
   have:=(show ∀s,s<2->∀f,f<4->(Pc (s*8+(f+2))/\(s*8+(f+2)) % 8≠1/\(s*8+(f+2)) % 8≠6)by unfold Pc;decide) _ hs _ h2
   exact .inr ⟨this.1,this.2.1,this.2.2,(y.mpr e).1⟩
  .exact .inl rfl
 have j:uZ c bq o sp fd/8=bq:=by
  unfold uZ
  split
  .exact(show ∀s,s<2->∀f,f<4->(s*8+(f+2))/8=s by decide) _ hs _ h2
  .exact i.2
 have nk:=C.B7 hB h
 have G:o≠kq c bq->∀u,u<B.N->lj B o t u=true->bZ c u=false:=λZ u H hb=>C.reach hB h.w0 hs H hb
 have I:=(yg hB h.w0.toWf1 i.1 C.lt C.ne hp nk).1
 have fr:=(yh hB h.w0.toWf1 hs C.own C.nt C.lt C.ne hp j nk G).mpr ((yh hB h.w0.toWf1 hs C.own C.nt C.lt C.ne (.inl rfl) i.2 nk G).mp hf)
 have NY:c o % 8=1->t≠o+2*B.F/\o≠t+2*B.F:=λhk=>by
  obtain⟨J,L⟩:=h.w0.pawn o hk
  have:=(An hB hs ho J L).2 t C.lt
  rcases C.mv with ⟨e,_⟩ | ⟨_,⟨e,_⟩ | ⟨e,_⟩⟩
  .exact absurd hk e
  .exact⟨(this (.inl e)).2.1,(this (.inl e)).2.2.1⟩
  .exact⟨(this (.inr e)).2.1,(this (.inr e)).2.2.1⟩
 rw[rz hB ho C.lt h1 h2]
 refine⟨⟨⟨I,λs hk=>?_⟩,Nat.lt_succ_of_le (Nat.sub_le 1 bq),by rw[Nat.sub_sub_self (Nat.le_of_lt_succ hs)];exact fr⟩,o,t,sp,fd,rfl,⟨ho,C.lt,C.ne,h1,h2,i,D,?_,NY⟩,λe=>(y.mpr e).1⟩
 .unfold dK at hk
  split at hk
  .rename_i e
   subst e
   rcases hp with hp | hp
   .rw[hp]at hk
    have hl:¬(c6 B bq s=true):=λq=>by
     have:=y.mp ⟨hk,q⟩
     unfold uZ at hp j
     rw[ag this]at hp
     exact(show ∀s,s<2->∀f,f<4->(s*8+(f+2)) % 8≠1 by decide) _ hs _ h2 (by rw[hp];exact hk)
    rw[Ap hB h.w0 hs C hk]at hl
    have e2:=hB.cm.2.2.2.2.2.2
    have:=Nat.div_lt_of_lt_mul (m:=s) (n:=B.F) (k:=B.R) (by rw[e2];exact C.lt)
    generalize s/B.F=q at*
    exact⟨Nat.pos_of_ne_zero λz=>hl (.inl z),Nat.lt_of_le_of_ne (Nat.le_sub_one_of_lt this) λz=>hl (.inr z)⟩
   .exact absurd hk hp.2.1
  .split at hk
   .exact absurd hk (by decide)
   .exact h.w0.pawn s hk
 .by_cases e:c t=0
  .exact .inl e
  .exact .inr (h.w0.cells.pc t e)
theorem gd(hB:B.Ok):Gd B (Wf B) where
 eS:=λc bq h s hs=>h.w0.cells.eS s hs
 bq:=λc bq h=>h.sd
 king:=λc bq h=>⟨(h.w0.toWf1.kq hB h.sd).2.2.1,(h.w0.toWf1.kq hB h.sd).1⟩
 mv:=λc bq h m hm=>qk hB h hm
end
def ND(B:Bd):Bool:=(List.range 7).all λk=>(List.range 2).all λbq=>(List.range B.N).all λs=>ye ((d9 k bq).flatMap λw=>tJ B w.1 w.2 s)
theorem NF(hB:B.Ok):ND B=true:=by
 cases hB<;>decide +kernel
theorem Aq(c:Nat->Nat)(o:Bool)(l:List Nat):(qq c o l).Sublist l:=by
 induction l with
 | nil=>exact .slnil
 | cons x r i=>
  show(x::if(c x != 0||o)=true then[]else qq c o r).Sublist (x::r)
  split
  .exact .cons_cons _ (List.nil_sublist _)
  .exact .cons_cons _ i
theorem EN{α:Type}{f g:α->List Nat}(h:∀x,(f x).Sublist (g x))(l:List α):(l.flatMap f).Sublist (l.flatMap g):=by
 induction l with
 | nil=>exact .slnil
 | cons a l i=>exact(h a).append i
section
variable{B:Bd}{c:Nat->Nat}{bq o t m:Nat}
theorem B8(hB:B.Ok)(ho:o<B.N)(hc:c o/8<2)(hk:c o % 8<7):(cA B c o).Nodup:=by
 have:=aM.mp (aM.mp (aM.mp (NF hB) (c o % 8) (aN.mpr hk)) (c o/8) (aN.mpr hc)) o (aN.mpr ho)
 have sl:(cA B c o).Sublist ((d9 (c o % 8) (c o/8)).flatMap λw=>tJ B w.1 w.2 o):=EN (f:=λw:Int × Int=>qq c (dA (c o % 8)) (tJ B w.1 w.2 o)) (g:=λw:Int × Int=>tJ B w.1 w.2 o) (λw=>Aq c _ _) _
 exact(wM this).sublist sl
theorem Ar(hB:B.Ok)(h:AK B c)(i:c o≠0):(cz B c bq o).Nodup:=by
 obtain⟨G,H,j,I⟩:=h.cells.pc o i
 have y:=B8 hB (h.cells.eS o i) (by lia) j
 unfold cz
 generalize(if bq=0 then o+B.F else o-B.F)=z
 rw[List.nodup_append]
 refine⟨y.sublist List.filter_sublist,?_,λa D b hb=>?_⟩
 .by_cases e:c o % 8=1/\c z=0
  .rw[ag e];simp
  .rw[ah e];exact List.nodup_nil
 by_cases e:c o % 8=1/\c z=0
 .rw[ag e]at hb
  simp only[bf]at hb
  subst hb
  rintro rfl
  have:=(List.mem_filter.mp D).2
  rw[e.2,e.1]at this
  simp at this
 .rw[ah e]at hb;cases hb
theorem oZ(ho:o<64)(ht:t<64)(hm:m∈dQ B c bq o t):uK m=o/\NX m=t:=by
 unfold dQ at hm
 split at hm
 .split at hm
  .obtain⟨f,hf,rfl⟩:=List.mem_map.mp hm
   have:=eH (o:=o) (t:=t) (fd:=f) (sp:=1) ho ht (aN.mp hf) (by omega)
   exact⟨this.1,this.2.1⟩
  .rw[bf]at hm
   have:=eH (o:=o) (t:=t) (fd:=0) (sp:=0) ho ht (by omega) (by omega)
   rw[hm];exact⟨this.1,this.2.1⟩
 .cases hm
theorem B9:(dQ B c bq o t).Nodup:=by
 unfold dQ
 split
 .split
  .show[cy o t 1 0,cy o t 1 1,cy o t 1 2,cy o t 1 3].Nodup
   unfold cy
   simp only[List.nodup_cons,a8,a7,or_false,List.nodup_nil,not_false_eq_true,and_true,not_or]
   lia
  .simp
 .exact List.nodup_nil
theorem Ca(hB:B.Ok)(h:AK B c)(hs:bq<2):(i8 B c bq).Nodup:=by
 have D:=hB.cm
 have lt:∀s,c s≠0/\c s/8=bq->∀t∈cz B c bq s,t<64:=λs hc t ht=>by
  have own:sS c bq s=true:=by unfold sS;simp[hc]
  have:=((mY hB h hs own).mp ht).lt
  omega
 have j:∀s,s<64->∀m∈(if c s≠0/\c s/8=bq then(cz B c bq s).flatMap λt=>dQ B c bq s t else[]),uK m=s:=λs hs m hm=>by
  split at hm
  .rename_i e
   obtain⟨t,ht,hm⟩:=bl.mp hm
   exact(oZ hs (lt s e t ht) hm).1
  .cases hm
 unfold i8 List.Nodup
 rw[List.pairwise_flatMap]
 refine⟨λs hs=>?_,?_⟩
 .have hs:=aN.mp hs
  split
  .rename_i e
   rw[List.pairwise_flatMap]
   refine⟨λt Z=>B9,?_⟩
   refine List.Pairwise.imp_of_mem (λ{a b}z hb i x hx y hy=>?_) (Ar hB h e.1)
   rintro rfl
   exact i ((oZ (by omega) (lt s e a z) hx).2.symm.trans (oZ (by omega) (lt s e b hb) hy).2)
  .exact .nil
 .refine List.Pairwise.imp_of_mem (λ{a b}z hb i x hx y hy=>?_) List.nodup_range
  rintro rfl
  have z:=aN.mp z
  have hb:=aN.mp hb
  exact i ((j a (by omega) x hx).symm.trans (j b (by omega) x hy))
end
theorem lit8:(8:Int)=((8:Nat):Int):=rfl
theorem lit32:(32:Int)=((32:Nat):Int):=rfl
def jb(W:Wd)(σ:Hp):Prop:=∀k,k=2\/k=3->σ (W.gi.s6 k)=some (.list false (n8 k))
theorem jb.sub(h:jb W σ)(s:Sub σ bw):jb W bw:=λk hk=>s _ _ (h k hk)
theorem yj(h:Sub σ i)(j:σ a=none):Sub σ (i.set a o):=λb x hb=>by
 unfold Hp.set
 split
 .rename_i e;rw[e,j]at hb;cases hb
 .exact h b x hb
theorem KD(hs:s<B.N):(bU B c)[s]? =some (.int (c s:Nat)):=by
 unfold bU
 rw[aF,List.getElem?_range hs];rfl
theorem ml:(bU B c).length=B.N:=by unfold bU;simp
theorem ex_cell{K:AV->Prop}{s:Nat}(hc:σ ca=some (.list w (bU B c)))(hB:B.Ok)(hs:s<B.N)(hx:x=(s:Int))(h:K (.int (c s:Nat))):
  ∃v,cw σ (.ref ca) (.int x)=some v/\K v:=by
 refine⟨_,?_,h⟩
 have i:=hB.cm
 unfold cw jQ
 try dsimp only
 rw[hc]
 try dsimp only
 rw[ag (by lia),hx,a9,KD hs]
theorem ex_mod{K:AV->Prop}{a b:Nat}(hy:y=(b:Int))(hb:b≠0)(h:K (.int (a % b:Nat))):∃k,fA .Mod (.int (a:Int)) (.int y)=some k/\K k:=by
 refine⟨_,binv_mod (by lia),?_⟩
 subst hy
 rw[Int.fmod_eq_emod_of_nonneg _ (by lia)]
 exact h
theorem ex_fdiv{K:AV->Prop}{a b:Nat}(hy:y=(b:Int))(hb:b≠0)(h:K (.int (a/b:Nat))):∃k,fA .FloorDiv (.int (a:Int)) (.int y)=some k/\K k:=by
 refine⟨_,binv_fdiv (by omega),?_⟩
 subst hy
 rw[ba _ (by omega)]
 exact h
local macro_rules (kind:=PyProof.Rows.tacticWalk_at_) | s=>tyk "\"me\"" s "!Z ex_cell !p hc !n !A !g !Y !g !12 !c !4hB hs !n !2 !c hx !n rfl !e !g lit0 !E !g lit1 !E !g rfl !E !g !14 !c !,5 !g ex_mod !p hy !n rfl !e !g lit2 !E !g lit3 !E !g lit4 !E !g lit8 !E !g rfl !E !g !16 !c hb !n !O !c !,3 !g ex_fdiv !p hy !n rfl !e !g lit2 !E !g lit3 !E !g lit4 !E !g lit8 !E !g lit32 !E !g rfl !E !g !17 !c hb !n !O !c !,3 !g !13 !,2"
theorem wR(l:List Nat)(x:Nat):bA l++[AV.int (x:Int)]=bA (l++[x]):=by rw[hO];rfl
theorem KG{i:Nat}(h:(Ih l)[i]? =some x):∃p,l[i]? =some p/\x=.cn [.int p.1,.int p.2]:=by
 unfold Ih at h
 rw[aF]at h
 obtain⟨p,e1,e2⟩:=aH.mp h
 exact⟨p,e1,e2.symm⟩
theorem Qm(k:Nat):([1,2,6]:List Int).contains ((k:Nat):Int)=dA k:=by
 unfold dA
 rw[bj]
 simp
 exact(or_congr Int.ofNat_inj (or_congr Int.ofNat_inj Int.ofNat_inj)).trans or_assoc.symm
theorem NG(k:Nat):o9 σ .In (.int (k:Nat)) (.cn [.int 1,.int 2,.int 6])=some (dA k):=by
 show((some [1,2,6]).map λl:List Int=>l.contains (k:Int))=_
 rw[Option.map_some,Qm]
theorem wU(i:dZ σ a)(h:bO σ v=some xs):bO (σ.set a o) v=some xs:=qe (Sub.set i) h
theorem KH(hs:bq<2):∀w∈d9 k bq,(w.1≠0\/w.2≠0)/\-2<=w.1/\w.1<=2/\-2<=w.2/\w.2<=2:=by
 have h1:∀w∈cW,(w.1≠0\/w.2≠0)/\-2<=w.1/\w.1<=2/\-2<=w.2/\w.2<=2:=by decide
 have h2:∀w∈f7,(w.1≠0\/w.2≠0)/\-2<=w.1/\w.1<=2/\-2<=w.2/\w.2<=2:=by decide
 intro w hw
 unfold d9 at hw
 split at hw
 .simp only[a8,a7,or_false]at hw
  rcases hw with rfl | rfl<;>(dsimp only;lia)
 .split at hw
  .exact h2 w hw
  .split at hw
   .exact h1 w (List.mem_of_mem_drop hw)
   .split at hw
    .exact h1 w (List.mem_of_mem_take hw)
    .exact h1 w hw
section
variable{W:Wd}{n:Nat}{σ:Hp}{B:Bd}{c:Nat->Nat}
theorem DE(o:Bool)(l:List Nat):(qq c o l).length<=l.length:=by
 induction l with
 | nil=>exact Nat.le_refl _
 | cons x r i=>
  show(if(c x != 0||o)=true then[]else qq c o r).length+1<=r.length+1
  split
  .exact Nat.succ_le_succ (Nat.zero_le _)
  .exact Nat.succ_le_succ i
theorem wV(i dr:Int)(k:Nat)(f r:Int):(iO B i dr k f r).length<=k:=by
 induction k generalizing f r with
 | zero=>exact Nat.le_refl _
 | succ k j=>
  show(if 0<=f/\f<B.F/\0<=r/\r<B.R then(r*B.F+f).toNat::iO B i dr k (f+i) (r+dr)else[]).length<=k+1
  split
  .exact Nat.succ_le_succ (j _ _)
  .exact Nat.zero_le _
theorem Au{i dr f r:Int}(h:0<=f/\f<B.F/\0<=r/\r<B.R):iO B i dr (m+1) f r=(r*B.F+f).toNat::iO B i dr m (f+i) (r+dr):=ag h
theorem wW{i dr f r:Int}(h:¬(0<=f/\f<B.F/\0<=r/\r<B.R))(m:Nat):iO B i dr m f r=[]:=by
 cases m with
 | zero=>rfl
 | succ m=>exact ah h
abbrev u0:CS:=(.bL 9 (.bx .Add (.bx .Mod (.var 3) (.var 0)) (.var 8))
 (.bL 10 (.bx .Add (.bx .FloorDiv (.var 3) (.var 0)) (.var 6))
 (.E7 (.and (.chn .LtE .Lt (.int 0) (.var 9) (.var 0)) (.chn .LtE .Lt (.int 0) (.var 10) (.var 1)))
 (.expr (.append (.var 7) (.bx .Add (.bx .Mult (.var 10) (.var 0)) (.var 9)))
 (.bS (.or (.sub (.var 2) (.bx .Add (.bx .Mult (.var 10) (.var 0)) (.var 9))) (.bM .In (.var 4) (.cn (.cons (.int 1) (.cons (.int 2) (.cons (.int 6) .nil))))))
 .brk
 .skip
 (.iw 9 .Add (.var 8)
 (.iw 10 .Add (.var 6)
 .skip))))
 .skip)))
theorem rb{f p:Int}{F:Nat}(i:0<=f)(h1:f<F)(j:F<=4)(a:-2<=p)(b:p<=2):-10<=f+p/\f+p<=10:=
 ⟨Int.le_trans (by decide) (Int.add_le_add i a),Int.le_trans (Int.add_le_add (Int.le_of_lt (ao h1 (Int.ofNat_le.mpr j))) b) (by decide)⟩
theorem Qn{F s:Nat}(hp:p≠0)(h:s<F)(i:F<=4):¬(0<=(s:Int)+p+((4:Nat):Int)*p/\(s:Int)+p+((4:Nat):Int)*p<F):=by omega
theorem LH(f p:Int)(m:Nat):f+((m+1:Nat):Int)*p=f+p+m*p:=by
 rw[Int.natCast_succ,Int.add_mul,Int.one_mul,<-Int.add_assoc,Int.add_right_comm]
theorem EO(G:GF W)(hB:B.Ok){p:Int × Int}{bq:Nat}(hc:∀X,(σ.set a X) ca=some (.list w (bU B c)))(hs:s<B.N)(hp:(p.1≠0\/p.2≠0)/\-2<=p.1/\p.1<=2/\-2<=p.2/\p.2<=2)
  (ho:out.length<=1000)
  (q:∀ρ',bJ [some (.int B.F),some (.int B.R),some (.ref ca),some (.int s),some (.int (k:Nat)),some J,none,some (.ref a),none,none,none,none,none] ρ'->Q .next ρ' (σ.set a (.list true (bA (out++qq c (dA k) (tJ B p.1 p.2 s)))))):
  AWS W n u0 [some (.int B.F),some (.int B.R),some (.ref ca),some (.int s),some (.int (k:Nat)),some J,some (.int p.2),some (.ref a),some (.int p.1),none,none,none,none] (σ.set a (.list true (bA out))) Q (λZ=>b7):=by
 have j:=hB.cm
 have H:=Nat.div_lt_of_lt_mul (m:=s) (n:=B.F) (k:=B.R) (by lia)
 have z:=Nat.mod_lt s (show 0<B.F by lia)
 ext
 unfold tJ at q
 generalize s % B.F=Y at*
 generalize s/B.F=sr at*
 refine AWS.wh b0.none (λm ρ' bw=>∃f r l,ρ'=[some (.int B.F),some (.int B.R),some (.ref ca),some (.int s),some (.int (k:Nat)),some J,some (.int p.2),some (.ref a),some (.int p.1),some (.int f),some (.int r),none,none]/\σ.set a (.list true (bA l))=bw/\
  l++qq c (dA k) (iO B p.1 p.2 m f r)=out++qq c (dA k) (iO B p.1 p.2 4 ((Y:Nat)+p.1) ((sr:Nat)+p.2))/\l.length+m<=1004/\(-10<=f/\f<=10/\-10<=r/\r<=10)/\¬(0<=f+m*p.1/\f+m*p.1<B.F/\0<=r+m*p.2/\r+m*p.2<B.R)) 4 ⟨_,_,out,rfl,rfl,rfl,by lia,⟨(rb (Int.natCast_nonneg _) (aq.mpr z) j.2.2.2.1 hp.2.1 hp.2.2.1).1,(rb (Int.natCast_nonneg _) (aq.mpr z) j.2.2.2.1 hp.2.1 hp.2.2.1).2,rb (Int.natCast_nonneg _) (aq.mpr H) j.2.2.2.2.2.1 hp.2.2.2.1 hp.2.2.2.2⟩,λx=>hp.1.elim (λh=>Qn h z j.2.2.2.1 ⟨x.1,x.2.1⟩) (λh=>Qn h H j.2.2.2.2.2.1 x.2.2)⟩ ?_
 rintro m _ _ ⟨f,r,l,rfl,rfl,hl,U,⟨Rf,TQ,Wc,We⟩,y⟩
 have done:¬(0<=f/\f<B.F/\0<=r/\r<B.R)->AWS W n CS.skip [some (.int B.F),some (.int B.R),some (.ref ca),some (.int s),some (.int (k:Nat)),some J,some (.int p.2),some (.ref a),some (.int p.1),some (.int f),some (.int r),none,none] (σ.set a (.list true (bA l))) Q (λZ=>b7):=by
  intro h
  rw[wW h,show qq c (dA k) []=[]from rfl,aZ]at hl
  refine AWS.skip ?_
  rw[hl]
  refine q _ ?_
  exact⟨rfl,rfl,rfl,rfl,rfl,rfl,rfl,trivial⟩
 ext
 refine bE (λh1=>?_) (λh1=>?_)
 rotate_left
 .refine bE (λh=>by cases h) (λZ=>done ?_)
  exactλx=>of_decide_eq_false h1 x.1
 ext
 refine bE (λh2=>?_) (λh2=>?_)
 rotate_left
 .refine bE (λh=>by cases h) (λZ=>done ?_)
  exactλx=>of_decide_eq_false h2 x.2.1
 ext
 refine bE (λh3=>?_) (λh3=>?_)
 rotate_left
 .refine bE (λh=>by cases h) (λZ=>done ?_)
  exactλx=>of_decide_eq_false h3 x.2.2.1
 ext
 refine bE (λO=>?_) (λO=>done ?_)
 rotate_left
 .exactλx=>of_decide_eq_false O x.2.2.2
 have i:0<=f/\f<B.F/\0<=r/\r<B.R:=⟨aY h1,aY h2,aY h3,aY O⟩
 obtain⟨m,rfl⟩:∃m',m=m'+1:=by
  cases m with
  | zero=>exact absurd (by simpa using i) y
  | succ m=>exact⟨m,rfl⟩
 obtain⟨sq,V⟩:=Dg hB i
 rw[Au i]at hl
 ext
 refine⟨a,_,cB br,?_⟩
 ext
 refine⟨_,br,by rw[bR];lia,trivial,?_⟩
 rw[set_set,V]
 rw[wR]
 generalize(r*B.F+f).toNat=x at*
 ext
 refine ex_cell (hc _) hB sq V ?_
 have cx:qq c (dA k) (x::iO B p.1 p.2 m (f+p.1) (r+p.2))=x::if c x != 0||dA k then[]else qq c (dA k) (iO B p.1 p.2 m (f+p.1) (r+p.2)):=rfl
 rw[cx]at hl
 ext
 have I:(c x != 0||dA k)=true->Q .next [some (.int B.F),some (.int B.R),some (.ref ca),some (.int s),some (.int (k:Nat)),some J,some (.int p.2),some (.ref a),some (.int p.1),some (.int f),some (.int r),none,none] (σ.set a (.list true (bA (l++[x])))):=by
  intro hx
  rw[ag hx]at hl
  rw[hl]
  refine q _ ?_
  exact⟨rfl,rfl,rfl,rfl,rfl,rfl,rfl,trivial⟩
 refine bE (λD=>?_) (λD=>?_)
 .have D:(c x != 0)=true:=by rw[<-D,bj];simp
  ext
  exact I (by rw[D];rfl)
 .have D:(c x != 0)=false:=by rw[<-D,bj];simp
  ext
  refine⟨by decide,_,dR.val (NG k),?_⟩
  cases L:dA k
  .ext
   rw[D,L]at hl
   refine⟨m,Nat.lt_succ_self m,_,_,_,rfl,rfl,?_,?_,⟨(rb i.1 i.2.1 j.2.2.2.1 hp.2.1 hp.2.2.1).1,(rb i.1 i.2.1 j.2.2.2.1 hp.2.1 hp.2.2.1).2,rb i.2.2.1 i.2.2.2 j.2.2.2.2.2.1 hp.2.2.2.1 hp.2.2.2.2⟩,?_⟩
   .rw[<-L,List.append_assoc];rw[L];exact hl
   .rw[bh];simp;lia
   .rwa[LH,LH]at y
  .ext
   exact I (by rw[L];simp)
theorem u1{α:Type}{g:α->List Nat}:∀{l:List α}{i:Nat}{x:α},l[i]? =some x->(l.take (i+1)).flatMap g=(l.take i).flatMap g++g x:=by
 intro l i x h
 rw[List.take_add_one,h,List.flatMap_append];simp
theorem wX{α:Type}{g:α->List Nat}(i:∀x,(g x).length<=b)(l:List α):(l.flatMap g).length<=l.length*b:=i5 l λx Z=>i x
theorem r7(k bq:Nat):(d9 k bq).length<=8:=by
 unfold d9
 split
 .simp
 .split
  .decide
  .split
   .decide
   .split<;>decide
theorem r8(B:Bd)(c:Nat->Nat)(s:Nat):(cA B c s).length<=32:=by
 have h:=wX (g:=λw:Int × Int=>qq c (dA (c s % 8)) (tJ B w.1 w.2 s)) (b:=4) (λw=>ai (DE _ _) (wV _ _ 4 _ _)) (d9 (c s % 8) (c s/8))
 have:=r7 (c s % 8) (c s/8)
 unfold cA
 lia
theorem u3(G:GF W)(hB:B.Ok)(hn:1<=n)(J:jb W σ)(hc:σ ca=some (.list w (bU B c)))(hs:s<B.N)(hp:Pc (c s)):
  g6 W n iW [.int B.F,.int B.R,.ref ca,.int s] σ (bA (cA B c s)):=by
 refine g6.body G zf rfl (by omega) ?_
 unfold ue
 have hN:=hB.cm
 obtain⟨p1,p2,p3,p4⟩:=hp
 have main:∀(I:AV)(j:Hp),Sub σ j->bO j I=some (Ih (d9 (c s % 8) (c s/8)))->AWS W (n-1) (.bL 7 (.cI .nil) (.cb [8,6] (.var 5) u0 (.ret (.var 7))))
   [some (.int B.F),some (.int B.R),some (.ref ca),some (.int s),some (.int (c s % 8:Nat)),some I,none,none,none,none,none,none,none] j (λo Z D=>Bo σ (bA (cA B c s)) o D) (λZ=>b7):=by
  intro I j y H
  ext
  refine⟨oc rfl,λa L=>?_⟩
  have z:σ a=none:=qd y L
  ext
  refine AWS.fi b0.none ?_
  ext
  refine⟨Ih (d9 (c s % 8) (c s/8)),λZ=>[some (.int B.F),some (.int B.R),some (.ref ca),some (.int s),some (.int (c s % 8:Nat)),some I,none,some (.ref a),none,none,none,none,none],
   λi=>j.set a (.list true (bA (((d9 (c s % 8) (c s/8)).take i).flatMap λw=>qq c (dA (c s % 8)) (tJ B w.1 w.2 s)))),λZ=>True,trivial,λZ Z=>wU L H,wU L H,⟨rfl,rfl,rfl,rfl,rfl,rfl,rfl,trivial⟩,.refl _,λZ=>?_,λi x hi Z hx=>?_⟩
  .try dsimp only
   rw[show(Ih (d9 (c s % 8) (c s/8))).length=(d9 (c s % 8) (c s/8)).length from aV ..,aX]
   ext
   exact⟨a,rfl,z,yj y z,br⟩
  .obtain⟨p,e1,rfl⟩:=KG hx
   refine⟨_,rfl,?_⟩
   try dsimp only
   rw[u1 e1]
   refine EO (bq:=c s/8) (w:=w) (c:=c) G hB (λX=>?_) hs (KH (by lia) p (aD e1)) ?_ λρ' h=>⟨trivial,h,.refl _⟩
   .rw[ct,y _ _ hc]
    rintro rfl;rw[z]at hc;cases hc
   .have h:=wX (g:=λw:Int × Int=>qq c (dA (c s % 8)) (tJ B w.1 w.2 s)) (b:=4) (λw=>ai (DE _ _) (wV _ _ 4 _ _)) ((d9 (c s % 8) (c s/8)).take i)
    have h2:=r7 (c s % 8) (c s/8)
    rw[List.length_take]at h
    exact ai h (ai (Nat.mul_le_mul_right 4 (ai (Nat.min_le_right _ _) h2)) (by decide))
 have NQ:bO σ (.ref (W.gi.s6 2))=some (Ih cW):=by unfold bO;dsimp only;rw[J 2 (.inl rfl)];rfl
 have Li:bO σ (.ref (W.gi.s6 3))=some (Ih f7):=by unfold bO;dsimp only;rw[J 3 (.inr rfl)];rfl
 ext
 unfold d9 at main
 generalize CS.bL 7 (.cI .nil) (.cb [8,6] (.var 5) u0 (.ret (.var 7)))=T at main ⊢
 refine AWS.split (λh=>?_) (λh=>?_)
 .have hk:c s % 8=1:=by have:=az.mp h;lia
  rw[ag hk]at main
  ext
  refine⟨oc rfl,?_⟩
  ext
  refine⟨oc rfl,?_⟩
  ext
  refine⟨oc rfl,λb hb=>?_⟩
  ext
  refine AWS.loose ?_ (.refl _) (main (.ref b) _ (Sub.set hb) ?_)
  .exact⟨rfl,rfl,rfl,rfl,rfl,rfl,trivial⟩
  .unfold bO;dsimp only;rw[br];rfl
 have O:c s % 8≠1:=by have:=aE.mp h;omega
 rw[ah O]at main
 ext
 refine AWS.split (λh=>?_) (λh=>?_)
 .have hk:c s % 8=2:=by have:=az.mp h;lia
  rw[ag hk]at main
  ext
  exact main _ _ (.refl _) Li
 have U:c s % 8≠2:=by have:=aE.mp h;omega
 rw[ah U]at main
 ext
 have lk:gz σ (s7 W.gi 2)=some (W.gi.s6 2,Ih cW):=cB (J 2 (.inl rfl))
 refine AWS.split (λh=>?_) (λh=>?_)
 .have hk:c s % 8=3:=by have:=az.mp h;lia
  rw[ag hk]at main
  ext
  refine⟨_,_,lk,by decide,by show _<=_;decide,λb hb=>?_⟩
  ext
  refine main (.ref b) _ (Sub.set hb) ?_
  unfold bO;dsimp only;rw[br];rfl
 have V:c s % 8≠3:=by have:=aE.mp h;omega
 rw[ah V]at main
 ext
 refine AWS.split (λh=>?_) (λh=>?_)
 .have hk:c s % 8=4:=by have:=az.mp h;lia
  rw[ag hk]at main
  ext
  refine⟨_,_,lk,by decide,by show _<=_;decide,λb hb=>?_⟩
  ext
  refine main (.ref b) _ (Sub.set hb) ?_
  unfold bO;dsimp only;rw[br];rfl
 have Y:c s % 8≠4:=by have:=aE.mp h;omega
 rw[ah Y]at main
 ext
 exact main _ _ (.refl _) NQ
end
theorem KI{m:Nat}(h:σ a=some (.list w (bA l))):o9 σ .In (.int m) (.ref a)=some (l.contains m):=by
 rw[IQ];unfold dM
 try dsimp only
 rw[h]
 try dsimp only
 rw[kj]
 simp only[Option.map_some]
 rw[kL]
theorem u4:bU B c=bA ((List.range B.N).map c):=by
 unfold bU bA
 rw[List.map_map];rfl
theorem NH(hB:B.Ok)(hc:σ ca=some (.list w (bU B c))):lg σ (.ref ca)=some (B.N:Int):=by
 have i:=hB.cm
 unfold lg
 try dsimp only
 rw[hc]
 try dsimp only
 rw[ag (by rw[ml];exact aj hB.cm.1 (by decide)),ml]
section
variable{W:Wd}{n:Nat}{σ:Hp}{B:Bd}{c:Nat->Nat}
theorem all_succ:(List.range (i+1)).all p=((List.range i).all p&&p i):=by rw[List.range_succ,List.all_append];simp
theorem Cb(G:GF W)(hB:B.Ok)(I:2<=n)(D:jb W σ)(hc:σ ca=some (.list w (bU B c)))(H:ju B c){j bq:Nat}:
  Pure W n oA [.int B.F,.int B.R,.ref ca,.int j,.int bq] σ (.bool (mQ B c j bq)):=by
 refine cu.body G zg rfl (by omega) ?_
 unfold uf
 have J:=hB.cm
 ext
 refine AWS.fi b0.none ?_
 ext
 refine⟨_,NH hB hc,?_⟩
 ext
 refine⟨_,rfl,bA (List.range B.N),λZ=>[some (.int B.F),some (.int B.R),some (.ref ca),some (.int j),some (.int bq),none,none,none,none],λZ=>σ,λi=>(List.range i).all (λs=>!(c s != 0&&c s/8 != bq&&(cA B c s).contains j))=true,rfl,
  λZ Z=>cN (by lia),cN (by lia),⟨rfl,rfl,rfl,rfl,rfl,trivial⟩,.refl _,λh=>?_,λi x hi h hx=>?_⟩
 .try dsimp only at h ⊢
  rw[bR,aW]at h
  ext
  refine⟨ae AV.bool ?_,.refl _⟩
  exact h.symm
 .obtain⟨s,e1,rfl⟩:=bX hx
  obtain⟨rfl,hs⟩:=dq e1
  try dsimp only at h
  refine⟨_,rfl,?_⟩
  try dsimp only
  rw[all_succ,h]
  ext
  have cont:∀bw,Sub σ bw->((c s != 0&&c s/8 != bq&&(cA B c s).contains j)=false)->AWS W (n-1) CS.skip [some (.int B.F),some (.int B.R),some (.ref ca),some (.int j),some (.int bq),some (.int s),none,none,none] bw
    (λo ρ' bw=>match o with
     | .next | .cont=>(true&& !(c s != 0&&c s/8 != bq&&(cA B c s).contains j))=true/\bJ [some (.int B.F),some (.int B.R),some (.ref ca),some (.int j),some (.int bq),none,none,none,none] ρ'/\Sub σ bw
     | .brk=>AWS W (n-1) (.ret (.bool true)) ρ' bw (λo Z y=>Fin (.bool (mQ B c j bq)) σ o y) (λZ=>b7)
     | .ret v=>Fin (.bool (mQ B c j bq)) σ (.ret v) bw) (λZ=>b7):=by
   intro bw z he
   refine AWS.skip ⟨by rw[he];rfl,⟨rfl,rfl,rfl,rfl,rfl,trivial⟩,z⟩
  refine bE (λh1=>?_) (λh1=>?_)
  .have h1:c s≠0:=by have:=aP.mp h1;lia
   ext
   refine bE (λh2=>?_) (λh2=>?_)
   .have h2:c s/8≠bq:=by have:=aP.mp h2;lia
    ext
    refine u3 G hB (by omega) D hc hs (H.pc s h1) _ _ λb hb=>?_
    refine⟨_,dR.val (KI br),?_⟩
    refine AWS.split (λh3=>?_) (λh3=>?_)
    .ext
     refine⟨ae AV.bool ?_,Sub.set hb⟩
     symm
     refine List.all_eq_false.mpr ⟨s,aN.mpr hs,?_⟩
     rw[h3,aP.mpr h1,aP.mpr h2];decide
    .exact AWS.skip (cont _ (Sub.set hb) (by rw[h3];simp))
   .have h2:c s/8=bq:=by have:=bo.mp h2;omega
    try refine AWS.ifF rfl ?_
    exact AWS.skip (cont _ (.refl _) (by rw[h2];simp))
  .have h1:c s=0:=by have:=bo.mp h1;lia
   try refine AWS.ifF rfl ?_
   exact AWS.skip (cont _ (.refl _) (by rw[h1];simp))
theorem o3(G:GF W)(hB:B.Ok)(z:3<=n)(j:jb W σ)(hc:σ ca=some (.list w (bU B c)))(h:Wf1 B c){bq:Nat}(hs:bq<2):
  Pure W n d6 [.int B.F,.int B.R,.ref ca,.int bq] σ (.bool (cF B c bq)):=by
 refine cu.body G zh rfl (by omega) ?_
 unfold ug
 have D:=hB.cm
 obtain⟨k1,k2,k3,y⟩:=h.kq hB hs
 ext
 refine AWE.index (AWE.var rfl ⟨ca,_,cB hc,?_⟩)
 ext
 have e1:dM σ (.ref ca)=some (((List.range B.N).map c).map λx:Nat=>(x:Int)):=by
  unfold dM
  try dsimp only
  rw[hc]
  try dsimp only
  rw[u4,kj]
 have hm:(bq:Int)*8+6∈((List.range B.N).map c).map λx:Nat=>(x:Int):=by
  refine List.mem_map.mpr ⟨c (kq c bq),List.mem_map.mpr ⟨_,aN.mpr k1,rfl⟩,?_⟩
  rw[(k2 _).mpr rfl];lia
 refine⟨_,_,rfl,e1,by simp;lia,hm,?_⟩
 have hi:=vY hm
 rw[List.map_map]at hi ⊢
 have i:=(aS.mp hi).1
 rw[aV,aW]at i
 rw[aF,List.getElem?_range i]at hi
 have hi:((c (List.idxOf ((bq:Int)*8+6) (List.map ((λx:Nat=>(x:Int))∘c) (List.range B.N))):Nat):Int)=(bq:Int)*8+6:=by simpa using hi
 have:List.idxOf ((bq:Int)*8+6) (List.map ((λx:Nat=>(x:Int))∘c) (List.range B.N))=qh B c bq:=by
  rw[y,<-k2];lia
 rw[this]
 ext
 refine Cb G hB (by omega) j hc h.cells _ _ ?_
 exact⟨rfl,.refl _⟩
end
def EP(W:Wd)(n f:Nat)(l:List AV)(σ:Hp)(S:AV->Hp->Prop):Prop:=∀(Q:AV->Hp->Prop)(E:Cx->Value->Shared->Prop),(∀v bw,S v bw->Q v bw)->CALL W n f l σ Q E
section
variable{W:Wd}{n:Nat}{σ:Hp}{B:Bd}{c:Nat->Nat}
theorem EP.body(G:GF W){f j m:Nat}{c:CS}{l:List AV}{S:AV->Hp->Prop}(hc:bz f j m c=true)(hl:l.length=j)(y:1<=n)
  (h:AWS W (n-1) c (initLoc m l) σ (λo Z i=>match o with | .ret v=>S v i | _=>False) (λZ=>b7)):EP W n f l σ S:=by
 intro Q E q
 obtain⟨k,rfl⟩:∃k,n=k+1:=⟨n-1,by lia⟩
 refine CALL.lB (CALL.body (Q:=S) (E:=λZ=>b7) G hc hl jy.none (AWS.bK h λo ρ σ x=>?_)) (λv i h=>⟨i,.refl _,q _ _ h⟩) λZ Z Z x=>x.elim
 cases o
 case ret=>exact x
 all_goals exact x.elim
def hV(σ:Hp)(fa:Addr)(B:Bd)(c:Nat->Nat)(bq:Nat):List AV->List Nat->Prop:=cP λav m=>∃b,b≠fa/\av=.cn [.int (m:Nat),.ref b]/\σ b=some (.list true (bU B (bH c bq m)))
theorem hV.sub{σ bw:Hp}(h:hV σ fa B c bq l ms)(s:∀b o,b≠fa->σ b=some o->bw b=some o):hV bw fa B c bq l ms:=
 cP.imp (λav m i=>by obtain⟨b,h1,h2,h3⟩:=i;exact⟨b,h1,h2,s b _ h1 h3⟩) h
theorem hV.snoc(h:hV σ fa B c bq l ms)(hb:b≠fa)(i:σ b=some (.list true (bU B (bH c bq m)))):hV σ fa B c bq (l++[.cn [.int (m:Nat),.ref b]]) (ms++[m]):=
 cP.append h (.cons ⟨b,hb,rfl,i⟩ .nil)
theorem Cc(G:GF W)(hB:B.Ok){F R st:AV}{bq:Nat}
  (hc:σ ca=some (.list w (bU B c))) (L:σ ga=some (.list true (bA y))) (hl:y.length<=1000) (hh:∀t∈y,t<B.N)
  (q:∀D,dZ σ D->AWS W n k [some F,some R,some (.ref ca),some (.int bq),x4,some st,some (.bool H),some (.ref D),x8,x9,Rg,Qo,Qp,LI,LJ,LK,KJ] (σ.set D (.list true (bA (y.filter λt=>(c t != 0&&c t/8 != bq)||(c t==0&& !H))))) Q (λZ=>b7)):
  AWS W n (.k9 7 (.comp (.var 1) [1] (.var 7) (some (.or (.and (.sub (.var 2) (.var 1)) (.bM .NotEq (.bx .FloorDiv (.sub (.var 2) (.var 1)) (.int 8)) (.var 4))) (.and (.not (.sub (.var 2) (.var 1))) (.not (.var 3))))) [(2,2),(3,6),(4,3)] 5) k)
   [some F,some R,some (.ref ca),some (.int bq),x4,some st,some (.bool H),some (.ref ga),x8,x9,Rg,Qo,Qp,LI,LJ,LK,KJ] σ Q (λZ=>b7):=by
 refine AWS.k9 (by decide) (λsc e h=>by first | exact tl h | exact pa h | exact pb h | exact qv h) ?_
 ext
 refine⟨bA y,by unfold bO;dsimp only;rw[L],λD hD=>?_⟩
 have V:dZ σ D:=hD
 have nD:∀{b:Addr}{o:AO},σ b=some o->b≠D:=λh e=>by rw[e,V]at h;cases h
 refine⟨λi out ρ' bw=>i<=y.length/\out=bA ((y.take i).filter λt=>(c t != 0&&c t/8 != bq)||(c t==0&& !H))/\bJ [none,none,some (.ref ca),some (.bool H),some (.int bq)] ρ'/\bw=σ.set D (.list true out),
  ⟨Nat.zero_le _,rfl,⟨rfl,rfl,rfl,trivial⟩,rfl⟩,λi out ρ' bw KL=>?_⟩
 obtain⟨hi,ho,Y,hs⟩:=KL
 refine⟨?_,?_,?_,λe=>?_,λx hx=>?_⟩
 .subst hs;unfold bO;dsimp only;rw[ct (nD L),L]
 .subst hs;exact br
 .subst ho
  have:=List.length_filter_le (λt=>(c t != 0&&c t/8 != bq)||(c t==0&& !H)) (y.take i)
  rw[bR];rw[List.length_take]at this;exact ai this (ai (Nat.min_le_right _ _) (ai (m:=1000) (by assumption) (by decide)))
 .rw[bR]at e
  subst hs ho e
  rw[aX]
  exact q D V
 .obtain⟨t,e1,rfl⟩:=bX hx
  have ht:=hh t (aD e1)
  have yw:=(aS.mp e1).1
  refine⟨_,rfl,?_⟩
  have SE:∀X,(σ.set D X) ca=some (.list w (bU B c)):=λX=>by rw[ct (nD hc),hc]
  have hr:bJ [none,some (.int (t:Nat)),some (.ref ca),some (.bool H),some (.int bq)] (Lake.setL ρ' 1 (.int (t:Nat))):=bJ.nE (i:=1) Y
  unfold px
  try dsimp only
  subst hs
  have O:∀b:Bool,b=((c t != 0&&c t/8 != bq)||(c t==0&& !H))->(if b=true then AWE W n (.var 1) (Lake.setL ρ' 1 (.int (t:Nat))) (σ.set D (.list true out)) (λu z=>z D=some (.list true out)/\(i+1<=y.length/\out++[u]=bA ((y.take (i+1)).filter λt=>(c t != 0&&c t/8 != bq)||(c t==0&& !H))/\
    bJ [none,none,some (.ref ca),some (.bool H),some (.int bq)] (Lake.setL ρ' 1 (.int (t:Nat)))/\z.set D (.list true (out++[u]))=σ.set D (.list true (out++[u])))) b7 else
    (i+1<=y.length/\out=bA ((y.take (i+1)).filter λt=>(c t != 0&&c t/8 != bq)||(c t==0&& !H))/\bJ [none,none,some (.ref ca),some (.bool H),some (.int bq)] (Lake.setL ρ' 1 (.int (t:Nat)))/\σ.set D (.list true out)=σ.set D (.list true out))):=by
   intro b hb
   have hw:bJ [none,none,some (.ref ca),some (.bool H),some (.int bq)] (Lake.setL ρ' 1 (.int (t:Nat))):=bJ.free (i:=1) Y rfl
   cases b
   .rw[ah (by simp)]
    refine⟨yw,?_,hw,rfl⟩
    rw[fw e1,<-hb,ho,ah (by simp),aZ]
   .rw[ag rfl]
    refine AWE.var (hr.get rfl) ⟨br,yw,?_,hw,set_set⟩
    rw[fw e1,<-hb,ho,ag rfl,hO];rfl
  have rd:∀{K:AV->Hp->Prop},K (.int (c t:Nat)) (σ.set D (.list true out))->AWE W n (.sub (.var 2) (.var 1)) (Lake.setL ρ' 1 (.int (t:Nat))) (σ.set D (.list true out)) K b7:=λh=>
   AWE.sub (AWE.var (hr.get rfl) (AWE.var (hr.get rfl) (ex_cell (SE _) hB ht rfl h)))
  have vr:∀{j:Nat}{v:AV}{K:AV->Hp->Prop},getL (Lake.setL ρ' 1 (.int (t:Nat))) j=some v->K v (σ.set D (.list true out))->AWE W n (.var j) (Lake.setL ρ' 1 (.int (t:Nat))) (σ.set D (.list true out)) K b7:=λe h=>AWE.var e h
  have I:(c t != 0&&c t/8 != bq)=false->AWT W n (.and (.not (.sub (.var 2) (.var 1))) (.not (.var 3))) (Lake.setL ρ' 1 (.int (t:Nat))) (σ.set D (.list true out)) (λb J=>if b=true then AWE W n (.var 1) (Lake.setL ρ' 1 (.int (t:Nat))) J (λu z=>z D=some (.list true out)/\(i+1<=y.length/\out++[u]=bA ((y.take (i+1)).filter λt=>(c t != 0&&c t/8 != bq)||(c t==0&& !H))/\
    bJ [none,none,some (.ref ca),some (.bool H),some (.int bq)] (Lake.setL ρ' 1 (.int (t:Nat)))/\z.set D (.list true (out++[u]))=σ.set D (.list true (out++[u])))) b7 else
    (i+1<=y.length/\out=bA ((y.take (i+1)).filter λt=>(c t != 0&&c t/8 != bq)||(c t==0&& !H))/\bJ [none,none,some (.ref ca),some (.bool H),some (.int bq)] (Lake.setL ρ' 1 (.int (t:Nat)))/\J=σ.set D (.list true out))) b7:=by
   intro e
   refine AWT.and (AWT.not (AWT.val rfl (rd ⟨_,rfl,?_⟩)))
   by_cases U:c t=0
   .have:(!((c t:Int) != 0))=true:=by rw[U];rfl
    rw[this,ag rfl]
    refine AWT.not (AWT.val rfl (vr (hr.get rfl) ⟨_,rfl,?_⟩))
    exact O _ (by rw[e,U];rfl)
   .have:(!((c t:Int) != 0))=false:=by
     have:((c t:Int) != 0)=true:=aP.mpr (by lia)
     rw[this];rfl
    rw[this,ah (by simp)]
    exact O false (by rw[e,aE.mpr U];rfl)
  refine AWT.or (AWT.and (AWT.val rfl (rd ⟨_,rfl,?_⟩)))
  by_cases U:c t=0
  .have:((c t:Int) != 0)=false:=by rw[U];rfl
   rw[this,ah (by simp),ah (by simp)]
   exact I (by rw[U];rfl)
  .have:((c t:Int) != 0)=true:=aP.mpr (by omega)
   rw[this,ag rfl]
   refine AWT.bM (AWE.bx G (rd (AWE.int (ex_fdiv lit8 (by lia) (vr (hr.get rfl) ⟨_,dR.val rfl,?_⟩)))))
   by_cases h1:c t/8=bq
   .have e2:(((c t/8:Nat):Int) != (bq:Int))=false:=by rw[h1];simp
    rw[e2,ah (by simp)]
    exact I (by rw[h1];simp)
   .have e2:(((c t/8:Nat):Int) != (bq:Int))=true:=aP.mpr (by lia)
    rw[e2,ag rfl]
    exact O true (by rw[aP.mpr U,aP.mpr h1];rfl)
end
theorem Av{σ:Hp}{K:Hp->Prop}(i:B.N<=12/\8<=B.N/\2<=B.F/\B.F<=4/\3<=B.R/\B.R<=4/\B.F*B.R=B.N)(hs:s<B.N)(e:σ a=some (.list true (bU B c)))(j:v=.int (p:Nat))
  (k:K (σ.set a (.list true (bU B (dJ c s p))))):KPut σ (.ref a) (.int s) v K:=
 ⟨a,_,s,ph e,rfl,Int.natCast_nonneg _,by have:=i.1;lia,by rw[ml];exact aq.mpr hs,by rw[j,a9,l7];exact k⟩
def eD(fa:Addr)(σ bw:Hp):Prop:=∀b x,b≠fa->σ b=some x->bw b=some x
theorem eD.refl(fa:Addr)(σ:Hp):eD fa σ σ:=λZ Z Z h=>h
theorem eD.trans(h:eD fa σ bw)(h':eD fa bw i):eD fa σ i:=λb x hb e=>h' b x hb (h b x hb e)
theorem eD.of(h:Sub σ bw):eD fa σ bw:=λb x Z e=>h b x e
theorem eD.nE:eD fa σ (σ.set fa o):=λb x hb e=>by rw[ct hb];exact e
theorem HK:∀s,s<16->∀t,t<16->∀f,f<4->Builtin.bitOr (Builtin.bitOr (Builtin.bitOr ((t:Nat):Int) (((s:Nat):Int)*2^(6:Int).toNat)) (1*2^(14:Int).toNat)) (((f:Nat):Int)*2^(12:Int).toNat)=((cy s t 1 f:Nat):Int):=by decide +kernel
theorem HL:∀s,s<16->∀t,t<16->Builtin.bitOr ((t:Nat):Int) (((s:Nat):Int)*2^(6:Int).toNat)=((cy s t 0 0:Nat):Int):=by decide +kernel
abbrev NI:CS:=(.bL 12 (.slice (.var 10) none none)
 (.eK (.var 12) (.var 8) (.bx .Add (.bx .Add (.bx .Mult (.var 3) (.int 8)) (.int 2)) (.var 11))
 (.expr (.append (.var 4) (.cn (.cons (.bx .BitOr (.bx .BitOr (.bx .BitOr (.var 8) (.bx .LShift (.var 5) (.int 6))) (.bx .LShift (.int 1) (.int 14))) (.bx .LShift (.var 11) (.int 12))) (.cons (.var 12) .nil))))
 .skip)))
section
variable{W:Wd}{n:Nat}{σ:Hp}{B:Bd}{c:Nat->Nat}{bq s t:Nat}
theorem ER(i:s≠t)(p:Nat):bU B (dJ (dJ c t p) s 0)=bU B (dK c s t p):=by
 congr 1
 funext u
 unfold dJ dK
 by_cases h1:u=t
 .rw[ag h1,ag h1,ah (λe=>i (e.symm.trans h1))]
 .rw[ah h1,ah h1]
theorem HN(G:GF W)(hB:B.Ok)(hs:s<B.N)(ht:t<B.N)(hf:f<4)(I:bq<2)
  (i:σ fa=some (.list true l)) (hl:l.length<=5000) (z:σ D=some (.list true (bU B (dK c s t (c s))))) (J:hV σ fa B c bq l ms)
  (q:∀ρ' bw H,bJ [some (.int B.F),some (.int B.R),some (.ref ca),some (.int bq),some (.ref fa),some (.int s),some (.bool L),some (.ref ga),some (.int t),none,some (.ref D),none,none,none,none,none,none] ρ'->eD fa σ bw->bw fa=some (.list true H)->H.length=l.length+1->
   hV bw fa B c bq H (ms++[cy s t 1 f])->Q .next ρ' bw):
  AWS W n NI [some (.int B.F),some (.int B.R),some (.ref ca),some (.int bq),some (.ref fa),some (.int s),some (.bool L),some (.ref ga),some (.int t),x9,some (.ref D),some (.int f),O,U,V,Y,KJ] σ Q (λZ=>b7):=by
 have hN:=hB.cm
 ext
 refine⟨D,_,cB z,by rw[ml];lia,trivial,λta y=>?_⟩
 have j:∀{b:Addr}{o:AO},σ b=some o->b≠ta:=λh e=>by rw[e,show σ ta=none from y]at h;cases h
 ext
 have e1:(bq:Int)*8+2+(f:Int)=((bq*8+(f+2):Nat):Int):=by lia
 refine Av hN (by lia) br (ae AV.int e1) ?_
 rw[set_set]
 have e2:bU B (dJ (dK c s t (c s)) t (bq*8+(f+2)))=bU B (bH c bq (cy s t 1 f)):=by
  rw[rz hB hs ht (by omega) hf]
  congr 1
  funext u
  unfold dJ dK uZ
  by_cases h1:u=t
  .rw[ag h1,ag h1,ag rfl]
  .rw[ah h1,ah h1,ah h1]
 rw[e2]
 ext
 refine⟨fa,_,cB (w:=true) (xs:=l) (by rw[ct (j i),i]),?_⟩
 ext
 refine⟨by simp,l,by rw[ct (j i),i],by omega,trivial,?_⟩
 rw[HK s (by omega) t (by omega) f hf]
 refine AWS.skip (q _ _ _ ⟨rfl,rfl,rfl,rfl,rfl,rfl,rfl,rfl,rfl,rfl,trivial⟩ ((eD.of (Sub.set y)).trans .nE) br (by simp) ?_)
 refine hV.snoc (hV.sub J ((eD.of (Sub.set y)).trans .nE)) (j i).symm ?_
 rw[ct (j i).symm,br]
end
abbrev DF:CS:=(.bL 10 (.slice (.var 2) none none)
 (.eK (.var 10) (.var 8) (.sub (.var 10) (.var 5))
 (.eK (.var 10) (.var 5) (.int 0)
 (.bS (.not (.call d6 (.cons (.var 0) (.cons (.var 1) (.cons (.var 10) (.cons (.var 3) .nil))))))
 .cont
 .skip
 (.bS (.and (.var 6) (.bM .In (.bx .FloorDiv (.var 8) (.var 0)) (.cn (.cons (.int 0) (.cons (.bx .Sub (.var 1) (.int 1)) .nil)))))
 (.cb [11] (.c8 (.cons (.int 4) .nil))
 NI
 .skip)
 (.expr (.append (.var 4) (.cn (.cons (.bx .BitOr (.var 8) (.bx .LShift (.var 5) (.int 6))) (.cons (.var 10) .nil))))
 .skip)
 .skip)))))
section
variable{W:Wd}{n:Nat}{σ:Hp}{B:Bd}{c:Nat->Nat}{bq s t:Nat}
theorem KN{f r t:Nat}(i:1<=r):o9 σ .In (.int (t/f:Nat)) (.cn [.int 0,.int ((r:Int)-1)])=some (decide (t/f=0\/t/f=r-1)):=by
 show((some [0,(r:Int)-1]).map λl:List Int=>l.contains ((t/f:Nat):Int))=_
 rw[Option.map_some]
 congr 1
 rw[bj,bk]
 generalize t/f=x
 simp
 exact or_congr Iff.rfl ⟨λh=>Int.ofNat.inj (h.trans (zR i)),λh=>(ae Nat.cast h).trans (zR i).symm⟩
theorem ES(G:GF W)(hB:B.Ok)(hn:4<=n)(HT:jb W σ)(h:Wf B c bq)(C:kn B c bq s t)
  (hc:σ ca=some (.list w (bU B c))) (I:σ fa=some (.list true l)) (Rh:∀k,k=2\/k=3->W.gi.s6 k≠fa) (hl:l.length<=4000) (hM:hV σ fa B c bq l ms)
  (q:∀o ρ' bw J,o=.next\/o=.cont->bJ [some (.int B.F),some (.int B.R),some (.ref ca),some (.int bq),some (.ref fa),some (.int s),some (.bool (c s % 8==1)),some (.ref ga),none,none,none,none,none,none,none,none,none] ρ'->eD fa σ bw->bw fa=some (.list true J)->J.length<=l.length+4->
   hV bw fa B c bq J (ms++dQ B c bq s t)->Q o ρ' bw):
  AWS W n DF [some (.int B.F),some (.int B.R),some (.ref ca),some (.int bq),some (.ref fa),some (.int s),some (.bool (c s % 8==1)),some (.ref ga),some (.int t),x9,Rg,Qo,Qp,LI,LJ,LK,KJ] σ Q (λZ=>b7):=by
 have hN:=hB.cm
 have hs:=h.w0.cells.eS s C.c0.1
 have ht:=C.lt
 have NC:=h.sd
 ext
 refine⟨ca,_,cB hc,by rw[ml];lia,trivial,λy O=>?_⟩
 have U:∀{b:Addr}{o:AO},σ b=some o->b≠y:=λh e=>by rw[e,show σ y=none from O]at h;cases h
 have h1:(σ.set y (.list true (oo (bU B c) none none))) y=some (.list true (bU B c)):=br
 ext
 refine ex_cell h1 hB hs rfl ?_
 ext
 refine Av hB.cm (by lia) br rfl ?_
 rw[set_set]
 ext
 refine Av (p:=0) hB.cm hs br rfl ?_
 rw[set_set,ER C.ne]
 have X:eD fa σ (σ.set y (.list true (bU B (dK c s t (c s))))):=eD.of (Sub.set O)
 have V:=hM.sub X
 have H:(σ.set y (.list true (bU B (dK c s t (c s))))) fa=some (.list true l):=by rw[ct (U I),I]
 have Y:(σ.set y (.list true (bU B (dK c s t (c s))))) y=some (.list true (bU B (dK c s t (c s)))):=br
 have Vg:jb W (σ.set y (.list true (bU B (dK c s t (c s))))):=HT.sub (Sub.set O)
 generalize σ.set y (.list true (bU B (dK c s t (c s))))=j at*
 have W1:=(yg hB h.w0.toWf1 C.c0.1 C.lt C.ne (.inl rfl) (C.B7 hB h)).1
 ext
 refine o3 G hB (by omega) Vg Y W1 NC _ _ ?_
 have st:dQ B c bq s t=if cF B (dK c s t (c s)) bq then(if c s % 8=1/\(t/B.F=0\/t/B.F=B.R-1)then(List.range 4).map λf=>cy s t 1 f else[cy s t 0 0])else[]:=rfl
 cases hf:cF B (dK c s t (c s)) bq
 .rw[hf,ah (by simp)]at st
  first | refine⟨_,rfl,AWS.ifT rfl ?_⟩ | refine AWS.ifT rfl ?_
  ext
  refine q _ _ _ l (.inr rfl) ?_ X H (by lia) ?_
  .exact⟨rfl,rfl,rfl,rfl,rfl,rfl,rfl,rfl,trivial⟩
  .rw[st,aZ];exact V
 rw[hf,ag rfl]at st
 first | refine⟨_,rfl,AWS.ifF rfl ?_⟩ | refine AWS.ifF rfl ?_
 ext
 have L:¬(c s % 8=1/\(t/B.F=0\/t/B.F=B.R-1))->AWS W n (.expr (.append (.var 4) (.cn (.cons (.bx .BitOr (.var 8) (.bx .LShift (.var 5) (.int 6))) (.cons (.var 10) .nil)))) .skip)
   [some (.int B.F),some (.int B.R),some (.ref ca),some (.int bq),some (.ref fa),some (.int s),some (.bool (c s % 8==1)),some (.ref ga),some (.int t),x9,some (.ref y),Qo,Qp,LI,LJ,LK,KJ] j Q (λZ=>b7):=by
  intro hp
  rw[ah hp]at st
  ext
  refine⟨fa,_,cB H,?_⟩
  ext
  refine⟨by simp,l,H,by omega,trivial,?_⟩
  rw[HL s (by omega) t (by omega)]
  have nf:y≠fa:=(U I).symm
  refine AWS.skip (q _ _ _ (l++_) (.inl rfl) ?_ (X.trans eD.nE) br (by simp) ?_)
  .exact⟨rfl,rfl,rfl,rfl,rfl,rfl,rfl,rfl,trivial⟩
  rw[st]
  refine hV.snoc (hV.sub V eD.nE) nf ?_
  rw[ct nf,Y,rz hB hs ht (by omega) (by omega)]
  rfl
 have SG:(c s % 8=1/\(t/B.F=0\/t/B.F=B.R-1))->AWS W n (.cb [11] (.c8 (.cons (.int 4) .nil)) NI .skip)
   [some (.int B.F),some (.int B.R),some (.ref ca),some (.int bq),some (.ref fa),some (.int s),some (.bool (c s % 8==1)),some (.ref ga),some (.int t),x9,some (.ref y),Qo,Qp,LI,LJ,LK,KJ] j Q (λZ=>b7):=by
  intro hp
  rw[ag hp]at st
  refine AWS.fr b0.none ?_
  ext
  refine⟨_,rfl,bA (List.range 4),λi ρ' bw=>i<=4/\bJ [some (.int B.F),some (.int B.R),some (.ref ca),some (.int bq),some (.ref fa),some (.int s),some (.bool (c s % 8==1)),some (.ref ga),some (.int t),none,some (.ref y),none,none,none,none,none,none] ρ'/\eD fa j bw/\
   ∃J,bw fa=some (.list true J)/\J.length=l.length+i/\hV bw fa B c bq J (ms++(List.range i).map λf=>cy s t 1 f),cN (k:=4) (by omega),
   ⟨by omega,⟨rfl,rfl,rfl,rfl,rfl,rfl,rfl,rfl,rfl,rfl,trivial⟩,.refl _ _,l,H,rfl,by simpa using V⟩,λi ρ' bw KL=>?_⟩
  obtain⟨hi,hL,hX,J,e1,e2,e3⟩:=KL
  refine⟨cN (k:=4) (by omega),λe=>?_,λx hx=>?_⟩
  .rw[bR,aW]at e
   subst e
   refine AWS.skip (q _ _ _ J (.inl rfl) (bJ.trans ?_ hL) (X.trans hX) e1 (by lia) (by rw[st];exact e3))
   exact⟨rfl,rfl,rfl,rfl,rfl,rfl,rfl,rfl,trivial⟩
  .obtain⟨f,e4,rfl⟩:=bX hx
   obtain⟨rfl,TR⟩:=dq e4
   refine⟨_,rfl,?_⟩
   have Vh:=bJ.nE (i:=11) (v:=.int (f:Nat)) hL
   refine AWS.loose Vh (.refl _) ?_
   refine HN G hB hs ht TR NC e1 (by lia) (hX y _ (U I).symm Y) e3 λPt C3 SH g1 g2 g3 g4 g5=>?_
   exact⟨TR,g1,hX.trans g2,SH,g3,by lia,by rw[List.range_succ,List.map_append,<-List.append_assoc];exact g5⟩
 have out:∀{c:CS}{ρ:Loc},AWS W n c ρ j Q (λZ=>b7)->AWS W n c ρ j (λo ρ' bw=>match o with | .next=>AWS W n .skip ρ' bw Q (λZ=>b7) | o=>Q o ρ' bw) (λZ=>b7):=λh=>AWS.bK h λo ρ' bw z=>by
  cases o
  .exact AWS.skip z
  all_goals exact z
 by_cases hp:c s % 8=1
 .rw[show(c s % 8==1)=true from az.mpr hp]at L SG q ⊢
  rw[ag rfl]
  ext
  refine⟨by simp,_,dR.val (KN (by lia)),?_⟩
  cases D:decide (t/B.F=0\/t/B.F=B.R-1)
  .refine AWS.ifF rfl (out ?_)
   exact L λz=>by rw[decide_eq_false_iff_not]at D;exact D z.2
  .refine AWS.ifT rfl (out ?_)
   exact SG ⟨hp,aY D⟩
 .rw[show(c s % 8==1)=false from aE.mpr hp]at L SG q ⊢
  rw[ah (by simp)]
  refine AWS.ifF rfl (out ?_)
  exact L λz=>hp z.1
end
abbrev Qq:CE:=(.comp (.var 1) [1] (.var 7) (some (.or (.and (.sub (.var 2) (.var 1)) (.bM .NotEq (.bx .FloorDiv (.sub (.var 2) (.var 1)) (.int 8)) (.var 4))) (.and (.not (.sub (.var 2) (.var 1))) (.not (.var 3))))) [(2,2),(3,6),(4,3)] 5)
abbrev startT:CS:=(.bL 9 (.bx .Sub (.bx .Add (.var 5) (.var 0)) (.bx .Mult (.bx .Mult (.int 2) (.var 0)) (.var 3)))
 (.bS (.and (.var 6) (.bM .Eq (.sub (.var 2) (.var 9)) (.int 0)))
 (.expr (.append (.var 7) (.var 9))
 .skip)
 .skip
 (.cb [8] (.var 7)
 DF
 .skip)))
abbrev startB:CS:=(.bS (.and (.sub (.var 2) (.var 5)) (.bM .Eq (.bx .FloorDiv (.sub (.var 2) (.var 5)) (.int 8)) (.var 3)))
 (.bL 6 (.bM .Eq (.bx .Mod (.sub (.var 2) (.var 5)) (.int 8)) (.int 1))
 (.bL 7 (.call iW (.cons (.var 0) (.cons (.var 1) (.cons (.var 2) (.cons (.var 5) .nil)))))
 (.k9 7 Qq
 startT)))
 .skip
 .skip)
section
variable{W:Wd}{n:Nat}{σ:Hp}{B:Bd}{c:Nat->Nat}{bq s t:Nat}
theorem KO(hB:B.Ok)(h:t∈cA B c o):t<B.N:=by
 have y:∀(j dr:Int)(k:Nat)(f r:Int),t∈iO B j dr k f r->t<B.N:=by
  intro j dr k
  induction k with
  | zero=>intro f r h;cases h
  | succ k z=>
   intro f r h
   by_cases i:0<=f/\f<B.F/\0<=r/\r<B.R
   .rw[Au i]at h
    rcases a8.mp h with e | h
    .rw[e];exact(Dg hB i).1
    .exact z _ _ h
   .rw[wW i]at h;cases h
 obtain⟨w,_,h⟩:=bl.mp h
 exact y _ _ _ _ _ ((Aq c _ _).subset h)
theorem Cd(G:GF W)(hB:B.Ok)(hn:4<=n)(HT:jb W σ)(h:Wf B c bq)(J:c s≠0/\c s/8=bq){Q:f6->Loc->Hp->Prop}
  (hc:σ ca=some (.list w (bU B c))) (L:σ fa=some (.list true l)) (H:∀k,k=2\/k=3->W.gi.s6 k≠fa) (O:ca≠fa) (U:ga≠fa) (hl:l.length<=3000) (hM:hV σ fa B c bq l ms) (V:σ ga=some (.list true (bA (cz B c bq s)))) (Wg:(cz B c bq s).length<=40)
  (q:∀ρ' bw y,bJ [some (.int B.F),some (.int B.R),some (.ref ca),some (.int bq),some (.ref fa),none,none,none,none,none,none,none,none,none,none,none,none] ρ'->eD fa σ bw->bw fa=some (.list true y)->y.length<=l.length+160->
   hV bw fa B c bq y (ms++(cz B c bq s).flatMap λt=>dQ B c bq s t)->Q .next ρ' bw):
  AWS W n (.cb [8] (.var 7) DF .skip) [some (.int B.F),some (.int B.R),some (.ref ca),some (.int bq),some (.ref fa),some (.int s),some (.bool (c s % 8==1)),some (.ref ga),x8,x9,Rg,Qo,Qp,LI,LJ,LK,KJ] σ Q (λZ=>b7):=by
 refine AWS.fr b0.none ?_
 ext
 have it:∀bw,eD fa σ bw->bO bw (.ref ga)=some (bA (cz B c bq s)):=λbw z=>by unfold bO;dsimp only;rw[z ga _ U V]
 refine⟨bA (cz B c bq s),λi ρ' bw=>bJ [some (.int B.F),some (.int B.R),some (.ref ca),some (.int bq),some (.ref fa),some (.int s),some (.bool (c s % 8==1)),some (.ref ga),none,none,none,none,none,none,none,none,none] ρ'/\eD fa σ bw/\i<=(cz B c bq s).length/\
   ∃y,bw fa=some (.list true y)/\y.length<=l.length+4*i/\hV bw fa B c bq y (ms++((cz B c bq s).take i).flatMap λt=>dQ B c bq s t),it σ (.refl _ _),
   ⟨⟨rfl,rfl,rfl,rfl,rfl,rfl,rfl,rfl,trivial⟩,.refl _ _,Nat.zero_le _,l,L,Nat.le_refl _,by simpa using hM⟩,λi ρ' bw Y=>?_⟩
 obtain⟨hL,z,hi,y,e1,e2,e3⟩:=Y
 refine⟨it bw z,λe=>?_,λx hx=>?_⟩
 .rw[bR]at e
  subst e
  rw[aX]at e3
  refine AWS.skip (q _ _ y (bJ.trans ?_ hL) z e1 (by lia) e3)
  exact⟨rfl,rfl,rfl,rfl,rfl,trivial⟩
 .obtain⟨t,e4,rfl⟩:=bX hx
  have yw:=(aS.mp e4).1
  have own:sS c bq s=true:=by unfold sS;simp[J]
  have C:=(mY hB h.w0 h.sd own).mp (aD e4)
  refine⟨_,rfl,?_⟩
  refine AWS.loose (bJ.nE (i:=8) (v:=.int (t:Nat)) hL) (.refl _) ?_
  refine ES G hB hn (λk hk=>z _ _ (H k hk) (HT k hk)) h C (z ca _ O hc) e1 H (by lia) e3 λo D j I g0 g1 g2 g3 g4 g5=>?_
  have:bJ [some (.int B.F),some (.int B.R),some (.ref ca),some (.int bq),some (.ref fa),some (.int s),some (.bool (c s % 8==1)),some (.ref ga),none,none,none,none,none,none,none,none,none] D/\eD fa σ j/\i+1<=(cz B c bq s).length/\
   ∃y,j fa=some (.list true y)/\y.length<=l.length+4*(i+1)/\hV j fa B c bq y (ms++((cz B c bq s).take (i+1)).flatMap λt=>dQ B c bq s t):=
   ⟨g1,z.trans g2,yw,I,g3,by lia,by rw[u1 e4,<-List.append_assoc];exact g5⟩
  rcases g0 with rfl | rfl<;>exact this
theorem Ce(G:GF W)(hB:B.Ok)(hn:4<=n)(HT:jb W σ)(h:Wf B c bq)(hs:s<B.N){Q:f6->Loc->Hp->Prop}
  (hc:σ ca=some (.list w (bU B c))) (I:σ fa=some (.list true l)) (Rh:∀k,k=2\/k=3->W.gi.s6 k≠fa) (Vi:ca≠fa) (hl:l.length<=3000) (hM:hV σ fa B c bq l ms)
  (q:∀ρ' bw O,bJ [some (.int B.F),some (.int B.R),some (.ref ca),some (.int bq),some (.ref fa),none,none,none,none,none,none,none,none,none,none,none,none] ρ'->eD fa σ bw->bw fa=some (.list true O)->O.length<=l.length+160->
   hV bw fa B c bq O (ms++if c s≠0/\c s/8=bq then(cz B c bq s).flatMap λt=>dQ B c bq s t else[])->Q .next ρ' bw):
  AWS W n startB [some (.int B.F),some (.int B.R),some (.ref ca),some (.int bq),some (.ref fa),some (.int s),x6,x7,x8,x9,U,V,Y,LI,LJ,LK,KJ] σ Q (λZ=>b7):=by
 have hN:=hB.cm
 have NC:=h.sd
 have no:¬(c s≠0/\c s/8=bq)->∀{o:f6},Q .next [some (.int B.F),some (.int B.R),some (.ref ca),some (.int bq),some (.ref fa),some (.int s),x6,x7,x8,x9,U,V,Y,LI,LJ,LK,KJ] σ:=λe Z=>
  q _ σ l ⟨rfl,rfl,rfl,rfl,rfl,trivial⟩ (.refl _ _) I (by lia) (by rw[ah e,aZ];exact hM)
 ext
 refine bE (λy=>?_) (λy=>?_)
 rotate_left
 .have y:c s=0:=by have:=bo.mp y;lia
  refine AWS.ifF rfl (AWS.skip (AWS.skip (no (λz=>z.1 y) (o:=.next))))
 have y:c s≠0:=by have:=aP.mp y;lia
 ext
 refine AWS.split (λh1=>?_) (λh1=>?_)
 rotate_left
 .have h1:c s/8≠bq:=by have:=aE.mp h1;lia
  exact AWS.skip (AWS.skip (no (λz=>h1 z.2) (o:=.next)))
 have h1:c s/8=bq:=by have:=az.mp h1;omega
 ext
 have Vj:=h.w0.cells.pc s y
 have eb:(((c s % 8:Nat):Int)==1)=(c s % 8==1):=by rw[bj,az,az];exact Int.ofNat_inj (n:=1)
 rw[eb]
 refine u3 G hB (by omega) HT hc hs Vj _ _ λga J=>?_
 have Vk:∀{b:Addr}{o:AO},σ b=some o->b≠ga:=λh e=>by rw[e,show σ ga=none from J]at h;cases h
 try refine AWS.norm (by dsimp only[Lake.setL]) ?_
 refine Cc G hB (w:=w) (c:=c) (by rw[ct (Vk hc),hc]) br (by have:=r8 B c s;omega) (λt ht=>KO hB ht) λD hD=>?_
 have X1:Sub σ ((σ.set ga (.list true (bA (cA B c s)))).set D (.list true (bA ((cA B c s).filter λt=>(c t != 0&&c t/8 != bq)||(c t==0&& !(c s % 8==1)))))):=(Sub.set J).trans (Sub.set hD)
 have L:σ D=none:=qd (Sub.set J) hD
 have nD:D≠fa:=λe=>by rw[e,I]at L;cases L
 have gl:cz B c bq s=((cA B c s).filter λt=>(c t != 0&&c t/8 != bq)||(c t==0&& !(c s % 8==1)))++(if c s % 8=1/\c (gD B bq s)=0 then[gD B bq s]else[]):=rfl
 have fl:((cA B c s).filter λt=>(c t != 0&&c t/8 != bq)||(c t==0&& !(c s % 8==1))).length<=32:=ai (List.length_filter_le _ _) (r8 B c s)
 have SI:(cz B c bq s).length<=40:=by
  rw[gl,bh]
  have:(if c s % 8=1/\c (gD B bq s)=0 then[gD B bq s]else[]).length<=1:=by split<;>simp
  omega
 have H:((σ.set ga (.list true (bA (cA B c s)))).set D (.list true (bA ((cA B c s).filter λt=>(c t != 0&&c t/8 != bq)||(c t==0&& !(c s % 8==1)))))) D=some (.list true (bA ((cA B c s).filter λt=>(c t != 0&&c t/8 != bq)||(c t==0&& !(c s % 8==1))))):=br
 generalize((cA B c s).filter λt=>(c t != 0&&c t/8 != bq)||(c t==0&& !(c s % 8==1)))=fi at*
 generalize(σ.set ga (.list true (bA (cA B c s)))).set D (.list true (bA fi))=C3 at*
 have j:∀i{x9:Option AV},Sub σ i->i D=some (.list true (bA (cz B c bq s)))->AWS W n (.cb [8] (.var 7) DF .skip) [some (.int B.F),some (.int B.R),some (.ref ca),some (.int bq),some (.ref fa),some (.int s),some (.bool (c s % 8==1)),some (.ref D),x8,x9,U,V,Y,LI,LJ,LK,KJ] i
   (λo ρ' bw=>match o with | .next=>AWS W n .skip ρ' bw Q (λZ=>b7) | o=>Q o ρ' bw) (λZ=>b7):=by
  intro i x9 hX e
  refine Cd G hB hn (HT.sub hX) h ⟨y,h1⟩ (hX _ _ hc) (hX _ _ I) Rh Vi nD hl (hM.sub (eD.of hX)) e SI λρ' bw O g1 g2 g3 g4 g5=>AWS.skip (q ρ' bw O g1 ((eD.of hX).trans g2) g3 g4 ?_)
  rw[ag ⟨y,h1⟩];exact g5
 have Vl:=X1 _ _ hc
 ext
 by_cases hp:c s % 8=1
 .have ep:(c s % 8==1)=true:=az.mpr hp
  obtain⟨b1,b2⟩:=h.w0.pawn s hp
  have a1:=(An hB NC hs b1 b2).1
  have e9:(s:Int)+(B.F:Int)-2*(B.F:Int)*(bq:Int)=((gD B bq s:Nat):Int):=by
   unfold gD
   have hge:B.F<=s:=by
    rcases ay s B.F with z | z
    .rw[Nat.div_eq_of_lt z]at b1;lia
    .exact z
   rcases(show bq=0\/bq=1 by omega)with rfl | rfl
   .simp
   .simp;lia
  rw[ep]at j ⊢
  rw[ag rfl]
  ext
  refine ex_cell Vl hB a1 e9 ?_
  ext
  refine AWS.split (λh3=>?_) (λh3=>?_)
  .have h3:c (gD B bq s)=0:=by have:=az.mp h3;lia
   ext
   refine⟨D,_,cB H,?_⟩
   ext
   refine⟨_,H,by rw[bR];omega,trivial,?_⟩
   refine AWS.skip (j _ (yj X1 L) ?_)
   rw[br,e9,wR,gl,ag ⟨hp,h3⟩]
  .have h3:c (gD B bq s)≠0:=by have:=aE.mp h3;lia
   refine AWS.skip (j _ X1 ?_)
   rw[H,gl,ah (λz=>h3 z.2),aZ]
 .have ep:(c s % 8==1)=false:=aE.mpr hp
  rw[ep]at j ⊢
  rw[ah (by simp)]
  refine AWS.ifF rfl (AWS.skip (j _ X1 ?_))
  rw[H,gl,ah (λz=>hp z.1),aZ]
end
section
variable{W:Wd}{n:Nat}{σ:Hp}{B:Bd}{c:Nat->Nat}{bq s t:Nat}
def SJ(σ:Hp)(B:Bd)(c:Nat->Nat)(bq:Nat)(v:AV)(bw:Hp):Prop:=∃a l,v=.ref a/\σ a=none/\Sub σ bw/\bw a=some (.list true l)/\l.length<=1920/\hV bw a B c bq l (i8 B c bq)
theorem jw(G:GF W)(hB:B.Ok)(hn:5<=n)(L:jb W σ)(h:Wf B c bq)(hc:σ ca=some (.list w (bU B c))):
  EP W n dy [.int B.F,.int B.R,.ref ca,.int bq] σ (SJ σ B c bq):=by
 refine EP.body G xJ rfl (by omega) ?_
 unfold rW
 have hN:=hB.cm
 ext
 refine⟨oc rfl,λfa j=>?_⟩
 have z:∀{b:Addr}{o:AO},σ b=some o->b≠fa:=λh e=>by rw[e,show σ fa=none from j]at h;cases h
 ext
 refine AWS.fr b0.none ?_
 ext
 refine⟨_,NH hB (w:=w) (c:=c) (by rw[ct (z hc),hc]),?_⟩
 ext
 refine⟨_,rfl,bA (List.range B.N),λi ρ' bw=>i<=B.N/\bJ [some (.int B.F),some (.int B.R),some (.ref ca),some (.int bq),some (.ref fa),none,none,none,none,none,none,none,none,none,none,none,none] ρ'/\Sub σ bw/\
   ∃l,bw fa=some (.list true l)/\l.length<=160*i/\hV bw fa B c bq l ((List.range i).flatMap λs=>if c s≠0/\c s/8=bq then(cz B c bq s).flatMap λt=>dQ B c bq s t else[]),cN (by omega),
   ⟨by omega,⟨rfl,rfl,rfl,rfl,rfl,trivial⟩,Sub.set j,[],br,by simp,.nil⟩,λi ρ' bw H=>?_⟩
 obtain⟨hi,O,D,l,e1,e2,e3⟩:=H
 refine⟨cN (by lia),λe=>?_,λx hx=>?_⟩
 .rw[bR,aW]at e
  subst e
  refine AWS.ret (AWE.var (O.get rfl) ⟨fa,l,rfl,j,D,e1,by lia,e3⟩)
 .obtain⟨s,U,rfl⟩:=bX hx
  obtain⟨rfl,hs⟩:=dq U
  refine⟨_,rfl,AWS.loose (bJ.nE (i:=5) (v:=.int (s:Nat)) O) (.refl _) ?_⟩
  refine Ce G hB (by omega) (L.sub D) h hs (D _ _ hc) e1 (λk hk=>z (L k hk)) (z hc) (by lia) e3 λI J y g1 V Y g4 g5=>?_
  refine⟨hs,g1,λb x hb=>V b x (z hb) (D b x hb),y,Y,by lia,?_⟩
  rw[List.range_succ,List.flatMap_append,List.flatMap_cons,List.flatMap_nil,aZ]
  exact g5
end
section
variable{W:Wd}{n:Nat}{σ:Hp}{B:Bd}{c:Nat->Nat}{bq s t:Nat}
theorem KP(hB:B.Ok)(h:Wf B c bq)(f:Nat->Bool):(bI B c bq).any f=(i8 B c bq).any f:=by
 rw[bj,aU,aU]
 exact⟨λi=>by obtain⟨m,h1,h2⟩:=i;exact⟨m,(hU hB h).mpr h1,h2⟩,λi=>by obtain⟨m,h1,h2⟩:=i;exact⟨m,(hU hB h).mp h1,h2⟩⟩
theorem KQ(hB:B.Ok)(h:Wf B c bq)(f:Nat->Bool):(bI B c bq).all f=(i8 B c bq).all f:=by
 rw[bj,aM,aM]
 exact⟨λq m hm=>q m ((hU hB h).mp hm),λq m hm=>q m ((hU hB h).mpr hm)⟩
theorem DG(hB:B.Ok)(h:Wf B c bq):(bI B c bq).length=0↔i8 B c bq=[]:=by
 rw[List.length_eq_zero_iff,List.eq_nil_iff_forall_not_mem,List.eq_nil_iff_forall_not_mem]
 exact⟨λq m hm=>q m ((hU hB h).mp hm),λq m hm=>q m ((hU hB h).mpr hm)⟩
theorem jI(hB:B.Ok)(h:Wf B c bq):dj B 0 c bq=(!cF B c bq&&(i8 B c bq).isEmpty):=by
 have h1:=DD hB h
 have h2:=DG hB h
 rw[List.length_eq_zero_iff]at h2
 show(u9 B c bq&& !sE B c bq (kq c bq))=_
 rw[Ad hB h.w0.toWf1 h.sd,Bool.not_not]
 congr 1
 rw[bj,List.isEmpty_iff,<-h2,bc,<-Bool.not_eq_true,h1]
 exact Classical.not_not
theorem jJ(hB:B.Ok)(h:Wf B c bq)(k:Nat):dj B (k+1) c bq=if i8 B c bq=[]then !cF B c bq else(i8 B c bq).all λr=>gx B (k+1) (bH c bq r) (1-bq):=by
 have h2:=DG hB h
 show(if(bI B c bq).length=0 then u9 B c bq else(bI B c bq).all λr=>sG B (dj B k) (bH c bq r) (1-bq))=_
 rw[Ad hB h.w0.toWf1 h.sd,Bool.not_not,KQ hB h]
 by_cases e:i8 B c bq=[]
 .rw[ag e,ag (h2.mpr e)]
 .rw[ah e,ah (λz=>e (h2.mp z))];rfl
theorem ql(hB:B.Ok)(h:Wf B c bq)(k:Nat):gx B (k+1) c bq=(i8 B c bq).any λm=>dj B k (bH c bq m) (1-bq):=KP hB h _
theorem hV.wf(hB:B.Ok)(h:Wf B c bq)(hm:m∈i8 B c bq):Wf B (bH c bq m) (1-bq):=(qk hB h ((hU hB h).mp hm)).1
abbrev Qr:CS:=(.bL 6 (.call dy (.cons (.var 0) (.cons (.var 1) (.cons (.var 2) (.cons (.var 3) .nil)))))
 (.bS (.bM .Eq (.var 6) (.cI .nil))
 (.ret (.var 5))
 .skip
 (.bS (.bM .Eq (.var 4) (.int 0))
 (.ret (.bool false))
 .skip
 (.cb [7,8] (.var 6)
 (.bS (.not (.call fT (.cons (.var 0) (.cons (.var 1) (.cons (.var 8) (.cons (.bx .Sub (.int 1) (.var 3)) (.cons (.var 4) .nil)))))))
 (.ret (.bool false))
 .skip
 .skip)
 (.ret (.bool true))))))
def Cf(W:Wd)(B:Bd)(m:Nat):Prop:=∀(n:Nat)(σ:Hp)(ca:Addr)(w:Bool)(c:Nat->Nat)(bq:Nat),6+2*m<=n->jb W σ->Wf B c bq->σ ca=some (.list w (bU B c))->Pure W n fT [.int B.F,.int B.R,.ref ca,.int bq,.int (m:Nat)] σ (.bool (gx B m c bq))
def HO(W:Wd)(B:Bd)(m:Nat):Prop:=∀(n:Nat)(σ:Hp)(ca:Addr)(w:Bool)(c:Nat->Nat)(bq:Nat),7+2*m<=n->jb W σ->Wf B c bq->σ ca=some (.list w (bU B c))->Pure W n kz [.int B.F,.int B.R,.ref ca,.int bq,.int (m:Nat)] σ (.bool (dj B m c bq))
theorem Cg(G:GF W)(hB:B.Ok)(hl:HO W B m):Cf W B (m+1):=by
 intro n σ ca w c bq L D h hc
 refine cu.body G xK rfl (by omega) ?_
 unfold rX
 have y:=h.sd
 refine AWS.fi b0.none ?_
 ext
 refine jw G hB (by lia) D h hc _ _ λv bw S=>?_
 obtain⟨a,l,rfl,O,z,e1,e2,H⟩:=S
 refine⟨l,λZ=>[some (.int B.F),some (.int B.R),some (.ref ca),some (.int bq),some (.int ((m+1:Nat):Int)),none,none,none,none],λZ=>bw,λi=>((i8 B c bq).take i).any (λI=>dj B m (bH c bq I) (1-bq))=false,rfl,
  λZ Z=>by unfold bO;dsimp only;rw[e1],by unfold bO;dsimp only;rw[e1],⟨rfl,rfl,rfl,rfl,rfl,trivial⟩,.refl _,λhh=>?_,λi x hi hh hx=>?_⟩
 .rw[H.length,aX]at hh
  ext
  refine⟨ae AV.bool ?_,z⟩
  rw[ql hB h,hh]
 .obtain⟨mv,e3,b,U,rfl,J⟩:=H.AL hx
  refine⟨_,rfl,?_⟩
  try dsimp only
  ext
  rw[one_sub y,show((m+1:Nat):Int)-1=(m:Int)by lia]
  have j:=aD e3
  refine hl (n-1) bw b true _ _ (by lia) (D.sub z) (hV.wf hB h j) J _ _ ?_
  ext
  refine AWS.split (λh3=>?_) (λh3=>?_)
  .ext
   refine⟨ae AV.bool ?_,z⟩
   rw[ql hB h]
   symm
   exact aU.mpr ⟨mv,j,h3⟩
  .ext
   refine⟨?_,⟨rfl,rfl,rfl,rfl,rfl,trivial⟩,.refl _⟩
   rw[List.take_add_one,e3,List.any_append,hh]
   simp[h3]
theorem n7(G:GF W)(hB:B.Ok)(hl:1<=m->Cf W B m):HO W B m:=by
 intro n σ ca w c bq Y L h hc
 refine cu.body G zj rfl (by lia) ?_
 unfold uh
 have H:=h.sd
 ext
 refine o3 G hB (by omega) L hc h.w0.toWf1 H _ _ ?_
 have tail:(m=0->cF B c bq=false)->AWS W (n-1) Qr [some (.int B.F),some (.int B.R),some (.ref ca),some (.int bq),some (.int (m:Nat)),some (.bool (!cF B c bq)),none,none,none,none,none,none] σ
   (λo Z I=>Fin (.bool (dj B m c bq)) σ o I) (λZ=>b7):=by
  intro h0
  ext
  refine jw G hB (by omega) L h hc _ _ λv bw S=>?_
  obtain⟨a,l,rfl,ha,O,e1,e2,J⟩:=S
  ext
  refine⟨oc rfl,λb hb=>?_⟩
  have nb:a≠b:=λe=>by rw[e,show bw b=none from hb]at e1;cases e1
  have y:(bw.set b (.list true [])) a=some (.list true l):=by rw[ct nb,e1]
  have j:Sub σ (bw.set b (.list true [])):=O.trans (Sub.set hb)
  by_cases e:i8 B c bq=[]
  .have el:l=[]:=List.eq_nil_of_length_eq_zero (by rw[J.length,e];rfl)
   subst el
   refine⟨true,dR.eq (nc.cI 8 a b true true [] [] (λZ=>false) y br rfl (λk a b h=>by simp at h)),AWS.ifT rfl ?_⟩
   ext
   refine⟨ae AV.bool ?_,j⟩
   cases m with
   | zero=>rw[jI hB h,e];simp
   | succ k=>rw[jJ hB h,ag e]
  .have el:l.length≠([]:List AV).length:=λz=>e (List.eq_nil_of_length_eq_zero (by rw[<-J.length,z];rfl))
   refine⟨false,dR.eq (nc.len 8 a b true true l [] y br el),AWS.ifF rfl ?_⟩
   ext
   refine AWS.split (λh1=>?_) (λh1=>?_)
   .have h1:m=0:=by have:=az.mp h1;lia
    subst h1
    ext
    refine⟨ae AV.bool ?_,j⟩
    rw[jI hB h]
    cases el:i8 B c bq with
    | nil=>exact absurd el e
    | cons x r=>simp
   .have h1:m≠0:=by have:=aE.mp h1;lia
    obtain⟨k,rfl⟩:∃k,m=k+1:=⟨m-1,by lia⟩
    ext
    refine AWS.fi b0.none ?_
    ext
    refine⟨l,λZ=>[some (.int B.F),some (.int B.R),some (.ref ca),some (.int bq),some (.int ((k+1:Nat):Int)),none,none,none,none,none,none,none],λZ=>bw.set b (.list true []),λi=>((i8 B c bq).take i).all (λr=>gx B (k+1) (bH c bq r) (1-bq))=true,rfl,
     λZ Z=>by unfold bO;dsimp only;rw[y],by unfold bO;dsimp only;rw[y],⟨rfl,rfl,rfl,rfl,rfl,trivial⟩,.refl _,λhh=>?_,λi x hi hh hx=>?_⟩
    .rw[J.length,aX]at hh
     ext
     refine⟨ae AV.bool ?_,j⟩
     rw[jJ hB h,ah e,hh]
    .obtain⟨mv,e3,U,b1,rfl,V⟩:=J.AL hx
     refine⟨_,rfl,?_⟩
     try dsimp only
     ext
     rw[one_sub H]
     have D:=aD e3
     refine hl (by omega) (n-1) _ U true _ _ (by lia) (L.sub j) (hV.wf hB h D) (Sub.set hb _ _ V) _ _ ?_
     cases h3:gx B (k+1) (bH c bq mv) (1-bq)
     .refine AWS.ifT rfl ?_
      ext
      refine⟨ae AV.bool ?_,j⟩
      rw[jJ hB h,ah e]
      symm
      exact List.all_eq_false.mpr ⟨mv,D,by rw[h3];simp⟩
     .refine AWS.ifF rfl ?_
      ext
      refine⟨?_,⟨rfl,rfl,rfl,rfl,rfl,trivial⟩,.refl _⟩
      rw[List.take_add_one,e3,List.all_append,hh]
      simp[h3]
 ext
 refine bE (λh1=>?_) (λh1=>?_)
 .have h1:m=0:=by have:=az.mp h1;lia
  subst h1
  ext
  cases hf:cF B c bq
  .rw[hf]at tail
   refine AWS.ifF rfl (AWS.skip (tail λZ=>rfl))
  .refine AWS.ifT rfl ?_
   ext
   refine⟨ae AV.bool ?_,.refl _⟩
   rw[jI hB h,hf];rfl
 .have h1:m≠0:=by have:=aE.mp h1;lia
  refine AWS.ifF rfl (AWS.skip (tail λz=>absurd z h1))
theorem u5(G:GF W)(hB:B.Ok)(m:Nat):(1<=m->Cf W B m)/\HO W B m:=by
 induction m with
 | zero=>exact⟨λh=>absurd h (Nat.not_succ_le_zero 0),n7 G hB λh=>absurd h (Nat.not_succ_le_zero 0)⟩
 | succ m i=>
  have h:=Cg G hB i.2
  exact⟨λZ=>h,n7 G hB λZ=>h⟩
end
section
variable{W:Wd}{n:Nat}{σ:Hp}{B:Bd}{c:Nat->Nat}{bq s t:Nat}
theorem HP(l:List Nat)(c:Nat->Nat)(bq:Nat)(hs:bq<2):(i7 c bq l).2=if l.length % 2=0 then bq else 1-bq:=by
 induction l generalizing c bq with
 | nil=>rfl
 | cons m l i=>
  show(i7 (bH c bq m) (1-bq) l).2=_
  rw[i _ _ (sl hs),List.length_cons]
  by_cases e:l.length % 2=0
  .rw[ag e,ah (pe e)]
  .rw[ah e,ag (po e)];exact ss hs
def HQ(B:Bd)(c:Nat->Nat)(bq k:Nat)(l:List Nat):Prop:=∀i m,l[i]? =some m->m∈bI B (i7 c bq (l.take i)).1 (i7 c bq (l.take i)).2/\
 (i % 2=0->dj B (k-i/2) (i7 c bq (l.take (i+1))).1 (i7 c bq (l.take (i+1))).2=true)
theorem HR(hB:B.Ok)(h:Wf B c bq){l:List Nat}(ok:∀i m,l[i]? =some m->m∈bI B (i7 c bq (l.take i)).1 (i7 c bq (l.take i)).2)(i:Nat)(hi:i<=l.length):Wf B (i7 c bq (l.take i)).1 (i7 c bq (l.take i)).2:=by
 induction i with
 | zero=>exact h
 | succ i j=>
  have j:=j (Nat.le_of_lt hi)
  have e:l[i]? =some l[i]:=aJ hi
  have hm:=ok i _ e
  rw[take_snoc e,uS]
  exact(qk hB j hm).1
theorem Ci{l:List Nat}(i:l.Nodup)(hm:m∈l):l.filter (λx=>x==m)=[m]:=by
 induction l with
 | nil=>cases hm
 | cons a r j=>
  have i:=List.nodup_cons.mp i
  by_cases e:a=m
  .subst e
   rw[List.filter_cons_of_pos (by simp)]
   congr 1
   refine List.filter_eq_nil_iff.mpr λx hx z=>i.1 ?_
   rw[<-az.mp z];exact hx
  .rw[List.filter_cons_of_neg (by simpa using e)]
   exact j i.2 ((a8.mp hm).resolve_left (Ne.symm e))
abbrev NJ:CE:=(.comp (.var 2) [1,2] (.call dy (.cons (.var 0) (.cons (.var 1) (.cons (.var 2) (.cons (.var 6) .nil))))) (some (.bM .Eq (.var 1) (.sub (.var 4) (.var 3)))) [(3,7),(4,5)] 5)
theorem Cj(G:GF W)(hB:B.Ok)(hn:5<=n)(HT:jb W σ)(h:Wf B c bq)
  (hc:σ ca=some (.list w (bU B c))) (H:σ ta=some (.list true (bA l))) (hl:l.length<=1000) (hm:l[i]? =some m) (L:m∈i8 B c bq)
  (q:∀D b bw,Sub σ bw->bw D=some (.list true [.ref b])->bw b=some (.list true (bU B (bH c bq m)))->AWS W n k [some (.int B.F),some (.int B.R),some (.ref ca),x3,x4,some (.ref ta),some (.int bq),some (.int (i:Nat)),some (.ref D),x9,O,U,V] bw Q (λZ=>b7)):
  AWS W n (.k9 8 NJ k) [some (.int B.F),some (.int B.R),some (.ref ca),x3,x4,some (.ref ta),some (.int bq),some (.int (i:Nat)),x8,x9,O,U,V] σ Q (λZ=>b7):=by
 refine AWS.k9 (by decide) (λsc e h=>by first | exact tl h | exact pa h | exact pb h | exact qv h) ?_
 ext
 refine jw G hB hn HT h hc _ _ λv bw S=>?_
 obtain⟨a,l',rfl,ha,Y,e1,e2,hM⟩:=S
 refine⟨l',by unfold bO;dsimp only;rw[e1],λD hD=>?_⟩
 have I:dZ bw D:=hD
 have nD:∀{b:Addr}{o:AO},bw b=some o->b≠D:=λh e=>by rw[e,I]at h;cases h
 refine⟨λj out ρ' y=>j<=l'.length/\y=bw.set D (.list true out)/\bJ [none,none,none,some (.int (i:Nat)),some (.ref ta)] ρ'/\
   cP (λ(av:AV)(x:Nat)=>∃b,av=.ref b/\bw b=some (.list true (bU B (bH c bq x)))) out (((i8 B c bq).take j).filter λx=>x==m),
  ⟨Nat.zero_le _,rfl,⟨rfl,rfl,trivial⟩,.nil⟩,λj out ρ' y KL=>?_⟩
 obtain⟨hj,hs,hL,hA⟩:=KL
 refine⟨?_,?_,?_,λe=>?_,λx hx=>?_⟩
 .subst hs;unfold bO;dsimp only;rw[ct (nD e1),e1]
 .subst hs;exact br
 .have:=hA.length
  have h2:=List.length_filter_le (λx=>x==m) ((i8 B c bq).take j)
  rw[List.length_take,<-hM.length]at h2
  exact ai (aw this) (ai h2 (ai (Nat.min_le_right _ _) (ai (m:=1920) (by assumption) (by decide))))
 .rw[e,hM.length,aX,Ci (Ca hB h.w0 h.sd) L]at hA
  subst hs
  cases hA with
  | cons hb z=>
   cases z
   obtain⟨b,rfl,hb⟩:=hb
   exact q D b _ (Y.trans (Sub.set I)) br (by rw[ct (nD hb),hb])
 .obtain⟨mv,e3,b,b1,rfl,b2⟩:=hM.AL hx
  have J:=(aS.mp hx).1
  refine⟨_,rfl,?_⟩
  have z:bJ [none,some (.int (mv:Nat)),some (.ref b),some (.int (i:Nat)),some (.ref ta)] (setTs ρ' [1,2] [.int (mv:Nat),.ref b]):=bJ.nE (i:=2) (bJ.nE (i:=1) hL)
  have hw:bJ [none,none,none,some (.int (i:Nat)),some (.ref ta)] (setTs ρ' [1,2] [.int (mv:Nat),.ref b]):=bJ.free (i:=2) (bJ.free (i:=1) hL rfl) rfl
  subst hs
  have Vm:(bw.set D (.list true out)) ta=some (.list true (bA l)):=by rw[ct (nD (Y _ _ H)),Y _ _ H]
  have tk:((i8 B c bq).take (j+1)).filter (λx=>x==m)=((i8 B c bq).take j).filter (λx=>x==m)++(if(mv==m)=true then[mv]else[]):=by rw[fw e3]
  unfold px
  try dsimp only
  refine AWT.bM (AWE.var (z.get rfl) (AWE.sub (AWE.var (z.get rfl) (AWE.var (z.get rfl) ⟨.int (m:Nat),?_,_,dR.val rfl,?_⟩))))
  .have NS:=(aS.mp hm).1
   unfold cw jQ
   try dsimp only
   rw[Vm]
   try dsimp only
   rw[ag (by lia),a9]
   unfold bA
   rw[aF,hm];rfl
  .by_cases e:mv=m
   .subst e
    rw[ag (by simp)]
    refine AWE.var (z.get rfl) ⟨br,J,by rw[set_set],hw,?_⟩
    rw[tk,ag (by simp)]
    exact cP.append hA (.cons ⟨b,rfl,b2⟩ .nil)
   .have:((mv:Int)==(m:Int))=false:=aE.mpr (by lia)
    rw[this,ah (by simp)]
    refine⟨J,rfl,hw,?_⟩
    rw[tk,ah (by simpa using e),aZ]
    exact hA
end
section
variable{W:Wd}{n:Nat}{σ:Hp}{B:Bd}{c:Nat->Nat}{bq s t:Nat}
theorem Aw(h:σ a=some (.list w (bA l)))(hl:l.length<=90000):lg σ (.ref a)=some (l.length:Int):=by
 unfold lg
 try dsimp only
 rw[h]
 try dsimp only
 rw[bR,ag (by omega)]
theorem yl(G:GF W)(j:1<=n)(i:σ ta=some (.list true [])):
  Pure W n fU [F,R,.ref ca,.int bq,.int 0,.ref ta] σ (.bool true):=by
 refine cu.body G pZ rfl (by omega) ?_
 unfold lS
 ext
 try refine AWS.ifT rfl ?_
 ext
 refine⟨oc rfl,λb hb=>?_⟩
 have nb:ta≠b:=λe=>by rw[e,show σ b=none from hb]at i;cases i
 refine⟨true,dR.eq (nc.cI 8 ta b true true [] [] (λZ=>false) (by rw[ct nb,i]) br rfl (λk a b h=>by simp at h)),rfl,Sub.set hb⟩
theorem ym(G:GF W)(hB:B.Ok)(HT:jb W σ)(h:Wf B c bq)(hn:9+2*k<=n)(hk:k<=100)(hc:σ ca=some (.list w (bU B c)))(I:σ ta=some (.list true (bA l)))(hl:l.length=2*k+1)(H:HQ B c bq k l):
  Pure W n fU [.int B.F,.int B.R,.ref ca,.int bq,.int ((k+1:Nat):Int),.ref ta] σ (.bool true):=by
 refine cu.body G pZ rfl (by lia) ?_
 unfold lS
 have V:=h.sd
 have wf:=HR hB h λi m e=>(H i m e).1
 ext
 refine AWS.ifF (aE.mpr (by lia)) ?_
 ext
 refine⟨_,Aw I (by lia),?_⟩
 ext
 refine AWS.ifF (bo.mpr (by lia)) ?_
 ext
 refine AWS.fr b0.none ?_
 ext
 refine⟨_,Aw I (by lia),?_⟩
 ext
 refine⟨_,rfl,bA (List.range l.length),λi ρ' bw=>i<=l.length/\∃y w',bJ [some (.int B.F),some (.int B.R),some (.ref y),some (.int bq),some (.int ((k+1:Nat):Int)),some (.ref ta),some (.int ((i7 c bq (l.take i)).2:Nat)),none,none,none,none,none,none] ρ'/\Sub σ bw/\
   bw y=some (.list w' (bU B (i7 c bq (l.take i)).1)),cN (by lia),⟨by omega,ca,w,?_,.refl _,hc⟩,λi ρ' bw KL=>?_⟩
 .exact⟨rfl,rfl,rfl,rfl,rfl,rfl,rfl,trivial⟩
 obtain⟨hi,y,w',hL,U,SE⟩:=KL
 refine⟨cN (by lia),λe=>?_,λx hx=>?_⟩
 .ext
  exact⟨rfl,U⟩
 .obtain⟨s,e1,rfl⟩:=bX hx
  obtain⟨rfl,hs⟩:=dq e1
  have e2:l[s]? =some l[s]:=aJ hs
  obtain⟨hm,Ti⟩:=H s _ e2
  have hw:=wf s (Nat.le_of_lt hs)
  have ea:i7 c bq (l.take (s+1))=(bH (i7 c bq (l.take s)).1 (i7 c bq (l.take s)).2 l[s],1-(i7 c bq (l.take s)).2):=by
   rw[List.take_add_one,e2]
   show i7 c bq (l.take s++[l[s]])=_
   rw[uS]
  have Vn:=wf (s+1) hs
  refine⟨_,rfl,AWS.loose (bJ.nE (i:=7) (v:=.int (s:Nat)) hL) (.refl _) ?_⟩
  refine AWS.norm (ρ':=[some (.int B.F),some (.int B.R),some (.ref y),some (.int bq),some (.int ((k+1:Nat):Int)),some (.ref ta),some (.int ((i7 c bq (l.take s)).2:Nat)),some (.int (s:Nat)),none,none,none,none,none]) rfl ?_
  refine Cj G hB (by omega) (HT.sub U) hw SE (U _ _ I) (by lia) e2 ((hU hB hw).mpr hm) λD b z J hD hb=>?_
  ext
  refine⟨1,by unfold lg;dsimp only;rw[hD];rfl,?_⟩
  ext
  try refine AWS.ifF rfl ?_
  ext
  refine⟨.ref b,by unfold cw;dsimp only;rw[hD];rfl,?_⟩
  ext
  have Y:=hw.sd
  rw[one_sub Y]
  have L:z b=some (.list true (bU B (i7 c bq (l.take (s+1))).1)):=by rw[ea];exact hb
  have et:1-(i7 c bq (l.take s)).2=(i7 c bq (l.take (s+1))).2:=by rw[ea]
  rw[et]
  have es:=HP (l.take (s+1)) c bq V
  rw[List.length_take,Nat.min_eq_left (Nat.succ_le_of_lt hs)]at es
  have fin:∀{j:Hp}{x8:Option AV},Sub σ j->j b=some (.list true (bU B (i7 c bq (l.take (s+1))).1))->s+1<=l.length/\∃y w',bJ [some (.int B.F),some (.int B.R),some (.ref y),some (.int bq),some (.int ((k+1:Nat):Int)),some (.ref ta),some (.int ((i7 c bq (l.take (s+1))).2:Nat)),none,none,none,none,none,none]
    [some (.int B.F),some (.int B.R),some (.ref b),some (.int bq),some (.int ((k+1:Nat):Int)),some (.ref ta),some (.int ((i7 c bq (l.take (s+1))).2:Nat)),some (.int (s:Nat)),x8,none,none,none,none]/\Sub σ j/\j y=some (.list w' (bU B (i7 c bq (l.take (s+1))).1)):=
   λh1 h2=>⟨hs,b,true,⟨rfl,rfl,rfl,rfl,rfl,rfl,rfl,trivial⟩,h1,h2⟩
  by_cases he:s % 2=0
  .rw[ah (pe he)]at es
   have O:((((i7 c bq (l.take (s+1))).2:Nat):Int) != (bq:Int))=true:=aP.mpr λe=>sn V (es.symm.trans (Int.ofNat.inj e))
   rw[O,ag rfl]
   ext
   have e5:((k+1:Nat):Int)-1-((s/2:Nat):Int)=((k-s/2:Nat):Int):=by rw[Int.natCast_succ,Int.add_sub_cancel,Int.ofNat_sub (Nat.div_le_of_le_mul (Nat.le_of_lt_succ (Nat.lt_of_lt_of_eq hs hl)))]
   rw[e5]
   refine(u5 G hB (k-s/2)).2 (n-1) z b true _ _ (Lake.or' (ai (Nat.add_le_add_left (Nat.mul_le_mul_left 2 (Nat.sub_le k (s/2))) 9) hn) rfl) (HT.sub (U.trans J)) Vn L _ _ ?_
   rw[Ti he]
   first | refine⟨_,rfl,AWS.ifF rfl ?_⟩ | refine AWS.ifF rfl ?_
   ext
   exact fin (U.trans J) L
  .rw[ag (po he)]at es
   have O:((((i7 c bq (l.take (s+1))).2:Nat):Int) != (bq:Int))=false:=by rw[es];simp
   rw[O,ah (by simp)]
   try refine AWS.ifF rfl ?_
   ext
   exact fin (U.trans J) L
end
section
variable{B:Bd}{c:Nat->Nat}{bq k:Nat}
def jc(B:Bd)(m:Nat)(c:Nat->Nat)(bq:Nat):Nat:=match(List.range m).find? λk=>gx B (k+1) c bq with
 | some k=>k+1
 | none=>0
theorem HU(B:Bd)(k:Nat)(c:Nat->Nat)(bq:Nat):decide ((i6 B k c bq).length>0)=gx B (k+1) c bq:=by
 show decide ((sH (bI B c bq) (λr=>dj B k (bH c bq r) (1-bq)) λr=>l9 B k (bH c bq r) (1-bq)).length>0)=(bI B c bq).any λm=>dj B k (bH c bq m) (1-bq)
 rw[bj,bk]
 cases e:(bI B c bq).find? λr=>dj B k (bH c bq r) (1-bq)with
 | none=>
  rw[rn e]
  have:=List.find?_eq_none.mp e
  simp only[List.length_nil,gt_iff_lt,aC,false_iff]
  intro z
  obtain⟨m,h1,h2⟩:=aU.mp z
  exact this m h1 h2
 | some r=>
  rw[ki e]
  have h1:=List.mem_of_find?_eq_some e
  have h2:=List.find?_some e
  refine⟨λZ=>aU.mpr ⟨r,h1,h2⟩,λZ=>by simp⟩
theorem wY(h:gx B (k+1) c bq=true):∃r,r∈bI B c bq/\dj B k (bH c bq r) (1-bq)=true/\i6 B k c bq=r::l9 B k (bH c bq r) (1-bq):=by
 obtain⟨m,h1,h2⟩:=aU.mp (show((bI B c bq).any λm=>dj B k (bH c bq m) (1-bq))=true from h)
 cases e:(bI B c bq).find? λr=>dj B k (bH c bq r) (1-bq)with
 | none=>exact absurd h2 (List.find?_eq_none.mp e m h1)
 | some r=>
  have h2:=List.find?_some e
  exact⟨r,List.mem_of_find?_eq_some e,h2,ki e⟩
theorem Ck(hB:B.Ok)(h:Wf B c bq)(hm:m<=2):(gC B m c bq=[]/\jc B m c bq=0)\/
  ∃k,k<=1/\jc B m c bq=k+1/\(gC B m c bq).length=2*k+1/\HQ B c bq k (gC B m c bq):=by
 unfold gC jc
 rw[show(λk=>decide ((i6 B k c bq).length>0))=λk=>gx B (k+1) c bq from funext λk=>HU B k c bq]
 cases e:(List.range m).find? λk=>gx B (k+1) c bq with
 | none=>exact .inl ⟨rfl,rfl⟩
 | some k=>
  refine .inr ⟨k,?_⟩
  have hk:=aN.mp (List.mem_of_find?_eq_some e)
  have hc:=List.find?_some e
  obtain⟨r,h1,h2,h3⟩:=wY hc
  have O:=(qk hB h h1).1
  dsimp only
  rw[h3]
  rcases(show k=0\/k=1 by lia)with rfl | rfl
  .refine⟨by omega,rfl,rfl,λi m hi=>?_⟩
   cases i with
   | zero=>
    cases hi
    exact⟨h1,λZ=>h2⟩
   | succ i=>exact cxO hi rfl
  .have first:gx B 1 c bq=false:=by
    cases z:gx B 1 c bq with
    | false=>rfl
    | true=>
     have:=List.find?_eq_some_iff_getElem.mp e
     obtain⟨_,i,hi,U,D⟩:=this
     rw[List.getElem_range]at U
     have D:=D 0 (by lia)
     rw[List.getElem_range]at D
     rw[z]at D;cases D
   have ne:bI B (bH c bq r) (1-bq)≠[]:=by
    intro z
    have hh:=DD hB O
    have j:(if(bI B (bH c bq r) (1-bq)).length=0 then u9 B (bH c bq r) (1-bq)else(bI B (bH c bq r) (1-bq)).all λy=>sG B (dj B 0) (bH (bH c bq r) (1-bq) y) (1-(1-bq)))=true:=h2
    rw[z,List.length_nil,ag rfl]at j
    have V:dj B 0 (bH c bq r) (1-bq)=true:=by
     show(u9 B (bH c bq r) (1-bq)&& !sE B (bH c bq r) (1-bq) (kq (bH c bq r) (1-bq)))=true
     rw[j]
     cases q:sE B (bH c bq r) (1-bq) (kq (bH c bq r) (1-bq))with
     | false=>rfl
     | true=>exact absurd z (hh.mp q)
    have:gx B 1 c bq=true:=aU.mpr ⟨r,h1,V⟩
    rw[first]at this;cases this
   obtain⟨G,J,I⟩:=List.exists_cons_of_ne_nil ne
   have j:(if(bI B (bH c bq r) (1-bq)).length=0 then u9 B (bH c bq r) (1-bq)else(bI B (bH c bq r) (1-bq)).all λy=>sG B (dj B 0) (bH (bH c bq r) (1-bq) y) (1-(1-bq)))=true:=h2
   rw[ah (by rw[I];simp),aM]at j
   have L:G∈bI B (bH c bq r) (1-bq):=by rw[I];exact .head _
   have Y:gx B 1 (bH (bH c bq r) (1-bq) G) (1-(1-bq))=true:=j G L
   obtain⟨r3,g1,g2,g3⟩:=wY Y
   have H:l9 B 1 (bH c bq r) (1-bq)=[G,r3]:=by
    show sH (bI B (bH c bq r) (1-bq)) (λy=>!gx B 0 (bH (bH c bq r) (1-bq) y) (1-(1-bq))) (λy=>i6 B 0 (bH (bH c bq r) (1-bq) y) (1-(1-bq)))=_
    rw[ki (r:=G) (by rw[I];rfl),g3]
    rfl
   rw[H]
   refine⟨by omega,rfl,rfl,λi m hi=>?_⟩
   cases i with
   | zero=>cases(af hi);exact⟨h1,λZ=>h2⟩
   | succ i=>
    cases i with
    | zero=>cases(af hi);exact⟨L,λz=>absurd z (by lia)⟩
    | succ i=>
     cases i with
     | zero=>cases(af hi);exact⟨g1,λZ=>g2⟩
     | succ i=>exact cxO hi rfl
theorem yo(hB:B.Ok)(h:Wf B c bq):0∉bI B c bq:=by
 intro hm
 obtain⟨_,o,t,sp,fd,e,M,_⟩:=qk hB h hm
 have:=M.ne
 unfold cy at e
 have a:=(Nat.eq_zero_of_add_eq_zero (Nat.eq_zero_of_add_eq_zero (Nat.eq_zero_of_add_eq_zero e.symm).1).1)
 exact this (((Nat.mul_eq_zero.mp a.2).resolve_left (by decide)).trans a.1.symm)
end
def b3(B:Bd)(c:Nat->Nat):List (Nat × Nat):=((List.range B.N).filter λs=>!(c s % 8==0||c s % 8==6)).map λs=>(c s % 8,mj B s)
def mm(B:Bd)(c:Nat->Nat):Bool:=(b3 B c==[(2,0)]||b3 B c==[(2,1)])||(b3 B c==List.replicate (b3 B c).length (3,0)||b3 B c==List.replicate (b3 B c).length (3,1))
theorem vN(p q:Nat->Bool)(h:∀s,p s=true->q s=false)(l:List Nat):(l.filter λs=>p s||q s).length=(l.filter p).length+(l.filter q).length:=by
 induction l with
 | nil=>rfl
 | cons a l i=>
  rw[List.filter_cons,List.filter_cons,List.filter_cons]
  cases hp:p a with
  | true=>rw[h a hp];exact(ae Nat.succ i).trans (Nat.succ_add _ _).symm
  | false=>
   cases j:q a with
   | true=>exact ae Nat.succ i
   | false=>exact i
theorem yp(i:N<=32)(h:∀s,p s=true->s<N):(List.range 32).filter p=(List.range N).filter p:=by
 have e:(32:Nat)=N+(32-N):=(Nat.add_sub_of_le ‹N<=32›).symm
 rw[e,List.range_add,List.filter_append]
 have:((List.range (32-N)).map (N+·)).filter p=[]:=by
  rw[List.filter_eq_nil_iff]
  intro x hx hp
  obtain⟨y,hy,rfl⟩:=List.mem_map.mp hx
  exact absurd (h _ hp) (Nat.not_lt.mpr (Nat.le_add_right _ _))
 rw[this,aZ]
section
variable{B:Bd}{c:Nat->Nat}
theorem mn:x∈b3 B c↔∃s,s<B.N/\¬(c s % 8=0\/c s % 8=6)/\x=(c s % 8,mj B s):=by
 unfold b3
 simp only[List.mem_map,List.mem_filter,aN,bc,Bool.or_eq_false_iff,aE,not_or]
 exact⟨λi=>by obtain⟨s,⟨h1,h2⟩,h3⟩:=i;exact⟨s,h1,h2,h3.symm⟩,λi=>by obtain⟨s,h1,h2,h3⟩:=i;exact⟨s,⟨h1,h2⟩,h3.symm⟩⟩
theorem qm:(b3 B c==List.replicate (b3 B c).length x)=true↔∀y∈b3 B c,y=x:=by
 rw[az,List.eq_replicate_iff]
 exact⟨λh=>h.2,λh=>⟨rfl,h⟩⟩
theorem Cm(hB:B.Ok)(hc:ju B c):oW B c=mm B c:=by
 have L:=hB.cm
 have kk:∀k,1<=k->∀s,kS c k s=true↔c s % 8=k:=λk hk s=>by
  unfold kS
  simp only[ax,aP,az]
  exact⟨And.right,λh=>⟨λz=>by rw[z]at h;lia,h⟩⟩
 have lt:∀s,c s % 8≠0->s<B.N:=λs h=>hc.eS s λz=>by rw[z]at h;exact h rfl
 have ks:∀k,1<=k->∀s,kS c k s=true->s<B.N:=λk hk s h=>lt s λz=>absurd (((kk k hk s).mp h).symm.trans z) (Nat.ne_of_gt hk)
 have any:∀f:Nat->Bool,(∀s,f s=true->s<B.N)->(eR f=true↔∃s,s<B.N/\f s=true):=λf hf=>by
  unfold eR
  rw[aU]
  exact⟨λG=>by obtain⟨s,h1,h2⟩:=G;exact⟨s,hf s h2,h2⟩,λG=>by obtain⟨s,h1,h2⟩:=G;exact⟨s,aN.mpr (ak h1 (ai L.1 (by decide))),h2⟩⟩
 unfold oW
 by_cases hA:eR (λs=>(kS c 1 s||kS c 4 s)||kS c 5 s)=true
 .rw[ag hA]
  obtain⟨s,hs,h1⟩:=(any _ (λs h=>(Bool.or_eq_true_iff.mp h).elim (λh=>(Bool.or_eq_true_iff.mp h).elim (ks 1 (by decide) s) (ks 4 (by decide) s)) (ks 5 (by decide) s))).mp hA
  simp only[bp,kk 1 (by decide),kk 4 (by decide),kk 5 (by decide)]at h1
  have H:¬(c s % 8=0\/c s % 8=6)/\c s % 8≠2/\c s % 8≠3:=by rcases h1 with (h | h) | h<;>rw[h]<;>decide
  have hm:(c s % 8,mj B s)∈b3 B c:=mn.mpr ⟨s,hs,H.1,rfl⟩
  symm
  unfold mm
  simp only[Bool.or_eq_false_iff]
  have no:∀x:Nat × Nat,x.1=2->(b3 B c==[x])=false:=λx hx=>by
   rw[aE]
   intro z
   rw[z,bf]at hm
   exact H.2.1 ((ae Prod.fst hm).trans hx)
  have i:∀x:Nat × Nat,x.1=3->(b3 B c==List.replicate (b3 B c).length x)=false:=λx hx=>by
   rw[<-Bool.not_eq_true,qm]
   intro z
   exact H.2.2 ((ae Prod.fst (z _ hm)).trans hx)
  exact⟨⟨no _ rfl,no _ rfl⟩,i _ rfl,i _ rfl⟩
 .rw[ah hA]
  have none:∀s,s<B.N->c s % 8≠1/\c s % 8≠4/\c s % 8≠5:=λs hs=>by
   have:¬((kS c 1 s||kS c 4 s)||kS c 5 s)=true:=λz=>hA (aU.mpr ⟨s,aN.mpr (ak hs (ai L.1 (by decide))),z⟩)
   simp only[bp,kk 1 (by decide),kk 4 (by decide),kk 5 (by decide)]at this
   exact⟨λz=>this (.inl (.inl z)),λz=>this (.inl (.inr z)),λz=>this (.inr z)⟩
  have O:∀s,s<B.N->c s % 8<7:=λs hs=>by
   by_cases z:c s=0
   .rw[z];omega
   .exact(hc.pc s z).2.2.1
  have j:∀s,s<B.N->(¬(c s % 8=0\/c s % 8=6)↔(c s % 8=2\/c s % 8=3)):=λs hs=>by
   exact(show ∀x,x<7->x≠1/\x≠4/\x≠5->(¬(x=0\/x=6)↔(x=2\/x=3))by decide) _ (O s hs) (none s hs)
  have len:(b3 B c).length=(gw (kS c 2)).length+(gw (kS c 3)).length:=by
   unfold b3 gw
   rw[aV,<-vN (kS c 2) (kS c 3) (λs h=>Bool.eq_false_iff.mpr λz=>absurd (((kk 2 (by decide) s).mp h).symm.trans ((kk 3 (by decide) s).mp z)) (by decide))]
   rw[yp (N:=B.N) (ai L.1 (by decide)) (p:=λs=>kS c 2 s||kS c 3 s) (λs h=>(Bool.or_eq_true_iff.mp h).elim (ks 2 (by decide) s) (ks 3 (by decide) s))]
   congr 1
   refine List.filter_congr λs hs=>?_
   rw[bj]
   simp only[bp,kk 2 (by decide),kk 3 (by decide),bc,Bool.or_eq_false_iff,aE]
   have:=j s (aN.mp hs)
   exact not_or.symm.trans this
  have D:=any (kS c 2) (ks 2 (by decide))
  have U:=any (kS c 3) (ks 3 (by decide))
  have I:∀k,eR (kS c k)=true↔0<(gw (kS c k)).length:=λk=>by
   rw[List.length_pos_iff_exists_mem]
   unfold eR
   rw[aU]
   exact⟨λG=>by obtain⟨s,h1,h2⟩:=G;exact⟨s,bY.mpr ⟨aN.mp h1,h2⟩⟩,λG=>by obtain⟨s,h⟩:=G;exact⟨s,aN.mpr (bY.mp h).1,(bY.mp h).2⟩⟩
  by_cases J:eR (kS c 2)=true
  .rw[ag J]
   obtain⟨s,hs,h1⟩:=D.mp J
   rw[kk 2 (by decide)]at h1
   have hm:(c s % 8,mj B s)∈b3 B c:=mn.mpr ⟨s,hs,by rw[h1];decide,rfl⟩
   have i:∀x:Nat × Nat,x.1=3->(b3 B c==List.replicate (b3 B c).length x)=false:=λx hx=>by
    rw[<-Bool.not_eq_true,qm]
    intro z
    exact absurd (h1.symm.trans ((ae Prod.fst (z _ hm)).trans hx)) (by decide)
   have e1:mm B c=(b3 B c==[(2,0)]||b3 B c==[(2,1)]):=by
    unfold mm
    rw[i _ rfl,i _ rfl];simp
   rw[e1,bj]
   have l1:(b3 B c==[(2,0)]||b3 B c==[(2,1)])=true↔(b3 B c).length=1:=by
    rw[bp,az,az]
    constructor
    .rintro(z | z)<;>rw[z]<;>rfl
    .intro z
     obtain⟨x,hx⟩:=List.length_eq_one_iff.mp z
     rw[hx,bf]at hm
     rw[hx,<-hm,h1]
     have:mj B s<2:=Nat.mod_lt _ (by decide)
     rcases(show mj B s=0\/mj B s=1 by omega)with q | q<;>rw[q]<;>simp
   rw[l1,len]
   have k1:=(I 2).mp J
   have k2:=I 3
   rw[ax,bc,bc,<-Bool.not_eq_true,k2]
   unfold zw
   rw[decide_eq_false_iff_not]
   omega
  .rw[ah J]
   have i:∀s,s<B.N->c s % 8≠2:=λs hs z=>J (D.mpr ⟨s,hs,(kk 2 (by decide) s).mpr z⟩)
   have three:∀y∈b3 B c,y.1=3:=λy hy=>by
    obtain⟨s,hs,h1,rfl⟩:=mn.mp hy
    exact((j s hs).mp h1).resolve_left (i s hs)
   have no:∀x:Nat × Nat,x.1=2->(b3 B c==[x])=false:=λx hx=>by
    rw[aE]
    intro z
    exact absurd (hx.symm.trans (three x (by rw[z];exact .head _))) (by decide)
   have e1:mm B c=(b3 B c==List.replicate (b3 B c).length (3,0)||b3 B c==List.replicate (b3 B c).length (3,1)):=by
    unfold mm
    rw[no _ rfl,no _ rfl];simp
   have V:∀x,(gw (kS c 3)).any (λs=>mj B s==x)=true↔(3,x)∈b3 B c:=λx=>by
    rw[aU,mn]
    constructor
    .rintro⟨s,h1,h2⟩
     have h3:=(kk 3 (by decide) s).mp (bY.mp h1).2
     exact⟨s,lt s (by rw[h3];decide),by rw[h3];decide,by rw[h3,az.mp h2]⟩
    .rintro⟨s,h1,h2,h3⟩
     obtain⟨h4,h5⟩:=Prod.mk.inj h3
     exact⟨s,bY.mpr ⟨ak h1 (ai L.1 (by decide)),(kk 3 (by decide) s).mpr h4.symm⟩,az.mpr h5.symm⟩
   have Y:∀y∈b3 B c,y.2<2:=λy hy=>by
    obtain⟨s,hs,h1,rfl⟩:=mn.mp hy
    exact Nat.mod_lt _ (by decide)
   rw[e1,bj,bp,qm,qm,bc]
   unfold wL
   rw[<-Bool.not_eq_true,ax,V,V]
   constructor
   .intro z
    by_cases q:(3,0)∈b3 B c
    .refine .inl λy hy=>?_
     have h1:=three y hy
     have h2:=Y y hy
     have h3:y.2≠1:=λe=>z ⟨q,by rw[<-h1,<-e];exact hy⟩
     exact Prod.ext h1 (Nat.lt_one_iff.mp (Nat.lt_of_le_of_ne (Nat.le_of_lt_succ h2) h3))
    .refine .inr λy hy=>?_
     have h1:=three y hy
     have h2:=Y y hy
     have h3:y.2≠0:=λe=>q (by rw[<-h1,<-e];exact hy)
     exact Prod.ext h1 (Nat.le_antisymm (Nat.le_of_lt_succ h2) (Nat.pos_of_ne_zero h3))
   .rintro(z | z) ⟨h0,h1⟩
    .exact absurd (Prod.mk.inj (z _ h1)).2 (by decide)
    .exact absurd (Prod.mk.inj (z _ h0)).2 (by decide)
end
def vd(l:List (Nat × Nat)):List AV:=l.map λp=>.cn [.int (p.1:Nat),.int (p.2:Nat)]
theorem KR:nc σ (d+1) (.cn [.int (x:Nat),.int (y:Nat)]) (.cn [.int (i:Nat),.int (j:Nat)]) ((x,y)==(i,j)):=by
 have h:=nc.cn (σ:=σ) d [.int (x:Nat),.int (y:Nat)] [.int (i:Nat),.int (j:Nat)] (λk=>if k=0 then((x:Int)==(i:Int))else((y:Int)==(j:Int))) rfl (λk a b h1 h2=>by
  cases k with
  | zero=>cases(af h1);cases(af h2);exact .int _ _ _
  | succ k=>
   cases k with
   | zero=>cases(af h1);cases(af h2);exact .int _ _ _
   | succ k=>exact cxO h1 rfl)
 have e:((List.range [AV.int (x:Nat),.int (y:Nat)].length).all λk=>if k=0 then((x:Int)==(i:Int))else((y:Int)==(j:Int)))=((x,y)==(i,j)):=by
  show(((x:Int)==(i:Int))&&(((y:Int)==(j:Int))&&true))=_
  rw[bj]
  simp
  exact and_congr Int.ofNat_inj Int.ofNat_inj
 rw[<-e];exact h
theorem HV(i:σ a=some (.list w (vd l)))(hb:σ b=some (.list u (vd m))):nc σ 9 (.ref a) (.ref b) (l==m):=by
 by_cases hl:l.length=m.length
 .have h:=nc.cI (σ:=σ) 8 a b w u (vd l) (vd m) (λk=>l[k]? ==m[k]?) i hb (by unfold vd;rw[aV,aV,hl]) (λk x y h1 h2=>by
   unfold vd at h1 h2
   rw[aF]at h1 h2
   obtain⟨p,e1,rfl⟩:=aH.mp h1
   obtain⟨q,e2,rfl⟩:=aH.mp h2
   rw[e1,e2]
   exact KR)
  have e:((List.range (vd l).length).all λk=>l[k]? ==m[k]?)=(l==m):=by
   rw[bj,az,aM]
   unfold vd
   rw[aV]
   constructor
   .intro z
    refine List.ext_getElem? λk=>?_
    by_cases hk:k<l.length
    .exact az.mp (z k (aN.mpr hk))
    .rw[List.getElem?_eq_none (by lia),List.getElem?_eq_none (by omega)]
   .rintro rfl k _;simp
  rw[<-e];exact h
 .have e:(l==m)=false:=by rw[aE];rintro rfl;exact hl rfl
  rw[e]
  exact nc.len 8 a b w u _ _ i hb (by unfold vd;rw[aV,aV];exact hl)
section
variable{W:Wd}{n:Nat}{σ:Hp}{B:Bd}{c:Nat->Nat}{bq s t:Nat}
theorem Ax{x:AV}(k:Nat):(List.replicate k [x]).flatten=List.replicate k x:=by
 induction k with
 | zero=>rfl
 | succ k i=>exact ae (x::·) i
theorem Cn(G:GF W)(hB:B.Ok)(hn:1<=n)(hc:σ ca=some (.list w (bU B c))):
  Pure W n kA [.int B.F,.ref ca] σ (.bool (mm B c)):=by
 refine cu.body G zk rfl (by omega) ?_
 unfold ui
 have hN:=hB.cm
 ext
 refine AWS.k9 (by decide) (λsc e h=>by first | exact tl h | exact pa h | exact pb h | exact qv h) ?_
 ext
 refine⟨_,NH hB hc,?_⟩
 ext
 refine⟨_,rfl,bA (List.range B.N),cN (by omega),λD hD=>?_⟩
 have nD:∀{b:Addr}{o:AO},σ b=some o->b≠D:=λh e=>by rw[e,show σ D=none from hD]at h;cases h
 have Y:∀X,(σ.set D X) ca=some (.list w (bU B c)):=λX=>by rw[ct (nD hc),hc]
 refine⟨λi out ρ' bw=>i<=B.N/\out=vd (((List.range i).filter λs=>!(c s % 8==0||c s % 8==6)).map λs=>(c s % 8,mj B s))/\bJ [none,none,some (.ref ca),some (.int B.F)] ρ'/\bw=σ.set D (.list true out),
  ⟨by omega,rfl,⟨rfl,rfl,trivial⟩,rfl⟩,λi out ρ' bw q'=>?_⟩
 obtain⟨hi,ho,hL,hs⟩:=q'
 refine⟨cN (by lia),?_,?_,λe=>?_,λx hx=>?_⟩
 .subst hs;exact br
 .subst ho
  unfold vd
  have:=List.length_filter_le (λs=>!(c s % 8==0||c s % 8==6)) (List.range i)
  rw[aW]at this
  rw[aV,aV];exact ai this (ai (ai hi hN.1) (by decide))
 .rw[bR,aW]at e
  subst hs ho e
  have hb:(((List.range B.N).filter λs=>!(c s % 8==0||c s % 8==6)).map λs=>(c s % 8,mj B s))=b3 B c:=rfl
  rw[hb]
  have hl:(b3 B c).length<=12:=by
   rw[<-hb,aV]
   have:=List.length_filter_le (λs=>!(c s % 8==0||c s % 8==6)) (List.range B.N)
   rw[aW]at this;exact ai this hN.1
  have J:Sub σ (σ.set D (.list true (vd (b3 B c)))):=Sub.set hD
  have L:(σ.set D (.list true (vd (b3 B c)))) D=some (.list true (vd (b3 B c))):=br
  generalize σ.set D (.list true (vd (b3 B c)))=y at*
  have pl:∀l,lg y (.ref D)=some l↔l=((b3 B c).length:Int):=λl=>by
   unfold lg;dsimp only;rw[L];dsimp only
   rw[show(vd (b3 B c)).length=(b3 B c).length from aV ..,ag (by omega)]
   exact⟨λz=>(af z).symm,λz=>by rw[z]⟩
  have O:∀{j:Hp}{a:Addr}{m:List (Nat × Nat)},Sub y j->dZ j a->dR (j.set a (.list true (vd m))) .Eq (.ref D) (.ref a) (b3 B c==m):=λh1 h2=>
   dR.eq (HV (by rw[ct (λe=>by have:=h1 _ _ L;rw[e,show _=none from h2]at this;cases this),h1 _ _ L]) br)
  have mul:∀{j:Hp}{x:Nat}{K:AV->Hp->Prop},Sub y j->(∀H a,Sub y H->dZ H a->K (.bool (b3 B c==List.replicate (b3 B c).length (3,x))) (H.set a (.list true (vd (List.replicate (b3 B c).length (3,x))))))->
    AWE W (n-1) (.bM .Eq (.var 2) (.bx .Mult (.cI (.cons (.cn (.cons (.int 3) (.cons (.int (x:Nat)) .nil))) .nil)) (.len (.var 2)))) [some (.int B.F),some (.ref ca),some (.ref D),none,none] j K b7:=by
   intro j x K h1 q
   refine AWE.bM (AWE.var rfl (AWE.mulL ?_))
   ext
   refine⟨oc rfl,?_⟩
   ext
   refine⟨oc rfl,λb hb=>?_⟩
   ext
   have h2:Sub y (j.set b (.list true [.cn [.int 3,.int (x:Nat)]])):=h1.trans (Sub.set hb)
   have Vo:=h2 _ _ L
   refine⟨((b3 B c).length:Int),by unfold lg;dsimp only;rw[Vo];dsimp only;rw[show(vd (b3 B c)).length=(b3 B c).length from aV ..,ag (by omega)],b,_,_,cB br,rfl,by lia,by lia,by simp,λa I=>?_⟩
   rw[a9,Ax,show List.replicate (b3 B c).length (AV.cn [.int 3,.int (x:Nat)])=vd (List.replicate (b3 B c).length (3,x))by unfold vd;rw[List.map_replicate];rfl]
   exact⟨_,O h2 I,q _ a h2 I⟩
  have Er:∀{j:Hp},Sub y j->(b3 B c==[(2,0)]||b3 B c==[(2,1)])=false->AWS W (n-1) (.ret (.or (.bM .Eq (.var 2) (.bx .Mult (.cI (.cons (.cn (.cons (.int 3) (.cons (.int 0) .nil))) .nil)) (.len (.var 2)))) (.bM .Eq (.var 2) (.bx .Mult (.cI (.cons (.cn (.cons (.int 3) (.cons (.int 1) .nil))) .nil)) (.len (.var 2))))))
    [some (.int B.F),some (.ref ca),some (.ref D),none,none] j (λo Z V=>Fin (.bool (mm B c)) σ o V) (λZ=>b7):=by
   intro j h1 e
   refine AWS.ret (AWE.or (mul (x:=0) h1 λH a h2 I=>⟨_,rfl,?_⟩))
   unfold mm
   rw[e,Bool.false_or]
   refine bE (λz=>?_) (λz=>?_)
   .rw[z,Bool.true_or]
    exact⟨rfl,J.trans (h2.trans (Sub.set I))⟩
   .rw[z,Bool.false_or]
    exact mul (x:=1) (h2.trans (Sub.set I)) λQs a' h3 Vp=>⟨rfl,J.trans (h3.trans (Sub.set Vp))⟩
  ext
  refine⟨oc rfl,?_⟩
  ext
  refine⟨by simp,λa I=>⟨_,O (m:=[(2,0)]) (.refl _) I,?_⟩⟩
  refine bE (λh1=>?_) (λh1=>?_)
  .ext
   refine⟨ae AV.bool ?_,J.trans (Sub.set I)⟩
   unfold mm;rw[h1];rfl
  ext
  refine⟨oc rfl,?_⟩
  ext
  refine⟨by simp,λb hb=>⟨_,O (m:=[(2,1)]) (Sub.set I) hb,?_⟩⟩
  refine AWS.split (λh2=>?_) (λh2=>?_)
  .ext
   refine⟨ae AV.bool ?_,J.trans ((Sub.set I).trans (Sub.set hb))⟩
   unfold mm;rw[h2];simp
  .exact AWS.skip (Er ((Sub.set I).trans (Sub.set hb)) (by rw[h1,h2];rfl))
 .obtain⟨s,e1,rfl⟩:=bX hx
  obtain⟨rfl,Vq⟩:=dq e1
  refine⟨_,rfl,?_⟩
  have U:bJ [none,some (.int (s:Nat)),some (.ref ca),some (.int B.F)] (Lake.setL ρ' 1 (.int (s:Nat))):=bJ.nE (i:=1) hL
  have hw:bJ [none,none,some (.ref ca),some (.int B.F)] (Lake.setL ρ' 1 (.int (s:Nat))):=bJ.free (i:=1) hL rfl
  unfold px
  try dsimp only
  subst hs
  have rd:∀{K:AV->Hp->Prop},K (.int (c s:Nat)) (σ.set D (.list true out))->AWE W (n-1) (.sub (.var 2) (.var 1)) (Lake.setL ρ' 1 (.int (s:Nat))) (σ.set D (.list true out)) K b7:=λh=>
   AWE.sub (AWE.var (U.get rfl) (AWE.var (U.get rfl) (ex_cell (Y _) hB Vq rfl h)))
  have md:∀{K:AV->Hp->Prop},K (.int (c s % 8:Nat)) (σ.set D (.list true out))->AWE W (n-1) (.bx .Mod (.sub (.var 2) (.var 1)) (.int 8)) (Lake.setL ρ' 1 (.int (s:Nat))) (σ.set D (.list true out)) K b7:=λh=>
   AWE.bx G (rd (AWE.int (ex_mod lit8 (by lia) h)))
  have ni:o9 (σ.set D (.list true out)) .NotIn (.int (c s % 8:Nat)) (.cn [.int 0,.int 6])=some (!(c s % 8==0||c s % 8==6)):=by
   show((some [0,6]).map λl:List Int=>!l.contains ((c s % 8:Nat):Int))=_
   rw[Option.map_some]
   congr 1
   rw[bj]
   generalize c s % 8=x
   simp
   lia
  have tk:(List.range (s+1)).filter (λs=>!(c s % 8==0||c s % 8==6))=(List.range s).filter (λs=>!(c s % 8==0||c s % 8==6))++(if !(c s % 8==0||c s % 8==6)then[s]else[]):=by
   rw[List.range_succ,List.filter_append]
   congr 1
   rw[List.filter_cons];split<;>rfl
  refine AWT.bM (md (AWE.cn (AWEs.cons (AWE.int (AWEs.cons (AWE.int (AWEs.nil ⟨by simp,_,dR.val ni,?_⟩)))))))
  refine bE (λz=>?_) (λz=>?_)
  .refine AWE.cn (AWEs.cons (md (AWEs.cons (AWE.bx G (AWE.bx G (AWE.bx G ?_))))))
   refine AWE.var (U.get rfl) (AWE.var (U.get rfl) (ex_mod rfl (by lia) (AWE.bx G ?_)))
   refine AWE.var (U.get rfl) (AWE.var (U.get rfl) (ex_fdiv rfl (by omega) ?_))
   refine⟨_,rfl,AWE.int ?_⟩
   rw[show((s % B.F:Nat):Int)+((s/B.F:Nat):Int)=((s % B.F+s/B.F:Nat):Int)from(Int.natCast_add ..).symm]
   refine ex_mod lit2 (by lia) (AWEs.nil ⟨by simp,br,by lia,?_,hw,by rw[set_set]⟩)
   rw[tk,ag z,ho]
   unfold vd
   simp only[List.map_append]
   rfl
  .refine⟨by omega,?_,hw,rfl⟩
   rw[tk,ah (by rw[z];simp),aZ]
   exact ho
end
def ET(i:Int):Int:=if i<0 then -i else i
def kN(B:Bd)(w s:Nat):Bool:=decide (1<ET ((s % B.F:Nat)-(w % B.F:Nat)))||decide (1<ET ((s/B.F:Nat)-(w/B.F:Nat)))
def fP(w:Nat)(b:Option Nat):Nat->Nat:=λs=>if s=w then 6 else match b with
 | some b=>if s=b then 14 else 0
 | none=>0
def qn(B:Bd):Bool:=(List.range B.N).all λw=>((List.range B.N).any λb=>kN B w b)&&(List.range B.N).all λb=>!kN B w b||(cF B (fP w (some b)) 0&&cF B (fP w (some b)) 1)
theorem KS:qn ⟨3,4⟩=true:=by decide +kernel
theorem KU:qn ⟨2,4⟩=true:=by decide +kernel
theorem KV:qn ⟨4,3⟩=true:=by decide +kernel
section
variable{B:Bd}{c:Nat->Nat}{bq s t w b:Nat}
theorem Ay(hB:B.Ok)(hw:w<B.N):(∃b,b<B.N/\kN B w b=true)/\∀b,b<B.N->kN B w b=true->∀bq,bq<2->cF B (fP w (some b)) bq=true:=by
 have h:qn B=true:=by
  cases hB
  .exact KS
  .exact KU
  .exact KV
 have h:=aM.mp h w (aN.mpr hw)
 rw[ax]at h
 refine⟨?_,λb hb hf bq hs=>?_⟩
 .obtain⟨b,h1,h2⟩:=aU.mp h.1
  exact⟨b,aN.mp h1,h2⟩
 .have h2:=aM.mp h.2 b (aN.mpr hb)
  rw[hf]at h2
  simp only[Bool.not_true,Bool.false_or,ax]at h2
  rcases(show bq=0\/bq=1 by omega)with rfl | rfl
  .exact h2.1
  .exact h2.2
theorem Co(h:kN B w b=true):w≠b:=by
 rintro rfl
 unfold kN ET at h
 simp at h
theorem HW(hB:B.Ok)(hw:w<B.N)(hb:b<B.N)(hf:kN B w b=true)(hs:bq<2):Wf B (fP w (some b)) bq:=by
 have ne:=Co hf
 have val:∀s,fP w (some b) s=if s=w then 6 else if s=b then 14 else 0:=λZ=>rfl
 refine⟨⟨⟨⟨λs hs=>?_,λs hs=>?_⟩,λu i=>?_⟩,λs hs=>?_⟩,hs,(Ay hB hw).2 b hb hf _ (by omega)⟩
 .rw[val]at hs
  split at hs
  .lia
  .split at hs
   .lia
   .exact absurd rfl hs
 .rw[val]at hs ⊢
  split
  .exact⟨by lia,by omega,by omega,by lia⟩
  .split
   .exact⟨by lia,by omega,by omega,by lia⟩
   .rename_i h1 h2;rw[ah h1,ah h2]at hs;exact absurd rfl hs
 .rcases(show u=0\/u=1 by omega)with rfl | rfl
  .refine⟨w,hw,λs=>?_⟩
   rw[val]
   split
   .rename_i h1;simp[h1]
   .rename_i h1;split<;>simp[h1]
  .refine⟨b,hb,λs=>?_⟩
   rw[val]
   split
   .rename_i h1;simp;lia
   .split
    .rename_i h2;simp[h2]
    .rename_i h2;simp[h2]
 .rw[val]at hs
  split at hs
  .lia
  .split at hs<;>lia
theorem NK(h:AK B c)(hs:s<B.N)(y:c s=0)(hp:Pc p)(D:p % 8≠6)(h1:p % 8=1->0<s/B.F/\s/B.F<B.R-1):AK B (dJ c s p):=by
 have val:∀u,dJ c s p u=if u=s then p else c u:=λZ=>rfl
 refine⟨⟨⟨λu i=>?_,λu i=>?_⟩,λw hw=>?_⟩,λu i=>?_⟩
 .rw[val]at i
  split at i
  .lia
  .exact h.cells.eS u i
 .rw[val]at i ⊢
  split
  .exact hp
  .rename_i e;rw[ah e]at i;exact h.cells.pc u i
 .obtain⟨k,hk,e⟩:=h.king w hw
  have j:k≠s:=λz=>by have:=(e k).mpr rfl;rw[z,y]at this;lia
  refine⟨k,hk,λu=>?_⟩
  rw[val]
  split
  .rename_i z
   subst z
   constructor
   .intro q;lia
   .intro q;exact absurd q.symm j
  .exact e u
 .rw[val]at i
  split at i
  .rename_i e;rw[e];exact h1 i
  .exact h.pawn u i
theorem HX(i:c s=0)(p:Nat):dJ (dJ c s p) s 0=c:=by
 funext u
 unfold dJ
 split
 .rename_i e;rw[e,i]
 .rfl
theorem KW(q:Int)(i:0<B.N)(hs:s<B.N):∃k,k<B.N/\((q+(k:Nat)).fmod (B.N:Int)).toNat=s:=by
 have hp:(0:Int)<(B.N:Int):=by omega
 refine⟨(((s:Int)-q) % (B.N:Int)).toNat,?_,?_⟩
 .have h1:=Int.emod_nonneg ((s:Int)-q) (show(B.N:Int)≠0 by lia)
  have h2:=Int.emod_lt_of_pos ((s:Int)-q) hp
  exact(Int.toNat_lt h1).mpr h2
 .have h1:=Int.emod_nonneg ((s:Int)-q) (show(B.N:Int)≠0 by omega)
  rw[Int.fmod_eq_emod_of_nonneg _ (by lia),Int.toNat_of_nonneg h1,Int.add_emod,Int.emod_emod_of_dvd _ (Int.dvd_refl _),<-Int.add_emod,show q+((s:Int)-q)=(s:Int)by lia,Int.emod_eq_of_lt (by lia) (by lia),a9]
theorem jd(q:Int){N:Nat}(i:0<N):q.fmod (N:Int)=(((q.fmod (N:Int)).toNat:Nat):Int)/\(q.fmod (N:Int)).toNat<N:=by
 have h1:=Int.emod_nonneg q (show(N:Int)≠0 by omega)
 have h2:=Int.emod_lt_of_pos q (show(0:Int)<(N:Int)by omega)
 rw[Int.fmod_eq_emod_of_nonneg _ (by lia)]
 exact⟨(Int.toNat_of_nonneg h1).symm,(Int.toNat_lt h1).mpr h2⟩
end
section
variable{W:Wd}{n:Nat}{σ:Hp}{B:Bd}{c:Nat->Nat}{bq s t w:Nat}
theorem EU(h:σ a=some (.list u (bU B c))):o9 σ .NotIn (.int (m:Nat)) (.ref a)=some (!((List.range B.N).map c).contains m):=by
 rw[yG];unfold dM
 try dsimp only
 rw[h]
 try dsimp only
 rw[u4,kj]
 simp only[Option.map_some]
 rw[kL]
def EV(B:Bd)(q:Int)(k:Nat):Nat:=((q+(k:Nat)).fmod (B.N:Int)).toNat
def NL(B:Bd)(w:Nat)(q:Int)(i:Nat):Option Nat:=((List.range i).find? λk=>kN B w (EV B q k)).map (EV B q)
abbrev Qt:CS:=(.bL 8 (.bx .Mod (.bx .Add (.bx .FloorDiv (.sub (.var 3) (.int 1)) (.var 4)) (.var 7)) (.var 4))
 (.bS (.and (.bM .NotIn (.int 14) (.var 5)) (.or (.bM .Gt (.abs (.bx .Sub (.bx .Mod (.var 8) (.var 0)) (.bx .Mod (.var 6) (.var 0)))) (.int 1)) (.bM .Gt (.abs (.bx .Sub (.bx .FloorDiv (.var 8) (.var 0)) (.bx .FloorDiv (.var 6) (.var 0)))) (.int 1))))
 (.eK (.var 5) (.var 8) (.int 14)
 .skip)
 .skip
 .skip))
theorem EW(hw:w<B.N)(hb:∀x,b=some x->x<B.N/\x≠w):((List.range B.N).map (fP w b)).contains 14=b.isSome:=by
 rw[bj,List.contains_iff_mem,List.mem_map]
 constructor
 .rintro⟨s,h1,h2⟩
  unfold fP at h2
  split at h2
  .lia
  .cases b with
   | none=>simp at h2
   | some x=>rfl
 .intro h
  obtain⟨x,rfl⟩:=Option.isSome_iff_exists.mp h
  obtain⟨h1,h2⟩:=hb x rfl
  exact⟨x,aN.mpr h1,by unfold fP;rw[ah h2];simp⟩
theorem EX(G:GF W)(hB:B.Ok){I ca:Addr}{u:Bool}{ns:List Int}{i:Nat}{b:Option Nat}{x8 J j y D H:Option AV}{Q:f6->Loc->Hp->Prop}(hw:w<B.N)(hb:∀x,b=some x->x<B.N/\x≠w)
  (L:σ I=some (.list u (dB ns))) (hl:ns.length=7) (hc:σ ca=some (.list true (bU B (fP w b))))
  (q:∀ρ',bJ [some (.int B.F),some (.int B.R),some (.int bq),some (.ref I),some (.int B.N),some (.ref ca),some (.int w),none,none,none,none,none,none,none] ρ'->
   Q .next ρ' (σ.set ca (.list true (bU B (fP w (b.or (if kN B w (EV B ((ns[1]?.getD 0).fdiv B.N) i)then some (EV B ((ns[1]?.getD 0).fdiv B.N) i)else none))))))):
  AWS W n Qt [some (.int B.F),some (.int B.R),some (.int bq),some (.ref I),some (.int B.N),some (.ref ca),some (.int w),some (.int (i:Nat)),x8,J,j,y,D,H] σ Q (λZ=>b7):=by
 have Y:=hB.cm
 have e1:∃v,ns[1]? =some v:=⟨ns[1],aJ (by omega)⟩
 obtain⟨v,e1⟩:=e1
 rw[e1,show(some v).getD 0=v from rfl]at q
 ext
 refine⟨.int v,?_,?_⟩
 .unfold cw;dsimp only;rw[L];dsimp only
  unfold jQ dB
  rw[ag (by lia),aF]
  show(ns[1]?).map AV.int=_
  rw[e1];rfl
 ext
 obtain⟨O,U⟩:=jd (v.fdiv (B.N:Int)+(i:Nat)) (N:=B.N) (by lia)
 have V:(v.fdiv (B.N:Int)+(i:Nat)).fmod (B.N:Int)=((EV B (v.fdiv (B.N:Int)) i:Nat):Int):=O
 have hs:EV B (v.fdiv (B.N:Int)) i<B.N:=U
 rw[V]
 generalize EV B (v.fdiv (B.N:Int)) i=s at*
 have DN:∀{x8:Option AV},bJ [some (.int B.F),some (.int B.R),some (.int bq),some (.ref I),some (.int B.N),some (.ref ca),some (.int w),none,none,none,none,none,none,none]
   [some (.int B.F),some (.int B.R),some (.int bq),some (.ref I),some (.int B.N),some (.ref ca),some (.int w),some (.int (i:Nat)),x8,J,j,y,D,H]:=⟨rfl,rfl,rfl,rfl,rfl,rfl,rfl,trivial⟩
 refine⟨_,dR.val (EU (m:=14) hc),?_⟩
 rw[EW hw hb]
 cases b with
 | some x=>
  refine bE (λz=>by cases z) (λZ=>AWS.ifF rfl (AWS.skip (AWS.skip ?_)))
  have:=q _ (DN (x8:=some (.int (s:Nat))))
  rw[Option.some_or,uG hc]at this
  exact this
 | none=>
  rw[Option.none_or]at q
  refine bE (λZ=>?_) (λz=>by cases z)
  have yes:kN B w s=true->AWS W n (.eK (.var 5) (.var 8) (.int 14) .skip) [some (.int B.F),some (.int B.R),some (.int bq),some (.ref I),some (.int B.N),some (.ref ca),some (.int w),some (.int (i:Nat)),some (.int (s:Nat)),J,j,y,D,H] σ
    (λo ρ' bw=>match o with | .next=>AWS W n .skip ρ' bw Q (λZ=>b7) | o=>Q o ρ' bw) (λZ=>b7):=by
   intro hf
   ext
   refine Av (p:=14) hB.cm hs hc rfl ?_
   refine AWS.skip (AWS.skip ?_)
   have:=q _ (DN (x8:=some (.int (s:Nat))))
   rw[ag hf]at this
   have e2:dJ (fP w none) s 14=fP w (some s):=by
    funext t
    unfold dJ fP
    by_cases h1:t=s
    .rw[ag h1,ah (λz=>Co hf (z.symm.trans h1))];simp[h1]
    .rw[ah h1];simp[h1]
   rw[e2]
   exact this
  have no:kN B w s=false->Q .next [some (.int B.F),some (.int B.R),some (.int bq),some (.ref I),some (.int B.N),some (.ref ca),some (.int w),some (.int (i:Nat)),some (.int (s:Nat)),J,j,y,D,H] σ:=by
   intro hf
   have:=q _ (DN (x8:=some (.int (s:Nat))))
   rw[ah (by rw[hf];simp),uG hc]at this
   exact this
  ext
  refine bE (λh1=>?_) (λh1=>?_)
  .exact AWS.ifT rfl (yes (by unfold kN ET;rw[h1];rfl))
  ext
  refine AWS.split (λh2=>?_) (λh2=>?_)
  .exact yes (by unfold kN ET;rw[h1,h2];rfl)
  .exact AWS.skip (AWS.skip (no (by unfold kN ET;rw[h1,h2];rfl)))
def LL(j:Int):Option AV:=jQ [.int 0,.int 4,.int 5,.int 1,.int 2,.int 3,.int 4,.int 5] j
def TS(n:Int):Nat:=(([0,4,5,1,2,3,4,5]:List Nat)[(n.fmod 8).toNat]?).getD 0
theorem Qu(n:Int):∃k,TS n=k/\k<6/\LL (n.fmod 8)=some (.int (k:Nat)):=by
 have h1:=jd n (N:=8) (by omega)
 refine⟨_,rfl,?_⟩
 unfold TS LL
 have h2:n.fmod 8=(((n.fmod 8).toNat:Nat):Int):=h1.1
 have h3:(n.fmod 8).toNat<8:=h1.2
 generalize(n.fmod 8).toNat=x at*
 rw[h2]
 rcases(show x=0\/x=1\/x=2\/x=3\/x=4\/x=5\/x=6\/x=7 by omega)with rfl | rfl | rfl | rfl | rfl | rfl | rfl | rfl<;>exact⟨by decide,rfl⟩
abbrev NM:CS:=(.bL 10 (.sub (.cI (.cons (.int 0) (.cons (.int 4) (.cons (.int 5) (.cons (.int 1) (.cons (.int 2) (.cons (.int 3) (.cons (.int 4) (.cons (.int 5) .nil))))))))) (.bx .Mod (.var 9) (.int 8)))
 (.bL 8 (.bx .Mod (.bx .FloorDiv (.var 9) (.int 32)) (.var 4))
 (.bS (.and (.var 10) (.and (.bM .Eq (.sub (.var 5) (.var 8)) (.int 0)) (.or (.bM .NotEq (.var 10) (.int 1)) (.chn .Lt .Lt (.int 0) (.bx .FloorDiv (.var 8) (.var 0)) (.bx .Sub (.var 1) (.int 1))))))
 (.eK (.var 5) (.var 8) (.bx .Add (.bx .Mult (.var 2) (.int 8)) (.var 10))
 (.bS (.bM .Eq (.bx .Mod (.bx .FloorDiv (.var 9) (.int 8)) (.int 4)) (.int 3))
 (.eK (.var 5) (.var 8) (.bx .Add (.bx .Sub (.int 8) (.bx .Mult (.var 2) (.int 8))) (.var 10))
 .skip)
 .skip
 (.bS (.not (.call d6 (.cons (.var 0) (.cons (.var 1) (.cons (.var 5) (.cons (.bx .Sub (.int 1) (.var 2)) .nil))))))
 (.eK (.var 5) (.var 8) (.int 0)
 .skip)
 .skip
 .skip)))
 .skip
 .skip)))
theorem SK:∀bq,bq<2->∀i,i<6->i≠0->(Pc (bq*8+i)/\(bq*8+i) % 8=i):=by unfold Pc;decide
theorem SM:∀bq,bq<2->∀i,i<6->i≠0->(Pc (8-bq*8+i)/\(8-bq*8+i) % 8=i):=by unfold Pc;decide
theorem Vr:∀i,i<6->i≠6:=by decide
theorem Cp(G:GF W)(hB:B.Ok)(hn:4<=n)(HT:jb W σ)(h:Wf B c bq){Q:f6->Loc->Hp->Prop}(hc:σ ca=some (.list true (bU B c)))(Rh:∀k,k=2\/k=3->W.gi.s6 k≠ca)
  (q:∀ρ' bw c',bJ [some (.int B.F),some (.int B.R),some (.int bq),some na,some (.int B.N),some (.ref ca),none,none,none,none,none,none,none,none] ρ'->eD ca σ bw->Wf B c' bq->bw ca=some (.list true (bU B c'))->Q .next ρ' bw):
  AWS W n NM [some (.int B.F),some (.int B.R),some (.int bq),some na,some (.int B.N),some (.ref ca),x6,x7,x8,some (.int v),Rg,H,I,J] σ Q (λZ=>b7):=by
 have hN:=hB.cm
 have D:=h.sd
 obtain⟨y,_,L,e8⟩:=Qu v
 ext
 refine⟨oc rfl,λta O=>?_⟩
 have Vs:ca≠ta:=λe=>by rw[e,show σ ta=none from O]at hc;cases hc
 ext
 refine⟨.int (y:Nat),?_,?_⟩
 .unfold cw;dsimp only;rw[br];exact e8
 have U:(σ.set ta (.list true [.int 0,.int 4,.int 5,.int 1,.int 2,.int 3,.int 4,.int 5])) ca=some (.list true (bU B c)):=by rw[ct Vs,hc]
 have X1:Sub σ (σ.set ta (.list true [.int 0,.int 4,.int 5,.int 1,.int 2,.int 3,.int 4,.int 5])):=Sub.set O
 generalize σ.set ta (.list true [.int 0,.int 4,.int 5,.int 1,.int 2,.int 3,.int 4,.int 5])=j at*
 ext
 obtain⟨f1,f2⟩:=jd (v.fdiv 32) (N:=B.N) (by lia)
 rw[f1]
 generalize((v.fdiv 32).fmod (B.N:Int)).toNat=s at*
 have no:Q .next [some (.int B.F),some (.int B.R),some (.int bq),some na,some (.int B.N),some (.ref ca),x6,x7,some (.int (s:Nat)),some (.int v),some (.int (y:Nat)),H,I,J] j:=by
  refine q _ _ c ?_ (eD.of X1) h U
  exact⟨rfl,rfl,rfl,rfl,rfl,rfl,trivial⟩
 refine bE (λk0=>?_) (λk0=>AWS.ifF rfl (AWS.skip (AWS.skip no)))
 have k0:y≠0:=λz=>aP.mp k0 (ae Int.ofNat z)
 ext
 refine bE (λV=>?_) (λV=>AWS.ifF rfl (AWS.skip (AWS.skip no)))
 have V:c s=0:=Int.ofNat.inj (az.mp V)
 have D2:∀{i:Hp}{p:Nat},eD ca j i->i ca=some (.list true (bU B (dJ c s p)))->eD ca σ (i.set ca (.list true (bU B c))):=λh1 Z=>((eD.of X1).trans h1).trans eD.nE
 have nE:(y=1->0<s/B.F/\s/B.F<B.R-1)->AWS W n
   (.eK (.var 5) (.var 8) (.bx .Add (.bx .Mult (.var 2) (.int 8)) (.var 10))
    (.bS (.bM .Eq (.bx .Mod (.bx .FloorDiv (.var 9) (.int 8)) (.int 4)) (.int 3))
    (.eK (.var 5) (.var 8) (.bx .Add (.bx .Sub (.int 8) (.bx .Mult (.var 2) (.int 8))) (.var 10)) .skip)
    .skip
    (.bS (.not (.call d6 (.cons (.var 0) (.cons (.var 1) (.cons (.var 5) (.cons (.bx .Sub (.int 1) (.var 2)) .nil)))))) (.eK (.var 5) (.var 8) (.int 0) .skip) .skip .skip)))
   [some (.int B.F),some (.int B.R),some (.int bq),some na,some (.int B.N),some (.ref ca),x6,x7,some (.int (s:Nat)),some (.int v),some (.int (y:Nat)),H,I,J] j
   (λo ρ' bw=>match o with | .next=>AWS W n .skip ρ' bw Q (λZ=>b7) | o=>Q o ρ' bw) (λZ=>b7):=by
  intro QW
  have P:=And.intro (SK bq D y L k0) (SM bq D y L k0)
  have Y:∀p,Pc p->p % 8=y->∀i,eD ca j i->i ca=some (.list true (bU B (dJ c s p)))->AWS W n (.bS (.not (.call d6 (.cons (.var 0) (.cons (.var 1) (.cons (.var 5) (.cons (.bx .Sub (.int 1) (.var 2)) .nil)))))) (.eK (.var 5) (.var 8) (.int 0) .skip) .skip .skip)
    [some (.int B.F),some (.int B.R),some (.int bq),some na,some (.int B.N),some (.ref ca),x6,x7,some (.int (s:Nat)),some (.int v),some (.int (y:Nat)),H,I,J] i
    (λo ρ' bw=>match o with | .next=>AWS W n .skip ρ' bw Q (λZ=>b7) | o=>Q o ρ' bw) (λZ=>b7):=by
   intro p hp hk i hX e1
   have w2:=NK h.w0 f2 V hp (hk▸Vr y L) (by rw[hk];exact QW)
   have XX:=(eD.of X1).trans hX
   ext
   rw[one_sub D]
   refine o3 G hB (by omega) (λk hk=>XX _ _ (Rh k hk) (HT k hk)) e1 w2.toWf1 (by omega) _ _ ?_
   cases hf:cF B (dJ c s p) (1-bq)
   .refine AWS.ifT rfl ?_
    ext
    refine Av (p:=0) hN f2 e1 rfl ?_
    rw[HX V]
    refine AWS.skip (AWS.skip (AWS.skip (q _ _ c ?_ (XX.trans eD.nE) h br)))
    exact⟨rfl,rfl,rfl,rfl,rfl,rfl,trivial⟩
   .refine AWS.ifF rfl (AWS.skip (AWS.skip (AWS.skip (q _ _ (dJ c s p) ?_ XX ⟨w2,D,hf⟩ e1))))
    exact⟨rfl,rfl,rfl,rfl,rfl,rfl,trivial⟩
  ext
  refine Av (p:=bq*8+y) hN f2 U rfl ?_
  ext
  refine AWS.split (λh3=>?_) (λh3=>?_)
  .ext
   refine Av hN f2 br (ae AV.int (show(8:Int)-(bq:Int)*8+(y:Int)=((8-bq*8+y:Nat):Int)by rcases lt2c h.sd with h | h<;>(rw[h];rfl))) ?_
   rw[set_set,
    show dJ (dJ c s (bq*8+y)) s (8-bq*8+y)=dJ c s (8-bq*8+y)from by funext t;unfold dJ;split<;>rfl]
   exact AWS.skip (Y _ P.2.1 P.2.2 _ eD.nE br)
  .exact AWS.skip (Y _ P.1.1 P.1.2 _ eD.nE br)
 ext
 refine bE (λh1=>?_) (λh1=>?_)
 .exact AWS.ifT rfl (nE λz=>(aP.mp h1 (ae Int.ofNat z)).elim)
 ext
 refine bE (λh2=>?_) (λh2=>AWS.ifF rfl (AWS.skip (AWS.skip no)))
 ext
 refine AWS.split (λh3=>?_) (λh3=>AWS.skip (AWS.skip no))
 exact nE λZ=>⟨aq.mp (aY h2),Nat.lt_sub_of_add_lt (aq.mp (Int.add_lt_of_lt_sub_right (aY h3)))⟩
end
section
variable{W:Wd}{n:Nat}{σ:Hp}{B:Bd}{c:Nat->Nat}{bq s t w:Nat}
theorem HY(q:Int)(i:Nat):NL B w q (i+1)=(NL B w q i).or (if kN B w (EV B q i)then some (EV B q i)else none):=by
 unfold NL
 rw[List.range_succ,List.find?_append]
 cases(List.range i).find? λk=>kN B w (EV B q k)with
 | some x=>rfl
 | none=>
  rw[Option.none_or,List.find?_cons]
  cases h:kN B w (EV B q i)with
  | true=>simp
  | false=>simp
theorem yq(hB:B.Ok)(h:NL B w q i=some b):b<B.N/\kN B w b=true:=by
 have j:=hB.cm
 obtain⟨k,h1,rfl⟩:=aH.mp h
 have h2:=List.find?_some h1
 exact⟨(jd _ (by lia)).2,h2⟩
theorem KX(hB:B.Ok)(hw:w<B.N)(q:Int):∃b,NL B w q B.N=some b:=by
 have i:=hB.cm
 obtain⟨⟨b,hb,hf⟩,_⟩:=Ay hB hw
 obtain⟨k,hk,e⟩:=KW (B:=B) q (by lia) hb
 unfold NL
 cases h:(List.range B.N).find? λk=>kN B w (EV B q k)with
 | some k=>exact⟨_,rfl⟩
 | none=>
  have:=List.find?_eq_none.mp h k (aN.mpr hk)
  rw[show EV B q k=b from e,hf]at this
  exact absurd rfl this
def Qv(σ:Hp)(B:Bd)(bq:Nat)(v:AV)(bw:Hp):Prop:=∃a c,v=.ref a/\σ a=none/\Sub σ bw/\bw a=some (.list true (bU B c))/\Wf B c bq
theorem Az(G:GF W)(hB:B.Ok)(hn:5<=n)(HT:jb W σ)(NC:bq<2)(I:σ U=some (.list u (dB ns)))(hl:ns.length=7):
  EP W n jk [.int B.F,.int B.R,.int bq,.ref U] σ (Qv σ B bq):=by
 refine EP.body G xM rfl (by omega) ?_
 unfold rY
 have hN:=hB.cm
 obtain⟨v,e1⟩:∃v,ns[1]? =some v:=⟨ns[1],aJ (by lia)⟩
 refine AWS.norm0 (by dsimp only[loc0,pad,Nat.reduceSub]) ?_
 refine AWS.bL (AWE.bx G (AWE.var rfl (AWE.var rfl ⟨_,binv_mul (by omega),?_⟩)))
 rw[show(B.F:Int)*(B.R:Int)=(B.N:Int)from by rw[<-Int.natCast_mul,hN.2.2.2.2.2.2]]
 try refine AWS.norm (by dsimp only[Lake.setL]) ?_
 refine AWS.bL (AWE.mulL ?_)
 ext
 refine⟨oc rfl,λb hb=>?_⟩
 ext
 refine⟨b,_,(B.N:Int),cB br,rfl,by lia,by lia,by simp,λca Vt=>?_⟩
 have H:σ ca=none:=qd (Sub.set hb) Vt
 have nf:∀{b:Addr}{o:AO},σ b=some o->b≠ca:=λh e=>by rw[e,H]at h;cases h
 have X0:Sub σ (σ.set b (.list true [.int 0])):=Sub.set hb
 generalize σ.set b (.list true [.int 0])=J at*
 have X1:∀o,Sub σ (J.set ca o):=λo=>yj X0 H
 have er:(List.replicate (B.N:Int).toNat [AV.int 0]).flatten=bU B (λZ=>0):=by
  rw[a9,Ax]
  unfold bU
  rw[List.map_const']
  simp
 rw[er]
 ext
 refine⟨.int v,?_,?_⟩
 .unfold cw;dsimp only;rw[X1 _ _ _ I];dsimp only
  unfold jQ dB
  rw[ag (by lia),aF]
  show(ns[1]?).map AV.int=_
  rw[e1];rfl
 ext
 obtain⟨f1,hw⟩:=jd v (N:=B.N) (by lia)
 rw[f1]
 generalize(v.fmod (B.N:Int)).toNat=w at*
 refine Av (p:=6) hB.cm hw br rfl ?_
 rw[set_set,show dJ (λZ=>0) w 6=fP w none from rfl]
 refine AWS.norm (ρ':=[some (.int B.F),some (.int B.R),some (.int bq),some (.ref U),some (.int B.N),some (.ref ca),some (.int w),none,none,none,none,none,none,none]) rfl ?_
 have hq:(ns[1]?.getD 0)=v:=by rw[e1];rfl
 refine AWS.fr b0.none ?_
 ext
 refine⟨_,rfl,bA (List.range B.N),λi ρ' bw=>i<=B.N/\bJ [some (.int B.F),some (.int B.R),some (.int bq),some (.ref U),some (.int B.N),some (.ref ca),some (.int w),none,none,none,none,none,none,none] ρ'/\Sub σ bw/\
   bw ca=some (.list true (bU B (fP w (NL B w (v.fdiv B.N) i)))),cN (by lia),⟨by omega,?_,X1 _,br⟩,λi ρ' bw L=>?_⟩
 .exact⟨rfl,rfl,rfl,rfl,rfl,rfl,rfl,trivial⟩
 obtain⟨hi,hL,V,hc⟩:=L
 refine⟨cN (by lia),λe=>?_,λx hx=>?_⟩
 .rw[bR,aW]at e
  subst e
  obtain⟨b',Y⟩:=KX hB hw (v.fdiv B.N)
  obtain⟨Rf,TQ⟩:=yq hB Y
  rw[Y]at hc
  have w0:=HW hB hw Rf TQ NC
  have lk:∀{j:Nat}{x:AV},getL [some (.int B.F),some (.int B.R),some (.int bq),some (.ref U),some (.int B.N),some (.ref ca),some (.int w),none,none,none,none,none,none,none] j=some x->getL ρ' j=some x:=λh=>hL.get h
  refine AWS.fr b0.none (AWE.slice (AWE.var (lk rfl) ⟨U,_,cB (V _ _ I),by unfold dB;rw[aV];lia,⟨by omega,by unfold dB;rw[aV];lia⟩,λsa O=>?_⟩))
  have SN:bw sa=none:=O
  have TU:ca≠sa:=λe=>by rw[e,SN]at hc;cases hc
  have es:oo (dB ns) (some 2) (some 6)=dB ((ns.drop 2).take 4):=by
   unfold oo dB
   try dsimp only
   rw[<-List.map_drop,<-List.map_take]
  rw[es]
  have it:∀y,y sa=some (.list true (dB ((ns.drop 2).take 4)))->bO y (.ref sa)=some (dB ((ns.drop 2).take 4)):=λy h=>by unfold bO;dsimp only;rw[h]
  refine⟨dB ((ns.drop 2).take 4),λi D y=>bJ [some (.int B.F),some (.int B.R),some (.int bq),some (.ref U),some (.int B.N),some (.ref ca),none,none,none,none,none,none,none,none] D/\eD ca (bw.set sa (.list true (dB ((ns.drop 2).take 4)))) y/\
    ∃c',Wf B c' bq/\y ca=some (.list true (bU B c')),it _ br,⟨bJ.trans ?_ hL,.refl _ _,_,w0,by rw[ct TU,hc]⟩,λi D y L=>?_⟩
  .exact⟨rfl,rfl,rfl,rfl,rfl,rfl,trivial⟩
  obtain⟨g1,g2,c',g3,g4⟩:=L
  refine⟨it _ (g2 _ _ TU.symm br),λe=>?_,λx hx=>?_⟩
  .refine AWS.ret (AWE.var (g1.get rfl) ⟨ca,c',rfl,H,λb x hb=>g2 b x (nf hb) (Sub.set O _ _ (V _ _ hb)),g4,g3⟩)
  .unfold dB at hx
   rw[aF]at hx
   obtain⟨z,_,rfl⟩:=aH.mp hx
   refine⟨_,rfl,AWS.loose (bJ.nE (i:=9) (v:=.int z) g1) (.refl _) ?_⟩
   refine Cp G hB (by omega) (λk hk=>g2 _ _ (nf (HT k hk)) (Sub.set O _ _ (V _ _ (HT k hk)))) g3 g4 (λk hk=>nf (HT k hk)) λTV Qs SO k1 k2 k3 k4=>?_
   exact⟨k1,g2.trans k2,SO,k3,k4⟩
 .obtain⟨i',e4,rfl⟩:=bX hx
  obtain⟨rfl,Vu⟩:=dq e4
  refine⟨_,rfl,AWS.loose (bJ.nE (i:=7) (v:=.int (i':Nat)) hL) (.refl _) ?_⟩
  refine EX G hB hw (λx hx=>⟨(yq hB hx).1,λz=>Co (yq hB hx).2 z.symm⟩) (V _ _ I) hl hc λD g1=>?_
  refine⟨Vu,g1,λb x hb=>by rw[ct (nf hb)];exact V _ _ hb,?_⟩
  rw[br,HY,hq]
end
abbrev Qw:CS:=(.ret (.and (.bM .Eq (.bt (.var 10) 19) (.var 5)) (.and (.bM .Eq (.bt (.var 10) 22) (.int 0)) (.and (.bM .Eq (.bt (.var 10) 3) (.int 1)) (.and (.bM .Eq (.bt (.var 10) 21) (.neg (.int 1))) (.bM .Eq (.bt (.var 10) 24) (.cI .nil)))))))
abbrev Qx:CS:=(.bS (.or (.bM .NotEq (.cI (.cons (.bt (.var 10) 17) (.cons (.bt (.var 10) 18) (.cons (.bt (.var 10) 23) .nil)))) (.var 14)) (.bM .NotEq (.bt (.var 10) 16) (.var 6))) (.ret (.bool false)) .skip Qw)
abbrev Qy:CS:=(.expr (.call dx (.cons (.var 10) (.cons (.len (.var 15)) .nil))) Qx)
abbrev Qz:CS:=(.bS (.or (.bM .NotEq (.call d5 (.cons (.var 10) .nil)) (.var 15)) (.or (.not (.call gR (.cons (.var 10) (.cons (.cI .nil) (.cons (.bx .Add (.len (.var 15)) (.int 1)) .nil))))) (.bM .NotEq (.call d5 (.cons (.var 10) .nil)) (.var 15)))) (.ret (.bool false)) .skip Qy)
abbrev QA:CS:=(.expr (.call gQ (.cons (.var 10) (.cons (.var 15) .nil))) Qz)
abbrev QB:CS:=(.bS (.or (.bM .NotEq (.bt (.var 10) 24) (.cI .nil)) (.bM .NotEq (.cI (.cons (.bt (.var 10) 17) (.cons (.bt (.var 10) 18) (.cons (.bt (.var 10) 23) .nil)))) (.var 14))) (.ret (.bool false)) .skip QA)
abbrev QC:CS:=(.bS (.or (.not (.call fU (.cons (.var 2) (.cons (.var 3) (.cons (.var 6) (.cons (.var 5) (.cons (.var 12) (.cons (.var 15) .nil)))))))) (.not (.call gR (.cons (.var 10) (.cons (.bx .Add (.var 15) (.cI (.cons (.int 0) .nil))) (.cons (.int 0) .nil)))))) (.ret (.bool false)) .skip QB)
abbrev QD:CS:=(.bS (.bM .NotEq (.call fS (.cons (.var 10) (.cons (.int 0) .nil))) (.cI .nil)) (.ret (.bool false)) .skip QC)
abbrev QE:CS:=(.bL 15 (.call fS (.cons (.var 10) (.cons (.var 11) .nil))) QD)
abbrev QF:CS:=(.bL 14 (.cI (.cons (.slice (.bt (.var 10) 17) none none) (.cons (.slice (.bt (.var 10) 18) none none) (.cons (.bt (.var 10) 23) .nil)))) QE)
abbrev QG:CS:=(.cb [13] (.c8 (.cons (.var 11) (.cons (.int 0) (.cons (.neg (.int 1)) .nil)))) (.bS (.call fT (.cons (.var 2) (.cons (.var 3) (.cons (.var 6) (.cons (.var 5) (.cons (.var 13) .nil)))))) (.bL 12 (.var 13) .skip) .skip .skip) QF)
abbrev KY:CS:=(.bL 12 (.int 0) QG)
abbrev QH:CS:=(.bS (.and (.bM .Eq (.bx .Mod (.sub (.var 1) (.int 6)) (.int 2)) (.int 1)) (.and (.bM .LtE (.len (.call dy (.cons (.var 2) (.cons (.var 3) (.cons (.var 6) (.cons (.var 5) .nil)))))) (.int 5)) (.bM .GtE (.count (.var 6) (.int 0)) (.bx .Sub (.var 4) (.int 4))))) (.bL 11 (.int 2) .skip) .skip KY)
abbrev QI:CS:=(.bL 11 (.int 1) QH)
abbrev QJ:CS:=(.bS (.bM .NotEq (.call eP (.cons (.var 10) .nil)) (.call kA (.cons (.var 2) (.cons (.var 6) .nil)))) (.ret (.bool false)) .skip QI)
abbrev TX:CS:=(.cg (.var 10) 19 (.var 5) QJ)
abbrev SP:CS:=(.cb [9] (.c8 (.cons (.var 4) .nil)) (.bS (.sub (.var 6) (.var 9)) (.expr (.call du (.cons (.var 10) (.cons (.sub (.var 6) (.var 9)) (.cons (.var 9) .nil)))) .skip) .skip .skip) TX)
abbrev Vv:CS:=(.bL 10 (.new 1 (.cons (.call fJ (.cons (.var 2) (.cons (.var 3) (.cons (.bool false) (.cons (.bool false) .nil))))) (.cons (.new 2 (.cons (.var 7) (.cons (.bx .Mult (.cI (.cons (.int 0) .nil)) (.var 2)) (.cons (.bx .Mult (.cI (.cons (.int 0) .nil)) (.int 16)) (.cons (.bx .LShift (.int 1) (.bx .Mult (.int 15) (.var 4))) .nil))))) .nil))) SP)
abbrev Vw:CS:=(.cb [8] (.c8 (.cons (.int 15) .nil)) (.expr (.append (.var 7) (.comp (.bx .LShift (.int 1) (.bx .Add (.bx .Mult (.var 2) (.var 3)) (.var 1))) [1] (.c8 (.cons (.var 4) .nil)) none [(2,8),(3,4)] 4)) .skip) Vv)
abbrev TY:CS:=(.bL 7 (.cI .nil) Vw)
abbrev Vx:CS:=(.bL 6 (.call jk (.cons (.var 2) (.cons (.var 3) (.cons (.var 5) (.cons (.var 1) .nil))))) TY)
abbrev Vy:CS:=(.bL 5 (.bx .Mod (.bx .FloorDiv (.sub (.var 1) (.int 0)) (.int 3)) (.int 2)) Vx)
abbrev TZ:CS:=(.bL 4 (.bx .Mult (.var 2) (.var 3)) Vy)
abbrev Vz:CS:=(.o5 [2,3] (.sub (.cI (.cons (.cn (.cons (.int 3) (.cons (.int 4) .nil))) (.cons (.cn (.cons (.int 2) (.cons (.int 4) .nil))) (.cons (.cn (.cons (.int 4) (.cons (.int 3) .nil))) .nil)))) (.bx .Mod (.sub (.var 1) (.int 0)) (.int 3))) TZ)
abbrev VA:CS:=(.k9 1 (.comp (.ite (.bM .Lt (.var 1) (.len (.var 3))) (.sub (.var 3) (.var 1)) (.int 0)) [1] (.c8 (.cons (.int 7) .nil)) none [(3,0)] 4) Vz)
theorem HZ:Gz=VA:=rfl
section
local macro_rules (kind:=PyProof.Rows.tacticWalk_at_) | s=>tyk "\"me\"" s "!NLake.setL AWS.norm Lake.setL !z !d1 !P !g !NsetTs AWS.norm Lake.setL !z setTs !z !d2 !P !g !NinitLoc AWS.norm0 loc0 !z pad !z Nat.reduceSub !z !d3 !P !g AWS.g1 !A !b rfl !E !b !? !@3 !r !g !14"
abbrev eQ:f6->Loc->Hp->Prop:=λo Z Z=>o=.ret (.bool true)
theorem Cq(i:σ a=some (.list w []))(hb:σ b=some (.list u [])):nc σ 9 (.ref a) (.ref b) true:=nc.cI 8 a b w u [] [] (λZ=>false) i hb rfl (λk a b h=>by simp at h)
theorem sV(j:σ a=some (.list w (dB l)))(hb:σ b=some (.list u (dB l))):nc σ (d+2) (.ref a) (.ref b) true:=by
 have h:=nc.cI (σ:=σ) (d+1) a b w u (dB l) (dB l) (λZ=>true) j hb rfl (λk x y h1 h2=>by
  rw[h1]at h2
  cases h2
  unfold dB at h1
  rw[aF]at h1
  obtain⟨i,_,rfl⟩:=aH.mp h1
  have:=nc.int (σ:=σ) (d+1) i i
  rwa[beq_self_eq_true]at this)
 have e:((List.range (dB l).length).all λZ=>true)=true:=by simp
 rwa[e]at h
theorem H4(i:σ a=some (.list w [.ref p,.ref q,.int key]))(hb:σ b=some (.list u [.ref r,.ref s,.int key]))
  (hp:σ p=some (.list D (dB l))) (j:σ r=some (.list G (dB l))) (z:σ q=some (.list H (dB m))) (hs:σ s=some (.list I (dB m))):nc σ 9 (.ref a) (.ref b) true:=by
 have h:=nc.cI (σ:=σ) 8 a b w u _ _ (λZ=>true) i hb rfl (λk x y h1 h2=>by
  cases k with
  | zero=>cases(af h1);cases(af h2);exact sV (d:=6) hp j
  | succ k=>
   cases k with
   | zero=>cases(af h1);cases(af h2);exact sV (d:=6) z hs
   | succ k=>
    cases k with
    | zero=>
     cases(af h1);cases(af h2)
     have:=nc.int (σ:=σ) 8 key key
     rwa[beq_self_eq_true]at this
    | succ k=>exact cxO h1 rfl)
 exact h
theorem AA:bU B c=dB ((List.range B.N).map λs=>((c s:Nat):Int)):=by
 unfold bU dB
 rw[List.map_map];rfl
theorem H6(l:List Nat):bA l=dB (l.map λx:Nat=>(x:Int)):=by
 unfold bA dB
 rw[List.map_map];rfl
def r9(c:Nat->Nat):List Int:=(List.range 7).map λk=>mk (kS c k)
def se(c:Nat->Nat):List Int:=(List.range 2).map λk=>mk (sS c k)
section
variable{W:Wd}{n:Nat}{A:Nat->Addr}{B:Bd}{P:Ps}{τ:Hp}
theorem AB(hA:bV A):wr A B P τ (A 3)=some (.list true (dB (r9 P.c))):=by
 rw[ji hA (by omega)];show some (fc 7 λk=>.int (mk (kS P.c k)))=_;unfold r9 dB fc;rw[List.map_map];rfl
theorem AD(hA:bV A):wr A B P τ (A 4)=some (.list true (dB (se P.c))):=by
 rw[ji hA (by omega)];show some (fc 2 λk=>.int (mk (sS P.c k)))=_;unfold se dB fc;rw[List.map_map];rfl
theorem H7(hA:bV A):wr A B P τ (A 2)=some (.list true (bU B P.c)):=by
 rw[ji hA (by omega)];rfl
theorem DH(hA:bV A)(h:P.cq=[]):wr A B P τ (A 5)=some (.list true []):=by
 rw[ji hA (by omega)];show some (AO.list true (P.cq.map nj.av))=_;rw[h];rfl
structure Std(B:Bd)(P:Ps)(c:Nat->Nat)(bq:Nat)(key:Int):Prop where
 hc:P.c=c
 hs:P.bq=bq
 hh:P.cL=0
 hf:P.full=1
 hk:P.key=key
 hi:P.cq=[]
theorem VB(G:GF W)(hA:bV A)(S:Std B P c bq key):AWS W n Qw (none::none::none::none::none::some (.int bq)::none::none::none::none::some (.ref (A 0))::none::none::none::none::none::none::none::none::none::none::none::none::none::none::none::none::none::none::none::none::none::none::[]) (wr A B P τ) eQ (λZ=>b7):=by
 obtain⟨h1,h2,h3,j,z,y⟩:=S
 have T:∀{b:Bool}{X Y:Prop},b=true->X->if b=true then X else Y:=λe h=>by rw[ag e];exact h
 ext
 refine T (az.mpr (by rw[h2])) ?_
 ext
 refine T (az.mpr h3) ?_
 ext
 refine T (az.mpr j) ?_
 ext
 refine T rfl ?_
 ext
 refine⟨oc rfl,λb hb=>?_⟩
 have hi:=(bG hb).1
 have i:(wr A B P τ) (A 5)=some (.list true []):=DH hA y
 refine⟨true,dR.eq (Cq (by rw[ct (λe=>by rw[<-e,tK hA (by omega)]at hi;cases hi),i]) br),rfl⟩
theorem wZ(G:GF W)(hA:bV A){st k1 k2:Addr}{K:Bool->Hp->Prop}(hp:getL ρ 10=some (.ref (A 0)))(y:getL ρ 14=some (.ref st))(hc:P.c=c)(hk:P.key=key)
  (e1:τ st=some (.list true [.ref k1,.ref k2,.int key])) (e2:τ k1=some (.list true (dB (r9 c)))) (e3:τ k2=some (.list true (dB (se c)))) (i1:fL A st=none) (i2:fL A k1=none) (i3:fL A k2=none)
  (q:∀a,dZ (wr A B P τ) a->K false ((wr A B P τ).set a (.list true [.ref (A 3),.ref (A 4),.int key]))):
  AWT W n (.bM .NotEq (.cI (.cons (.bt (.var 10) 17) (.cons (.bt (.var 10) 18) (.cons (.bt (.var 10) 23) .nil)))) (.var 14)) ρ (wr A B P τ) K b7:=by
 have i:∀{k:Nat}{w:AV}{K:AV->Hp->Prop},lk (nq A P) k=some w->(bN 1).contains k=true->K w (wr A B P τ)->AWE W n (.bt (.var 10) k) ρ (wr A B P τ) K b7:=λh1 h2 h3=>AWE.bt G (AWE.var hp ⟨_,Gs hA h1 h2,h3⟩)
 refine AWT.bM (AWE.cI (AWEs.cons (i rfl rfl (AWEs.cons (i rfl rfl (AWEs.cons (i rfl rfl (AWEs.nil ⟨oc rfl,λa z=>?_⟩))))))))
 have j:∀{b:Addr}{o:AO}(X:AO),(wr A B P τ) b=some o->((wr A B P τ).set a X) b=some o:=λX h=>by
  rw[ct (λe=>by rw[e,show _=none from z]at h;cases h),h]
 rw[hk]
 refine AWE.var y ⟨!true,dR.ne (H4 br (j _ ((bT i1).trans e1)) (j _ (AB hA)) (j _ ((bT i2).trans (by rw[hc];exact e2))) (j _ (AD hA)) (j _ ((bT i3).trans (by rw[hc];exact e3)))),q a z⟩
theorem VC(G:GF W)(hA:bV A){ca st k1 k2:Addr}(S:Std B P c bq key)
  (e1:τ st=some (.list true [.ref k1,.ref k2,.int key])) (e2:τ k1=some (.list true (dB (r9 c)))) (e3:τ k2=some (.list true (dB (se c)))) (i1:fL A st=none) (i2:fL A k1=none) (i3:fL A k2=none)
  (hc:τ ca=some (.list w (bU B c))) (ic:fL A ca=none):AWS W n Qx (none::none::none::none::none::some (.int bq)::some (.ref ca)::none::none::none::some (.ref (A 0))::none::none::none::some (.ref st)::none::none::none::none::none::none::none::none::none::none::none::none::none::none::none::none::none::none::[]) (wr A B P τ) eQ (λZ=>b7):=by
 have j:=S
 obtain⟨h1,h2,h3,D,y,H⟩:=j
 refine AWS.bS (AWT.or (wZ G hA rfl rfl h1 y e1 e2 e3 i1 i2 i3 λa i=>?_))
 rw[ah (by simp)]
 have z:=(bG i).1
 rw[bB z]
 ext
 refine⟨!true,dR.ne ?_,?_⟩
 .have g1:=H7 (B:=B) (P:=P) (τ:=τ.set a (.list true [.ref (A 3),.ref (A 4),.int key])) hA
  rw[h1,AA]at g1
  rw[AA]at hc
  refine sV (d:=7) (u:=w) g1 ?_
  rw[bT ic,ct (λe=>?_),hc]
  have:=(bG i).2
  rw[<-e,hc]at this;cases this
 .refine AWS.ifF rfl (AWS.skip ?_)
  refine AWS.loose ?_ (.refl _) (VB G hA S)
  exact⟨rfl,rfl,trivial⟩
end
section
variable{W:Wd}{n:Nat}{A:Nat->Addr}{B:Bd}{P Q:Ps}{τ g7:Hp}{c:Nat->Nat}{bq:Nat}{key:Int}{ca st k1 k2 ta:Addr}{w:Bool}{l:List Nat}
structure yr(A:Nat->Addr)(B:Bd)(c:Nat->Nat)(key:Int)(τ:Hp)(ca st k1 k2 ta:Addr)(w:Bool)(l:List Nat):Prop where
 e1:τ st=some (.list true [.ref k1,.ref k2,.int key])
 e2:τ k1=some (.list true (dB (r9 c)))
 e3:τ k2=some (.list true (dB (se c)))
 i1:fL A st=none
 i2:fL A k1=none
 i3:fL A k2=none
 hc:τ ca=some (.list w (bU B c))
 ic:fL A ca=none
 ht:τ ta=some (.list true (bA l))
 it:fL A ta=none
theorem yr.sub(h:yr A B c key τ ca st k1 k2 ta w l)(s:Sub τ g7):yr A B c key g7 ca st k1 k2 ta w l:=
 ⟨s _ _ h.e1,s _ _ h.e2,s _ _ h.e3,h.i1,h.i2,h.i3,s _ _ h.hc,h.ic,s _ _ h.ht,h.it⟩
theorem VD(G:GF W)(hA:bV A)(hB:B.Ok)(i:5<=n)(S:Std B P c bq key)(hw:Wf B c bq)(L:yr A B c key τ ca st k1 k2 ta w l)(hl:l.length<=10)(hp:dG B P l Q):
  AWS W n Qy (none::none::none::none::none::some (.int bq)::some (.ref ca)::none::none::none::some (.ref (A 0))::none::none::none::some (.ref st)::some (.ref ta)::none::none::none::none::none::none::none::none::none::none::none::none::none::none::none::none::none::[]) (wr A B Q τ) eQ (λZ=>b7):=by
 have j:Wf B P.c P.bq:=by rw[S.hc,S.hs];exact hw
 have hh:P.cq.length=0:=by rw[S.hi];rfl
 ext
 refine⟨_,len_list L.it L.ht (by omega),?_⟩
 ext
 refine qf G hA hB (gd hB) i j (by lia) hp _ _ ⟨trivial,?_⟩
 refine AWS.loose ?_ (.refl _) (VC G hA S L.e1 L.e2 L.e3 L.i1 L.i2 L.i3 L.hc L.ic)
 exact⟨rfl,rfl,rfl,rfl,trivial⟩
theorem AE(G:GF W)(hA:bV A)(z:1<=n){ρ:Loc}{K:Bool->Hp->Prop}(j:getL ρ 10=some (.ref (A 0)))(ht:getL ρ 15=some (.ref ta))(hh:Q.cq.length<=900)(hm:Q.cq.map (·.m)=l)(h1:τ ta=some (.list true (bA l)))(i1:fL A ta=none)
  (q:∀g7,Sub τ g7->K false (wr A B Q g7)):AWT W n (.bM .NotEq (.call d5 (.cons (.var 10) .nil)) (.var 15)) ρ (wr A B Q τ) K b7:=by
 refine AWT.bM (AWE.call G (AWEs.cons (AWE.var j (AWEs.nil ?_))))
 refine yc G hA z hh _ _ λa D=>?_
 obtain⟨y,i⟩:=bG D
 rw[bB y,hm]
 refine AWE.var ht ⟨!true,dR.ne ?_,q _ (Sub.set i)⟩
 rw[H6]at h1 ⊢
 refine sV (d:=7) (w:=true) (u:=true) (l:=l.map λx:Nat=>(x:Int)) (by rw[bT y,br]) ?_
 rw[bT i1,ct (λe=>by rw[e,i]at h1;cases h1),h1]
theorem VE(G:GF W)(X:XF W)(hA:bV A)(hB:B.Ok)(D:5<=n)(S:Std B P c bq key)(hw:Wf B c bq)(L:yr A B c key τ ca st k1 k2 ta w l)(hl:l.length<=10)(hp:dG B P l Q):
  AWS W n Qz (none::none::none::none::none::some (.int bq)::some (.ref ca)::none::none::none::some (.ref (A 0))::none::none::none::some (.ref st)::some (.ref ta)::none::none::none::none::none::none::none::none::none::none::none::none::none::none::none::none::none::[]) (wr A B Q τ) eQ (λZ=>b7):=by
 have z:=hp.i7
 have hm:Q.cq.map (·.m)=l:=by rw[z.2.2,S.hi];rfl
 have O:Q.cq.length=l.length:=by rw[z.2.1,S.hi];simp
 refine AWS.bS (AWT.or (AE G hA (by omega) rfl rfl (by lia) hm L.ht L.it λi H=>?_))
 rw[ah (by simp)]
 have L1:=L.sub H
 refine AWT.or ?_
 ext
 refine⟨oc rfl,λb hb=>?_⟩
 obtain⟨I,j⟩:=bG hb
 rw[bB I]
 have L2:=L1.sub (Sub.set (o:=.list true []) j)
 ext
 refine⟨_,len_list L2.it L2.ht (by omega),?_⟩
 ext
 rw[show(l.length:Int)+1=((l.length+1:Nat):Int)by lia]
 refine B2 G X hA (by omega) (by lia) (by omega) _ _ ?_
 ext
 rw[ah (by simp)]
 refine AE G hA (by omega) rfl rfl (by lia) hm L2.ht L2.it λy J=>AWS.ifF rfl (AWS.skip ?_)
 exact VD G hA hB D S hw (L2.sub J) hl hp
theorem VF(G:GF W)(X:XF W)(hA:bV A)(hB:B.Ok)(i:12<=n)(S:Std B P c bq key)(hw:Wf B c bq)(L:yr A B c key τ ca st k1 k2 ta w l)(hl:l.length<=10)(ok:Nl B c bq l):
  AWS W n QA (none::none::none::none::none::some (.int bq)::some (.ref ca)::none::none::none::some (.ref (A 0))::none::none::none::some (.ref st)::some (.ref ta)::none::none::none::none::none::none::none::none::none::none::none::none::none::none::none::none::none::[]) (wr A B P τ) eQ (λZ=>b7):=by
 have j:Wf B P.c P.bq:=by rw[S.hc,S.hs];exact hw
 ext
 refine B1 G hA hB (gd hB) i j L.it L.ht (by rw[S.hi];simp;omega) (by rw[S.hc,S.hs];exact ok) _ _ λbw y=>?_
 obtain⟨Q,hp,e⟩:=y
 refine⟨trivial,?_⟩
 rw[e]
 exact VE G X hA hB (by omega) S hw L hl hp
theorem VG(G:GF W)(X:XF W)(hA:bV A)(hB:B.Ok)(z:12<=n)(S:Std B P c bq key)(hw:Wf B c bq)(L:yr A B c key τ ca st k1 k2 ta w l)(hl:l.length<=10)(ok:Nl B c bq l):
  AWS W n QB (none::none::none::none::none::some (.int bq)::some (.ref ca)::none::none::none::some (.ref (A 0))::none::none::none::some (.ref st)::some (.ref ta)::none::none::none::none::none::none::none::none::none::none::none::none::none::none::none::none::none::[]) (wr A B P τ) eQ (λZ=>b7):=by
 refine AWS.bS (AWT.or ?_)
 ext
 refine⟨oc rfl,λb hb=>?_⟩
 obtain⟨D,i⟩:=bG hb
 have j:(wr A B P τ) (A 5)=some (.list true []):=DH hA S.hi
 refine⟨!true,dR.ne (Cq (by rw[ct (λe=>by rw[e,show _=none from hb]at j;cases j),j]) br),?_⟩
 ext
 rw[ah (by simp),bB D]
 have L2:=L.sub (Sub.set (o:=.list true []) i)
 refine wZ G hA rfl rfl S.hc S.hk L2.e1 L2.e2 L2.e3 L2.i1 L2.i2 L2.i3 λa H=>AWS.ifF rfl (AWS.skip ?_)
 obtain⟨I,y⟩:=bG H
 rw[bB I]
 exact VF G X hA hB z S hw (L2.sub (Sub.set y)) hl ok
end
section
variable{W:Wd}{n:Nat}{A:Nat->Addr}{B:Bd}{P Q:Ps}{τ g7:Hp}{c:Nat->Nat}{bq:Nat}{key:Int}{ca st k1 k2 ta:Addr}{w:Bool}{l:List Nat}
structure nB(W:Wd)(A:Nat->Addr)(τ:Hp):Prop where
 ht:jb W τ
 hi:∀k,k=2\/k=3->fL A (W.gi.s6 k)=none
theorem nB.wr(h:nB W A τ):jb W (wr A B P τ):=λk hk=>by rw[bT (h.hi k hk)];exact h.ht k hk
theorem nB.sub(h:nB W A τ)(s:Sub τ g7):nB W A g7:=⟨h.ht.sub s,h.hi⟩
theorem VH(G:GF W)(X:XF W)(hA:bV A)(hB:B.Ok)(Y:16<=n)(T:nB W A τ)(S:Std B P c bq key)(hw:Wf B c bq)(hm:m<=2)(L:yr A B c key τ ca st k1 k2 ta w (gC B m c bq)):
  AWS W n QC (none::none::some (.int B.F)::some (.int B.R)::none::some (.int bq)::some (.ref ca)::none::none::none::some (.ref (A 0))::none::some (.int (jc B m c bq:Nat))::none::some (.ref st)::some (.ref ta)::none::none::none::none::none::none::none::none::none::none::none::none::none::none::none::none::none::[]) (wr A B P τ) eQ (λZ=>b7):=by
 have U:Wf B P.c P.bq:=by rw[S.hc,S.hs];exact hw
 have j:=Ck hB hw hm
 have ok:Nl B c bq (gC B m c bq):=by
  rcases j with ⟨e,_⟩ | ⟨k,_,_,_,H⟩
  .rw[e];intro i x hx;simp at hx
  .exactλi x hx=>(H i x hx).1
 have hl:(gC B m c bq).length<=10:=by
  rcases j with ⟨e,_⟩ | ⟨k,h1,_,h2,_⟩
  .rw[e];simp
  .lia
 have hx:0∉bI B (i7 c bq (gC B m c bq)).1 (i7 c bq (gC B m c bq)).2:=by
  have:=HR hB hw ok (gC B m c bq).length (Nat.le_refl _)
  rw[aX]at this
  exact yo hB this
 have z:(wr A B P τ) ca=some (.list w (bU B c)):=(bT L.ic).trans L.hc
 have y:(wr A B P τ) ta=some (.list true (bA (gC B m c bq))):=(bT L.it).trans L.ht
 have holds:Pure W n fU [.int B.F,.int B.R,.ref ca,.int bq,.int (jc B m c bq:Nat),.ref ta] (wr A B P τ) (.bool true):=by
  rcases j with ⟨e1,e2⟩ | ⟨k,h1,h2,h3,H⟩
  .rw[e2]
   rw[e1]at y
   exact yl G (by omega) y
  .rw[h2]
   exact ym G hB T.wr hw (by lia) (by omega) z y h3 H
 generalize gC B m c bq=l at*
 generalize jc B m c bq=ls at*
 refine AWS.bS (AWT.or ?_)
 ext
 refine holds _ _ ?_
 ext
 rw[ah (by simp)]
 refine AWT.not (AWT.val rfl (AWE.call G (AWEs.cons (AWE.var rfl (AWEs.cons (AWE.RG ?_))))))
 ext
 refine⟨oc rfl,λb hb=>?_⟩
 obtain⟨J,D⟩:=bG hb
 rw[bB J]
 have L2:=L.sub (Sub.set (o:=.list true [.int 0]) D)
 refine⟨ta,_,b,_,cB ((bT L2.it).trans L2.ht),cB (w:=true) ((bT J).trans br),by rw[bR];simp;omega,λa V=>?_⟩
 obtain⟨O,I⟩:=bG V
 rw[bB O]
 have L3:=L2.sub (Sub.set (o:=.list true (bA l++[.int 0])) I)
 ext
 refine Hv (l:=l) (x:=0) G X hA hB (gd hB) (by omega) U O (by rw[br,hO];rfl) (by rw[S.hi];simp;omega) (by rw[S.hc,S.hs];exact ok) (by rw[S.hc,S.hs];exact hx) _ _ ?_
 refine⟨_,rfl,AWS.ifF rfl (AWS.skip ?_)⟩
 refine AWS.loose ?_ (.refl _) (VG G X hA hB (by omega) S hw L3 hl ok)
 exact⟨rfl,rfl,rfl,rfl,rfl,trivial⟩
theorem VI(G:GF W)(X:XF W)(hA:bV A)(hB:B.Ok)(H:16<=n)(T:nB W A τ)(S:Std B P c bq key)(hw:Wf B c bq)(hm:m<=2)(L:yr A B c key τ ca st k1 k2 ta w (gC B m c bq)):
  AWS W n QD (none::none::some (.int B.F)::some (.int B.R)::none::some (.int bq)::some (.ref ca)::none::none::none::some (.ref (A 0))::none::some (.int (jc B m c bq:Nat))::none::some (.ref st)::some (.ref ta)::none::none::none::none::none::none::none::none::none::none::none::none::none::none::none::none::none::[]) (wr A B P τ) eQ (λZ=>b7):=by
 have I:Wf B P.c P.bq:=by rw[S.hc,S.hs];exact hw
 ext
 refine r6 (m:=0) G hA hB (gd hB) (by omega) (by omega) I (by rw[S.hi];simp) _ _ λb hb=>?_
 obtain⟨y,j⟩:=bG hb
 rw[bB y,show gC B 0 P.c P.bq=[]from rfl]
 ext
 refine⟨oc rfl,λa J=>?_⟩
 obtain⟨z,i⟩:=bG J
 rw[bB z]
 have nb:b≠a:=λe=>by rw[<-e,br]at i;cases i
 refine⟨!true,dR.ne (Cq (w:=true) (u:=true) (by rw[bT y,ct nb,br];rfl) (by rw[bT z,br])),AWS.ifF rfl (AWS.skip ?_)⟩
 have D:Sub τ ((τ.set b (.list true (bA []))).set a (.list true [])):=(Sub.set j).trans (Sub.set i)
 exact VH G X hA hB H (T.sub D) S hw hm (L.sub D)
theorem VJ(G:GF W)(X:XF W)(hA:bV A)(hB:B.Ok)(H:18<=n)(T:nB W A τ)(S:Std B P c bq key)(hw:Wf B c bq)(hm:m<=2)
  (e1:τ st=some (.list true [.ref k1,.ref k2,.int key])) (e2:τ k1=some (.list true (dB (r9 c)))) (e3:τ k2=some (.list true (dB (se c)))) (i1:fL A st=none) (i2:fL A k1=none) (i3:fL A k2=none)
  (hc:τ ca=some (.list w (bU B c))) (ic:fL A ca=none):
  AWS W n QE (none::none::some (.int B.F)::some (.int B.R)::none::some (.int bq)::some (.ref ca)::none::none::none::some (.ref (A 0))::some (.int (m:Nat))::some (.int (jc B m c bq:Nat))::none::some (.ref st)::none::none::none::none::none::none::none::none::none::none::none::none::none::none::none::none::none::none::[]) (wr A B P τ) eQ (λZ=>b7):=by
 have z:Wf B P.c P.bq:=by rw[S.hc,S.hs];exact hw
 refine AWS.bL ?_
 ext
 refine r6 (m:=m) G hA hB (gd hB) (by lia) (by omega) z (by rw[S.hi];simp) _ _ λa D=>?_
 obtain⟨y,j⟩:=bG D
 rw[bB y,S.hc,S.hs]
 have i:Sub τ (τ.set a (.list true (bA (gC B m c bq)))):=Sub.set j
 refine AWS.loose ?_ (.refl _) (VI (ta:=a) G X hA hB (by omega) (T.sub i) S hw hm ⟨i _ _ e1,i _ _ e2,i _ _ e3,i1,i2,i3,i _ _ hc,ic,br,y⟩)
 exact⟨rfl,rfl,rfl,rfl,rfl,rfl,rfl,rfl,trivial⟩
theorem VK(G:GF W)(X:XF W)(hA:bV A)(hB:B.Ok)(U:18<=n)(T:nB W A τ)(S:Std B P c bq key)(hw:Wf B c bq)(hm:m<=2)(hc:τ ca=some (.list w (bU B c)))(ic:fL A ca=none):
  AWS W n QF (none::none::some (.int B.F)::some (.int B.R)::none::some (.int bq)::some (.ref ca)::none::none::none::some (.ref (A 0))::some (.int (m:Nat))::some (.int (jc B m c bq:Nat))::none::none::none::none::none::none::none::none::none::none::none::none::none::none::none::none::none::none::none::none::[]) (wr A B P τ) eQ (λZ=>b7):=by
 refine AWS.bL ?_
 ext
 refine⟨A 3,_,cB (AB hA),by unfold dB r9;simp,trivial,λa V=>?_⟩
 obtain⟨J,D⟩:=bG V
 rw[bB J]
 ext
 refine⟨A 4,_,cB (AD hA),by unfold dB se;simp,trivial,λb hb=>?_⟩
 obtain⟨L,j⟩:=bG hb
 rw[bB L]
 ext
 refine⟨oc rfl,λd hd=>?_⟩
 obtain⟨y,i⟩:=bG hd
 rw[bB y,S.hk]
 have O:Sub τ (((τ.set a (.list true (oo (dB (r9 P.c)) none none))).set b (.list true (oo (dB (se P.c)) none none))).set d (.list true [.ref a,.ref b,.int key])):=((Sub.set D).trans (Sub.set j)).trans (Sub.set i)
 have z:a≠b:=λe=>by rw[<-e,br]at j;cases j
 have H:a≠d:=λe=>by rw[<-e,ct z,br]at i;cases i
 have I:b≠d:=λe=>by rw[<-e,br]at i;cases i
 refine AWS.loose ?_ (.refl _) (VJ (st:=d) (k1:=a) (k2:=b) G X hA hB U (T.sub O) S hw hm br ?_ ?_ y J L (O _ _ hc) ic)
 .exact⟨rfl,rfl,rfl,rfl,rfl,rfl,rfl,rfl,trivial⟩
 .rw[ct H,ct z,br,S.hc];rfl
 .rw[ct I,br,S.hc];rfl
end
section
variable{W:Wd}{n:Nat}{A:Nat->Addr}{B:Bd}{P Q:Ps}{τ g7:Hp}{c:Nat->Nat}{bq:Nat}{key:Int}{ca nu:Addr}{w u:Bool}{l:List Nat}{ns:List Int}
def AF(B:Bd)(m:Nat)(c:Nat->Nat)(bq i:Nat):Nat:=match(List.range m).find? λk=>decide (m<=k+i)&&gx B (k+1) c bq with
 | some k=>k+1
 | none=>0
theorem H8:AF B m c bq 0=0:=by
 unfold AF
 rw[show(List.range m).find? (λk=>decide (m<=k+0)&&gx B (k+1) c bq)=none from List.find?_eq_none.mpr λk hk=>by
  have:=aN.mp hk
  rw[decide_eq_false (by lia)];simp]
theorem KZ:AF B m c bq m=jc B m c bq:=by
 unfold AF jc
 rw[show(λk=>decide (m<=k+m)&&gx B (k+1) c bq)=λk=>gx B (k+1) c bq from funext λk=>by rw[decide_eq_true (by lia)];simp]
 all_goals rfl
theorem H9(hm:m<=2)(hi:i<m):AF B m c bq (i+1)=if gx B (m-i) c bq then m-i else AF B m c bq i:=by
 rcases((by decide:∀m,m<=2->∀i,i<m->((m=1/\i=0)\/(m=2/\i=0)\/(m=2/\i=1))) m hm i hi)with ⟨rfl,rfl⟩ | ⟨rfl,rfl⟩ | ⟨rfl,rfl⟩<;>
 .unfold AF
  cases h1:gx B 1 c bq<;>cases h2:gx B 2 c bq<;>simp[List.range_succ,h1,h2]
theorem VL(G:GF W)(X:XF W)(hA:bV A)(hB:B.Ok)(y:18<=n)(T:nB W A τ)(S:Std B P c bq key)(hw:Wf B c bq)(h1:1<=m)(hm:m<=2)(hc:τ ca=some (.list w (bU B c)))(ic:fL A ca=none):
  AWS W n QG (none::none::some (.int B.F)::some (.int B.R)::none::some (.int bq)::some (.ref ca)::none::none::none::some (.ref (A 0))::some (.int (m:Nat))::some (.int 0)::none::none::none::none::none::none::none::none::none::none::none::none::none::none::none::none::none::none::none::none::[]) (wr A B P τ) eQ (λZ=>b7):=by
 refine AWS.fi b0.none ?_
 ext
 have it:∀σ,bO σ (.c8 (m:Int) 0 (-1))=some ((List.range m).map λ(i:Nat)=>AV.int ((m:Int)-i)):=λσ=>by
  unfold bO yQ
  try dsimp only
  rw[ag (by lia),ah (by decide),ag rfl]
  congr 3
 refine⟨_,rfl,_,λi=>(none::none::some (.int B.F)::some (.int B.R)::none::some (.int bq)::some (.ref ca)::none::none::none::some (.ref (A 0))::some (.int (m:Nat))::some (.int (AF B m c bq i:Nat))::none::none::none::none::none::none::none::none::none::none::none::none::none::none::none::none::none::none::none::none::[]),λZ=>wr A B P τ,λZ=>True,trivial,λZ Z=>it _,it _,?_,.refl _,λZ=>?_,λi x hi Z hx=>?_⟩
 .try dsimp only
  rw[H8]
  exact⟨rfl,rfl,rfl,rfl,rfl,rfl,rfl,trivial⟩
 .try dsimp only
  rw[aV,aW,KZ]
  exact VK G X hA hB y T S hw hm hc ic
 .rw[aV,aW]at hi
  rw[aF,List.getElem?_range hi]at hx
  cases hx
  refine⟨_,rfl,?_⟩
  ext
  rw[show(m:Int)-(i:Int)=((m-i:Nat):Int)by lia]
  refine(u5 G hB (m-i)).1 (by omega) n _ ca w c bq (ai (Nat.add_le_add_left (Nat.mul_le_mul_left 2 (ai (Nat.sub_le m i) hm)) 6) (ai (by decide) y)) T.wr hw ((bT ic).trans hc) _ _ ?_
  have e:=H9 (B:=B) (c:=c) (bq:=bq) hm hi
  cases j:gx B (m-i) c bq
  .rw[j,ah (by simp)]at e
   first | refine⟨_,rfl,AWS.ifF rfl (AWS.skip (AWS.skip ⟨trivial,?_,.refl _⟩))⟩ | refine AWS.ifF rfl (AWS.skip (AWS.skip ⟨trivial,?_,.refl _⟩))
   try dsimp only
   rw[e]
   exact⟨rfl,rfl,rfl,rfl,rfl,rfl,rfl,trivial⟩
  .rw[j,ag rfl]at e
   first | refine⟨_,rfl,AWS.ifT rfl ?_⟩ | refine AWS.ifT rfl ?_
   ext
   refine⟨trivial,?_,.refl _⟩
   try dsimp only
   rw[e]
   exact⟨rfl,rfl,rfl,rfl,rfl,rfl,rfl,trivial⟩
theorem VN(G:GF W)(X:XF W)(hA:bV A)(hB:B.Ok)(i:18<=n)(T:nB W A τ)(S:Std B P c bq key)(hw:Wf B c bq)(h1:1<=m)(hm:m<=2)(hc:τ ca=some (.list w (bU B c)))(ic:fL A ca=none):
  AWS W n KY (none::none::some (.int B.F)::some (.int B.R)::none::some (.int bq)::some (.ref ca)::none::none::none::some (.ref (A 0))::some (.int (m:Nat))::none::none::none::none::none::none::none::none::none::none::none::none::none::none::none::none::none::none::none::none::none::[]) (wr A B P τ) eQ (λZ=>b7):=by
 refine AWS.bL (AWE.int ?_)
 exact VL G X hA hB i T S hw h1 hm hc ic
theorem VO(G:GF W)(X:XF W)(hA:bV A)(hB:B.Ok)(I:18<=n)(T:nB W A τ)(S:Std B P c bq key)(hw:Wf B c bq)(hc:τ ca=some (.list w (bU B c)))(ic:fL A ca=none)(y:τ nu=some (.list u (dB ns)))(z:fL A nu=none)(hl:ns.length=7):
  AWS W n QH (none::some (.ref nu)::some (.int B.F)::some (.int B.R)::some (.int B.N)::some (.int bq)::some (.ref ca)::none::none::none::some (.ref (A 0))::some (.int 1)::none::none::none::none::none::none::none::none::none::none::none::none::none::none::none::none::none::none::none::none::none::[]) (wr A B P τ) eQ (λZ=>b7):=by
 have U:=hB.cm
 obtain⟨v,J⟩:∃v,ns[6]? =some v:=⟨ns[6],aJ (by omega)⟩
 have i:(wr A B P τ) ca=some (.list w (bU B c)):=(bT ic).trans hc
 have H:∀(m:Nat)(bw:Hp),1<=m->m<=2->Sub (wr A B P τ) bw->AWS W n KY (none::some (.ref nu)::some (.int B.F)::some (.int B.R)::some (.int B.N)::some (.int bq)::some (.ref ca)::none::none::none::some (.ref (A 0))::some (.int (m:Nat))::none::none::none::none::none::none::none::none::none::none::none::none::none::none::none::none::none::none::none::none::none::[]) bw eQ (λZ=>b7):=λm bw h1 h2 hs=>by
  refine AWS.loose ?_ hs (VN G X hA hB I T S hw h1 h2 hc ic)
  exact⟨rfl,rfl,rfl,rfl,rfl,rfl,trivial⟩
 have tb:∀(b:Bool)(bw:Hp),Sub (wr A B P τ) bw->AWS W n (if b=true then(.bL 11 (.int 2) .skip)else .skip) (none::some (.ref nu)::some (.int B.F)::some (.int B.R)::some (.int B.N)::some (.int bq)::some (.ref ca)::none::none::none::some (.ref (A 0))::some (.int 1)::none::none::none::none::none::none::none::none::none::none::none::none::none::none::none::none::none::none::none::none::none::[]) bw
   (λo ρ' bw=>match o with | .next=>AWS W n KY ρ' bw eQ (λZ=>b7) | o=>eQ o ρ' bw) (λZ=>b7):=λb bw hs=>by
  cases b
  .exact AWS.ifF rfl (AWS.skip (H 1 bw (by omega) (by omega) hs))
  .refine AWS.ifT rfl (AWS.bL (AWE.int (AWS.skip (H 2 bw (by omega) (by omega) hs))))
 refine AWS.bS (AWT.and ?_)
 ext
 refine⟨.int v,?_,?_⟩
 .unfold cw;dsimp only;rw[bT z,y];dsimp only
  unfold jQ dB
  rw[ag (by lia),aF]
  show(ns[6]?).map AV.int=_
  rw[J];rfl
 ext
 refine bE (λh=>?_) (λh=>tb false _ (.refl _))
 refine AWT.and ?_
 ext
 refine jw G hB (by omega) T.wr hw i _ _ λV bw L=>?_
 obtain⟨a,O,rfl,Y,D,e1,e2,hM⟩:=L
 refine⟨(O.length:Int),by unfold lg;dsimp only;rw[e1];dsimp only;rw[ag (by omega)],?_⟩
 ext
 refine bE (λh=>?_) (λh=>tb false _ D)
 have j:=D _ _ i
 refine AWT.bM (AWE.count (AWE.var rfl ⟨ca,_,cB j,AWE.int ⟨0,((List.range B.N).map c).map (λx:Nat=>(x:Int)),rfl,?_,?_⟩⟩))
 .unfold dM;dsimp only;rw[j];dsimp only;rw[u4,kj]
 ext
 exact tb _ _ D
theorem VP(G:GF W)(X:XF W)(hA:bV A)(hB:B.Ok)(y:18<=n)(T:nB W A τ)(S:Std B P c bq key)(hw:Wf B c bq)(hc:τ ca=some (.list w (bU B c)))(ic:fL A ca=none)(i:τ nu=some (.list u (dB ns)))(j:fL A nu=none)(hl:ns.length=7):
  AWS W n QI (none::some (.ref nu)::some (.int B.F)::some (.int B.R)::some (.int B.N)::some (.int bq)::some (.ref ca)::none::none::none::some (.ref (A 0))::none::none::none::none::none::none::none::none::none::none::none::none::none::none::none::none::none::none::none::none::none::none::[]) (wr A B P τ) eQ (λZ=>b7):=by
 refine AWS.bL (AWE.int ?_)
 exact VO G X hA hB y T S hw hc ic i j hl
theorem VQ(G:GF W)(X:XF W)(hA:bV A)(hB:B.Ok)(z:18<=n)(T:nB W A τ)(S:Std B P c bq key)(hw:Wf B c bq)(hc:τ ca=some (.list w (bU B c)))(ic:fL A ca=none)(i:τ nu=some (.list u (dB ns)))(j:fL A nu=none)(hl:ns.length=7):
  AWS W n QJ (none::some (.ref nu)::some (.int B.F)::some (.int B.R)::some (.int B.N)::some (.int bq)::some (.ref ca)::none::none::none::some (.ref (A 0))::none::none::none::none::none::none::none::none::none::none::none::none::none::none::none::none::none::none::none::none::none::none::[]) (wr A B P τ) eQ (λZ=>b7):=by
 have D:P.Ok B:=⟨by rw[S.hc];exact hw.w0.cells.eS,by rw[S.hs];exact hw.sd⟩
 have y:(wr A B P τ) ca=some (.list w (bU B c)):=(bT ic).trans hc
 refine AWS.bS (AWT.bM ?_)
 ext
 refine qg G hA hB D (by omega) _ _ ?_
 ext
 refine Cn G hB (by omega) y _ _ ⟨_,dR.S3 _ _,?_⟩
 rw[S.hc,Cm hB hw.w0.cells,bne_self_eq_false]
 refine AWS.ifF rfl (AWS.skip ?_)
 exact VP G X hA hB z T S hw hc ic i j hl
theorem t9(G:GF W)(X:XF W)(hA:bV A)(hB:B.Ok)(y:18<=n)(T:nB W A τ)(S:Std B P c 0 key)(hw:Wf B c bq)(hc:τ ca=some (.list w (bU B c)))(ic:fL A ca=none)(i:τ nu=some (.list u (dB ns)))(j:fL A nu=none)(hl:ns.length=7):
  AWS W n TX (none::some (.ref nu)::some (.int B.F)::some (.int B.R)::some (.int B.N)::some (.int bq)::some (.ref ca)::none::none::none::some (.ref (A 0))::none::none::none::none::none::none::none::none::none::none::none::none::none::none::none::none::none::none::none::none::none::none::[]) (wr A B P τ) eQ (λZ=>b7):=by
 ext
 refine⟨A 1,_,nA hA rfl,?_⟩
 rw[mO hA]
 exact VQ G X hA hB y T ⟨S.hc,rfl,S.hh,S.hf,S.hk,S.hi⟩ hw hc ic i j hl
end
section
variable{W:Wd}{n:Nat}{A:Nat->Addr}{B:Bd}{τ σ:Hp}{c:Nat->Nat}{bq:Nat}{ca nu:Addr}{w u:Bool}{ns:List Int}
def qo(c:Nat->Nat)(i:Nat):Nat->Nat:=λs=>if s<i then c s else 0
theorem DI(s:Nat):dJ (qo c s) s (c s)=qo c (s+1):=by
 funext t
 unfold dJ qo
 by_cases h:t=s
 .rw[ag h,ag (by lia),h]
 .rw[ah h]
  by_cases h2:t<s
  .rw[ag h2,ag (by lia)]
  .rw[ah h2,ah (by lia)]
theorem Ia(h:c s=0):qo c (s+1)=qo c s:=by
 rw[<-DI,h]
 funext t
 unfold dJ qo
 by_cases h:t=s
 .rw[ag h,ah (by lia)]
 .rw[ah h]
theorem SQ:∀x,x<9->(x=0\/x=1\/x=2\/x=3\/x=4\/x=5\/x=6\/x=7\/x=8):=by decide
theorem SR(x:Nat):x=0\/x=1\/x=2\/x=3\/x=4\/x=5\/x=6\/x=7\/x=8\/∃j,x=j+9:=by
 by_cases h:x<9
 .exact(SQ x h).imp_right (Or.imp_right (Or.imp_right (Or.imp_right (Or.imp_right (Or.imp_right (Or.imp_right (Or.imp_right Or.inl)))))))
 .exact .inr (.inr (.inr (.inr (.inr (.inr (.inr (.inr (.inr ⟨x-9,(Nat.sub_add_cancel (Nat.not_lt.mp h)).symm⟩))))))))
theorem t8(G:GF W)(X:XF W)(hA:bV A)(hB:B.Ok)(O:18<=n)(T:nB W A τ)(hw:Wf B c bq)(hc:τ ca=some (.list w (bU B c)))(ic:fL A ca=none)(D:τ nu=some (.list u (dB ns)))(H:fL A nu=none)(hl:ns.length=7):
  AWS W n SP (none::some (.ref nu)::some (.int B.F)::some (.int B.R)::some (.int B.N)::some (.int bq)::some (.ref ca)::none::none::none::some (.ref (A 0))::none::none::none::none::none::none::none::none::none::none::none::none::none::none::none::none::none::none::none::none::none::none::[]) (wr A B P0 τ) eQ (λZ=>b7):=by
 have V:=hB.cm
 refine AWS.fr b0.none ?_
 ext
 refine⟨_,rfl,bA (List.range B.N),λi ρ' bw=>i<=B.N/\bJ (none::some (.ref nu)::some (.int B.F)::some (.int B.R)::some (.int B.N)::some (.int bq)::some (.ref ca)::none::none::none::some (.ref (A 0))::none::none::none::none::none::none::none::none::none::none::none::none::none::none::none::none::none::none::none::none::none::none::[]) ρ'/\∃key,Sub (wr A B ⟨qo c i,0,0,1,key,[]⟩ τ) bw,cN (by lia),⟨by omega,bJ.refl _,0,?_⟩,λi ρ' bw I=>?_⟩
 .have:qo c 0=λZ=>0:=by funext s;unfold qo;rw[ah (by lia)]
  rw[this]
  exact .refl _
 obtain⟨hi,L,key,hs⟩:=I
 refine⟨cN (by lia),λe=>?_,λx hx=>?_⟩
 .rw[bR,aW]at e
  subst e
  have:qo c B.N=c:=by
   funext s
   unfold qo
   split
   .rfl
   .rename_i h
    cases e:c s with
    | zero=>rfl
    | succ m=>exact absurd (hw.w0.cells.eS s (by lia)) h
  rw[this]at hs
  exact AWS.loose L hs (t9 G X hA hB O T ⟨rfl,rfl,rfl,rfl,rfl,rfl⟩ hw hc ic D H hl)
 .obtain⟨s,e1,rfl⟩:=bX hx
  obtain⟨rfl,j⟩:=dq e1
  refine⟨_,rfl,AWS.loose (bJ.nE (i:=9) (v:=.int (s:Nat)) L) hs ?_⟩
  have U:∀P,(wr A B P τ) ca=some (.list w (bU B c)):=λP=>(bT ic).trans hc
  try refine AWS.norm (by dsimp only[Lake.setL]) ?_
  ext
  refine AWS.split (λh=>?_) (λh=>?_)
  .have J:c s≠0:=by have:=aP.mp h;lia
   ext
   obtain⟨y,z⟩:=jt (W:=W) (n:=n) (P:=⟨qo c s,0,0,1,key,[]⟩) (τ:=τ) G hA hB (by lia) (hw.w0.cells.pc s J) j (by show qo c s s=0;unfold qo;rw[ah (by lia)])
   refine z _ _ ⟨trivial,AWS.skip (AWS.skip ⟨j,?_,y,?_⟩)⟩
   .exact⟨rfl,rfl,rfl,rfl,rfl,rfl,rfl,trivial⟩
   .try dsimp only
    rw[DI]
    exact .refl _
  .have J:c s=0:=by have:=bo.mp h;lia
   refine AWS.skip (AWS.skip ⟨j,?_,key,?_⟩)
   .exact⟨rfl,rfl,rfl,rfl,rfl,rfl,rfl,trivial⟩
   .rw[Ia J]
    exact .refl _
theorem t5(G:GF W)(X:XF W)(hB:B.Ok)(L:18<=n)(J:jb W σ)(hw:Wf B c bq)(hc:σ ca=some (.list w (bU B c)))(z:σ nu=some (.list u (dB ns)))(hl:ns.length=7):
  AWS W n TY (some (sc)::some (.ref nu)::some (.int B.F)::some (.int B.R)::some (.int B.N)::some (.int bq)::some (.ref ca)::none::none::none::none::none::none::none::none::none::none::none::none::none::none::none::none::none::none::none::none::none::none::none::none::none::none::[]) σ eQ (λZ=>b7):=by
 refine PJ (k:=SP) (Lk:=(none::some (.ref nu)::some (.int B.F)::some (.int B.R)::some (.int B.N)::some (.int bq)::some (.ref ca)::none::none::none::none::none::none::none::none::none::none::none::none::none::none::none::none::none::none::none::none::none::none::none::none::none::none::[])) G hB (by omega) ?_ ?_ ?_ λA bw hA D hs H=>?_
 .unfold Nc
  exact .old (.old (.new (.int _) (.new (.int _) (.new (.int _) (LM.Sd _)))))
 .exact⟨rfl,rfl,rfl,rfl,rfl,rfl,trivial⟩
 .intro i v h
  by_cases hi:i<33
  .have y:i=2\/i=3\/i=4\/i=7\/i=8\/getL (G5 B) i=none:=by
    rcases SR i with rfl | rfl | rfl | rfl | rfl | rfl | rfl | rfl | rfl | ⟨j,rfl⟩
    .exact .inr (.inr (.inr (.inr (.inr rfl))))
    .exact .inr (.inr (.inr (.inr (.inr rfl))))
    .exact .inl rfl
    .exact .inr (.inl rfl)
    .exact .inr (.inr (.inl rfl))
    .exact .inr (.inr (.inr (.inr (.inr rfl))))
    .exact .inr (.inr (.inr (.inr (.inr rfl))))
    .exact .inr (.inr (.inr (.inl rfl)))
    .exact .inr (.inr (.inr (.inr (.inl rfl))))
    .refine .inr (.inr (.inr (.inr (.inr ?_))))
     have:∀j,j<24->getL (G5 B) (j+9)=none:=by
      intro j O
      exact Option.isNone_iff_eq_none.mp ((by decide +kernel:∀j,j<24->(getL (List.replicate 24 none) j).isNone=true) j O)
     exact this j (by lia)
   rcases y with rfl | rfl | rfl | rfl | rfl | e
   .cases h;exact .inr ⟨rfl,rfl⟩
   .cases h;exact .inr ⟨rfl,rfl⟩
   .cases h;exact .inr ⟨rfl,rfl⟩
   .exact .inl rfl
   .exact .inl rfl
   .rw[e]at h;cases h
  .have:getL (G5 B) i=none:=by
    obtain⟨j,rfl⟩:∃j,i=j+33:=⟨i-33,(Nat.sub_add_cancel (Nat.not_lt.mp hi)).symm⟩
    rfl
   rw[this]at h;cases h
 .have I:∀{x:Addr}{o:AO},σ x=some o->fL A x=none:=λ{x}{o}h=>Gq λk hk e=>by
   have:=D k hk
   rw[e,h]at this;cases this
  refine AWS.loose ?_ H (t8 (τ:=bw) G X hA hB L ⟨J.sub hs,λk hk=>I (J k hk)⟩ hw (hs _ _ hc) (I hc) (hs _ _ z) (I z) hl)
  exact⟨rfl,rfl,rfl,rfl,rfl,rfl,rfl,trivial⟩
end
section
variable{W:Wd}{n:Nat}{B:Bd}{σ:Hp}{bq:Nat}{sa nu:Addr}{u:Bool}{ns zs:List Int}
theorem t2(G:GF W)(X:XF W)(hB:B.Ok)(H:18<=n)(z:jb W σ)(i:σ nu=some (.list u (dB ns)))(hl:ns.length=7):
  AWS W n TZ (some (sc)::some (.ref nu)::some (.int B.F)::some (.int B.R)::none::none::none::none::none::none::none::none::none::none::none::none::none::none::none::none::none::none::none::none::none::none::none::none::none::none::none::none::none::[]) σ eQ (λZ=>b7):=by
 have I:=hB.cm
 obtain⟨v,J⟩:∃v,ns[0]? =some v:=⟨ns[0],aJ (by omega)⟩
 refine AWS.bL (AWE.bx G (AWE.var rfl (AWE.var rfl ⟨_,binv_mul (by omega),?_⟩)))
 rw[show(B.F:Int)*(B.R:Int)=(B.N:Int)from by rw[<-Int.natCast_mul,I.2.2.2.2.2.2]]
 try refine AWS.norm (by dsimp only[Lake.setL]) ?_
 ext
 refine⟨.int v,?_,?_⟩
 .unfold cw;dsimp only;rw[i];dsimp only
  unfold jQ dB
  rw[ag (by lia),aF]
  show(ns[0]?).map AV.int=_
  rw[J];rfl
 ext
 obtain⟨j,y⟩:=jd (v.fdiv 3) (N:=2) (by lia)
 have j:(v.fdiv 3).fmod 2=((((v.fdiv 3).fmod 2).toNat:Nat):Int):=j
 rw[j]
 have y:((v.fdiv 3).fmod 2).toNat<2:=y
 generalize((v.fdiv 3).fmod 2).toNat=bq at*
 try refine AWS.norm (by dsimp only[Lake.setL]) ?_
 ext
 refine Az G hB (by omega) z y i hl _ _ λL bw S=>?_
 obtain⟨a,c,rfl,O,D,e1,hw⟩:=S
 try refine AWS.norm (by dsimp only[Lake.setL]) ?_
 exact t5 G X hB H (z.sub D) hw e1 (D _ _ i) hl
theorem La(G:GF W)(X:XF W)(hn:18<=n)(HT:jb W σ)(hs:σ sa=some (.list u (dB zs)))(hz:zs.length<=63):
  AWS W n Gz (initLoc 33 [.ref sa]) σ eQ (λZ=>b7):=by
 rw[HZ]
 refine AWS.norm0 (ρ':=(some (.ref sa)::none::none::none::none::none::none::none::none::none::none::none::none::none::none::none::none::none::none::none::none::none::none::none::none::none::none::none::none::none::none::none::none::[])) rfl ?_
 refine AWS.k9 (by decide) (λsc e h=>by first | exact tl h | exact pa h | exact pb h | exact qv h) ?_
 ext
 refine⟨_,rfl,bA (List.range 7),cN (k:=7) (by omega),λD hD=>?_⟩
 have nD:sa≠D:=λe=>by rw[e,show σ D=none from hD]at hs;cases hs
 have U:∀X,(σ.set D X) sa=some (.list u (dB zs)):=λX=>by rw[ct nD,hs]
 refine⟨λi out ρ' bw=>i<=7/\(∃ns:List Int,out=dB ns/\ns.length=i)/\bJ (some (.ref sa) |> λx=>[none,none,none,x]) ρ'/\bw=σ.set D (.list true out),⟨by omega,⟨[],rfl,rfl⟩,⟨rfl,trivial⟩,rfl⟩,λi out ρ' bw KL=>?_⟩
 obtain⟨hi,⟨ns,ho,VS⟩,hL,I⟩:=KL
 refine⟨cN (k:=7) (by omega),?_,?_,λe=>?_,λx hx=>?_⟩
 .subst I;exact br
 .subst ho;unfold dB;rw[aV];lia
 .rw[bR,aW]at e
  subst I ho
  try refine AWS.norm (by dsimp only[Lake.setL]) ?_
  have VT:jb W (σ.set D (.list true (dB ns))):=HT.sub (Sub.set hD)
  have H:(σ.set D (.list true (dB ns))) D=some (.list true (dB ns)):=br
  generalize σ.set D (.list true (dB ns))=y at*
  obtain⟨v,e0⟩:∃v,ns[0]? =some v:=⟨ns[0],aJ (by lia)⟩
  refine AWS.o5 ?_
  ext
  refine⟨oc rfl,?_⟩
  ext
  refine⟨oc rfl,?_⟩
  ext
  refine⟨oc rfl,?_⟩
  ext
  refine⟨oc rfl,λb hb=>?_⟩
  have nb:D≠b:=λe=>by rw[e,show y b=none from hb]at H;cases H
  ext
  refine⟨.int v,?_,?_⟩
  .unfold cw;dsimp only;rw[ct nb,H];dsimp only
   unfold jQ dB
   rw[ag (by lia),aF]
   show(ns[0]?).map AV.int=_
   rw[e0];rfl
  ext
  obtain⟨f1,f2⟩:=jd v (N:=3) (by lia)
  have f1:v.fmod 3=(((v.fmod 3).toNat:Nat):Int):=f1
  rw[f1]
  generalize(v.fmod 3).toNat=j at*
  have J:=VT.sub (Sub.set (o:=.list true [.cn [.int 3,.int 4],.cn [.int 2,.int 4],.cn [.int 4,.int 3]]) hb)
  have L:(y.set b (.list true [.cn [.int 3,.int 4],.cn [.int 2,.int 4],.cn [.int 4,.int 3]])) D=some (.list true (dB ns)):=by rw[ct nb,H]
  have Rf:(y.set b (.list true [.cn [.int 3,.int 4],.cn [.int 2,.int 4],.cn [.int 4,.int 3]])) b=some (.list true [.cn [.int 3,.int 4],.cn [.int 2,.int 4],.cn [.int 4,.int 3]]):=br
  generalize y.set b (.list true [.cn [.int 3,.int 4],.cn [.int 2,.int 4],.cn [.int 4,.int 3]])=O at*
  have sb:∀(j:Nat)(t:AV),([.cn [.int 3,.int 4],.cn [.int 2,.int 4],.cn [.int 4,.int 3]]:List AV)[j]? =some t->j<3->cw O (.ref b) (.int (j:Nat))=some t:=λj t h hj=>by
   unfold cw;dsimp only;rw[Rf];dsimp only
   unfold jQ
   rw[ag (by omega),a9];exact h
  rcases(show j=0\/j=1\/j=2 by omega)with rfl | rfl | rfl
  .refine⟨_,sb 0 _ rfl (by omega),_,rfl,rfl,?_⟩
   refine AWS.norm (by dsimp only[Lake.setL,setTs]) ?_
   exact t2 (B:=⟨3,4⟩) G X .a hn J L (by lia)
  .refine⟨_,sb 1 _ rfl (by omega),_,rfl,rfl,?_⟩
   refine AWS.norm (by dsimp only[Lake.setL,setTs]) ?_
   exact t2 (B:=⟨2,4⟩) G X .b hn J L (by lia)
  .refine⟨_,sb 2 _ rfl (by omega),_,rfl,rfl,?_⟩
   refine AWS.norm (by dsimp only[Lake.setL,setTs]) ?_
   exact t2 (B:=⟨4,3⟩) G X .c hn J L (by lia)
 .obtain⟨s,e1,rfl⟩:=bX hx
  obtain⟨rfl,Wh⟩:=dq e1
  refine⟨_,rfl,?_⟩
  subst I ho
  have hr:bJ [none,some (.int (s:Nat)),none,some (.ref sa)] (Lake.setL ρ' 1 (.int (s:Nat))):=bJ.nE (i:=1) hL
  have hw:bJ [none,none,none,some (.ref sa)] (Lake.setL ρ' 1 (.int (s:Nat))):=bJ.free (i:=1) hL rfl
  unfold px
  try dsimp only
  rw[ag rfl]
  have V:∀z:Int,(σ.set D (.list true (dB ns))) D=some (.list true (dB ns))/\s+1<=7/\(∃Y:List Int,dB ns++[AV.int z]=dB Y/\Y.length=s+1)/\bJ (some (.ref sa) |> λx=>[none,none,none,x]) (Lake.setL ρ' 1 (.int (s:Nat)))/\(σ.set D (.list true (dB ns))).set D (.list true (dB ns++[AV.int z]))=σ.set D (.list true (dB ns++[AV.int z])):=λz=>
   ⟨br,by lia,⟨ns++[z],by unfold dB;rw[List.map_append];rfl,by simp[VS]⟩,hw,set_set⟩
  refine AWE.ite (AWT.bM (AWE.var (hr.get rfl) (AWE.len G (AWE.var (hr.get rfl) ⟨(zs.length:Int),?_,_,dR.val rfl,?_⟩))))
  .unfold lg;dsimp only;rw[U];dsimp only
   rw[show(dB zs).length=zs.length from aV ..,ag (by omega)]
  refine bE (λh=>?_) (λZ=>AWE.int (V 0))
  have h:s<zs.length:=by have:=aY h;lia
  refine AWE.sub (AWE.var (hr.get rfl) (AWE.var (hr.get rfl) ⟨.int zs[s],?_,V _⟩))
  unfold cw;dsimp only;rw[U];dsimp only
  unfold jQ dB
  rw[ag (by lia),a9,aF,aJ h];rfl
end
end
end
section
variable{W:Wd}{n:Nat}{σ:Hp}
def Ib(s:Shared)(env:Env):Cx:=⟨s.heap.get?,λZ=>none,callerA.deeper env,env,[env]⟩
theorem Cr(G:GF W)(hn:302+4*n<=880)(hu:7+12*n<=9000)(hc:bz f np m c=true)(hl:l.length=np)
  (hB:W.hB=s.heap) (T1:W.os=s.os) (QK:s.gens=#[]) (O:∀a o,σ a=some o->OR W s.heap a o/\o.own=false) (rv:eN s.heap vs l) (h:AWS W n c (initLoc m l) σ eQ (λZ=>b7))
  (hR:∀s',(∀b o,s.heap.get? b=some o->s'.heap.get? b=some o)->s'.os=s.os->s'.gens=#[]->R (.ok (.ret (.bool true))) s'):
  codeAny W.M callerA (.call (.ref (W.gi.fn f)) ⟨vs,[]⟩) R s:=by
 obtain⟨nm,a,b,sc,ef,hm,OQ,OS,D,OT,H,Bg,Bh,OU,OV⟩:=tC hc
 obtain⟨o,fd,ho,hd,F,NT⟩:=G.fns f nm a b sc ef
 have kb:∀b o,W.hB.get? b=some o->s.heap.get? b=some o:=λb o e=>by rw[<-hB];exact e
 have F2:=rG D OS
 have RK:vs.length=(bQ a).length:=by rw[rv.length,hl,OU]
 have yU:bindArgs fd ⟨vs,[]⟩=pure ((bQ a).zip vs):=by
  have:=iK (fd:=fd) (vs:=vs) (by rw[F.params];exact OQ) F.Rm (by rw[F.params];exact F2) (by rw[F.params];exact RK)
  rwa[F.params]at this
 have L:∀(i:Nat)(x:Str),(bQ a)[i]? =some x->∃V,sc.names[i]? =some (x,V)/\(V=.local\/V=.cell):=λi x e=>by
  have:=fI OS e;rwa[Nat.zero_add]at this
 have F3:callerA.depth<recursionLimit:=by decide
 refine codeAny_call_cells F3 (kb _ _ ho) hd (G.nolimit.keeps kb) (NT.keeps kb) F.body yU F.Rl (λx hx=>?_) (λqw X=>?_) (by rw[F.scope];exact Bh) (by rw[F.scope];exact Bg) (by rw[F.scope];exact H)
 .rw[F.scope]
  obtain⟨i,hi,e⟩:=aI (List.of_mem_zip hx).1
  obtain⟨V,e1,e2⟩:=L i x.1 (by rw[aJ hi,e])
  rcases e2 with rfl | rfl
  .exact .inl (bF D e1)
  .exact .inr ⟨bF D e1,gU (aD e1)⟩
 .obtain⟨Bi,tk,rfl,hk⟩:=X.done
  generalize z:callEnvC fd s.heap.objs.size (W.gi.fn f)=env at*
  have es:env.scope=sc:=by rw[<-z];exact F.scope
  have eL:env.locals=s.heap.objs.size:=by rw[<-z];rfl
  have eF:env.frame=some env.locals:=by rw[<-z];rfl
  have eC:env.cells=cellsFrom (s.heap.objs.size+1) sc.names []:=by rw[<-z,<-F.scope];rfl
  have eg:env.globals=mainGlobals:=by rw[<-z];exact F.s8
  have eb:env.builtins=builtinsNs:=by rw[<-z];exact F.w9
  have I:∀x c,env.cells.lookup x=some c->env.locals<c:=λx c e=>X.above x c (mem_of_lookup e)
  have SS:∀a,env.locals<=a->s.heap.get? a=none:=by
   intro a ha
   cases q:s.heap.get? a with
   | none=>rfl
   | some o=>exact absurd (ak (aB q) (eL▸ha)) (aC _)
  have F4:∀a,FA env a->env.locals<=a:=by
   rintro a (rfl | ⟨x,_,hx⟩)
   .exact Nat.le_refl _
   .exact Nat.le_of_lt (I x a hx)
  have MA:∀x,env.kindOf x≠some .free:=by
   intro x hx
   have hx:sc.names.lookup x=some .free:=by rw[<-es];exact hx
   obtain⟨i,hi⟩:=cC D hx
   rcases xq OT hi with h | h | h<;>cases h
  have K':eO W n (Ib s env):=
   {base:=λb o e=>kb b o e
    a:=⟨rfl,by show 301+1+4*n<=880;omega,by show 4+3+12*n<=9000;omega⟩
    kind:=by show env.scope.kind=_;rw[es];exact H
    dh:=by show cY env.scope.names=_;rw[es];exact D
    s8:=eg
    w9:=eb
    fa:=λa ha=>⟨SS a (F4 a ha),rfl⟩
    kk:=λa ha=>absurd rfl ha
    Mh:=λa o ha=>by cases ha
    apart:=λx y c Z Z h1 h2=>name_of_addr X.apart (mem_of_lookup h1) (mem_of_lookup h2)
    s9:=λx c Z h1=>Nat.ne_of_gt (I x c h1)
    free:=λx c h1=>(MA x h1).elim
    frames:=rfl
    Fc:=λh=>nomatch h
    rB:=λe he=>by
     rcases a8.mp he with q | he
     .rw[q]
      exact⟨by rw[es,H];decide,⟨by rw[es];exact Bg,by rw[es];exact Bh,eb,eg⟩,env.locals,eF,.inl rfl⟩
     .cases he
    DO:=⟨env.locals,eF,.inl rfl⟩
    hd:=⟨env,[],rfl,rfl⟩}
  have F5:∀i:Nat,getL (initLoc m l) i=l[i]?:=by
   intro i
   rw[tE]
   show((l.map some++List.replicate (m-l.length) none)[i]?).join=_
   rcases ay i l.length with hi | hi
   .rw[List.getElem?_append_left (by simpa using hi)]
    simp[aJ hi]
   .rw[List.getElem?_append_right (by simpa using hi),List.getElem?_eq_none hi]
    rw[List.getElem?_replicate]
    split<;>rfl
  have OW:eN Bi vs l:=rv.bK λa o e Z=>hk a o e
  have I':Inv W (Ib s env) (initLoc m l) σ {s with heap:=Bi,toks:=tk}:=
   {keep:=λb o e=>hk b o e
    eh:=λb o e=>by cases e
    objs:=λa o e=>(O a o e).1.qr hk
    own:=λa o e ho=>by rw[(O a o e).2]at ho;cases ho
    yv:=λa o e Z=>by
     rw[hB]
     have:=(O a o e).1
     cases o with
     | list w xs=>obtain⟨o,items,m,g1,_⟩:=this;rw[g1];exactλh=>nomatch h
     | inst c d=>rw[this.2];exactλh=>nomatch h
     | dict fs=>obtain⟨es,m,g1,_⟩:=this;rw[g1];exactλh=>nomatch h
    gens:=QK
    os:=T1.symm
    qp:=by
     refine⟨_,X.toInCall.ns,?_,λi x e=>?_,λi x k e FJ=>?_⟩
     .show(initLoc m l).length=env.scope.names.length
      rw[es,OV]
      have:np<=m:=by
       rw[<-OU,<-OV]
       rcases ay sc.names.length (bQ a).length with q | q
       .obtain⟨V,e1,_⟩:=L sc.names.length _ (aJ q)
        exact absurd (aS.mp e1).1 (aC _)
       .exact q
      show(l.map some++List.replicate (m-l.length) none).length=m
      simp;exact Nat.add_sub_of_le (ai (aw ‹l.length=np›) this)
     .rw[F5]
      have e:sc.names[i]? =some (x,.local):=by rw[<-es];exact e
      have MB:env.kindOf x=some .local:=by show env.scope.names.lookup x=_;rw[es];exact bF D e
      rcases ay i l.length with hi | hi
      .have U:i<(bQ a).length:=by lia
       obtain⟨V,e1,_⟩:=L i _ (aJ U)
       rw[e]at e1
       obtain⟨v,hv,rr⟩:=OW.get (aJ hi)
       have ex:(bQ a)[i]? =some x:=by rw[aJ U];exact ae some (ae Prod.fst (af e1)).symm
       rw[my MB F2 ex hv,aJ hi]
       exact rr
      .rw[qC,List.getElem?_eq_none hi]
       .exact trivial
       .intro bd hb q
        obtain⟨j,hj,ej⟩:=aI (List.of_mem_zip hb).1
        obtain⟨V,e1,_⟩:=L j bd.1 (by rw[aJ hj,ej])
        rw[q]at e1
        have:=eU D e e1
        exact aC _ (ak hj (ai (aw (Eq.trans ‹(bQ a).length=np› (Eq.symm ‹l.length=np›))) (ai hi (aw this))))
     .rw[F5]
      have e:sc.names[i]? =some (x,k):=by rw[<-es];exact e
      have OX:k=.cell:=by
       rcases FJ with h | h
       .exact h
       .subst h;rcases xq OT e with h | h | h<;>cases h
      subst OX
      have MB:env.kindOf x=some .cell:=by show env.scope.names.lookup x=_;rw[es];exact bF D e
      obtain⟨cc,Y⟩:=Option.isSome_iff_exists.mp (gU (n:=s.heap.objs.size+1) (acc:=[]) (aD e))
      have Y:env.cells.lookup x=some cc:=by rw[eC];exact Y
      refine⟨cc,_,Y,X.cell x cc Y,?_⟩
      rcases ay i l.length with hi | hi
      .have U:i<(bQ a).length:=by lia
       obtain⟨V,e1,_⟩:=L i _ (aJ U)
       rw[e]at e1
       obtain⟨v,hv,rr⟩:=OW.get (aJ hi)
       have ex:(bQ a)[i]? =some x:=by rw[aJ U];exact ae some (ae Prod.fst (af e1)).symm
       rw[v7 MB F2 ex hv,aJ hi]
       exact rr
      .rw[qD,List.getElem?_eq_none hi]
       .exact trivial
       .intro bd hb q
        obtain⟨j,hj,ej⟩:=aI (List.of_mem_zip hb).1
        obtain⟨V,e1,_⟩:=L j bd.1 (by rw[aJ hj,ej])
        rw[q]at e1
        have:=eU D e e1
        exact aC _ (ak hj (ai (aw (Eq.trans ‹(bQ a).length=np› (Eq.symm ‹l.length=np›))) (ai hi (aw this))))}
  have RL:mS env.scope c b=true:=by rw[es];exact hm
  refine aK (AWS.go (C:=Ib s env) h K' RL I') (λf s' x=>?_) λe s' x=>x.elim
  obtain⟨o,ρ',bw,hf,J,q⟩:=x
  cases q
  cases f with
  | ret v=>
   have hf:VR s'.heap v (.bool true):=hf
   cases hf
   exact hR s' (λb o e=>J.keep b o e) (J.os.trans T1) J.gens
  | _=>exact hf.elim
end
theorem w3:nC.length=116:=by decide +kernel
section
variable{K:Frag}{h:Heap}{N:Addr}{m:Str->Option Value}{x:Str}
theorem yt(h:Ff v=some a):v=.ref a:=by
 cases v<;>first | exact fo h | exact ae _ (af h)
theorem DJ(h:vInt v=some i):∃t,v=.int i t:=by
 cases v<;>first | exact fo h | exact⟨_,ae (Value.int · _) (af h)⟩
theorem Lb(h:vStr v=some q):∃t,v=.str q t:=by
 cases v<;>first | exact fo h | exact⟨_,ae (Value.str · _) (af h)⟩
theorem Ic(h:Rq v=some q):v=.type q:=by
 cases v<;>first | exact fo h | exact ae _ (af h)
theorem Lc(h:Om d=some p):d=.seq p.1 p.2:=by
 cases d<;>first | exact fo h | exact ae (λp:Array Value × Nat=>Data.seq p.1 p.2) (af h)
theorem Ld(h:Oo d=some p):d=.func p:=by
 cases d<;>first | exact fo h | exact ae _ (af h)
theorem Le(h:Oq d=some p):d=.cls p:=by
 cases d<;>first | exact fo h | exact ae _ (af h)
theorem Lf(h:Ot d=some p):d=.fields p:=by
 cases d<;>first | exact fo h | exact ae _ (af h)
theorem je{α β:Type}{o:Option α}{f:α->Option β}{b:β}{P:Prop}(h:o.bind f=some b)(k:∀a,o=some a->f a=some b->P):P:=Exists.elim (aG.mp h) λa h=>k a h.1 h.2
theorem NN{α β:Type}{o:Option α}{f:α->β}{b:β}{P:Prop}(h:o.map f=some b)(k:∀a,o=some a->f a=b->P):P:=Exists.elim (aH.mp h) λa h=>k a h.1 h.2
theorem mZ(e:yA o=some a):o=some (some (.ref a)):=
 je e λZ h e=>je e λZ h' e=>h.trans (ae some (h'.trans (ae some (yt e))))
theorem Lg(e:Iv o=some i):∃t,o=some (some (.int i t)):=
 je e λZ h e=>je e λZ h' e=>(DJ e).imp λZ e=>h.trans (ae some (h'.trans (ae some e)))
theorem DK(e:yB o=true):o=some none:=by
 cases o with
 | none=>exact ff e
 | some o=>cases o with
  | none=>rfl
  | some v=>exact ff e
theorem Lh{f:Value->Option α}{g:α->AV}(H:∀v x,f v=some x->VR h v (g x))(vs:List Value):∀{l:List α},Ou f vs=some l->eN h vs (l.map g):=by
 induction vs with
 | nil=>intro l e;cases(af e);exact .nil
 | cons v r i=>intro l e;exact je e λx e1 e=>NN e λj e2 e=>by cases(e);exact .cons (H v x e1) (i e2)
theorem DL{f:Value->Option α}{g:α->AV}(X:K.In h)(H:∀v x,f v=some x->VR h v (g x))(e:Mi T f K a=some l):∃i n,h.get? a=some ⟨.type T,none,.seq i n,#[]⟩/\eN h i.toList (l.map g):=
 je e λo ho e=>je e λp hp e=>by
  split at e
  .rename_i hc
   refine⟨p.1,p.2,(X _ _ ho).trans (ae some ?_),Lh H _ e⟩
   obtain⟨c,d,j,sl⟩:=o
   exact congr (congr (congr (ae Obj.mk (Ic hc.1)) hc.2.1) (Lc hp)) (Array.eq_empty_of_size_eq_zero hc.2.2)
  .exact fo e
theorem yu(X:K.In h)(e:AU K a=some l):VR h (.ref a) (.cn (dB l)):=
 e22 (DL (f:=vInt) (g:=AV.int) X (λv x e=>(DJ e).elim λt e=>iG (P:=λv=>VR h v (.int x)) e (.int x t)) e) λZ Z h1 h2=>VR.E5 h1 h2
theorem sW (X:K.In h) (e:AW K a=some l):∃o items n,h.get? a=some o/\o.cls=.type "list"/\o.dict=none/\o.slots=#[]/\o.data=.seq items n/\eN h items.toList (l.map λt=>.cn (dB t)):=
 e22 (DL (f:=λv=>(Ff v).bind (AU K)) (g:=λt=>.cn (dB t)) X (λv x e=>je e λb e1 e2=>iG (P:=λv=>VR h v (.cn (dB x))) (yt e1) (yu X e2)) e) λi n h1 h2=>⟨_,i,n,h1,rfl,rfl,rfl,rfl,h2⟩
theorem Ie{k:Addr->Option Obj}(X:∀a o,k a=some o->h.get? a=some o)(e:Fg k v=some q):h.CodeRec v q:=
 je e λc e1 e=>je e λo e2 e=>je e λvs e3 e=>je e λs i e=>(Lb e).elim λt j=>⟨c,o,vs,t,yt e1,X _ _ e2,Lf e3,i.trans (ae some j)⟩
theorem NO{k:Addr->Option Obj}(X:∀a o,k a=some o->h.get? a=some o)(e:Rr k a=some f):∃o fd,h.get? a=some o/\o.data=.func fd/\⟨fd.params,fd.body,fd.scope,fd.closure,fd.globals,fd.builtins,fd.defaults,decide (Fg k fd.code=some fd.qualname)⟩=f:=
 je e λo e1 e=>NN e λfd e2 e=>⟨o,fd,X _ _ e1,Ld e2,e⟩
def AG(w:World)(K:Frag)(mg mb:Str->Option Value)(h:Heap)(os:OsState):Wd:=⟨PySem.Challenge.pw_nt0469_01,w,⟨K,mg,mb,lb,xd,Cz⟩,h,os⟩
theorem AH{α:Type}{i:α}:∀{l:List (Str × α)},l.lookup x=some i->(x,i)∈l:=by
 intro l
 induction l with
 | nil=>intro h;cases h
 | cons p r j=>
  intro h
  rw[List.lookup_cons]at h
  cases q:x==p.1 with
  | true=>rw[q]at h;cases(af h);rw[az.mp q];exact .head _
  | false=>rw[q]at h;exact .tail _ (j h)
theorem QL {os:OsState} {k:Addr->Option Obj} (X:K.In h) (Y:∀a o,k a=some o->h.get? a=some o) (e:tc K k=ix) (g:h.Ns mainGlobals mg) (b:h.Ns builtinsNs mb) (hl:h.NoLimit) (hs:h.NoSeer) (hb:∀x:Str,x≠ "__name__"->mb x=bootBuiltins x):GF (AG w K mg mb h os):=by
 have D:Ol.map (λa=>Rr k a)=nC.map λd=>some ⟨d.2.1,.stmts d.2.2.1,d.2.2.2,[],mainGlobals,builtinsNs,.none,true⟩:=ae jO.fns e
 have fns:∀f nm params body sc,nC[f]? =some (nm,params,body,sc)->∃o fd,h.get? (xd f)=some o/\o.data=.func fd/\Oj fd params body sc/\h.CodeRec fd.code fd.qualname:=by
  intro f nm params body sc hf
  have G:f<116:=by have:=(aS.mp hf).1;rw[w3]at this;exact this
  have e1:=ae (λl=>l[f]?) D
  have H:Ol[f]? =some (xd f):=by
   have hl:f<Ol.length:=ak G (by decide)
   unfold xd;rw[aJ hl];rfl
  simp only[aF,H,hf,Option.map_some,Option.some.injEq]at e1
  obtain⟨o,fd,h1,h2,h3⟩:=NO Y e1
  have q1:=ae Fh.params h3
  have q2:=ae Fh.body h3
  have q3:=ae Fh.scope h3
  have q4:=ae Fh.closure h3
  have q5:=ae Fh.globals h3
  have q6:=ae Fh.builtins h3
  have q7:=ae Fh.defaults h3
  have q8:=ae Fh.code h3
  exact⟨o,fd,h1,h2,⟨q1,q2,q3,q4,q5,q6,q7⟩,Ie Y (aY q8)⟩
 have eg:(List.range 112).map (λf=>yA (nsIn K mainGlobals (w5 f)))=(List.range 112).map λf=>some (xd f):=ae jO.Iy e
 have Iy:∀f,f<112->mg (w5 f)=some (.ref (xd f)):=λf hf=>mg_of X g (mZ (AX eg hf))
 have cl:∀c,c<3->Ru K c=⟨true,true,true,true,some (some (.ref (xd (113+c)))),some (.type "function"),some (some (.builtin "object.__setattr__")),some (some (.builtin "object.__getattribute__")),some none,(bN c).map λZ=>some none⟩:=
  λc hc=>by
   have I:(List.range 3).map (Ru K)=(List.range 3).map λc=>⟨true,true,true,true,some (some (.ref (xd (113+c)))),some (.type "function"),some (some (.builtin "object.__setattr__")),some (some (.builtin "object.__getattribute__")),some none,(bN c).map λZ=>some none⟩:=ae jO.cl e
   exact AX I hc
 have ek:(List.range 4).map (λc=>yA (nsIn K mainGlobals (rA c)))=(List.range 4).map λc=>some (lb c):=ae jO.cls e
 have cls:∀c,c<4->mg (rA c)=some (.ref (lb c)):=λc hc=>mg_of X g (mZ (AX ek hc))
 have tab:∀k,k<4->yA (nsIn K mainGlobals (vO k))=([some 159,some 160,some 825,some 834]:List (Option Addr))[k]?.getD none:=λk hk=>by
  have j:(List.range 4).map (λk=>yA (nsIn K mainGlobals (vO k)))=[some 159,some 160,some 825,some 834]:=ae jO.tab e
  have:=ae (λl=>l[k]?) j
  simp only[aF,List.getElem?_range hk,Option.map_some]at this
  rw[<-this];rfl
 have blt:∀x∈([("len" :Str),("range" :Str),("abs" :Str),("Exception" :Str)]:List Str),yB (nsIn K mainGlobals x)=true:=by
  have:=ae jO.blt e
  intro x hx
  have this:([("len" :Str),("range" :Str),("abs" :Str),("Exception" :Str)]:List Str).map (λx=>yB (nsIn K mainGlobals x))=[true,true,true,true]:=this
  have h2:yB (nsIn K mainGlobals x)∈([true,true,true,true]:List Bool):=by rw[<-this];exact List.mem_map.mpr ⟨x,hx,rfl⟩
  simpa using h2
 refine {X:=X,g:=g,b:=b,nolimit:=hl,seer:=hs,tree:=rfl,blt:=?_,fns:=fns,SY:=?_,kp:=?_,Rn:=Iy,NR:=?_,cst:=?_,tabs:=?_,Ro:=?_,cls:=?_,lb:=?_,QP:=cls}
 .intro x hx
  have J:x∈([("len" :Str),("range" :Str),("abs" :Str),("Exception" :Str)]:List Str):=by
   simp only[a8,a7,or_false]at hx ⊢
   rcases hx with hx | hx | hx
   .exact .inl hx
   .exact .inr (.inl hx)
   .exact .inr (.inr (.inl hx))
  refine⟨ns_none_of X g (DK (blt x J)),hb x ?_⟩
  rintro rfl
  revert hx;decide
 .intro f hf
  have:f<nC.length:=by rw[w3];exact hf
  obtain⟨⟨nm,p,bd,sc⟩,hq⟩:∃d,nC[f]? =some d:=⟨_,aJ this⟩
  obtain⟨o,fd,h1,h2,_⟩:=fns f nm p bd sc hq
  exact⟨o,fd,h1,h2⟩
 .intro c hc;exact ae DP.keep (cl c hc)
 .intro c hc;exact⟨ae DP.NR (cl c hc),ae DP.Rt (cl c hc),ae DP.makes (cl c hc)⟩
 .intro x i hx
  have hm:(x,i)∈lu:=by
   exact AH hx
  have I:lu.map (λx=>Iv (nsIn K mainGlobals x.1))=lu.map λx=>some x.2:=ae jO.cst e
  have:Iv (nsIn K mainGlobals x)=some i:=by
   have:=List.map_inj_left.mp I (x,i) hm
   exact this
  obtain⟨t,q⟩:=Lg this
  exact⟨t,mg_of X g q⟩
 .intro k hk
  have j:=ae jO.cn e
  have j:[AU K 159,AU K 160]=[some jL,some jM]:=j
  simp only[List.cons.injEq,and_true]at j
  rcases lt4c hk with rfl | rfl | rfl | rfl
  .exact⟨.ref 159,mg_of X g (mZ (tab 0 (by omega))),yu X j.1⟩
  .exact⟨.ref 160,mg_of X g (mZ (tab 1 (by omega))),yu X j.2⟩
  .exact⟨.ref 825,mg_of X g (mZ (tab 2 (by omega))),.ref _⟩
  .exact⟨.ref 834,mg_of X g (mZ (tab 3 (by omega))),.ref _⟩
 .intro k hk
  have j:[AW K 825,AW K 834]=[some (cW.map λp=>[p.1,p.2]),some (f7.map λp=>[p.1,p.2])]:=ae jO.cI e
  simp only[List.cons.injEq,and_true]at j
  rcases hk with rfl | rfl
  .obtain⟨o,y,n,g1,L,_,_,O,U⟩:=sW X j.1
   exact⟨o,y,n,g1,L,O,U⟩
  .obtain⟨o,y,n,g1,L,_,_,O,U⟩:=sW X j.2
   exact⟨o,y,n,g1,L,O,U⟩
 .intro c hc
  have:=cl c hc
  refine⟨ae DP.has this,ae DP.Mg this,ae DP.sa this,⟨ae DP.ga this,ae DP.gt this⟩,λk hk=>?_⟩
  have en:(bN c).map (λk=>findIn K (.ref (lb c)) (b9 k))=(bN c).map λZ=>some none:=ae DP.none this
  exact List.map_inj_left.mp en k hk
 .intro c z hc V he
  have:∀c,c<3->∀z,z<3->lb c=lb z->c=z:=by decide
  exact this c hc z V he
theorem Cs(X:K.In h)(e:tc K kk=ix)(hk:k=2\/k=3):OR W h (Cz k) (.list false (n8 k)):=by
 have i:[AW K 825,AW K 834]=[some (cW.map λp=>[p.1,p.2]),some (f7.map λp=>[p.1,p.2])]:=ae jO.cI e
 simp only[List.cons.injEq,and_true]at i
 rcases hk with rfl | rfl
 .exact sW X i.1
 .exact sW X i.2
theorem NP{i:ClassData}{m hd QQ}(h1:i.mro=m)(h2:i.hasDict=hd)(h3:i.hasDel=QQ):∃nm bs ns j sn sub ab col,i=⟨nm,bs,m,ns,j,hd,sn,sub,ab,col,QQ⟩:=by
 subst h1 h2 h3;exact⟨_,_,_,_,_,_,_,_,rfl⟩
theorem N0{α:Type}{l:List α}(h:l.length=n+1):∃a r,l=a::r/\r.length=n:=(List.exists_cons_of_length_eq_add_one h).elim λa h'=>h'.elim λr e=>⟨a,r,e,by rw[e]at h;exact Nat.succ.inj h⟩
theorem SU{α:Type}{s:Array α}{x:α}(h:s.size=6)(i:s[4]? =some x):∃a b c d f,s=#[a,b,c,d,x,f]:=by
 obtain⟨l⟩:=s
 obtain⟨a,G,rfl,h1⟩:=N0 (l:=l) h
 obtain⟨b,H,rfl,h2⟩:=N0 h1
 obtain⟨c,I,rfl,h3⟩:=N0 h2
 obtain⟨d,J,rfl,j⟩:=N0 h3
 obtain⟨e,L,rfl,y⟩:=N0 j
 obtain⟨f,z,rfl,D⟩:=N0 y
 rw[(List.length_eq_zero_iff.mp D:z=[])]
 have i:e=x:=af i
 rw[i];exact⟨_,_,_,_,_,rfl⟩
theorem QM {mg mb:Str->Option Value} {os:OsState} {k:Addr->Option Obj} (X:K.In h) (D:∀a o,k a=some o->h.get? a=some o) (e:tc K k=ix) (g:h.Ns mainGlobals mg) (hb:∀x:Str,x≠ "__name__"->mb x=bootBuiltins x):XF (AG w K mg mb h os):=by
 have blt:yB (nsIn K mainGlobals "Exception")=true:=by
  have this:([("len" :Str),("range" :Str),("abs" :Str),("Exception" :Str)]:List Str).map (λx=>yB (nsIn K mainGlobals x))=[true,true,true,true]:=ae jO.blt e
  have h2:yB (nsIn K mainGlobals "Exception")∈([true,true,true,true]:List Bool):=by rw[<-this];exact List.mem_map.mpr ⟨_,by simp,rfl⟩
  simpa using h2
 refine⟨?_,ae jO.x1 e,ae jO.x2 e,ae jO.x3 e,ae jO.x4 e,ns_none_of X g (DK blt),?_⟩
 .have i:S0 K=some ⟨"type",.ref 156::u6 143,true,false,6,some (some (.builtin "Exception.__new__"))⟩:=ae jO.x5 e
  exact je i λo q e=>je e λT j e=>NN e λG y e=>by
   obtain⟨nm,bs,ns,z,sn,sub,ab,col,hc⟩:=NP (ae Iw.mro e) (ae Iw.has e) (ae Iw.QQ e)
   obtain⟨k0,k1,k2,k3,k5,hs⟩:=SU (ae Iw.size e) (ae Iw.slot e)
   exact⟨nm,z,143,ns,bs,sn,sub,ab,col,o.dict,k0,k1,k2,k3,k5,(X _ _ q).trans (ae some (congr (congr (congr (ae Obj.mk ((Ic j).trans (ae Value.type (ae Iw.Rt e)))) rfl) ((Le y).trans (ae Data.cls hc))) hs))⟩
 .rw[show(AG w K mg mb h os).gi.mb=mb from rfl,hb _ (by decide)]
  decide +kernel
end
theorem Ig{j i:Shared}{K:Frag}(X:K.In i.heap)(Y:∀a o,k a=some o->i.heap.get? a=some o)(e:tc K k=ix)(T:Top m9 (looseW m9 yC) (ExcName.means j.heap) mg mb i.heap)
  (U:mg "law" =some (.ref fa)) (hg:i.gens=#[]) (hL:i.heap.IsList l V.toArray) (wl:Well w.params i.heap (.ref l) (ofPy (PyData.list (zs.map PyData.int)))) (hI:IntsAre V zs) (hz:zs.length<=63):
  codeAny (model dt.row.prog w) callerA (.call (.ref fa) ⟨[.ref l],[]⟩) (GoodWG dt.row.claim (classAt j.heap) (ExcName.means j.heap) [ofPy (PyData.list (zs.map PyData.int))] i) i:=by
 have G:GF (AG w K mg mb i.heap i.os):=QL X Y e T.g T.b T.nolimit (T.seer (by decide +kernel)) T.builtins
 have XX:XF (AG w K mg mb i.heap i.os):=QM X Y e T.g T.builtins
 have hf:fa=xd 111:=by
  have:=G.Rn 111 (by omega)
  have h2:mg "law" =some (.ref (xd 111)):=this
  rw[U]at h2
  cases h2;rfl
 subst hf
 have I:OR (AG w K mg mb i.heap i.os) i.heap l (.list false (dB zs)):=by
  cases wl with
  | list h1 h2=>
   obtain⟨o,g1,g2,n,H⟩:=hL
   rw[g1]at h1
   cases h1
   cases H
   refine⟨_,_,_,g1,rfl,rfl,rfl,rfl,?_⟩
   have:∀{vs:List Value}{ns:List Int},IntsAre vs ns->eN i.heap vs (dB ns):=by
    intro vs ns h
    induction h with
    | nil=>exact .nil
    | cons n t _ ih=>exact .cons (.int _ _) ih
   exact this hI
 have lt:∀k,k=2\/k=3->l≠Cz k:=by
  intro k hk he
  subst he
  have b:OR (AG w K mg mb i.heap i.os) i.heap (Cz k) (.list false (n8 k)):=Cs X e hk
  obtain⟨o,items,n,g1,_,_,_,g2,H⟩:=I
  obtain⟨o',O,n',J,_,_,_,L,D⟩:=b
  rw[g1]at J
  cases J
  rw[g2]at L
  cases L
  have ht:∃q r,n8 k=.cn q::r:=by
   rcases hk with rfl | rfl
   .exact⟨_,_,rfl⟩
   .exact⟨_,_,rfl⟩
  obtain⟨q,r,ht⟩:=ht
  rw[ht]at D
  cases zs with
  | nil=>
   have H:eN i.heap items.toList []:=H
   generalize items.toList=y at H D
   cases H;cases D
  | cons z zs=>
   have H:eN i.heap items.toList (.int z::dB zs):=H
   generalize items.toList=y at H D
   cases H with
   | cons h1 _=>cases D with
    | cons h2 _=>cases h1;cases h2
 refine Cr (W:=AG w K mg mb i.heap i.os) (n:=100) (f:=111) (l:=[.ref l]) (σ:=λa=>if a=l then some (.list false (dB zs))else if a=825 then some (.list false (n8 2))else if a=834 then some (.list false (n8 3))else none) G (by omega) (by omega) MT rfl rfl rfl hg ?_ (.cons (.ref l) .nil) (La (u:=false) (zs:=zs) G XX (by omega) ?_ ?_ hz) λs' h1 h2 h3=>?_
 .intro a o ho
  split at ho
  .rename_i q;cases ho;subst q;exact⟨I,rfl⟩
  .split at ho
   .rename_i q;cases ho;subst q;exact⟨Cs X e (.inl rfl),rfl⟩
   .split at ho
    .rename_i q;cases ho;subst q;exact⟨Cs X e (.inr rfl),rfl⟩
    .cases ho
 .intro k hk
  rcases hk with rfl | rfl
  .exact ah (Ne.symm (lt 2 (.inl rfl)))
  .exact ah (Ne.symm (lt 3 (.inr rfl)))
 .exact ag rfl
 .refine⟨.inl ⟨.bool true,.bool true,[],rfl,λZ=>rfl,.bool true,postW_of (r:=dt.row.toRowW) (X:=true) (by wrow_shape) (by first | exact w_eq_bool (w_res rfl) w_lit | wtm_val) rfl,λZ=>⟨by simp,λa ha=>by cases ha⟩⟩,OldK.of_keep h1,h2,.of_eq h3⟩
end
set_option maxHeartbeats 0
theorem head1:dt.Holds:=by
 w_on
 refine holds_law Ow λi=>?_
 refine holds_open (q:=m9) (loose:=yC) (Xt:=λs=>xlAt m9 [] s&&recOk (RowW.records dt.row.toRowW) s) (XP:=XL m9 []) (Yf:=λs=>tc (fragOf s.heap AS) s.heap.get?) (Ya:=λZ=>ix) (YP:=λZ h=>∃(K:Frag)(k:Addr->Option Obj),K.In h/\(∀a o,k a=some o->h.get? a=some o)/\tc K k=ix) (N:=10844) OC
  (λw s e=>⟨fragOf s.heap AS,s.heap.get?,Iu _ _,λZ Z h=>h,e⟩) (λw h h'⟨K,k,X,z,e⟩kp=>⟨K,k,X.keeps kp,λa o h=>kp a o (z a o h),e⟩)
  (λs e=>xl_of s (Bool.and_eq_true_iff.mp e).1) XL.keeps (by rfl) (by rfl) (by rfl) (λs e=>recFacts_of (Bool.and_eq_true_iff.mp e).2) (by rfl) i T9 OD ?hw ?hc
 case hw=>w_witness2
 intro w L O mg mb G Y fa o pm cd doc dV kV ho hd NT hD D hg args U as j y H I J
 obtain⟨K,k,X,z,e⟩:=Y
 have T:=G.T
 wrow_args j y H I J
 rename_i zs _ _ _ _ _ _ _ l Wi _ hL _ wl _ hI _ V _
 refine enter_call ?_
 exact Ig X z e T D hg hL wl hI (by omega)
end Mine.Lake
theorem PySem.Challenge.cw_nt0469_01_holds : PySem.Challenge.rw_nt0469_01.Holds :=
  Mine.Lake.head1
