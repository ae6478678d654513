import PyProof.Rows.All
import Wide.All
import OpenK.AllK
import Wide.FinOn
import PyProof.TableCode
import PyProof.Rows.KernelRfl
import Open.Boot
import Lean
import PySem.Challenge.RW_xm0521_01
set_option maxRecDepth 100000
set_option genSizeOf false
set_option genCtorIdx false
set_option compiler.extract_closed false
set_option linter.all false
set_option linter.unusedVariables false
set_option Elab.async false
namespace Mine
@[elab_as_elim] theorem rwi {a b:Prop} {motive:Prop→Prop} (h:a↔b) (k:motive b):motive a:=propext h▸k
@[elab_as_elim] theorem rwj {a b:Prop} {motive:Prop→Prop} (h:a↔b) (k:motive a):motive b:=propext h▸k
theorem d0_2 {p0 p1:Prop} {Q:Prop} (h:p0∧p1) (k:p0→p1→Q):Q:=h.elim k
theorem d0_3 {p0 p1 p2:Prop} {Q:Prop} (h:p0∧p1∧p2) (k:p0→p1→p2→Q):Q:=d0_2 h fun a h=>d0_2 h (k a)
theorem d0_4 {p0 p1 p2 p3:Prop} {Q:Prop} (h:p0∧p1∧p2∧p3) (k:p0→p1→p2→p3→Q):Q:=d0_2 h fun a h=>d0_3 h (k a)
theorem d0_5 {p0 p1 p2 p3 p4:Prop} {Q:Prop} (h:p0∧p1∧p2∧p3∧p4) (k:p0→p1→p2→p3→p4→Q):Q:=d0_2 h fun a h=>d0_4 h (k a)
theorem d0_6 {p0 p1 p2 p3 p4 p5:Prop} {Q:Prop} (h:p0∧p1∧p2∧p3∧p4∧p5) (k:p0→p1→p2→p3→p4→p5→Q):Q:=d0_2 h fun a h=>d0_5 h (k a)
theorem d0_7 {p0 p1 p2 p3 p4 p5 p6:Prop} {Q:Prop} (h:p0∧p1∧p2∧p3∧p4∧p5∧p6) (k:p0→p1→p2→p3→p4→p5→p6→Q):Q:=d0_2 h fun a h=>d0_6 h (k a)
theorem d1_1 {α:Sort _} {p0:α→Prop} {Q:Prop} (h:∃ (x:α),p0 x) (k:∀ (x:α),p0 x→Q):Q:=h.elim k
theorem d1_2 {α:Sort _} {p0 p1:α→Prop} {Q:Prop} (h:∃ (x:α),p0 x∧p1 x) (k:∀ (x:α),p0 x→p1 x→Q):Q:=d1_1 h fun a h=>d0_2 h (k a)
theorem d1_3 {α:Sort _} {p0 p1 p2:α→Prop} {Q:Prop} (h:∃ (x:α),p0 x∧p1 x∧p2 x) (k:∀ (x:α),p0 x→p1 x→p2 x→Q):Q:=d1_1 h fun a h=>d0_3 h (k a)
theorem d1_4 {α:Sort _} {p0 p1 p2 p3:α→Prop} {Q:Prop} (h:∃ (x:α),p0 x∧p1 x∧p2 x∧p3 x) (k:∀ (x:α),p0 x→p1 x→p2 x→p3 x→Q):Q:=d1_1 h fun a h=>d0_4 h (k a)
theorem d1_6 {α:Sort _} {p0 p1 p2 p3 p4 p5:α→Prop} {Q:Prop} (h:∃ (x:α),p0 x∧p1 x∧p2 x∧p3 x∧p4 x∧p5 x) (k:∀ (x:α),p0 x→p1 x→p2 x→p3 x→p4 x→p5 x→Q):Q:=d1_1 h fun a h=>d0_6 h (k a)
theorem d2_1 {α β:Sort _} {p0:α→β→Prop} {Q:Prop} (h:∃ (x:α) (y:β),p0 x y) (k:∀ (x:α) (y:β),p0 x y→Q):Q:=d1_1 h fun a h=>d1_1 h (k a)
theorem d2_2 {α β:Sort _} {p0 p1:α→β→Prop} {Q:Prop} (h:∃ (x:α) (y:β),p0 x y∧p1 x y) (k:∀ (x:α) (y:β),p0 x y→p1 x y→Q):Q:=d1_1 h fun a h=>d1_2 h (k a)
theorem d2_3 {α β:Sort _} {p0 p1 p2:α→β→Prop} {Q:Prop} (h:∃ (x:α) (y:β),p0 x y∧p1 x y∧p2 x y) (k:∀ (x:α) (y:β),p0 x y→p1 x y→p2 x y→Q):Q:=d1_1 h fun a h=>d1_3 h (k a)
theorem d2_4 {α β:Sort _} {p0 p1 p2 p3:α→β→Prop} {Q:Prop} (h:∃ (x:α) (y:β),p0 x y∧p1 x y∧p2 x y∧p3 x y) (k:∀ (x:α) (y:β),p0 x y→p1 x y→p2 x y→p3 x y→Q):Q:=d1_1 h fun a h=>d1_4 h (k a)
theorem d2_6 {α β:Sort _} {p0 p1 p2 p3 p4 p5:α→β→Prop} {Q:Prop} (h:∃ (x:α) (y:β),p0 x y∧p1 x y∧p2 x y∧p3 x y∧p4 x y∧p5 x y) (k:∀ (x:α) (y:β),p0 x y→p1 x y→p2 x y→p3 x y→p4 x y→p5 x y→Q):Q:=d1_1 h fun a h=>d1_6 h (k a)
theorem d2_7 {α β:Sort _} {p0 p1 p2 p3 p4 p5 p6:α→β→Prop} {Q:Prop} (h:∃ (x:α) (y:β),p0 x y∧p1 x y∧p2 x y∧p3 x y∧p4 x y∧p5 x y∧p6 x y) (k:∀ (x:α) (y:β),p0 x y→p1 x y→p2 x y→p3 x y→p4 x y→p5 x y→p6 x y→Q):Q:=d1_1 h fun a h=>d1_1 h fun b h=>d0_7 h (k a b)
theorem d3_1 {α β γ:Sort _} {p0:α→β→γ→Prop} {Q:Prop} (h:∃ (x:α) (y:β) (z:γ),p0 x y z) (k:∀ (x:α) (y:β) (z:γ),p0 x y z→Q):Q:=d1_1 h fun a h=>d2_1 h (k a)
theorem d3_2 {α β γ:Sort _} {p0 p1:α→β→γ→Prop} {Q:Prop} (h:∃ (x:α) (y:β) (z:γ),p0 x y z∧p1 x y z) (k:∀ (x:α) (y:β) (z:γ),p0 x y z→p1 x y z→Q):Q:=d1_1 h fun a h=>d2_2 h (k a)
theorem d3_3 {α β γ:Sort _} {p0 p1 p2:α→β→γ→Prop} {Q:Prop} (h:∃ (x:α) (y:β) (z:γ),p0 x y z∧p1 x y z∧p2 x y z) (k:∀ (x:α) (y:β) (z:γ),p0 x y z→p1 x y z→p2 x y z→Q):Q:=d1_1 h fun a h=>d2_3 h (k a)
theorem d3_4 {α β γ:Sort _} {p0 p1 p2 p3:α→β→γ→Prop} {Q:Prop} (h:∃ (x:α) (y:β) (z:γ),p0 x y z∧p1 x y z∧p2 x y z∧p3 x y z) (k:∀ (x:α) (y:β) (z:γ),p0 x y z→p1 x y z→p2 x y z→p3 x y z→Q):Q:=d1_1 h fun a h=>d2_4 h (k a)
theorem d3_6 {α β γ:Sort _} {p0 p1 p2 p3 p4 p5:α→β→γ→Prop} {Q:Prop} (h:∃ (x:α) (y:β) (z:γ),p0 x y z∧p1 x y z∧p2 x y z∧p3 x y z∧p4 x y z∧p5 x y z) (k:∀ (x:α) (y:β) (z:γ),p0 x y z→p1 x y z→p2 x y z→p3 x y z→p4 x y z→p5 x y z→Q):Q:=d1_1 h fun a h=>d2_6 h (k a)
theorem d4_2 {α β γ δ:Sort _} {p0 p1:α→β→γ→δ→Prop} {Q:Prop} (h:∃ (x:α) (y:β) (z:γ) (u:δ),p0 x y z u∧p1 x y z u) (k:∀ (x:α) (y:β) (z:γ) (u:δ),p0 x y z u→p1 x y z u→Q):Q:=d1_1 h fun a h=>d3_2 h (k a)
theorem d4_3 {α β γ δ:Sort _} {p0 p1 p2:α→β→γ→δ→Prop} {Q:Prop} (h:∃ (x:α) (y:β) (z:γ) (u:δ),p0 x y z u∧p1 x y z u∧p2 x y z u) (k:∀ (x:α) (y:β) (z:γ) (u:δ),p0 x y z u→p1 x y z u→p2 x y z u→Q):Q:=d1_1 h fun a h=>d3_3 h (k a)
theorem d4_5 {α β γ δ:Sort _} {p0 p1 p2 p3 p4:α→β→γ→δ→Prop} {Q:Prop} (h:∃ (x:α) (y:β) (z:γ) (u:δ),p0 x y z u∧p1 x y z u∧p2 x y z u∧p3 x y z u∧p4 x y z u) (k:∀ (x:α) (y:β) (z:γ) (u:δ),p0 x y z u→p1 x y z u→p2 x y z u→p3 x y z u→p4 x y z u→Q):Q:=d1_1 h fun a h=>d1_1 h fun b h=>d1_1 h fun c h=>d1_1 h fun d h=>d0_5 h (k a b c d)
theorem d5_2 {α β γ δ ε:Sort _} {p0 p1:α→β→γ→δ→ε→Prop} {Q:Prop} (h:∃ (x:α) (y:β) (z:γ) (u:δ) (w:ε),p0 x y z u w∧p1 x y z u w) (k:∀ (x:α) (y:β) (z:γ) (u:δ) (w:ε),p0 x y z u w→p1 x y z u w→Q):Q:=d1_1 h fun a h=>d4_2 h (k a)
theorem d5_4 {α β γ δ ε:Sort _} {p0 p1 p2 p3:α→β→γ→δ→ε→Prop} {Q:Prop} (h:∃ (x:α) (y:β) (z:γ) (u:δ) (w:ε),p0 x y z u w∧p1 x y z u w∧p2 x y z u w∧p3 x y z u w) (k:∀ (x:α) (y:β) (z:γ) (u:δ) (w:ε),p0 x y z u w→p1 x y z u w→p2 x y z u w→p3 x y z u w→Q):Q:=d1_1 h fun a h=>d1_1 h fun b h=>d3_4 h (k a b)
end Mine
set_option tactic.hygienic false
set_option maxHeartbeats 1000000
namespace Mine
open Lean
def nmOf (k:String):Name:=match k.toList with
 | '.'::'«'::r=>.str `Lean.Parser.Tactic (String.ofList r.dropLast)
 | '«'::r=>.str .anonymous (String.ofList r.dropLast)
 | '.'::r=>`Lean.Parser.Tactic++(String.ofList r).toName
 | ':'::r=>`Lean.Parser.Term++(String.ofList r).toName
 | _=>k.toName
def atm (s:String):Syntax:=.atom .none (if s == "{" then "(" else if s == "}" then ")" else s)
def nd (k:String) (b:Array Syntax):Syntax:=.node .none (nmOf k) b
def lpar:Syntax:=nd ":hygienicLParen" #[atm "{",nd "hygieneInfo" #[mkIdent .anonymous]]
def sq (b:Array Syntax):Syntax:=nd ".tacticSeq" #[nd ".tacticSeq1Indented" #[nd "null" b]]
def nk (k:String) (b:Array Syntax):Syntax :=
 if k == "S" then sq b else if k == "A" then nd "group" #[atm "|",sq b] else if k == "P" then nd ":paren" (#[lpar]++b.push (atm "}")) else if k == "Y" then nd ":typeAscription" (#[lpar]++b.push (atm "}"))
 else if k == "W" then nd ".withReducible" #[atm "with_reducible",sq b] else if k == "B" then nd ".paren" #[atm "{",sq b,atm "}"] else if k == "X" then nd ".exact" (#[atm "exact"]++b) else if k == "R" then nd ".refine" (#[atm "refine"]++b)
 else if k == "H" then nd ":hole" #[atm "_"] else if k == "Q" then nd ":syntheticHole" #[atm "?",atm "_"] else if k == "Z" then nd ":byTactic" #[atm "by",sq b] else if k == "K" then nd ".fail" #[atm "fail",nd "null" #[nd "str" b]]
 else if k == "U" then nd ":app" #[b.getD 0 .missing,nd "null" (b.extract 1 b.size)] else if k == "F" then nd ".first" #[atm "first",nd "null" b] else nd k b
def zlf (xs:Array Syntax) (t:String):Syntax:=let c:=t.front;if c=='$' then xs.getD (t.drop 1).toNat! .missing else if c=='\'' then atm (t.drop 1).toString else (mkIdent t.toName).raw
def zst (xs:Array Syntax) (s:List (String×Array Syntax)) (t:String):List (String×Array Syntax):=match s with
 | []=>[]
 | (k,b)::r=>if t == ")" then (match r with | []=>[] | (k',b')::r'=>(k',b'.push (nk k b))::r') else if t.front=='(' then ((t.drop 1).toString,#[])::s else (k,b.push (zlf xs t))::r
def mk (s:String) (xs:Array Syntax):TSyntax `tactic:=match (s.splitOn " ").foldl (zst xs) [("",#[])] with
 | []=>⟨.missing⟩
 | (_,b)::_=>⟨b.getD 0 .missing⟩
def sqT (ts:Array Syntax):TSyntax `tactic:=mk "(B $0 '; (.tacticTry_ 'try (S (W (.tacticRfl 'rfl ) ) ) ) )" #[nk "B" ((ts.toList.intersperse (atm ";")).toArray)]
def rwS (s t:String) (rs:Array Syntax) (h:Syntax):TSyntax `tactic:=sqT (rs.map fun r=>(mk (if r[0].getNumArgs==0 then s else t) #[r[1],r,h]).raw)
def keys:List (String×String):=[("a", "(F (A (W (.assumption 'assumption ) ) ) (A (W (X (U Nat.le_refl (H ) ) ) ) ) (A (W (X (U Nat.le_add_right (H ) (H ) ) ) ) ) (A (W (X (U Nat.le_of_lt (P (Z (.assumption 'assumption ) ) ) ) ) ) ) (A (B (.simp 'simp (.optConfig (null (.configItem (.posConfigItem '+ arith ) ) ) ) (null ) (null 'only ) (null ) (null ) ) '; (.done 'done ) ) ) (A (.lia 'lia (.optConfig (null ) ) ) ) (A (.omega 'omega (.optConfig (null ) ) ) ) )"),("h", "(F (A (X (U Nat.le_of_ble_eq_true rfl ) ) ) (A (.assumption 'assumption ) ) (A (K '\"a\" ) ) )"),("g", "(F (A (W (.assumption 'assumption ) ) ) (A (B (W (R (Y (Q ) ': (null («term_=_» (U Mine.inV (H ) (H ) (H ) ) '= (U some (H ) ) ) ) ) ) '; (W (.solveByElim 'solve_by_elim (null ) (.optConfig (null (.configItem (.valConfigItem '{ maxDepth ':= (num '2 ) '} ) ) (.configItem (.valConfigItem '{ symm ':= false '} ) ) (.configItem (.valConfigItem '{ exfalso ':= false '} ) ) ) ) (null 'only ) (null (.SolveByElim.args '[ (null (.SolveByElim.arg (.SolveByElim.star '* ) ) ) '] ) ) (null ) ) ) ) ) ) (A (X Mine.loopD_lst ) ) (A (X Mine.loopD_tup ) ) (A (X Mine.loopD_rng ) ) )"),("f", "(F (A (K '\"g\" ) ) (A (X rfl ) ) (A (X (U Mine.loopD_l (P (Z (W (.assumption 'assumption ) ) ) ) ) ) ) (A (X (U Mine.loopD_d (P (Z (W (.assumption 'assumption ) ) ) ) (P (Z (.assumption 'assumption ) ) ) ) ) ) (A (X (U Mine.truth_loc (P (Z (W (.assumption 'assumption ) ) ) ) ) ) ) (A (X (U Mine.len_loc (P (Z (W (.assumption 'assumption ) ) ) ) ) ) ) (A (X (U Mine.same_tup (H ) ) ) ) (A (X (U Mine.same_lst (H ) ) ) ) (A (X (U Mine.same_loc (P (Z (W (.assumption 'assumption ) ) ) ) ) ) ) (A (X (U Mine.same_dict (P (Z (W (.assumption 'assumption ) ) ) ) (P (Z (.assumption 'assumption ) ) ) ) ) ) (A (X (U Mine.kindW_l (P (Z (W (.assumption 'assumption ) ) ) ) ) ) ) (A (X (U Mine.listOf_l (P (Z (W (.assumption 'assumption ) ) ) ) ) ) ) (A (X (U Mine.sortSrc_d (P (Z (W (.assumption 'assumption ) ) ) ) ) ) ) (A (.assumption 'assumption ) ) (A (B (W (.«tactic_<;>_» (R (U Mine.and_t (Q ) (Q ) ) ) '<;> (K '\"f\" ) ) ) ) ) (A (B (W (R (U Mine.not_t (Q ) ) ) '; (K '\"f\" ) ) ) ) (A (B (W (R (U Mine.not_f (Q ) ) ) '; (K '\"f\" ) ) ) ) (A (X (U Eq.trans (P (Z (W (.assumption 'assumption ) ) ) ) (P (Z (W (.assumption 'assumption ) ) ) ) ) ) ) (A (B (W (R (Y (Q ) ': (null («term_=_» (H ) '= true ) ) ) ) '; (PyProof.Rows.tacticKernel_rfl! 'kernel_rfl! ) ) ) ) (A (B (W (R (Y (Q ) ': (null («term_=_» (H ) '= false ) ) ) ) '; (PyProof.Rows.tacticKernel_rfl! 'kernel_rfl! ) ) ) ) (A (W (.solveByElim 'solve_by_elim (null ) (.optConfig (null ) ) (null ) (null ) (null ) ) ) ) )"),("s", "(F (A (B (.constructor 'constructor ) '; (.case 'case (null (.caseArg (Lean.binderIdent h ) (null ) ) ) '=> (S (K '\"g\" ) ) ) ) ) (A (B (R (U Mine.SelP.f (P (Z (K '\"g\" ) ) ) (Q ) ) ) ) ) (A (.right 'right ) ) (A (B (.constructor 'constructor ) '; (.case 'case (null (.caseArg (Lean.binderIdent h ) (null ) ) ) '=> (S (K '\"f\" ) ) ) ) ) (A (B (R (U Mine.SelP.f (P (Z (K '\"f\" ) ) ) (Q ) ) ) ) ) )"),("t", "(F (A (K '\"s\" ) ) (A (R (U Mine.isG (P (Z (F (A (W (.assumption 'assumption ) ) ) (A (W (.solveByElim 'solve_by_elim (null ) (.optConfig (null ) ) (null ) (null ) (null ) ) ) ) (A (.assumption 'assumption ) ) ) ) ) (Q ) ) ) ) (A (B (R (Y (Q ) ': (null (U Mine.Stop (H ) (H ) ) ) ) ) '; (B (W (F (A (R (U Mine.for_cG (Q ) ) ) ) (A (R (U Mine.for_nG (Q ) ) ) ) (A (R (U Mine.comp_cG (Q ) ) ) ) (A (R (U Mine.comp_nG (Q ) ) ) ) ) ) ) ) ) )"),("r", "(B (B (F (A (B (R (U hR (Q ) ) ) '; (.clear 'clear (null hR ) ) ) ) (A (W (R (U Mine.go (Q ) ) ) ) ) (A (W (R (Y (Q ) ': (null (U Mine.Go (H ) (H ) (H ) ) ) ) ) ) ) (A (R (U Mine.enterH (Q ) ) ) ) (A (.skip 'skip ) ) ) ) '; (B (.tacticRepeat_ 'repeat (S (K '\"t\" ) ) ) ) '; (B (F (A (B (R (U Mine.fin_of (P (Z (.assumption 'assumption ) ) ) (Q ) ) ) '; (F (A (X rfl ) ) (A (B (.tacticTry_ 'try (S (.dsimp 'dsimp (.optConfig (null ) ) (null ) (null 'only ) (null ) (null ) ) ) ) ) ) ) ) ) (A (B (R (U Mine.fin (Q ) ) ) '; (F (A (X rfl ) ) (A (B (.tacticTry_ 'try (S (.dsimp 'dsimp (.optConfig (null ) ) (null ) (null 'only ) (null ) (null ) ) ) ) ) ) ) ) ) (A (R (Y (Q ) ': (null (U Mine.Stop (H ) (H ) ) ) ) ) ) (A (R (Y (Q ) ': (null (U Mine.SelP (H ) (H ) (H ) (H ) (H ) ) ) ) ) ) (A (R (Y (Q ) ': (null (U Mine.AskP (H ) (H ) (H ) ) ) ) ) ) (A (R (Y (Q ) ': (null (U Mine.ChkP (H ) (H ) (H ) ) ) ) ) ) (A (.skip 'skip ) ) ) ) )"),("q", "(B (B (.tacticTry_ 'try (S (W (R (U Mine.go (Q ) ) ) ) ) ) ) '; (B (.tacticRepeat_ 'repeat (S (K '\"s\" ) ) ) ) '; (R (Y (Q ) ': (null (U Mine.Stop (H ) (H ) ) ) ) ) )")]
def pk (p:Syntax) (k:String):Bool:=p.getKind==.str (.str `Lean.Parser.Tactic "rcasesPat") k
def rcs (y p:Syntax):Syntax:=(mk "(.rcases 'rcases (null (.elimTarget (null ) $0 ) ) (null 'with $1 ) )" #[y,p]).raw
def obs (y p:Syntax):Syntax:=(mk "(.obtain 'obtain (null $1 ) (null ) (null ':= (null $0 ) ) )" #[y,p]).raw
def itm (e:Syntax) (i:Nat) (p:Syntax):Syntax×List Syntax :=
 let y:Syntax:=mkIdent (.mkSimple s!"q{i}z")
 let q:=p[0][0][0]
 if p[0][0].getNumArgs != 1 then (y,[rcs y p])
 else if pk q "ignore" then (nk "H" #[],[])
 else if pk q "tuple" then (y,[obs y p[0]])
 else if pk q "one" && q[0].getId != `rfl then
  if e.isIdent&&e.getId==q[0].getId then (y,[(mk "(B (.revert 'revert (null $0 ) ) '; (.tacticTry_ 'try (S (.clear 'clear (null $1 ) ) ) ) '; (.intro 'intro (null $1 ) ) )" #[y,q[0]]).raw]) else (q[0],[])
 else (y,[rcs y p])
def sm (l:List Syntax):Array Syntax:=(l.intersperse (atm ";")).toArray
def alO (e:Syntax) (xs post:List Syntax):List Syntax:=(List.range 6).filterMap fun m=>let n:=xs.length
 if m < n&&n≤m+8 then some (nk "A" (sm ((mk "(R (U $0 $1 (:fun 'fun (:basicFun $2 (null ) '=> (Q ) ) ) ) )" #[mkIdent (.str `Mine s!"d{m}_{n - m}"),e,nd "null" xs.toArray]).raw::post))) else none
def tp (l:List Syntax):Syntax:=nd ".rcasesPatMed" #[nd "null" #[nd ".rcasesPat.tuple" #[atm "⟨",nd "null" (l.intersperse (atm ",")).toArray,atm "⟩"]]]
def obO (e:Syntax) (ps:List Syntax):TSyntax `tactic :=
 let its:=ps.zipIdx.map fun x=>itm e x.2 x.1
 let clr:List Syntax:=if e.isIdent&&!ps.any (fun p=>pk p[0][0][0] "one" && p[0][0][0][0].getId==e.getId) then [(mk "(.tacticTry_ 'try (S (.clear 'clear (null $0 ) ) ) )" #[e]).raw] else []
 let tl:Syntax:=mkIdent `tlz
 ⟨nk "F" (alO e (its.map (·.1)) (clr++its.flatMap (·.2))++(List.range (ps.length - 2)).flatMap (fun k=>let j:=ps.length - 2 - k
  alO e ((its.take j).map (·.1)++[tl]) (clr++obs tl (tp (ps.drop j))::(its.take j).flatMap (·.2)))++[nk "A" #[rcs e (nd ".rcasesPatLo" #[tp ps,nd "null" #[]])]]).toArray⟩
def rin (x:Syntax×Nat):List Syntax :=
 let q:=x.1[0]
 let y:Syntax:=mkIdent (.mkSimple s!"r{x.2 + 1}z")
 if pk q "ignore" then [(mk "(.intro 'intro (null (H ) ) )" #[]).raw] else if pk q "one" then [(mk "(.intro 'intro (null $0 ) )" #[q[0]]).raw] else [(mk "(.intro 'intro (null $0 ) )" #[y]).raw,obs y (nd ".rcasesPatMed" #[nd "null" #[q]])]
def rok (p:Syntax):Bool:=p.getKind==.str (.str `Lean.Parser.Tactic "rintroPat") "one" && (pk p[0] "ignore" || pk p[0] "tuple" || (pk p[0] "one" && p[0][0].getId != `rfl))
def obM (p e:Syntax):MacroM (TSyntax `tactic) :=
 let q:=p[0][0]
 if p[0].getNumArgs==1&&pk q "tuple" && 1 < q[1].getSepArgs.size then pure (obO e q[1].getSepArgs.toList) else Macro.throwUnsupported
def riM (ps:List Syntax):MacroM (TSyntax `tactic) :=
 if ps.all rok then pure ⟨nk "B" (sm (ps.zipIdx.flatMap rin))⟩ else Macro.throwUnsupported
def kyM (s:String):MacroM (TSyntax `tactic):=match keys.lookup s with | some t=>pure (mk t #[]) | none=>Macro.throwUnsupported
end Mine
local macro_rules | `(tactic| rw [$rs,*])=>pure (Mine.rwS "(F (A (R (U Mine.rwl $0 (Q ) ) ) ) (A (R (U Mine.rwl (U $0 (H ) ) (Q ) ) ) ) (A (R (U Mine.rwl (U $0 (H ) (H ) ) (Q ) ) ) ) (A (R (U Mine.rwl (U $0 (H ) (H ) (H ) ) (Q ) ) ) ) (A (R (U Mine.rwi $0 (Q ) ) ) ) (A (R (U Mine.rwi (U $0 (H ) ) (Q ) ) ) ) (A (R (U Mine.rwi (U $0 (H ) (H ) ) (Q ) ) ) ) (A (.rewriteSeq 'rewrite (.optConfig (null ) ) (.rwRuleSeq '[ (null $1 ) '] ) (null ) ) ) )" "(F (A (R (U Mine.rwr $0 (Q ) ) ) ) (A (R (U Mine.rwr (U $0 (H ) ) (Q ) ) ) ) (A (R (U Mine.rwr (U $0 (H ) (H ) ) (Q ) ) ) ) (A (R (U Mine.rwr (U $0 (H ) (H ) (H ) ) (Q ) ) ) ) (A (R (U Mine.rwj $0 (Q ) ) ) ) (A (R (U Mine.rwj (U $0 (H ) ) (Q ) ) ) ) (A (R (U Mine.rwj (U $0 (H ) (H ) ) (Q ) ) ) ) (A (.rewriteSeq 'rewrite (.optConfig (null ) ) (.rwRuleSeq '[ (null $1 ) '] ) (null ) ) ) )" (rs.getElems.map fun r=>r.raw) .missing)
local macro_rules | `(tactic| rw [$rs,*] at $h:ident)=>pure (Mine.rwS "(F (A (B (R (U (Y (Q ) ': (null (:arrow (H ) '→ (H ) ) ) ) (P (:subst $0 '▸ (null $2 ) ) ) ) ) '; (.clear 'clear (null $2 ) ) '; (.intro 'intro (null $2 ) ) ) ) (A (B (R (U (Y (Q ) ': (null (:arrow (H ) '→ (H ) ) ) ) (P (:subst (U $0 (H ) ) '▸ (null $2 ) ) ) ) ) '; (.clear 'clear (null $2 ) ) '; (.intro 'intro (null $2 ) ) ) ) (A (B (R (U (Y (Q ) ': (null (:arrow (H ) '→ (H ) ) ) ) (P (:subst (U $0 (H ) (H ) ) '▸ (null $2 ) ) ) ) ) '; (.clear 'clear (null $2 ) ) '; (.intro 'intro (null $2 ) ) ) ) (A (B (R (U (Y (Q ) ': (null (:arrow (H ) '→ (H ) ) ) ) (P (:subst (U propext $0 ) '▸ (null $2 ) ) ) ) ) '; (.clear 'clear (null $2 ) ) '; (.intro 'intro (null $2 ) ) ) ) (A (.rewriteSeq 'rewrite (.optConfig (null ) ) (.rwRuleSeq '[ (null $1 ) '] ) (null (.location 'at (.locationHyp (null $2 ) ) ) ) ) ) )" "(F (A (B (R (U (Y (Q ) ': (null (:arrow (H ) '→ (H ) ) ) ) (P (:subst (U Eq.symm $0 ) '▸ (null $2 ) ) ) ) ) '; (.clear 'clear (null $2 ) ) '; (.intro 'intro (null $2 ) ) ) ) (A (B (R (U (Y (Q ) ': (null (:arrow (H ) '→ (H ) ) ) ) (P (:subst (U Eq.symm (U $0 (H ) ) ) '▸ (null $2 ) ) ) ) ) '; (.clear 'clear (null $2 ) ) '; (.intro 'intro (null $2 ) ) ) ) (A (.rewriteSeq 'rewrite (.optConfig (null ) ) (.rwRuleSeq '[ (null $1 ) '] ) (null (.location 'at (.locationHyp (null $2 ) ) ) ) ) ) )" (rs.getElems.map fun r=>r.raw) h)
local macro_rules | `(tactic| show $t:term)=>pure (Mine.mk "(R (Y (Q ) ': (null $0 ) ) )" #[t])
local macro_rules | `(tactic| cases $x:ident)=>pure (Mine.mk "(F (A (.subst 'subst (null (Y $0 ': (null («term_=_» (H ) '= (H ) ) ) ) ) ) ) (A (.induction 'induction (null (.elimTarget (null ) $0 ) ) (null 'using Bool.casesOn ) (null ) (null ) ) ) (A (.induction 'induction (null (.elimTarget (null ) $0 ) ) (null 'using Option.casesOn ) (null ) (null ) ) ) (A (.induction 'induction (null (.elimTarget (null ) $0 ) ) (null 'using List.casesOn ) (null ) (null ) ) ) (A (.induction 'induction (null (.elimTarget (null ) $0 ) ) (null 'using Mine.V.casesOn ) (null ) (null ) ) ) (A (.induction 'induction (null (.elimTarget (null ) $0 ) ) (null 'using Mine.Atm.casesOn ) (null ) (null ) ) ) (A (.induction 'induction (null (.elimTarget (null ) $0 ) ) (null 'using PySem.Expr.casesOn ) (null ) (null ) ) ) (A (.induction 'induction (null (.elimTarget (null ) $0 ) ) (null 'using Nat.casesOn ) (null ) (null ) ) ) (A (.cases 'cases (null (.elimTarget (null ) (P $0 ) ) ) (null ) (null ) ) ) )" #[x])
local macro_rules | `(tactic| cases $y:ident with $as:inductionAlt*)=>pure (Mine.mk "(F (A (.induction 'induction (null (.elimTarget (null ) $0 ) ) (null 'using List.casesOn ) (null ) $1 ) ) (A (.induction 'induction (null (.elimTarget (null ) $0 ) ) (null 'using Mine.V.casesOn ) (null ) $1 ) ) (A (.induction 'induction (null (.elimTarget (null ) $0 ) ) (null 'using PySem.Expr.casesOn ) (null ) $1 ) ) (A (.induction 'induction (null (.elimTarget (null ) $0 ) ) (null 'using PySem.Stmt.casesOn ) (null ) $1 ) ) (A (.induction 'induction (null (.elimTarget (null ) $0 ) ) (null 'using Nat.casesOn ) (null ) $1 ) ) (A (.induction 'induction (null (.elimTarget (null ) $0 ) ) (null 'using Mine.Reps.casesOn ) (null ) $1 ) ) (A (.induction 'induction (null (.elimTarget (null ) $0 ) ) (null 'using Mine.F2.casesOn ) (null ) $1 ) ) (A (.induction 'induction (null (.elimTarget (null ) $0 ) ) (null ) (null ) $1 ) ) (A (.cases 'cases (null (.elimTarget (null ) (P $0 ) ) ) (null ) $1 ) ) )" #[y,Mine.nd "null" #[Mine.nd ".inductionAlts" #[Mine.atm "with",Mine.nd "null" #[],Mine.nd "null" (as.map fun a=>a.raw)]]])
local macro_rules | `(tactic| fail $s:str)=>Mine.kyM s.getString
local macro_rules | `(tactic| obtain $p:rcasesPatMed:=$e:term)=>Mine.obM p e
local macro_rules | `(tactic| rintro $ps:rintroPat*)=>Mine.riM (ps.toList.map fun x=>x.raw)
namespace Mine
open PySem
set_option genCtorIdx true in
inductive V where
 | none | bool (b:Bool) | int (i:Int) | str (s:Str) | tup (l:List V) | lst (l:List V) | loc (n:Nat) | rng (n:Int) | glb (x:Str)
 deriving Inhabited
noncomputable def asB (v:V):Option Bool:=V.casesOn (motive_1:=fun I=>Option Bool) v none some (fun I=>none) (fun I=>none) (fun I=>none) (fun I=>none) (fun I=>none) (fun I=>none) (fun I=>none)
noncomputable def asI (v:V):Option Int:=V.casesOn (motive_1:=fun I=>Option Int) v none (fun I=>none) some (fun I=>none) (fun I=>none) (fun I=>none) (fun I=>none) (fun I=>none) (fun I=>none)
noncomputable def asS (v:V):Option Str:=V.casesOn (motive_1:=fun I=>Option Str) v none (fun I=>none) (fun I=>none) some (fun I=>none) (fun I=>none) (fun I=>none) (fun I=>none) (fun I=>none)
noncomputable def asT (v:V):Option (List V):=V.casesOn (motive_1:=fun I=>Option (List V)) v none (fun I=>none) (fun I=>none) (fun I=>none) some (fun I=>none) (fun I=>none) (fun I=>none) (fun I=>none)
noncomputable def asV (v:V):Option (List V):=V.casesOn (motive_1:=fun I=>Option (List V)) v none (fun I=>none) (fun I=>none) (fun I=>none) (fun I=>none) some (fun I=>none) (fun I=>none) (fun I=>none)
noncomputable def asO (v:V):Option Nat:=V.casesOn (motive_1:=fun I=>Option Nat) v none (fun I=>none) (fun I=>none) (fun I=>none) (fun I=>none) (fun I=>none) some (fun I=>none) (fun I=>none)
noncomputable def asR (v:V):Option Int:=V.casesOn (motive_1:=fun I=>Option Int) v none (fun I=>none) (fun I=>none) (fun I=>none) (fun I=>none) (fun I=>none) (fun I=>none) some (fun I=>none)
noncomputable def asG (v:V):Option Str:=V.casesOn (motive_1:=fun I=>Option Str) v none (fun I=>none) (fun I=>none) (fun I=>none) (fun I=>none) (fun I=>none) (fun I=>none) (fun I=>none) some
noncomputable def isN (v:V):Bool:=V.casesOn (motive_1:=fun I=>Bool) v true (fun I=>false) (fun I=>false) (fun I=>false) (fun I=>false) (fun I=>false) (fun I=>false) (fun I=>false) (fun I=>false)
noncomputable def onB {α:Type} (o:Option α) (f:α→Bool):Bool:=Option.casesOn (motive:=fun I=>Bool) o false f
noncomputable def isC {α:Type} (l:List α) (f:α→List α→Bool):Bool:=List.casesOn (motive:=fun I=>Bool) l false f
noncomputable def V.eqb (a:V):V→Bool:=V.rec (motive_1:=fun I=>V→Bool) (motive_2:=fun I=>List V→Bool) isN (fun x v=>onB (asB v) fun y=>x==y) (fun x v=>onB (asI v) fun y=>x==y) (fun x v=>onB (asS v) fun y=>x==y)
 (fun I f v=>onB (asT v) f) (fun I f v=>onB (asV v) f) (fun x v=>onB (asO v) fun y=>x==y) (fun x v=>onB (asR v) fun y=>x==y) (fun x v=>onB (asG v) fun y=>x==y) List.isEmpty (fun I I f g l=>isC l fun b k=>f b&&g k) a
noncomputable def V.eqbs (a:List V):List V→Bool:=V.rec_1 (motive_1:=fun I=>V→Bool) (motive_2:=fun I=>List V→Bool) isN (fun x v=>onB (asB v) fun y=>x==y) (fun x v=>onB (asI v) fun y=>x==y) (fun x v=>onB (asS v) fun y=>x==y)
 (fun I f v=>onB (asT v) f) (fun I f v=>onB (asV v) f) (fun x v=>onB (asO v) fun y=>x==y) (fun x v=>onB (asR v) fun y=>x==y) (fun x v=>onB (asG v) fun y=>x==y) List.isEmpty (fun I I f g l=>isC l fun b k=>f b&&g k) a
theorem no {α:Type} {a:α} {P:Prop} (h:Option.none=some a):P:=nomatch h
theorem nf {P:Prop} (h:false=true):P:=nomatch h
@[elab_as_elim] theorem rwl {α:Sort u} {a b:α} {motive:α→Prop} (h:a=b) (k:motive b):motive a:=h▸k
@[elab_as_elim] theorem rwr {α:Sort u} {a b:α} {motive:α→Prop} (h:a=b) (k:motive a):motive b:=h▸k
theorem onB_el {α:Type} {o:Option α} {f:α→Bool} {P:Prop} (e:onB o f=true) (k:∀ a,o=some a→f a=true→P):P:=by cases o with
 | none=>exact nf e
 | some a=>exact k a rfl e
theorem an {a b:Bool} {P:Prop} (h:(a&&b)=true) (k:a=true→b=true→P):P:=k (Bool.and_eq_true_iff.mp h).1 (Bool.and_eq_true_iff.mp h).2
theorem asB_c {b y} (e:asB b=some y):V.bool y=b:=by cases b<;>first | exact no e | exact congrArg V.bool (Option.some.inj e).symm
theorem asI_c {b y} (e:asI b=some y):V.int y=b:=by cases b<;>first | exact no e | exact congrArg V.int (Option.some.inj e).symm
theorem asS_c {b y} (e:asS b=some y):V.str y=b:=by cases b<;>first | exact no e | exact congrArg V.str (Option.some.inj e).symm
theorem asT_c {b y} (e:asT b=some y):V.tup y=b:=by cases b<;>first | exact no e | exact congrArg V.tup (Option.some.inj e).symm
theorem asV_c {b y} (e:asV b=some y):V.lst y=b:=by cases b<;>first | exact no e | exact congrArg V.lst (Option.some.inj e).symm
theorem asO_c {b y} (e:asO b=some y):V.loc y=b:=by cases b<;>first | exact no e | exact congrArg V.loc (Option.some.inj e).symm
theorem asR_c {b y} (e:asR b=some y):V.rng y=b:=by cases b<;>first | exact no e | exact congrArg V.rng (Option.some.inj e).symm
theorem asG_c {b y} (e:asG b=some y):V.glb y=b:=by cases b<;>first | exact no e | exact congrArg V.glb (Option.some.inj e).symm
theorem eqb_to {a:V}:∀ {b:V},V.eqb a b=true→a=b:=V.rec (motive_1:=fun a=>∀ {b:V},V.eqb a b=true→a=b) (motive_2:=fun a=>∀ {b:List V},V.eqbs a b=true→a=b)
 (fun {b} e=>by cases b<;>first | rfl | exact nf e) (fun I I e=>onB_el e fun I h e=>eq_of_beq e▸asB_c h) (fun I I e=>onB_el e fun I h e=>eq_of_beq e▸asI_c h) (fun I I e=>onB_el e fun I h e=>eq_of_beq e▸asS_c h)
 (fun I ih I e=>onB_el e fun I h e=>ih e▸asT_c h) (fun I ih I e=>onB_el e fun I h e=>ih e▸asV_c h) (fun I I e=>onB_el e fun I h e=>eq_of_beq e▸asO_c h) (fun I I e=>onB_el e fun I h e=>eq_of_beq e▸asR_c h) (fun I I e=>onB_el e fun I h e=>eq_of_beq e▸asG_c h)
 (fun {b} e=>(List.isEmpty_iff.mp e).symm) (fun I I i j b e=>by cases b with
  | nil=>exact nf e
  | cons c l=>exact an e fun p q=>i p▸j q▸rfl) a
theorem eqb_refl (a:V):V.eqb a a=true:=V.rec (motive_1:=fun a=>V.eqb a a=true) (motive_2:=fun a=>V.eqbs a a=true) rfl (fun b=>beq_self_eq_true b) (fun b=>beq_self_eq_true b) (fun b=>beq_self_eq_true b) (fun I h=>h) (fun I h=>h)
 (fun b=>beq_self_eq_true b) (fun b=>beq_self_eq_true b) (fun b=>beq_self_eq_true b) rfl (fun I I i j=>Bool.and_eq_true_iff.mpr ⟨i,j⟩) a
theorem V.eqb_iff (a b:V):V.eqb a b=true↔a=b:=⟨eqb_to,fun e=>e▸eqb_refl a⟩
theorem V.eqbs_iff (a b:List V):V.eqbs a b=true↔a=b:=⟨fun h=>V.tup.inj (eqb_to (a:=.tup a) (b:=.tup b) h),fun e=>e▸eqb_refl (.tup a)⟩
set_option genCtorIdx true in
set_option genInjectivity false in
inductive Ob where
 | list (l:List V) | dict (es:List (V×V)) | inst (c:Str) (fs:List (Str×V))
 deriving Inhabited
abbrev St:=List Ob
set_option genInjectivity false in
inductive Fl where | next | cont | ret (v:V)
set_option genInjectivity false in
structure Fr where
 sc:List (Str×NameKind)
 vars:Str→Option V
 up:Str→Option V
noncomputable def keyN:List Nat→Nat
 | []=>0
 | c::l=>keyN l * 256+c+1
noncomputable def small:List Nat→Bool
 | []=>true
 | c::l=>Nat.blt c 255&&small l
noncomputable def keyO (s:Str):Option Nat:=match small s.cps.toList with | true=>some (keyN s.cps.toList) | false=>none
noncomputable def keyB:Option Nat→Option Nat→Bool→Bool
 | some x,some y,_=>x==y
 | _,_,d=>d
noncomputable def sBeq (a b:Str):Bool:=keyB (keyO a) (keyO b) (decide (a=b))
theorem keyN_c (c:Nat) (l:List Nat):keyN (c::l)=keyN l * 256+c+1:=rfl
theorem keyN_n:keyN []=0:=rfl
theorem small_c (c:Nat) (l:List Nat):small (c::l)=(Nat.blt c 255&&small l):=rfl
theorem keyN_inj:∀ {a b:List Nat},small a=true→small b=true→keyN a=keyN b→a=b
 | [],[],_,_,_=>rfl
 | [],_::_,_,_,h=>by simp only [keyN_c,keyN_n] at h;omega
 | _::_,[],_,_,h=>by simp only [keyN_c,keyN_n] at h;omega
 | c::l,d::k,h1,h2,h=>by
  simp only [small_c,Bool.and_eq_true,Nat.blt_eq] at h1 h2
  simp only [keyN_c] at h
  rw [keyN_inj h1.2 h2.2 (by omega),show c=d by omega]
theorem sBeq_eq (a b:Str):sBeq a b=decide (a=b):=by
 unfold sBeq keyO
 cases h1:small a.cps.toList<;>cases h2:small b.cps.toList<;>try rfl
 show (keyN a.cps.toList==keyN b.cps.toList)=_
 rw [Bool.eq_iff_iff,beq_iff_eq,decide_eq_true_iff]
 refine ⟨fun h=>?_,fun h=>by rw [h]⟩
 have:=keyN_inj h1 h2 h
 cases a;cases b
 simp only at this
 rw [Array.toList_inj.mp this]
noncomputable def upd (f:Str→Option V) (x:Str) (v:V):Str→Option V:=fun y=>bif sBeq y x then some v else f y
theorem upd_eq (f:Str→Option V) (x:Str) (v:V) (y:Str):upd f x v y=if y=x then some v else f y:=by
 unfold upd
 rw [sBeq_eq]
 by_cases h:y=x<;>simp [h]
noncomputable def Fr.set (fr:Fr) (x:Str) (v:V):Fr:=⟨fr.sc,upd fr.vars x v,fr.up⟩
set_option genInjectivity false in
structure FnRec where
 params:List Str
 dflt:List V
 body:List Stmt
 sc:List (Str×NameKind)
set_option genCtorIdx true in
set_option genInjectivity false in
inductive GK where | val (v:V) | fn (r:FnRec) | cls | bi
noncomputable def V.pureN:Nat→V→Bool
 | _,.int _=>true
 | _,.str _=>true
 | n+1,.tup l=>l.all fun v=>V.pureN n v
 | _,_=>false
noncomputable def V.pure (v:V):Bool:=v.pureN 6
noncomputable def V.pures (l:List V):Bool:=l.all fun v=>v.pureN 6
noncomputable def V.tag:V→Nat
 | .int _=>1
 | .str _=>2
 | .tup l=>if (V.tup l).pure then 3 else 0
 | _=>0
noncomputable def kOk (es:List (V×V)) (k:V):Bool:=k.tag != 0&&es.all fun e=>e.1.tag==k.tag
noncomputable def asL (o:Ob):Option (List V):=Ob.casesOn (motive:=fun I=>Option (List V)) o some (fun I=>none) (fun I I=>none)
noncomputable def lstAt (σ:St) (n:Nat):Option (List V):=(σ[n]?).bind asL
noncomputable def listOf (σ:St) (v:V):Option (List V):=V.casesOn (motive_1:=fun I=>Option (List V)) v none (fun I=>none) (fun I=>none) (fun I=>none) (fun I=>none) some (lstAt σ) (fun I=>none) (fun I=>none)
noncomputable def onInts {α:Type} (f:Int→Int→Option α) (a b:V):Option α:=(asI a).bind fun x=>(asI b).bind (f x)
noncomputable def sameV (a b:V):Option Bool:=V.casesOn (motive_1:=fun I=>Option Bool) a none (fun x=>(asB b).bind fun y=>some (x==y)) (fun x=>(asI b).bind fun y=>some (x==y)) (fun x=>(asS b).bind fun y=>some (x==y))
 (fun x=>(asT b).bind fun y=>if (V.tup x).pure&&(V.tup y).pure then some ((V.tup x).eqb (.tup y)) else none) (fun I=>none) (fun I=>none) (fun I=>none) (fun I=>none)
noncomputable def eqV (σ:St) (a b:V):Option Bool:=Option.casesOn (motive:=fun I=>Option Bool) (sameV a b)
 ((listOf σ a).bind fun x=>(listOf σ b).bind fun y=>if V.pures x&&V.pures y then some (V.eqbs x y) else none) some
noncomputable def strChars (s:Str):List V:=s.cps.toList.map fun c=>V.str ⟨#[c]⟩
noncomputable def loopKeys (es:List (V×V)):Bool:=es.all (fun e=>e.1.tag==2)||es.all (fun e=>e.1.tag==1)
noncomputable def cap:Nat:=1048576
noncomputable def loopO (o:Ob):Option (List V):=Ob.casesOn (motive:=fun I=>Option (List V)) o some (fun es=>if loopKeys es then some (es.map (·.1)) else none) (fun I I=>none)
noncomputable def loopOf (σ:St) (v:V):Option (List V):=V.casesOn (motive_1:=fun I=>Option (List V)) v none (fun I=>none) (fun I=>none) (fun s=>if s.cps.size≤cap then some (strChars s) else none) some some
 (fun n=>(σ[n]?).bind loopO) (fun n=>some ((List.range n.toNat).map fun (i:Nat)=>V.int (i:Int))) (fun I=>none)
noncomputable def truthV (σ:St) (v:V):Option Bool:=V.casesOn (motive_1:=fun I=>Option Bool) v (some false) some (fun i=>some (decide (i≠0))) (fun I=>none) (fun l=>some (!l.isEmpty)) (fun l=>some (!l.isEmpty))
 (fun n=>(lstAt σ n).bind fun l=>some (!l.isEmpty)) (fun I=>none) (fun I=>none)
noncomputable def inL (a:V) (l:List V):Option Bool:=if V.pures l then some (l.any (·.eqb a)) else none
noncomputable def inD (a:V) (es:List (V×V)):Option Bool:=if kOk es a then some (es.any (·.1.eqb a)) else none
noncomputable def inO (a:V) (o:Ob):Option Bool:=Ob.casesOn (motive:=fun I=>Option Bool) o (inL a) (inD a) (fun I I=>none)
noncomputable def inV (σ:St) (a b:V):Option Bool:=if a.pure then V.casesOn (motive_1:=fun I=>Option Bool) b none (fun I=>none) (fun I=>none) (fun I=>none) (inL a) (inL a) (fun n=>(σ[n]?).bind (inO a)) (fun I=>none) (fun I=>none) else none
noncomputable def strLt (a b:Str):Bool:=decide (a.cps.toList < b.cps.toList)
noncomputable def isNoneV (v:V):Option Bool:=V.casesOn (motive_1:=fun I=>Option Bool) v (some true) (fun I=>none) (fun I=>none) (fun I=>none) (fun I=>some false) (fun I=>some false) (fun I=>some false) (fun I=>none) (fun I=>none)
noncomputable def ifN (v:V) (o:Option Bool):Option Bool:=V.casesOn (motive_1:=fun I=>Option Bool) v o (fun I=>none) (fun I=>none) (fun I=>none) (fun I=>none) (fun I=>none) (fun I=>none) (fun I=>none) (fun I=>none)
noncomputable def leV (a b:V):Option Bool:=V.casesOn (motive_1:=fun I=>Option Bool) a none (fun I=>none) (fun x=>(asI b).bind fun y=>some (decide (x≤y))) (fun x=>(asS b).bind fun y=>some (!strLt y x)) (fun I=>none) (fun I=>none) (fun I=>none) (fun I=>none) (fun I=>none)
noncomputable def cmpV (σ:St) (op:CmpOp) (a b:V):Option Bool :=
 match op with
 | .Eq=>eqV σ a b
 | .NotEq=>(sameV a b).map (!·)
 | .Lt=>onInts (fun x y=>some (decide (x < y))) a b
 | .LtE=>leV a b
 | .Gt=>onInts (fun x y=>some (decide (x > y))) a b
 | .GtE=>onInts (fun x y=>some (decide (x ≥ y))) a b
 | .Is=>ifN b (isNoneV a)
 | .IsNot=>ifN b ((isNoneV a).map (!·))
 | .In=>inV σ a b
 | .NotIn=>(inV σ a b).map (!·)
noncomputable def big:Int:=4611686018427387904
noncomputable def lstAdd (σ:St) (x:List V) (b:V):Option V:=(listOf σ b).bind fun y=>if x.length+y.length≤cap then some (.lst (x++y)) else none
noncomputable def addV (σ:St) (a b:V):Option V:=V.casesOn (motive_1:=fun I=>Option V) a none (fun I=>none) (fun x=>(asI b).bind fun y=>some (.int (x+y)))
 (fun x=>(asS b).bind fun y=>if x.cps.size+y.cps.size≤cap then some (.str ⟨x.cps++y.cps⟩) else none) (fun x=>(asT b).bind fun y=>if x.length+y.length≤cap then some (.tup (x++y)) else none)
 (fun x=>lstAdd σ x b) (fun n=>(listOf σ (.loc n)).bind fun x=>lstAdd σ x b) (fun I=>none) (fun I=>none)
noncomputable def binV (σ:St) (op:Operator) (a b:V):Option V :=
 match op with
 | .Add=>addV σ a b
 | .Sub=>onInts (fun x y=>some (.int (x - y))) a b
 | .Mult=>onInts (fun x y=>if x.natAbs < big.natAbs∧y.natAbs < big.natAbs then some (.int (x * y)) else none) a b
 | .FloorDiv=>onInts (fun x y=>if y.natAbs < 1000000∧y≠0 then some (.int (x.fdiv y)) else none) a b
 | .Mod=>onInts (fun x y=>if y=0 then none else some (.int (x.fmod y))) a b
 | .BitAnd=>onInts (fun x y=>some (.int (Builtin.bitAnd x y))) a b
 | .BitOr=>onInts (fun x y=>some (.int (Builtin.bitOr x y))) a b
 | _=>none
noncomputable def idx? (k:Int) (n:Nat):Option Nat:=if decide (k < -(2 ^ 63:Int))||decide (k ≥ 2 ^ 63) then none else seqIndex? k n
noncomputable def dictGetV (es:List (V×V)) (k:V):Option V:=(es.find? (·.1.eqb k)).map (·.2)
noncomputable def dictSetV (es:List (V×V)) (k v:V):List (V×V) :=
 if es.any (·.1.eqb k) then es.map (fun e=>if e.1.eqb k then (e.1,v) else e) else es++[(k,v)]
noncomputable def subL (i:V) (l:List V):Option V:=(asI i).bind fun k=>if 0≤k then (idx? k l.length).bind fun j=>l[j]? else none
noncomputable def subO (i:V) (o:Ob):Option V:=Ob.casesOn (motive:=fun I=>Option V) o (subL i) (fun es=>if kOk es i then dictGetV es i else none) (fun I I=>none)
noncomputable def subV (σ:St) (o i:V):Option V:=V.casesOn (motive_1:=fun I=>Option V) o none (fun I=>none) (fun I=>none) (fun s=>(asI i).bind fun k=>(idx? k s.cps.size).bind fun j=>(s.cps[j]?).map fun c=>V.str ⟨#[c]⟩)
 (fun l=>(asI i).bind fun k=>(idx? k l.length).bind fun j=>l[j]?) (subL i) (fun n=>(σ[n]?).bind (subO i)) (fun I=>none) (fun I=>none)
noncomputable def tupSlice (l:List V) (lo hi:Option Int):List V :=
 let p:=Builtin.Slice.sliceAdjust lo hi 1 l.length
 let n:=Builtin.Slice.slicePlaces p.1 p.2 1
 if p.1==0&&(1:Int)==1&&n==l.length then l else (List.range n).filterMap fun (k:Nat)=>l[(p.1+(k:Int) * 1).toNat]?
noncomputable def strSlice (x:Str) (lo hi:Option Int):Str :=
 let p:=Builtin.Str.strSliceIndices lo hi 1 x.length
 if p.length==x.length then x else ⟨(p.filterMap (x.cps[·]?)).toArray⟩
noncomputable def ifNo {α β:Type} (s:Option α) (o:Option β):Option β:=Option.casesOn (motive:=fun I=>Option β) s o fun I=>none
noncomputable def lstSlice (l:List V) (lo hi st:Option Int):Option V:=ifNo lo (Option.casesOn (motive:=fun I=>Option V) hi (st.bind fun k=>if k=-1 then some (.lst l.reverse) else none) fun k=>ifNo st (if 0≤k then some (.lst (l.take k.toNat)) else none))
noncomputable def sliceV (σ:St) (o:V) (lo hi st:Option Int):Option V:=V.casesOn (motive_1:=fun I=>Option V) o none (fun I=>none) (fun I=>none)
 (fun s=>ifNo st (if (strSlice s lo hi).cps.size≤cap then some (.str (strSlice s lo hi)) else none)) (fun l=>ifNo st (some (.tup (tupSlice l lo hi)))) (fun l=>lstSlice l lo hi st)
 (fun n=>(lstAt σ n).bind fun l=>lstSlice l lo hi st) (fun I=>none) (fun I=>none)
noncomputable def insSort {α:Type} (lt:α→α→Bool):List α→List α
 | []=>[]
 | a::l=>let rec ins:List α→List α
   | []=>[a]
   | b::r=>if lt b a then b::ins r else a::b::r
  ins (insSort lt l)
noncomputable def allInts:List V→Option (List Int)
 | []=>some []
 | .int i::r=>(allInts r).map (i::·)
 | _=>none
noncomputable def allStrs:List V→Option (List Str)
 | []=>some []
 | .str i::r=>(allStrs r).map (i::·)
 | _=>none
noncomputable def sortV (l:List V):Option (List V) :=
 if 64≤l.length then none else
 match allInts l with
 | some is=>some ((insSort (fun a b=>decide (a < b)) is).map .int)
 | none=>match allStrs l with
  | some ss=>some ((insSort strLt ss).map .str)
  | none=>none
noncomputable def joinStr (sep:Str) (l:List Str):Str:=Builtin.Str.glued sep l
noncomputable def progBody:List Stmt:=PySem.Challenge.pw_xm0521_01.main.body
noncomputable def exC {α:Sort u} (e:Expr) (d:α) (cBoolOp:BoolOp→List Expr→Pos→α:=fun I I I=>d) (cBinOp:Expr→Operator→Expr→Pos→α:=fun I I I I=>d) (cUnaryOp:UnaryOp→Expr→Pos→α:=fun I I I=>d) (cIfExp:Expr→Expr→Expr→Pos→α:=fun I I I I=>d) (cDict:List (Option Expr)→List Expr→Pos→α:=fun I I I=>d) (cSet:List Expr→Nat→Pos→α:=fun I I I=>d) (cListComp:Expr→List Comprehension→Scope→Pos→α:=fun I I I I=>d) (cSetComp:Expr→List Comprehension→Scope→Pos→α:=fun I I I I=>d) (cDictComp:Expr→Expr→List Comprehension→Scope→Pos→α:=fun I I I I I=>d) (cCompare:Expr→List CmpOp→List Expr→Pos→α:=fun I I I I=>d) (cCall:Expr→List Expr→List Keyword→Pos→α:=fun I I I I=>d) (cConstant:Const→Nat→Pos→α:=fun I I I=>d) (cAttribute:Expr→Str→Pos→α:=fun I I I=>d) (cSubscript:Expr→Expr→Pos→α:=fun I I I=>d) (cStarred:Expr→Pos→α:=fun I I=>d) (cName:Str→Pos→α:=fun I I=>d) (cList:List Expr→Pos→α:=fun I I=>d) (cTuple:List Expr→Nat→Pos→α:=fun I I I=>d) (cSlice:Option Expr→Option Expr→Option Expr→Pos→α:=fun I I I I=>d):α:=Expr.casesOn (motive_1:=fun I=>α) e cBoolOp (fun I I I=>d) cBinOp cUnaryOp (fun I I I I=>d) cIfExp cDict cSet cListComp cSetComp cDictComp (fun I I I I=>d) (fun I I=>d) (fun I I=>d) (fun I I=>d) cCompare cCall (fun I I I I=>d) (fun I I=>d) cConstant cAttribute cSubscript cStarred cName cList cTuple cSlice
noncomputable def dfltC:Const→V
 | .int i=>.int i
 | .str s=>.str s
 | _=>.none
noncomputable def dfltV (e:Expr):V:=exC e .none (cConstant:=fun c I I=>dfltC c) (cTuple:=fun I I I=>.tup [])
noncomputable def recOf:Stmt→Option FnRec
 | .FunctionDef _ args body _ _ _ sc _ _ _=>some ⟨args.args.map (·.arg),args.defaults.map dfltV,body,sc.names⟩
 | _=>none
noncomputable def clsBody:Stmt→List Stmt
 | .ClassDef _ _ _ b _ _ _ _ _ _ _=>b
 | _=>[]
noncomputable def stAt (i:Nat):Stmt:=progBody.getD i default
noncomputable def rc (i:Nat):FnRec:=(recOf (stAt i)).getD ⟨[],[],[],[]⟩
noncomputable def defName:Stmt→Str
 | .FunctionDef n ..=>n
 | _=>⟨#[]⟩
noncomputable def methAt (i:Nat) (m:Str):Option FnRec:=((clsBody (stAt i)).find? fun s=>defName s==m).bind recOf
noncomputable def mrc (i:Nat) (m:Str):FnRec:=(methAt i m).getD ⟨[],[],[],[]⟩
noncomputable def fnTab:List (String×Nat):=[("kind_of",48),("str_type",49),("num_type",50),("ref_type",51),("sorted_props",52),("obj_type",53),("func_type",54),("new_decl",55),
 ("parts_of",56),("whole_of_row",57),("regular_twin",58),("join_bools",59),("stays_beside",60),("top_of",61),("union",62),("add_undef",63),("is_literal",64),("is_unit",65),
 ("is_fresh",66),("regular_one",67),("regular",68),("all_units",70),("value_holds",71),("units_fit",72),("hidden_apart",77),("final_parts",78),("plain_shape",79),
 ("find_prop",89),("is_digits",90),("is_number_name",92),("prop_row",93),("read_type",94),("index_read",97),("part_type",98),("prop_type",99),("index_of",100),
 ("takes_all",108),("knows",109),("is_tag",110),("tells_apart",111),("lets_unit",112),("told_parts",113),("checked_parts",114),("excess_within",115),("excess_one",116),("excess",119),
 ("_law_take",123),("_law_rooms",124),("_law_less",125),("_law_goal",126),("_law_own",127),("_law_object",128),("_law_literal",129),("_law_read",130),("_law_knows",131),
 ("_law_apart",132),("_law_lets",133),("_law_left",134),("_law_first",135),("_law_atom",136),("_law_kind",137),("_law_shape",138),("_law_fresh",139),("_law_made",140),
 ("_law_at",141),("_law_table",142),("_law_right",143),("law",144)]
noncomputable def valTab:List (String×V):=[("Y_KEY",.int 1),("Y_BOOL",.int 2),("Y_STR",.int 3),("Y_NUM",.int 4),("Y_ENUM",.int 5),("Y_UNION",.int 6),("Y_INTER",.int 7),("Y_OBJ",.int 8),("Y_REF",.int 9),
 ("Y_PARAM",.int 10),("Y_ARRAY",.int 11),("Y_TUPLE",.int 12),("Y_SIG",.int 13),("Y_TPL",.int 18),("ANY",.int 0),("UNKNOWN",.int 1),("NEVER",.int 2),("VOID",.int 3),("UNDEF",.int 4),
 ("NULLT",.int 5),("STRING",.int 6),("NUMBER",.int 7),("FALSE_T",.int 8),("TRUE_T",.int 9),("OBJECTT",.int 10),("EMPTY",.int 11),("ERR",.int 13),("FRESH_F",.int 14),("FRESH_T",.int 15),
 ("P_OPT",.int 1),("P_PRIVATE",.int 8),("P_PROTECTED",.int 16),("D_INTERFACE",.int 2),("MAX_UNION",.int 400),("MOST_PLAIN",.int 40),("MOST_ROUNDS",.int 200),("MOST_SHAPES",.int 40),
 ("FIRST_ROWS",.tup [.tup [.int 1,.str "any"],.tup [.int 1,.str "unknown"],.tup [.int 1,.str "never"],.tup [.int 1,.str "void"],.tup [.int 1,.str "undefined"],.tup [.int 1,.str "null"],
  .tup [.int 1,.str "string"],.tup [.int 1,.str "number"],.tup [.int 2,.int 0,.int 0],.tup [.int 2,.int 1,.int 0],.tup [.int 1,.str "object"],.tup [.int 8,.tup [],.tup [],.tup [],.tup [],.tup [],.int 0],
  .tup [.int 6,.tup [.int 8,.int 9]],.tup [.int 1,.str "error"],.tup [.int 2,.int 0,.int 1],.tup [.int 2,.int 1,.int 1]]),
 ("LITERAL_ROWS",.tup [.int 2,.int 3,.int 4,.int 5]),("MARKED_ROWS",.tup [.int 2,.int 3,.int 4,.int 5,.int 8]),("PLAIN_ROWS",.tup [.int 1,.int 2,.int 3,.int 4,.int 5]),
 ("LIST_ROWS_shapes",.tup [.int 11,.int 12]),("LIST_ROWS_relbase",.tup [.int 11,.int 12]),("SHAPED_ROWS",.tup [.int 8,.int 9]),
 ("_law_UNITS",.tup [.str "a",.str "b",.str "c",.str "1",.str "~a",.str "~b",.str "~1",.str "true",.str "~true",.str "undefined"]),("_law_TAKERS",.tup [.str "any",.str "unknown",.str "error",.str "object",.str "{}"])]
noncomputable def clsTab:List (String×Nat):=[("TypeTable",46),("Decl",47),("RefHost",85)]
noncomputable def biTab:List String:=["len", "any", "all", "sorted", "tuple", "range"]
noncomputable def kindW {α:Type}:List (Str×α)→Str→Option α
 | [],_=>none
 | (k,v)::r,x=>bif sBeq x k then some v else kindW r x
theorem kindW_eq {α:Type} (x:Str):∀ l:List (Str×α),kindW l x=l.lookup x
 | []=>rfl
 | (k,v)::r=>by
  rw [List.lookup_cons]
  show (bif sBeq x k then some v else kindW r x)=_
  rw [sBeq_eq,kindW_eq x r]
  by_cases h:x=k
  ·subst h;simp
  ·rw [decide_eq_false h,show (x==k)=false by simpa using h];rfl
noncomputable def lookW {α:Type} (x:Str):List (String×α)→Option α
 | []=>none
 | p::r=>bif sBeq x (Str.ofString p.1) then some p.2 else lookW x r
noncomputable def globW (x:Str):Option GK:=Option.casesOn (motive:=fun I=>Option GK) (lookW x valTab)
 (Option.casesOn (motive:=fun I=>Option GK) (lookW x fnTab) (Option.casesOn (motive:=fun I=>Option GK) (lookW x clsTab) (bif biTab.any (fun k=>sBeq x (Str.ofString k)) then some .bi else none) fun I=>some .cls) fun i=>some (.fn (rc i)))
 fun v=>some (.val v)
noncomputable def methTab:List (String×String×Nat):=[("TypeTable", "__init__",46),("TypeTable", "put",46),("Decl", "__init__",47),("RefHost", "__init__",84),("RefHost", "force",84),
 ("RefHost", "bound",84),("RefHost", "shape",85),("RefHost", "fits",85)]
noncomputable def methL (c m:Str):List (String×String×Nat)→Option FnRec
 | []=>none
 | p::r=>bif sBeq c (Str.ofString p.1)&&sBeq m (Str.ofString p.2.1) then some (mrc p.2.2 p.2.1) else methL c m r
noncomputable def methW (c m:Str):Option FnRec:=methL c m methTab
noncomputable def attrTab:List (String×List String):=[("TypeTable",["rows", "index", "decls", "bounds", "defaults", "names", "origins", "renamed", "shaping", "putting"]),
 ("Decl",["did", "kind", "name", "params", "body", "bases", "static", "extends_class", "abstract", "members", "variances", "busy", "at", "file", "nid"]),
 ("RefHost",["tab", "deep", "most_rounds", "most_deep", "lib"])]
noncomputable def attrW (c x:Str):Bool:=attrTab.any fun p=>sBeq c (Str.ofString p.1)&&p.2.any fun y=>sBeq x (Str.ofString y)
noncomputable def short {α:Type}:Nat→List α→Bool
 | _,[]=>true
 | 0,_::_=>false
 | n+1,_::l=>short n l
noncomputable def need (b:Bool) (x:Option α):Option α:=if b then x else none
noncomputable def dictOfPairs (ps:List (V×V)):List (V×V):=ps.foldl (fun es p=>dictSetV es p.1 p.2) []
noncomputable def litK:Const→Option Int
 | .int i=>some i
 | _=>none
noncomputable def litC (e:Expr):Option Int:=exC e none (cConstant:=fun c I I=>litK c)
noncomputable def litN (e:Expr):UnaryOp→Option Int
 | .USub=>(litC e).map fun i=>-i
 | _=>none
noncomputable def litI (e:Expr):Option Int:=exC e (litC e) (cUnaryOp:=fun op e I=>litN e op)
noncomputable def optInt (o:Option Expr):Option (Option Int):=Option.casesOn (motive:=fun I=>Option (Option Int)) o (some none) fun e=>(litI e).map some
noncomputable def isDO (o:Ob):Bool:=Ob.casesOn (motive:=fun I=>Bool) o (fun I=>false) (fun I=>true) (fun I I=>false)
noncomputable def isD (σ:St) (v:V):Bool:=V.casesOn (motive_1:=fun I=>Bool) v false (fun I=>false) (fun I=>false) (fun I=>false) (fun I=>false) (fun I=>false) (fun n=>Option.casesOn (motive:=fun I=>Bool) (σ[n]?) false isDO) (fun I=>false) (fun I=>false)
noncomputable def sameItems (σ:St) (src:V) (d:Bool) (all:List V):Bool:=isD σ src==d&&match loopOf σ src with | some l=>V.eqbs l all | none=>false
noncomputable def lenV (σ:St):V→Option Nat
 | .tup l=>some l.length
 | .lst l=>some l.length
 | .loc n=>match σ[n]? with | some (.list l)=>some l.length | some (.dict es)=>if loopKeys es then some es.length else none | _=>none
 | _=>none
noncomputable def sortSrc (σ:St):V→Option (List V)
 | .lst l=>some l
 | .loc n=>match σ[n]? with | some (.list l)=>some l | some (.dict es)=>some (es.map (·.1)) | _=>none
 | _=>none
noncomputable def allBools:List V→Option (List Bool)
 | []=>some []
 | .bool b::r=>(allBools r).map (b::·)
 | _=>none
noncomputable def bools (σ:St) (v:V):Option (List Bool):=(listOf σ v).bind allBools
noncomputable def tupV (σ:St):V→Option (List V)
 | .tup l=>some l
 | v=>listOf σ v
noncomputable def rangeV:V→Option Int
 | .int n=>need (decide (0≤n)&&decide (n < 1000)) (some n)
 | _=>none
noncomputable def unV (σ:St) (op:UnaryOp) (v:V):Option V:=match op with
 | .Not=>(truthV σ v).map fun b=>.bool (!b)
 | .USub=>(asI v).bind fun i=>some (.int (-i))
 | _=>none
noncomputable def isLoc:Option NameKind→Bool | some .local=>true | _=>false
noncomputable def kFun:ScopeKind→Bool | .function=>true | _=>false
noncomputable def notSet (e:Expr):Bool:=exC e true (cSet:=fun I I I=>false)
noncomputable def noSets:List Expr→Bool
 | []=>true
 | e::es=>notSet e&&noSets es
noncomputable def bareCall (e:Expr):Bool:=exC e false (cCall:=fun I args kws I=>args.isEmpty&&kws.isEmpty)
noncomputable def methForm (o:Expr) (ap p:Pos) (args:List Expr):Bool:=!bareCall o&&(ap.endLine==p.line)&&short 28 args
noncomputable def notComp (e:Expr):Bool:=exC e true (cListComp:=fun I I I I=>false) (cSetComp:=fun I I I I=>false) (cDictComp:=fun I I I I I=>false)
noncomputable def notTupE (e:Expr):Bool:=exC e true (cTuple:=fun I I I=>false)
noncomputable def asOk (t e:Expr):Bool:=exC t false (cName:=fun I I=>true) (cAttribute:=fun I I I=>notComp e) (cSubscript:=fun I I I=>notComp e) (cTuple:=fun I I I=>notComp e&&notTupE e)
end Mine
set_option maxHeartbeats 0
set_option maxHeartbeats 0
namespace MineH
open Mine
open PySem PySem.W PySem.Calls PyProof.Rows
noncomputable def hs (x:String) (t:Nat):Value:=.str (.ofString x) t
noncomputable def hi (k t:Nat):Value:=.int k t
noncomputable def hN (l:List Str):Nat→List Value:=List.rec (fun _=>[]) (fun x _ ih t=>.str x t::ih (t+1)) l
noncomputable def hn (t:Nat) (l:List String):List Value:=hN (l.map .ofString) t
noncomputable def tu (l:List Value):Obj:=⟨.type "tuple",none,.seq ⟨l⟩,#[]⟩
noncomputable def fi (l:List Value):Obj:=⟨.none,none,.fields ⟨l⟩,#[]⟩
noncomputable def fc (c:String) (l:List Value):Obj:=⟨.type c,none,.fields ⟨l⟩,#[]⟩
noncomputable def di (l:List DictEntry) (n:Nat):Obj:=⟨.type "dict",none,.dict ⟨l⟩ n,#[]⟩
noncomputable def en (P:Params) (x:String) (t:Nat) (v:Value):DictEntry:=⟨PyData.keyHash P (.ofString x),hs x t,v⟩
noncomputable def fl:Str:=.ofString "/claim/cut.py"
noncomputable def co (n q:Str) (t line a po kw f A:Nat) (b:Bool) (l:List Value) (u:Nat):Obj :=
 ⟨.type "code",none,.fields ⟨.str n t::.str q (t+1)::.str fl (t+2)::hi line 0::hi a 0::hi po 0::hi kw 0::hi f 0::.ref A::.bool b::hi 181 0::List.append l [hi u 0,hi line 0,.str fl (u+1)]⟩,#[]⟩
noncomputable def cl (n:String) (bs mro:List Value) (ns:Nat) (q:String) (hd:Bool) (subs:List Value) (sl:List (Option Value)):Obj :=
 ⟨.type "type",none,.cls { name:=.ofString n,bases:=bs,mro:=mro,ns:=ns,qualname:=.ofString q,hasDict:=hd,subclasses:=subs },⟨sl⟩⟩
noncomputable def fdOf {α:Type} (d:α) (f:Str→Arguments→List Stmt→Scope→Pos→α):Stmt→α
 | .FunctionDef n a b _ _ _ s _ _ p=>f n a b s p
 | _=>d
noncomputable def fnN (s:Stmt):Str:=fdOf ⟨#[]⟩ (fun n _ _ _ _=>n) s
noncomputable def fu (n q:Str) (a:Arguments) (b:List Stmt) (s:Scope) (c:Value) (g:Nat) (dV m cd:Value):Obj :=
 ⟨c,none,.func { name:=n,qualname:=q,params:=a,body:=.stmts b,scope:=s,globals:=g,closure:=[],defaults:=dV,kwdefaults:=.none,pyModule:=m,code:=cd },#[]⟩
noncomputable def meAt (i j:Nat):Stmt:=(clsBody (stAt i)).getD j default
noncomputable def M1:Value:=hs "kindkeep.types" 283
noncomputable def G (st:Stmt) (q:Str) (m:Value) (a t f:Nat) (dV:Value) (mk:List Value) (ns:Bool):List Obj :=
 fdOf [] (fun n as b s p =>
  let c (x:Nat) (k:Nat) (l:List Value):List Obj:=[fu n q as b s .none 0 .none .none .none,co n q t p.line as.args.length 0 0 f a true l (t+3+k),fu n q as b s (.type "function") 3 dV m (.ref x)]
  let l:=(s.names.filter fun p=>p.2==.local).map (·.1)
  tu []::fi mk::Bool.rec (c (a+3) 0 [.ref (a+1),.none,.none,.none,.ref (a+2)]) (tu (hN l (t+3))::tu []::c (a+5) l.length [.ref (a+1),.none,.ref (a+2),.ref (a+3),.ref (a+4)]) ns) st
noncomputable def nl (s:Stmt):Nat:=fdOf 0 (fun _ _ _ s _=>(s.names.filter fun p=>p.2==.local).length) s
noncomputable def Gr {β:Type} (f:Stmt→Nat→Nat→Bool→List β) (st:Nat→Stmt) (l:List Bool):Nat→Nat→Nat→List β :=
 List.rec (fun _ _ _=>[]) (fun b _ ih k a t=>List.append (f (st k) a t b) (ih (k+1) (a+Bool.rec 5 7 b) (t+6+Bool.rec 0 (nl (st k)) b))) l
noncomputable def gO (m:Value) (s:Stmt) (a t:Nat) (b:Bool):List Obj:=G s (fnN s) m a t 3 .none [] b
noncomputable def gM (c:String) (m:Value) (s:Stmt) (a t:Nat) (b:Bool):List Obj:=G s (Str.ofString c++fnN s) m a t 3 .none [] b
noncomputable def gE (P:Params) (s:Stmt) (a t:Nat) (b:Bool):List DictEntry:=[⟨PyData.keyHash P (fnN s),.str (fnN s) (t+5+Bool.rec 0 (nl s) b),.ref (a+Bool.rec 4 6 b)⟩]
noncomputable def gC (s:Stmt) (a _t:Nat) (b:Bool):List Value:=[hi (fdOf 0 (fun _ _ _ _ p=>p.line) s) 0,hi 0 0,.ref (a+Bool.rec 3 5 b)]
noncomputable def cat {α:Type} (l:List (List α)):List α:=List.rec [] (fun x _ ih=>List.append x ih) l
noncomputable def tk {α:Type} (n:Nat):List α→List α:=Nat.rec (fun _=>[]) (fun _ ih l=>List.rec [] (fun x r _=>x::ih r) l) n
noncomputable def dr {α:Type} (n:Nat):List α→List α:=Nat.rec (fun l=>l) (fun _ ih l=>List.rec [] (fun _ r _=>ih r) l) n
noncomputable def alt {α:Type} (l:List α):Bool→List α:=List.rec (fun _=>[]) (fun x _ ih b=>Bool.rec (ih true) (x::ih false) b) l
noncomputable def bt (n:Nat):List Obj→BT:=Nat.rec (fun _=>.nil) (fun _ ih l=>List.rec .nil (fun x r _=>.node x (ih (alt r true)) (ih (alt r false))) l) n
noncomputable def r1 {β:Type} (f:Stmt→Nat→Nat→Bool→List β):List β:=Gr f stAt [true,true,true,true,true,true,true,true,false,true,true,true,true,true,false] 54 211 540
noncomputable def r2 {β:Type} (f:Stmt→Nat→Nat→Bool→List β):List β:=Gr f stAt [false,true,true] 70 312 663
noncomputable def r3 {β:Type} (f:Stmt→Nat→Nat→Bool→List β):List β:=Gr f stAt [true,true,true] 77 333 698
noncomputable def r4 {β:Type} (f:Stmt→Nat→Nat→Bool→List β):List β:=Gr f stAt [true,false,true,true,false,true,true,true,true,false,true,true,true,false,true,true,false] 86 534 968
noncomputable def r5 {β:Type} (f:Stmt→Nat→Nat→Bool→List β):List β:=Gr f stAt [false,true,false,false,false,false,false,false,false,true,false,false] 108 658 1130
noncomputable def r6 {β:Type} (f:Stmt→Nat→Nat→Bool→List β):List β:=Gr f stAt [true,true,true,true,true,false,true,true,true,false,false,false,false,true,false,false,false,true,true,true,false,false] 123 724 1229
noncomputable def ob (P:Params):List Obj:=cat [
 G (stAt 0) (fnN (stAt 0)) (hs "__main__" 164) 15 187 3 (.none) [] true,
 [tu [.type "Exception"],fc "builtin_function_or_method" [.builtin "type.__prepare__",.type "type"],di [en P "__module__" 203 (hs "kindkeep.diags" 194),en P "__qualname__" 205 (hs "KeepError" 204),en P "__firstlineno__" 207 (hi 5 206),en P "__init__" 216 (.ref 36),en P "__static_attributes__" 219 (.ref 37)] 5,tu [],fi [hi 7 0,hi 4 0,.ref 35],co (.ofString "KeepError") (.ofString "KeepError") 198 5 0 0 0 0 25 false [.ref 26,.none,.none,.none,.none] 201,⟨.type "frame",none,.plain,⟨[some (.ref 27),some (.ref 3),some (.ref 24),none,some (hs "kindkeep.diags" 194),none,some (.ref 0)]⟩⟩,tu [hs "" 208]],
 G (meAt 2 0) (.ofString "KeepError.__init__") (hs "kindkeep.diags" 194) 30 209 3 (.ref 29) [] true,
 [tu (hn 217 ["number", "text"]),di [en P "__module__" 203 (hs "kindkeep.diags" 194),en P "__firstlineno__" 207 (hi 5 206),en P "__init__" 216 (.ref 36),en P "__static_attributes__" 219 (.ref 37),en P "__weakref__" 221 (.ref 40),en P "__doc__" 222 (.none)] 3,cl "KeepError" [.type "Exception"] [.ref 39,.type "Exception",.type "BaseException",.type "object"] 38 "KeepError" true [.ref 60,.ref 80] [some (.ref 22),none,some (hs "KeepError" 196),some (hs "KeepError" 204),some (.builtin "Exception.__new__"),some (.bool true)],fc "getset_descriptor" [hs "__weakref__" 220,.ref 39,.builtin "ExceptionGroup.__weakref__",.none],fc "super" [.ref 39,.ref 39,.ref 39],fc "builtin_function_or_method" [.builtin "object.__init_subclass__",.ref 39],tu [.ref 39],fc "builtin_function_or_method" [.builtin "type.__prepare__",.type "type"],di [en P "__module__" 234 (hs "kindkeep.diags" 194),en P "__qualname__" 236 (hs "TooDeep" 235),en P "__firstlineno__" 238 (hi 10 237),en P "__init__" 249 (.ref 57),en P "__static_attributes__" 252 (.ref 58)] 5,tu [],fi [hi 12 0,hi 4 0,.ref 56],co (.ofString "TooDeep") (.ofString "TooDeep") 229 10 0 0 0 0 46 false [.ref 47,.none,.none,.none,.none] 232,⟨.type "frame",none,.plain,⟨[some (.ref 48),some (.ref 3),some (.ref 45),none,some (hs "kindkeep.diags" 194),none,some (.ref 0)]⟩⟩,tu [hi 2589 239,hs "" 240]],
 G (meAt 3 0) (.ofString "TooDeep.__init__") (hs "kindkeep.diags" 194) 51 241 3 (.ref 50) [] true,
 [tu (hn 250 ["number", "text"]),di [en P "__module__" 234 (hs "kindkeep.diags" 194),en P "__firstlineno__" 238 (hi 10 237),en P "__init__" 249 (.ref 57),en P "__static_attributes__" 252 (.ref 58),en P "__doc__" 253 (.none)] 2,cl "TooDeep" [.ref 39] [.ref 60,.ref 39,.type "Exception",.type "BaseException",.type "object"] 59 "TooDeep" true [] [some (.ref 43),none,some (hs "TooDeep" 227),some (hs "TooDeep" 235),some (.builtin "Exception.__new__"),some (.bool true)],fc "super" [.ref 60,.ref 60,.ref 60],fc "builtin_function_or_method" [.builtin "object.__init_subclass__",.ref 60],tu [.ref 39],fc "builtin_function_or_method" [.builtin "type.__prepare__",.type "type"],di [en P "__module__" 263 (hs "kindkeep.diags" 194),en P "__qualname__" 265 (hs "HostFault" 264),en P "__firstlineno__" 267 (hi 15 266),en P "__init__" 276 (.ref 77),en P "__static_attributes__" 279 (.ref 78)] 5,tu [],fi [hi 17 0,hi 4 0,.ref 76],co (.ofString "HostFault") (.ofString "HostFault") 258 15 0 0 0 0 66 false [.ref 67,.none,.none,.none,.none] 261,⟨.type "frame",none,.plain,⟨[some (.ref 68),some (.ref 3),some (.ref 65),none,some (hs "kindkeep.diags" 194),none,some (.ref 0)]⟩⟩,tu [hs "" 268]],
 G (meAt 4 0) (.ofString "HostFault.__init__") (hs "kindkeep.diags" 194) 71 269 3 (.ref 70) [] true,
 [tu (hn 277 ["number", "text"]),di [en P "__module__" 263 (hs "kindkeep.diags" 194),en P "__firstlineno__" 267 (hi 15 266),en P "__init__" 276 (.ref 77),en P "__static_attributes__" 279 (.ref 78),en P "__doc__" 280 (.none)] 2,cl "HostFault" [.ref 39] [.ref 80,.ref 39,.type "Exception",.type "BaseException",.type "object"] 79 "HostFault" true [] [some (.ref 63),none,some (hs "HostFault" 256),some (hs "HostFault" 264),some (.builtin "Exception.__new__"),some (.bool true)],fc "super" [.ref 80,.ref 80,.ref 80],fc "builtin_function_or_method" [.builtin "object.__init_subclass__",.ref 80],tu [hi 1 285,hs "any" 359],tu [hi 1 285,hs "unknown" 360],tu [hi 1 285,hs "never" 361],tu [hi 1 285,hs "void" 362],tu [hi 1 285,hs "undefined" 363],tu [hi 1 285,hs "null" 364],tu [hi 1 285,hs "string" 365],tu [hi 1 285,hs "number" 366],tu [hi 2 287,hi 0 367,hi 0 368],tu [hi 2 287,hi 1 369,hi 0 370],tu [hi 1 285,hs "object" 371],tu [],tu [],tu [],tu [],tu [],tu [hi 8 299,.ref 94,.ref 95,.ref 96,.ref 97,.ref 98,hi 0 372],tu [hi 8 373,hi 9 374],tu [hi 6 295,.ref 100],tu [hi 1 285,hs "error" 375],tu [hi 2 287,hi 0 376,hi 1 377],tu [hi 2 287,hi 1 378,hi 1 379],tu [.ref 83,.ref 84,.ref 85,.ref 86,.ref 87,.ref 88,.ref 89,.ref 90,.ref 91,.ref 92,.ref 93,.ref 99,.ref 101,.ref 102,.ref 103,.ref 104],tu [hi 2 287,hi 3 289,hi 4 291,hi 5 293],tu [hi 2 287,hi 3 289,hi 4 291,hi 5 293,hi 8 299],tu [],fc "builtin_function_or_method" [.builtin "type.__prepare__",.type "type"],di [en P "__module__" 390 (hs "kindkeep.types" 283),en P "__qualname__" 392 (hs "TypeTable" 391),en P "__firstlineno__" 394 (hi 61 393),en P "__init__" 402 (.ref 121),en P "row" 410 (.ref 128),en P "put" 419 (.ref 135),en P "__static_attributes__" 430 (.ref 136)] 7,tu [],fi [hi 63 0,hi 4 0,.ref 120,hi 77 0,hi 4 0,.ref 127,hi 80 0,hi 4 0,.ref 134],co (.ofString "TypeTable") (.ofString "TypeTable") 385 61 0 0 0 0 111 false [.ref 112,.none,.none,.none,.none] 388,⟨.type "frame",none,.plain,⟨[some (.ref 113),some (.ref 3),some (.ref 110),none,some (hs "kindkeep.types" 283),none,some (.ref 0)]⟩⟩],
 Gr (gM "TypeTable." M1) (meAt 46) [true,true,true] 0 115 395,
 [tu (hn 420 ["bounds", "decls", "defaults", "index", "names", "origins", "putting", "renamed", "rows", "shaping"]),di [en P "__module__" 390 (hs "kindkeep.types" 283),en P "__firstlineno__" 394 (hi 61 393),en P "__init__" 402 (.ref 121),en P "row" 410 (.ref 128),en P "put" 419 (.ref 135),en P "__static_attributes__" 430 (.ref 136),en P "__dict__" 432 (.ref 139),en P "__weakref__" 434 (.ref 140),en P "__doc__" 435 (.none)] 4,cl "TypeTable" [.type "object"] [.ref 138,.type "object"] 137 "TypeTable" true [] [none,none,some (hs "TypeTable" 383),some (hs "TypeTable" 391),some (.builtin "object.__new__"),some (.bool true)],fc "getset_descriptor" [hs "__dict__" 431,.ref 138,.builtin "function.__dict__",.builtin "function.__dict__#set"],fc "getset_descriptor" [hs "__weakref__" 433,.ref 138,.builtin "ExceptionGroup.__weakref__",.none],fc "super" [.ref 138,.ref 138,.ref 138],fc "builtin_function_or_method" [.builtin "object.__init_subclass__",.ref 138],tu [],fc "builtin_function_or_method" [.builtin "type.__prepare__",.type "type"],di [en P "__module__" 445 (hs "kindkeep.types" 283),en P "__qualname__" 447 (hs "Decl" 446),en P "__firstlineno__" 449 (hi 87 448),en P "__init__" 459 (.ref 156),en P "__static_attributes__" 475 (.ref 157)] 5,tu [],fi [hi 89 0,hi 4 0,.ref 155],co (.ofString "Decl") (.ofString "Decl") 440 87 0 0 0 0 146 false [.ref 147,.none,.none,.none,.none] 443,⟨.type "frame",none,.plain,⟨[some (.ref 148),some (.ref 3),some (.ref 145),none,some (hs "kindkeep.types" 283),none,some (.ref 0)]⟩⟩],
 G (meAt 47 0) (.ofString "Decl.__init__") M1 150 450 3 (.none) [] true,
 [tu (hn 460 ["abstract", "at", "bases", "body", "busy", "did", "extends_class", "file", "kind", "members", "name", "nid", "params", "static", "variances"]),di [en P "__module__" 445 (hs "kindkeep.types" 283),en P "__firstlineno__" 449 (hi 87 448),en P "__init__" 459 (.ref 156),en P "__static_attributes__" 475 (.ref 157),en P "__dict__" 477 (.ref 160),en P "__weakref__" 479 (.ref 161),en P "__doc__" 480 (.none)] 4,cl "Decl" [.type "object"] [.ref 159,.type "object"] 158 "Decl" true [] [none,none,some (hs "Decl" 438),some (hs "Decl" 446),some (.builtin "object.__new__"),some (.bool true)],fc "getset_descriptor" [hs "__dict__" 476,.ref 159,.builtin "function.__dict__",.builtin "function.__dict__#set"],fc "getset_descriptor" [hs "__weakref__" 478,.ref 159,.builtin "ExceptionGroup.__weakref__",.none],fc "super" [.ref 159,.ref 159,.ref 159],fc "builtin_function_or_method" [.builtin "object.__init_subclass__",.ref 159]],
 G (stAt 48) (fnN (stAt 48)) M1 164 483 3 (.none) [] true,
 [tu [hi 0 491]],
 G (stAt 49) (fnN (stAt 49)) M1 172 492 3 (.ref 171) [] true,
 [tu [hi 0 501]],
 G (stAt 50) (fnN (stAt 50)) M1 180 502 3 (.ref 179) [] true,
 G (stAt 51) (fnN (stAt 51)) M1 187 511 3 (.none) [] true,
 G (stAt 52) (fnN (stAt 52)) M1 194 520 3 (.none) [] false,
 [tu [],tu [],tu [],tu [],tu [.ref 199,.ref 200,.ref 201,.ref 202,hi 0 526]],
 G (stAt 53) (fnN (stAt 53)) M1 204 527 3 (.ref 203) [] true,
 r1 (gO M1),
 r2 (gO (hs "kindkeep.typeops" 661)),
 [tu [hi 1 285,hi 2 287,hi 3 289,hi 4 291,hi 5 293],tu [hi 11 305,hi 12 307]],
 r3 (gO (hs "kindkeep.shapes" 692)),
 [tu [],fc "builtin_function_or_method" [.builtin "type.__prepare__",.type "type"],di [en P "__module__" 747 (hs "kindkeep.hosts" 732),en P "__qualname__" 749 (hs "Thin" 748),en P "__firstlineno__" 751 (hi 258 750),en P "__init__" 759 (.ref 367),en P "force" 767 (.ref 374),en P "put_deferred" 775 (.ref 381),en P "put_cond" 784 (.ref 388),en P "lay_row" 793 (.ref 395),en P "bound" 801 (.ref 402),en P "shape" 809 (.ref 409),en P "fits" 818 (.ref 416),en P "lies" 827 (.ref 423),en P "infers" 837 (.ref 430),en P "tpl_fits" 846 (.ref 437),en P "shape_fits" 855 (.ref 444),en P "put_in" 864 (.ref 451),en P "own_sig" 873 (.ref 458),en P "forget" 880 (.ref 465),en P "list_prop" 889 (.ref 472),en P "list_index" 897 (.ref 479),en P "elem_met" 905 (.ref 486),en P "error_class" 912 (.ref 493),en P "__static_attributes__" 918 (.ref 494)] 23,tu [],fi [hi 260 0,hi 4 0,.ref 366,hi 267 0,hi 4 0,.ref 373,hi 270 0,hi 4 0,.ref 380,hi 273 0,hi 4 0,.ref 387,hi 276 0,hi 4 0,.ref 394,hi 279 0,hi 4 0,.ref 401,hi 282 0,hi 4 0,.ref 408,hi 285 0,hi 4 0,.ref 415,hi 288 0,hi 4 0,.ref 422,hi 291 0,hi 4 0,.ref 429,hi 294 0,hi 4 0,.ref 436,hi 297 0,hi 4 0,.ref 443,hi 300 0,hi 4 0,.ref 450,hi 303 0,hi 4 0,.ref 457,hi 306 0,hi 4 0,.ref 464,hi 309 0,hi 4 0,.ref 471,hi 312 0,hi 4 0,.ref 478,hi 315 0,hi 4 0,.ref 485,hi 318 0,hi 4 0,.ref 492],co (.ofString "Thin") (.ofString "Thin") 742 258 0 0 0 0 357 false [.ref 358,.none,.none,.none,.none] 745,⟨.type "frame",none,.plain,⟨[some (.ref 359),some (.ref 3),some (.ref 356),none,some (hs "kindkeep.hosts" 732),none,some (.ref 0)]⟩⟩],
 Gr (gM "Thin." (hs "kindkeep.hosts" 732)) (meAt 84) [true,true,true,true,true,true,true,true,true,true,true,true,true,true,true,true,true,true,true] 0 361 752,
 [tu (hn 913 ["deep", "lib", "most_deep", "most_rounds", "tab"]),di [en P "__module__" 747 (hs "kindkeep.hosts" 732),en P "__firstlineno__" 751 (hi 258 750),en P "__init__" 759 (.ref 367),en P "force" 767 (.ref 374),en P "put_deferred" 775 (.ref 381),en P "put_cond" 784 (.ref 388),en P "lay_row" 793 (.ref 395),en P "bound" 801 (.ref 402),en P "shape" 809 (.ref 409),en P "fits" 818 (.ref 416),en P "lies" 827 (.ref 423),en P "infers" 837 (.ref 430),en P "tpl_fits" 846 (.ref 437),en P "shape_fits" 855 (.ref 444),en P "put_in" 864 (.ref 451),en P "own_sig" 873 (.ref 458),en P "forget" 880 (.ref 465),en P "list_prop" 889 (.ref 472),en P "list_index" 897 (.ref 479),en P "elem_met" 905 (.ref 486),en P "error_class" 912 (.ref 493),en P "__static_attributes__" 918 (.ref 494),en P "__dict__" 920 (.ref 497),en P "__weakref__" 922 (.ref 498),en P "__doc__" 923 (.none)] 4,cl "Thin" [.type "object"] [.ref 496,.type "object"] 495 "Thin" true [.ref 531] [none,none,some (hs "Thin" 740),some (hs "Thin" 748),some (.builtin "object.__new__"),some (.bool true)],fc "getset_descriptor" [hs "__dict__" 919,.ref 496,.builtin "function.__dict__",.builtin "function.__dict__#set"],fc "getset_descriptor" [hs "__weakref__" 921,.ref 496,.builtin "ExceptionGroup.__weakref__",.none],fc "super" [.ref 496,.ref 496,.ref 496],fc "builtin_function_or_method" [.builtin "object.__init_subclass__",.ref 496],tu [.ref 496],fc "builtin_function_or_method" [.builtin "type.__prepare__",.type "type"],di [en P "__module__" 933 (hs "kindkeep.hosts" 732),en P "__qualname__" 935 (hs "RefHost" 934),en P "__firstlineno__" 937 (hi 320 936),en P "shape" 945 (.ref 514),en P "fits" 954 (.ref 521),en P "lies" 963 (.ref 528),en P "__static_attributes__" 964 (.ref 529)] 7,tu [],fi [hi 322 0,hi 4 0,.ref 513,hi 325 0,hi 4 0,.ref 520,hi 328 0,hi 4 0,.ref 527],co (.ofString "RefHost") (.ofString "RefHost") 928 320 0 0 0 0 504 false [.ref 505,.none,.none,.none,.none] 931,⟨.type "frame",none,.plain,⟨[some (.ref 506),some (.ref 3),some (.ref 503),none,some (hs "kindkeep.hosts" 732),none,some (.ref 0)]⟩⟩],
 Gr (gM "RefHost." (hs "kindkeep.hosts" 732)) (meAt 85) [true,true,true] 0 508 938,
 [tu [],di [en P "__module__" 933 (hs "kindkeep.hosts" 732),en P "__firstlineno__" 937 (hi 320 936),en P "shape" 945 (.ref 514),en P "fits" 954 (.ref 521),en P "lies" 963 (.ref 528),en P "__static_attributes__" 964 (.ref 529),en P "__doc__" 965 (.none)] 2,cl "RefHost" [.ref 496] [.ref 531,.ref 496,.type "object"] 530 "RefHost" true [] [some (.ref 501),none,some (hs "RefHost" 926),some (hs "RefHost" 934),some (.builtin "object.__new__"),some (.bool true)],fc "super" [.ref 531,.ref 531,.ref 531],fc "builtin_function_or_method" [.builtin "object.__init_subclass__",.ref 531]],
 r4 (gO (hs "kindkeep.hosts" 732)),
 [tu [hi 0 1110]],
 G (stAt 103) (fnN (stAt 103)) (hs "kindkeep.hosts" 732) 644 1111 3 (.ref 643) [] false,
 G (stAt 104) (fnN (stAt 104)) (hs "kindkeep.hosts" 732) 649 1117 3 (.none) [] true,
 [tu [hi 11 305,hi 12 307],tu [hi 8 299,hi 9 301]],
 r5 (gO (hs "kindkeep.excess" 1128)),
 [tu (hn 1212 ["a", "b", "c", "1", "~a", "~b", "~1", "true", "~true", "undefined"]),tu (hn 1223 ["any", "unknown", "error", "object", "{}"])],
 r6 (gO (hs "law_xm0521_01" 1210))]
noncomputable def es (P:Params):List DictEntry:=cat [[en P "__doc__" 166 (.none),en P "__package__" 167 (.none),en P "__loader__" 168 (.builtin "__main__.__loader__#opaque"),en P "__spec__" 169 (.none),en P "__annotations__" 170 (.ref 6),en P "__builtins__" 171 (.ref 4),en P "__file__" 173 (hs "/claim/cut.py" 172),en P "__cached__" 174 (.none),en P "_wall" 193 (.ref 21),en P "KeepError" 226 (.ref 39),en P "TooDeep" 255 (.ref 60),en P "HostFault" 282 (.ref 80),en P "Y_KEY" 286 (hi 1 285),en P "Y_BOOL" 288 (hi 2 287),en P "Y_STR" 290 (hi 3 289),en P "Y_NUM" 292 (hi 4 291),en P "Y_ENUM" 294 (hi 5 293),en P "Y_UNION" 296 (hi 6 295),en P "Y_INTER" 298 (hi 7 297),en P "Y_OBJ" 300 (hi 8 299),en P "Y_REF" 302 (hi 9 301),en P "Y_PARAM" 304 (hi 10 303),en P "Y_ARRAY" 306 (hi 11 305),en P "Y_TUPLE" 308 (hi 12 307),en P "Y_SIG" 310 (hi 13 309),en P "Y_TPL" 312 (hi 18 311),en P "ANY" 314 (hi 0 313),en P "UNKNOWN" 316 (hi 1 315),en P "NEVER" 318 (hi 2 317),en P "VOID" 320 (hi 3 319),en P "UNDEF" 322 (hi 4 321),en P "NULLT" 324 (hi 5 323),en P "STRING" 326 (hi 6 325),en P "NUMBER" 328 (hi 7 327),en P "FALSE_T" 330 (hi 8 329),en P "TRUE_T" 332 (hi 9 331),en P "OBJECTT" 334 (hi 10 333),en P "EMPTY" 336 (hi 11 335),en P "ERR" 338 (hi 13 337),en P "FRESH_F" 340 (hi 14 339),en P "FRESH_T" 342 (hi 15 341),en P "P_OPT" 344 (hi 1 343),en P "P_PRIVATE" 346 (hi 8 345),en P "P_PROTECTED" 348 (hi 16 347),en P "E_OPT" 350 (hi 1 349),en P "E_REST" 352 (hi 2 351),en P "E_SPREAD" 354 (hi 3 353),en P "D_INTERFACE" 356 (hi 2 355),en P "MAX_UNION" 358 (hi 400 357),en P "FIRST_ROWS" 380 (.ref 105),en P "LITERAL_ROWS" 381 (.ref 106),en P "MARKED_ROWS" 382 (.ref 107),en P "TypeTable" 437 (.ref 138),en P "Decl" 482 (.ref 159),en P "kind_of" 490 (.ref 170),en P "str_type" 500 (.ref 178),en P "num_type" 510 (.ref 186),en P "ref_type" 519 (.ref 193),en P "sorted_props" 525 (.ref 198),en P "obj_type" 539 (.ref 210)],r1 (gE P),r2 (gE P),[en P "MOST_PLAIN" 695 (hi 40 694),en P "PLAIN_ROWS" 696 (.ref 331),en P "LIST_ROWS_shapes" 697 (.ref 332)],r3 (gE P),[en P "MOST_ROUNDS" 735 (hi 200 734),en P "MOST_SHAPES" 737 (hi 40 736),en P "MOST_BASES" 739 (hi 60 738),en P "Thin" 925 (.ref 496),en P "RefHost" 967 (.ref 531)],r4 (gE P),[en P "elem_type" 1116 (.ref 648),en P "tuple_at" 1125 (.ref 655),en P "LIST_ROWS_relbase" 1126 (.ref 656),en P "SHAPED_ROWS" 1127 (.ref 657)],r5 (gE P),[en P "_law_UNITS" 1222 (.ref 722),en P "_law_TAKERS" 1228 (.ref 723)],r6 (gE P)]
noncomputable def c3 (l:List Nat):List Value:=(List.rec (motive:=fun _=>Option Nat→List Value) (fun _=>[]) (fun x _ ih p=>Option.rec (ih (some x)) (fun y=>hi y 0::hi 0 0::.ref x::ih none) p) l) none
noncomputable def cds:List Value:=cat [c3 [1,20,5,27,10,48,15,68,61,113,87,148,105,169,107,177,109,185,111,192,113,197,118,209],r1 gC,r2 gC,r3 gC,c3 [258,359,320,506],r4 gC,c3 [428,647,431,654],r5 gC,r6 gC]
noncomputable def o2 (P:Params):Obj:=⟨.none,none,.dict ⟨[en P "type.__subclasses__.Exception.0" 223 (hi 39 0),en P "type.__subclasses__.Exception.n" 224 (hi 1 0)]⟩ 2,#[]⟩
noncomputable def o13:Obj:=co (.ofString "<module>") (.ofString "<module>") 182 1 0 0 0 0 11 false [.ref 12,.none,.none,.none,.none] 185
noncomputable def o14:Obj:=⟨.type "frame",none,.plain,⟨[some (.ref 13),some (.ref 3),some (.ref 3),none,some (hs "__main__" 164),none,some (.ref 0)]⟩⟩
noncomputable def ls (P:Params) (x2:Obj) (nm:Value) (m c n:Nat):List Obj:=boot_o_0 P::boot_o_1 P::x2::di (en P "__name__" 165 nm::tk (m - 1) (es P)) m::boot_o_4 P::boot_o_5 P::boot_o_6 P::boot_o_7 P::boot_o_8 P::boot_o_9 P::boot_o_10 P::tu []::fi (tk c cds)::o13::o14::tk (n - 15) (ob P)
noncomputable def sT (P:Params) (os:OsState) (x2:Obj) (nm:Value) (m c n t:Nat):SharedT:=⟨bt 12 (ls P x2 nm m c n),n,{},#[],{},t,os⟩
noncomputable abbrev pg:Program:=PySem.Challenge.pw_xm0521_01
noncomputable abbrev ev:Env:={ scope:=pg.main.scope,locals:=mainNs,globals:=mainNs,cells:=[],code:=.ref 13,frame:=some 14 }
noncomputable abbrev bE:List Stmt:=behindTheImports pg
noncomputable abbrev cE:Code:=.body bE ev
noncomputable abbrev hA:Option Value:=some (.ref 6)
noncomputable abbrev q0:Pos:=⟨0,0,0,0⟩
noncomputable abbrev B0:List Frame:=[topFrame q0]
noncomputable abbrev sl (i n:Nat):List Stmt:=tk n (dr i progBody)
noncomputable abbrev rT (w:PySem.World) (n:Nat) (s:SharedT) (i k:Nat) (p:Pos):Option (Flow×SharedT×Code×Pos):=Fast.tw10110043849684766642 Fast.tw14364793385576792824 pg w 11 hA 1 n s (piecesOf (sl i k) ev cE p B0)
noncomputable abbrev Sg (w:PySem.World) (n:Nat) (s:SharedT) (i k:Nat) (p:Pos) (s':SharedT) (p':Pos):Prop:=segRun treeTable pg w 11 hA 1 n s.abs (piecesOf (sl i k) ev cE p B0)=some (.next,s'.abs,cE,p')
theorem sg {w n s i k p s' p'} (h:rT w n s i k p=some (.next,s',cE,p')):Sg w n s i k p s' p' :=
 segRun_of ((congrFun (congrFun (congrFun (congrFun (congrFun (congrFun (congrFun (congrFun (congr Fast.te10110043849684766642 Fast.te14364793385576792824) pg) w) 11) hA) 1) n) s) (piecesOf (sl i k) ev cE p B0)).trans h)
noncomputable abbrev s0 (P:Params) (os:OsState):SharedT:=sT P os ⟨.none,none,.dict #[] 0,#[]⟩ (hs "__main__" 164) 9 0 15 187
noncomputable abbrev s1 (P:Params) (os:OsState):SharedT:=sT P os (o2 P) (hs "kindkeep.diags" 194) 13 12 83 283
noncomputable abbrev s2 (P:Params) (os:OsState):SharedT:=sT P os (o2 P) (hs "kindkeep.types" 283) 50 12 83 359
noncomputable abbrev s3 (P:Params) (os:OsState):SharedT:=sT P os (o2 P) (hs "kindkeep.types" 283) 53 12 108 383
noncomputable abbrev s4 (P:Params) (os:OsState):SharedT:=sT P os (o2 P) (hs "kindkeep.types" 283) 54 15 143 438
noncomputable abbrev s5 (P:Params) (os:OsState):SharedT:=sT P os (o2 P) (hs "kindkeep.types" 283) 60 33 199 526
noncomputable abbrev s6 (P:Params) (os:OsState):SharedT:=sT P os (o2 P) (hs "kindkeep.types" 283) 72 69 286 630
noncomputable abbrev s7 (P:Params) (os:OsState):SharedT:=sT P os (o2 P) (hs "kindkeep.hosts" 732) 87 99 354 738
noncomputable abbrev s8 (P:Params) (os:OsState):SharedT:=sT P os (o2 P) (hs "kindkeep.hosts" 732) 88 99 354 740
noncomputable abbrev s9 (P:Params) (os:OsState):SharedT:=sT P os (o2 P) (hs "kindkeep.hosts" 732) 90 105 534 968
noncomputable abbrev s10 (P:Params) (os:OsState):SharedT:=sT P os (o2 P) (hs "kindkeep.hosts" 732) 103 144 619 1074
noncomputable abbrev s11 (P:Params) (os:OsState):SharedT:=sT P os (o2 P) (hs "kindkeep.excess" 1128) 117 180 690 1169
noncomputable abbrev s12 (P:Params) (os:OsState):SharedT:=sT P os (o2 P) (hs "law_xm0521_01" 1210) 131 216 764 1276
noncomputable abbrev s13 (P:Params) (os:OsState):SharedT:=sT P os (o2 P) (hs "law_xm0521_01" 1210) 144 255 841 1379
noncomputable abbrev s14 (P:Params) (os:OsState):SharedT:=sT P os (o2 P) (hs "law_xm0521_01" 1210) 147 264 858 1402
end MineH
set_option maxHeartbeats 0
namespace MineH
open Mine
open PySem PySem.W PySem.Calls PyProof.Rows
noncomputable abbrev rl:=PySem.Challenge.rw_xm0521_01
theorem la1:namesResolve rl.row.prog=true:=(congrFun Fast.te8377067652309620493 _).trans (by kernel_rfl)
theorem la2:noRoadLSs { strict:=!(importedModules rl.row.prog.main.body).all cThrough.contains,foot:=none,bare:=(["vars", "dir", "locals"]:List Str).filter (readsOut rl.row.prog rl.row.prog.main.body) } rl.row.prog.main.body=true:=by
 rw [Fast.te8326940854005059898,Fast.te5923862056798008813,Fast.te17691160309236699985,Fast.te13343964577679436407]
 kernel_rfl
theorem la3:(namesMeet rl.row.prog rl.row.prog.main.body fun _ n=>attrL n)=true:=by
 rw [Fast.te17119622794617984870,Fast.te17868728402115742887]
 kernel_rfl
theorem la4:noRoadLSs { strict:=true,foot:=some rl.bound',writes:=rl.writes,may:=rl.may } rl.footing=true:=by
 rw [Fast.te8326940854005059898]
 kernel_rfl
theorem la5:(rl.bound'.all fun n=>!builtinNamed n||rl.about==[n]||!rl.reads n)=true:=by
 rw [Fast.te6984425678791042302]
 kernel_rfl
theorem la6:(namesMeet rl.prog rl.above fun _ n=>!rl.own.contains n)=true:=by
 rw [Fast.te17119622794617984870]
 kernel_rfl
theorem la7:(namesMeet rl.prog rl.footing fun sc n=>sc.kind==.module||sc.names.lookup n != some .globalExplicit)=true:=by
 rw [Fast.te17119622794617984870]
 kernel_rfl
theorem la8:(namesMeet rl.prog rl.footing fun sc n=>(!(["type", "isinstance", "issubclass", "getattr", "hasattr"]:List Str).contains n||sc.names.lookup n==some .globalImplicit) &&
  (rl.may != some n||sc.kind==.module||sc.names.lookup n==some .globalImplicit))=true:=by
 rw [Fast.te17119622794617984870]
 kernel_rfl
theorem la9:looksOpen rl.row.prog=true:=by
 unfold looksOpen
 exact look_both (look_both (look_both (look_both (look_both (by kernel_rfl) (by kernel_rfl)) la1) (by kernel_rfl)) la2) la3
theorem la10:rl.row.wellSaid=true:=by
 unfold OpenRow.wellSaid OpenRow.partSaid
 exact look_both (look_both (look_both (look_both (look_both (look_both (look_both (look_both (look_both (look_both (look_both (look_both (look_both (look_both (look_both la9 (by kernel_rfl)) (by kernel_rfl)) (by kernel_rfl)) (by kernel_rfl)) (by kernel_rfl)) (by kernel_rfl)) (by kernel_rfl)) (by kernel_rfl)) (by kernel_rfl)) (by kernel_rfl)) (by kernel_rfl)) (by kernel_rfl)) (by kernel_rfl)) (by kernel_rfl)) (by kernel_rfl)
theorem lawSaid:OpenLaw.wellSaid rl=true:=by
 unfold OpenLaw.wellSaid
 exact look_both (look_both (look_both (look_both (look_both (look_both (look_both (look_both (look_both (look_both (look_both (look_both (look_both (look_both (look_both (look_both (look_both (look_both (la10) (by kernel_rfl)) (by kernel_rfl)) (by kernel_rfl)) (by kernel_rfl)) (by kernel_rfl)) la4) (by kernel_rfl)) (by kernel_rfl)) (by kernel_rfl)) la5) (by kernel_rfl)) (by kernel_rfl)) la8) (by kernel_rfl)) (by kernel_rfl)) (by kernel_rfl)) la6) la7
end MineH
set_option maxHeartbeats 0
namespace MineH
open Mine
open PySem PySem.W PySem.Calls PyProof.Rows
theorem hpre (w:PySem.World) (os:OsState):topGo treeTable pg w 11 hA 12 ⟨boot_heap w.params,#[],boot_drawn,boot_toks,os⟩ (topStub pg)=some ((s0 w.params os).abs,⟨denote treeTable cE,cE,q0,B0⟩):=by
 rw [Fast.te15667345088766844465,Fast.te11892475500146522536,Fast.te14364793385576792824]
 kernel_rfl
theorem hblk (w:PySem.World) (os:OsState):segRun treeTable pg w 11 hA 1 1 (s0 w.params os).abs (blockOf bE ev cE q0 B0)=some (.next,(s0 w.params os).abs,cE,q0):=by
 rw [Fast.te14374325043358763698,Fast.te14364793385576792824]
 kernel_rfl
noncomputable def H1 (P:Params):Heap:=⟨⟨ls P (o2 P) (hs "law_xm0521_01" 1210) 147 357 858⟩,{}⟩
theorem hfin (w:PySem.World) (os:OsState):topRun treeTable pg w 11 hA 2 (s14 w.params os).abs ⟨doneF .next,cE,⟨700,0,727,15⟩,B0⟩=some ⟨H1 w.params,#[],{},1402,os⟩:=by
 rw [Fast.te14082659384304107361,Fast.te14364793385576792824]
 kernel_rfl
end MineH
set_option maxHeartbeats 0
namespace MineH
open Mine
open PySem PySem.W PySem.Calls PyProof.Rows
theorem p1 (w:PySem.World) (os:OsState):rT w 768 (s0 w.params os) 0 5 ⟨0,0,0,0⟩=some (.next,s1 w.params os,cE,⟨15,0,19,24⟩):=by kernel_rfl
end MineH
set_option maxHeartbeats 0
namespace MineH
open Mine
open PySem PySem.W PySem.Calls PyProof.Rows
theorem p2 (w:PySem.World) (os:OsState):rT w 343 (s1 w.params os) 5 38 ⟨15,0,19,24⟩=some (.next,s2 w.params os,cE,⟨57,0,57,9⟩):=by kernel_rfl
end MineH
set_option maxHeartbeats 0
namespace MineH
open Mine
open PySem PySem.W PySem.Calls PyProof.Rows
theorem p3 (w:PySem.World) (os:OsState):rT w 146 (s2 w.params os) 43 3 ⟨57,0,57,9⟩=some (.next,s3 w.params os,cE,⟨60,0,60,11⟩):=by kernel_rfl
end MineH
set_option maxHeartbeats 0
namespace MineH
open Mine
open PySem PySem.W PySem.Calls PyProof.Rows
theorem p4 (w:PySem.World) (os:OsState):rT w 297 (s3 w.params os) 46 1 ⟨60,0,60,11⟩=some (.next,s4 w.params os,cE,⟨61,0,86,16⟩):=by kernel_rfl
end MineH
set_option maxHeartbeats 0
namespace MineH
open Mine
open PySem PySem.W PySem.Calls PyProof.Rows
theorem p5 (w:PySem.World) (os:OsState):rT w 392 (s4 w.params os) 47 6 ⟨61,0,86,16⟩=some (.next,s5 w.params os,cE,⟨113,0,117,57⟩):=by kernel_rfl
end MineH
set_option maxHeartbeats 0
namespace MineH
open Mine
open PySem PySem.W PySem.Calls PyProof.Rows
theorem p6 (w:PySem.World) (os:OsState):rT w 376 (s5 w.params os) 53 12 ⟨113,0,117,57⟩=some (.next,s6 w.params os,cE,⟨179,0,180,41⟩):=by kernel_rfl
end MineH
set_option maxHeartbeats 0
namespace MineH
open Mine
open PySem PySem.W PySem.Calls PyProof.Rows
theorem p7 (w:PySem.World) (os:OsState):rT w 399 (s6 w.params os) 65 18 ⟨179,0,180,41⟩=some (.next,s7 w.params os,cE,⟨256,0,256,11⟩):=by kernel_rfl
end MineH
set_option maxHeartbeats 0
namespace MineH
open Mine
open PySem PySem.W PySem.Calls PyProof.Rows
theorem p8 (w:PySem.World) (os:OsState):rT w 10 (s7 w.params os) 83 1 ⟨256,0,256,11⟩=some (.next,s8 w.params os,cE,⟨257,0,257,10⟩):=by kernel_rfl
end MineH
set_option maxHeartbeats 0
namespace MineH
open Mine
open PySem PySem.W PySem.Calls PyProof.Rows
theorem p9 (w:PySem.World) (os:OsState):rT w 1122 (s8 w.params os) 84 2 ⟨257,0,257,10⟩=some (.next,s9 w.params os,cE,⟨320,0,329,17⟩):=by kernel_rfl
end MineH
set_option maxHeartbeats 0
namespace MineH
open Mine
open PySem PySem.W PySem.Calls PyProof.Rows
theorem p10 (w:PySem.World) (os:OsState):rT w 387 (s9 w.params os) 86 13 ⟨320,0,329,17⟩=some (.next,s10 w.params os,cE,⟨387,0,390,83⟩):=by kernel_rfl
end MineH
set_option maxHeartbeats 0
namespace MineH
open Mine
open PySem PySem.W PySem.Calls PyProof.Rows
theorem p11 (w:PySem.World) (os:OsState):rT w 378 (s10 w.params os) 99 15 ⟨387,0,390,83⟩=some (.next,s11 w.params os,cE,⟨469,0,475,15⟩):=by kernel_rfl
end MineH
set_option maxHeartbeats 0
namespace MineH
open Mine
open PySem PySem.W PySem.Calls PyProof.Rows
theorem p12 (w:PySem.World) (os:OsState):rT w 385 (s11 w.params os) 114 15 ⟨469,0,475,15⟩=some (.next,s12 w.params os,cE,⟨555,0,565,65⟩):=by kernel_rfl
end MineH
set_option maxHeartbeats 0
namespace MineH
open Mine
open PySem PySem.W PySem.Calls PyProof.Rows
theorem p13 (w:PySem.World) (os:OsState):rT w 376 (s12 w.params os) 129 13 ⟨555,0,565,65⟩=some (.next,s13 w.params os,cE,⟨662,0,666,26⟩):=by kernel_rfl
end MineH
set_option maxHeartbeats 0
namespace MineH
open Mine
open PySem PySem.W PySem.Calls PyProof.Rows
theorem p14 (w:PySem.World) (os:OsState):rT w 86 (s13 w.params os) 142 3 ⟨662,0,666,26⟩=some (.next,s14 w.params os,cE,⟨700,0,727,15⟩):=by kernel_rfl
end MineH
set_option maxHeartbeats 0
namespace MineH
open Mine
open PySem PySem.W PySem.Calls PyProof.Rows
theorem hsl:bE=sl 0 5++(sl 5 38++(sl 43 3++(sl 46 1++(sl 47 6++(sl 53 12++(sl 65 18++(sl 83 1++(sl 84 2++(sl 86 13++(sl 99 15++(sl 114 15++(sl 129 13++(sl 142 3++[]))))))))))))):=by kernel_rfl
noncomputable abbrev hM:Nat:=12+(1+(768+(343+(146+(297+(392+(376+(399+(10+(1122+(387+(378+(385+(376+(86+2)))))))))))))))
noncomputable abbrev rO (w:PySem.World) (os:OsState) (n:Nat) (l:List Stmt):Prop:=topRun treeTable pg w 11 hA n (s0 w.params os).abs (restOf l ev cE q0 B0)=some ⟨H1 w.params,#[],{},1402,os⟩
theorem hrun (w:PySem.World) (os:OsState):topRun treeTable pg w 11 hA hM ⟨boot_heap w.params,#[],boot_drawn,boot_toks,os⟩ (topStub pg)=some ⟨H1 w.params,#[],{},1402,os⟩ :=
 go_top (hpre w os) (piece_block (hblk w os) (Eq.mpr (congrArg (rO w os _) hsl) (piece_app (sg (p1 w os)) (piece_app (sg (p2 w os)) (piece_app (sg (p3 w os)) (piece_app (sg (p4 w os)) (piece_app (sg (p5 w os)) (piece_app (sg (p6 w os)) (piece_app (sg (p7 w os)) (piece_app (sg (p8 w os)) (piece_app (sg (p9 w os)) (piece_app (sg (p10 w os)) (piece_app (sg (p11 w os)) (piece_app (sg (p12 w os)) (piece_app (sg (p13 w os)) (piece_app (sg (p14 w os)) (hfin w os)))))))))))))))))
theorem hopen (w:PySem.World):(fencedOpening treeTable pg w 20000).map (fun s=>(s.heap,s.gens,s.drawn,s.toks))=some (boot_heap w.params,#[],boot_drawn,boot_toks) :=
 boot_open (p:=pg) (by kernel_rfl) (by kernel_rfl) (fun s=>by kernel_rfl) w
theorem hsize (w:PySem.World):((boot_heap w.params).isNs mainGlobals&&(#[]:Array GenState).size==0,(boot_heap w.params).objs.size,(boot_heap w.params).nsMap mainGlobals "__annotations__")=(true,11,hA):=by kernel_rfl
noncomputable def vw:Program:={ pg with main:={ pg.main with body:=[stAt 144] } }
noncomputable def lo:List Str:=tk 139 (List.map (·.1) pg.main.scope.names)
noncomputable def eN (l:List Obj) (i:Nat):Frag:=List.rec (fun _=>[]) (fun x _ ih i=>(i,x)::ih (i+1)) l i
noncomputable def Kf (P:Params):Frag:=eN (ls P (o2 P) (hs "law_xm0521_01" 1210) 147 357 858) 0
theorem eN_get {l:List Obj}:∀ {i a:Nat} {o:Obj},(eN l i).lookup a=some o→∃ j,a=i+j∧l[j]?=some o:=by
 induction l with
 | nil=>intro i a o e;exact no e
 | cons x l ih =>
  intro i a o e
  have e:(match a==i with | true=>some x | false=>(eN l (i+1)).lookup a)=some o:=e
  cases h:a==i with
  | true=>rw [h] at e;exact ⟨0,eq_of_beq h,e⟩
  | false =>
   rw [h] at e
   obtain ⟨j,h1,h2⟩:=ih e
   exact ⟨j+1,h1.trans (Nat.succ_add_eq_add_succ i j),h2⟩
noncomputable def alv (o:Obj):Option Obj:=Heap.get? ⟨⟨[o]⟩,{}⟩ 0
theorem in_all {l:List Obj} {life:Life} (h:l.map alv=l.map some):Frag.In (eN l 0) ⟨⟨l⟩,life⟩:=fun a o e=>by
 obtain ⟨j,h1,h2⟩:=eN_get e
 have h1:a=j:=h1.trans (Nat.zero_add j)
 have h3:alv o=some o:=List.map_inj_left.mp h o (List.mem_of_getElem? h2)
 have h4:(⟨l⟩:Array Obj)[a]?=some o:=h1▸(List.getElem?_toArray).trans h2
 unfold Heap.get?
 rw [h4]
 exact h3
theorem hin (w:PySem.World) (s:Shared) (e:s.heap=H1 w.params):InK Kf w s.heap:=e▸in_all (by kernel_rfl)
noncomputable abbrev Xt (s:Shared):Bool:=xlAt vw [] s&&recOk [] s
theorem pr2 {α β:Type} {f f':OsState→α} {g g':OsState→β} (x:f=f') (y:g=g'):(fun os=>(f os,g os))=fun os=>(f' os,g' os):=by rw [x,y]
noncomputable abbrev sF (w:PySem.World) (os:OsState):Shared:=⟨H1 w.params,#[],{},1402,os⟩
theorem hl1 (w:PySem.World):(fun os=>staticsOk (importedModules pg.main.body) (boot_heap w.params) (H1 w.params)&&namesBound pg (H1 w.params)&&gensDone (sF w os)&&laidKept (boot_heap w.params) (H1 w.params))=fun I=>true:=by kernel_rfl
theorem hl2 (w:PySem.World):(fun os=>openSeen vw lo (importedModules pg.main.body) Xt true (sF w os))=fun I=>openGood vw lo:=by kernel_rfl
theorem hleft:LeftO pg vw lo Xt (fun s=>s.heap) (fun w=>H1 w.params) 20000 true:=LeftO.of_pieces hopen hsize hrun (by kernel_rfl) fun w=>pr2 (hl1 w) (pr2 (hl2 w) rfl)
end MineH
set_option maxHeartbeats 0
namespace MineH
open Mine
open PySem PySem.W PySem.Calls PyProof.Rows
noncomputable def dL:DefRec:=fdOf ⟨⟨#[]⟩,default,[],default,default⟩ (fun n a b s p=>⟨n,a,b,s,p⟩) (stAt 144)
noncomputable abbrev rw1:=PySem.Challenge.rw_xm0521_01.row
theorem hdef:defOf vw rw1.name=some (dL,[]):=by kernel_rfl
theorem hthe:rw1.prog.theDef rw1.name=some (dL.params,dL.body,dL.scope):=by kernel_rfl
theorem hkw:kwWritten? dL.params.kwonlyargs dL.params.kw_defaults=some []:=by kernel_rfl
theorem hok:(chainsOk vw&&opensWell rw1.prog&&(frees rw1.toRowW&&rw1.within.isEmpty))=true:=by kernel_rfl
theorem hprom:PySem.Challenge.rw_xm0521_01.row.toRowW.promised:=by w_witness2
theorem hbare:rw1.prog.bare:=⟨rfl,rfl,rfl,rfl,rfl,by decide +kernel⟩
theorem hrf (s:Shared) (e:Xt s=true):RecFacts rw1.records s.heap:=recFacts_of (Bool.and_eq_true_iff.mp e).2
theorem hxl (s:Shared) (e:Xt s=true):XL vw [] (s.heap.nsMap mainGlobals) s.heap:=xl_of s (Bool.and_eq_true_iff.mp e).1
theorem hwr:(!rw1.writes||rw1.records.isEmpty)=true:=by kernel_rfl
theorem hlft:LeftO rw1.prog vw lo Xt (fun s=>s.heap) (fun w=>H1 w.params) 20000 true:=hleft
theorem hd (walk:WalkO vw lo (XL vw []) (InK Kf) rw1.toRowW dL [] fun f vs=>PySem.call f vs):PySem.Challenge.rw_xm0521_01.Holds :=
 holds_law lawSaid fun said=>holds_open (r:=rw1) (q:=vw) (loose:=lo) (Xt:=Xt) (XP:=XL vw []) (Yf:=fun s=>s.heap) (Ya:=fun w=>H1 w.params) (YP:=InK Kf) (N:=20000) hlft hin InK.keeps
  hxl XL.keeps hdef hthe hkw hrf hwr said hok hbare hprom walk
end MineH
set_option maxHeartbeats 1000000
namespace Mine
open PySem
set_option genInjectivity false in
inductive MS:Type 1
 | ev (e:Expr) (fr:Fr) (σ:St) (K:V→St→MS)
 | cond (e:Expr) (fr:Fr) (σ:St) (K:Bool→St→MS)
 | evs (es:List Expr) (fr:Fr) (σ:St) (K:List V→St→MS)
 | bools (op:BoolOp) (es:List Expr) (fr:Fr) (σ:St) (K:V→St→MS)
 | conds (op:BoolOp) (es:List Expr) (fr:Fr) (σ:St) (K:Bool→St→MS)
 | cmps (ops:List CmpOp) (es:List Expr) (a:V) (fr:Fr) (σ:St) (K:Bool→St→MS)
 | dict (ks:List (Option Expr)) (vs:List Expr) (fr:Fr) (σ:St) (K:List (V×V)→St→MS)
 | ifs (cs:List Expr) (fr:Fr) (σ:St) (K:Bool→St→MS)
 | rhs (e:Expr) (fr:Fr) (σ:St) (K:V→St→MS)
 | asg (t:Expr) (v:V) (fr:Fr) (σ:St) (K:Fl→Fr→St→MS)
 | ex (s:Stmt) (fr:Fr) (σ:St) (K:Fl→Fr→St→MS)
 | exs (ss:List Stmt) (fr:Fr) (σ:St) (K:Fl→Fr→St→MS)
 | ask {α:Type} (x:Option α) (K:α→MS)
 | chk (b:Bool) (p:MS)
 | sel (b:Bool) (p q:MS)
 | call (r:FnRec) (args:List V) (σ:St) (K:V→St→MS)
 | forS (t:Str) (body:List Stmt) (src:V) (d:Bool) (all l:List V) (fr:Fr) (σ:St) (K:Fl→Fr→St→MS)
 | comp (elt:Expr) (t:Str) (ifs:List Expr) (fr:Fr) (src:V) (d:Bool) (all l:List V) (σ:St) (K:List V→St→MS)
 | whl (t:Expr) (body:List Stmt) (fr:Fr) (σ:St) (K:Fl→Fr→St→MS)
 | done (P:Prop)
noncomputable def seenK (fr:Fr) (x:Str):Option NameKind→Option V
 | some .local=>fr.vars x
 | some .cell=>fr.vars x
 | some .free=>fr.up x
 | _=>none
noncomputable def Fr.compW (fr:Fr) (sc:List (Str×NameKind)):Fr:=⟨sc,fun I=>none,fun x=>seenK fr x (kindW fr.sc x)⟩
noncomputable def isLocW:Option NameKind→Bool | some .local=>true | some .cell=>true | _=>false
noncomputable def hasW (fr:Fr) (x:Str):Option NameKind→Bool
 | some .cell=>true
 | some .free=>(fr.up x).isSome
 | _=>false
noncomputable def freesW (fr:Fr):List (Str×NameKind)→Bool
 | []=>true
 | p::r=>match p.2 with | .free=>hasW fr p.1 (kindW fr.sc p.1)&&freesW fr r | _=>freesW fr r
noncomputable def namesW (all:List (Str×NameKind)):List (Str×NameKind)→Bool
 | []=>true
 | p::r=>!(sBeq p.1 (Str.ofString "__debug__"))&&!(sBeq p.1 (Str.ofString "__classdict__"))&&(match p.2 with | .cell=>false | .local=>isLoc (kindW all p.1) | _=>true)&&namesW all r
theorem sBeq_beq (a b:Str):sBeq a b=(a==b):=by rw [sBeq_eq];by_cases h:a=b<;>simp [h]
noncomputable def compScW (sc:Scope) (t:Str):Bool:=kFun sc.kind&&namesW sc.names sc.names&&isLoc (kindW sc.names t)
noncomputable def canW (fr:Fr) (x:Str):Bool:=isLocW (kindW fr.sc x)
noncomputable def storeW (fr:Fr):List Expr→List V→Option Fr
 | [],[]=>some fr
 | e::es,v::vs=>exC e none (cName:=fun x I=>match canW fr x with | true=>storeW (fr.set x v) es vs | false=>none)
 | _,_=>none
noncomputable def setW (x:Str) (v:V):List (Str×V)→List (Str×V)
 | []=>[(x,v)]
 | p::r=>bif sBeq p.1 x then (p.1,v)::r else p::setW x v r
noncomputable def loopD (σ:St) (s:V):Option (Bool×List V):=(loopOf σ s).map fun l=>(isD σ s,l)
theorem loopD_of {σ:St} {s:V} {q:Bool×List V} (h:loopD σ s=some q):loopOf σ s=some q.2∧isD σ s=q.1:=by
 unfold loopD at h
 obtain ⟨l,e,rfl⟩:=Option.map_eq_some_iff.mp h
 exact ⟨e,rfl⟩
theorem loopD_l {σ:St} {k:Nat} {l:List V} (h:σ[k]?=some (.list l)):loopD σ (.loc k)=some (false,l):=by unfold loopD loopOf isD;simp only [h];rfl
theorem loopD_d {σ:St} {k:Nat} {es:List (V×V)} (h:σ[k]?=some (.dict es)) (hk:loopKeys es=true):loopD σ (.loc k)=some (true,es.map (·.1)):=by unfold loopD loopOf isD;simp only [h];exact congrArg (Option.map _) (if_pos hk)
theorem loopD_lst {σ:St} {l:List V}:loopD σ (.lst l)=some (false,l):=rfl
theorem loopD_tup {σ:St} {l:List V}:loopD σ (.tup l)=some (false,l):=rfl
theorem loopD_rng {σ:St} {n:Int}:loopD σ (.rng n)=some (false,(List.range n.toNat).map fun (i:Nat)=>V.int (i:Int)):=rfl
noncomputable def notStar (e:Expr):Bool:=exC e true (cStarred:=fun I I=>false)
noncomputable def noStar:List Expr→Bool
 | []=>true
 | e::es=>notStar e&&noStar es
noncomputable def dispOk:List (Option Expr)→List Expr→Bool
 | [],[]=>true
 | some _::ks,_::vs=>dispOk ks vs
 | _,_=>false
variable (fr:Fr) (σ:St)
noncomputable def wB (K:Bool→St→MS) (σ:St) (b:Bool):MS:=K b σ
noncomputable def wV (K:V→St→MS) (σ:St) (v:V):MS:=K v σ
noncomputable def wBV (K:V→St→MS) (b:Bool) (σ:St):MS:=K (.bool b) σ
noncomputable def wTr (K:Bool→St→MS) (v:V) (σ:St):MS:=.ask (truthV σ v) (wB K σ)
noncomputable def chkS (b:Bool) (p:MS):MS:=match b with | true=>p | false=>.done False
noncomputable def gS (x:Str) (K:V→St→MS):Option GK→MS
 | some (.val v)=>K v σ
 | some _=>K (.glb x) σ
 | none=>.done False
noncomputable def optS (K:V→St→MS):Option V→MS
 | some v=>K v σ
 | none=>.done False
noncomputable def nameS (x:Str) (K:V→St→MS):Option NameKind→MS
 | some .local=>optS σ K (fr.vars x)
 | some .cell=>optS σ K (fr.vars x)
 | some .free=>optS σ K (fr.up x)
 | some .globalImplicit=>gS σ x K (globW x)
 | _=>.done False
noncomputable def constS (K:V→St→MS):Const→MS
 | .none=>K .none σ
 | .bool b=>K (.bool b) σ
 | .int i=>K (.int i) σ
 | .str s=>K (.str s) σ
 | _=>.done False
noncomputable def wBin2 (op:Operator) (a:V) (K:V→St→MS) (b:V) (σ:St):MS:=.ask (binV σ op a b) (wV K σ)
noncomputable def wBin (op:Operator) (r:Expr) (fr:Fr) (K:V→St→MS) (a:V) (σ:St):MS:=.ev r fr σ (wBin2 op a K)
noncomputable def wUn (op:UnaryOp) (K:V→St→MS) (a:V) (σ:St):MS:=.ask (unV σ op a) (wV K σ)
noncomputable def wIfE (b o:Expr) (fr:Fr) (K:V→St→MS) (c:Bool) (σ:St):MS:=.sel c (.ev b fr σ K) (.ev o fr σ K)
noncomputable def dictS1 (l:List (V×V)) (σ:St) (K:V→St→MS):MS:=.chk ((l.all fun p=>p.1.tag==2)&&decide (l.length≤15)) (K (.loc σ.length) (σ++[.dict (dictOfPairs l)]))
noncomputable def wDict (K:V→St→MS) (l:List (V×V)) (σ:St):MS:=match l with | []=>K (.loc σ.length) (σ++[.dict []]) | p::l=>dictS1 (p::l) σ K
noncomputable def wLst (K:V→St→MS) (l:List V) (σ:St):MS:=K (.lst l) σ
noncomputable def wTup (K:V→St→MS) (l:List V) (σ:St):MS:=K (.tup l) σ
noncomputable def wCmp (ops:List CmpOp) (rs:List Expr) (fr:Fr) (K:Bool→St→MS) (a:V) (σ:St):MS:=.cmps ops rs a fr σ K
noncomputable def wN (K:Bool→MS) (b:Bool):MS:=K (!b)
noncomputable def cmpS (op:CmpOp) (a b:V) (K:Bool→MS):MS:=match op with
 | .Eq=>.ask (eqV σ a b) K
 | .NotEq=>.ask (sameV a b) (wN K)
 | .In=>.ask (inV σ a b) K
 | .NotIn=>.ask (inV σ a b) (wN K)
 | op=>.ask (cmpV σ op a b) K
noncomputable def wCmp1 (op:CmpOp) (a:V) (K:Bool→St→MS) (b:V) (σ:St):MS:=cmpS σ op a b (wB K σ)
noncomputable def wCmp3 (ops:List CmpOp) (es:List Expr) (b:V) (fr:Fr) (σ:St) (K:Bool→St→MS) (c:Bool):MS:=.sel c (.cmps ops es b fr σ K) (K false σ)
noncomputable def wCmp2 (op:CmpOp) (a:V) (ops:List CmpOp) (es:List Expr) (fr:Fr) (K:Bool→St→MS) (b:V) (σ:St):MS:=cmpS σ op a b (wCmp3 ops es b fr σ K)
noncomputable def wComp3 (K:V→St→MS) (vs:List V) (σ:St):MS:=K (.lst vs) σ
noncomputable def wComp2 (elt:Expr) (t:Str) (ifs:List Expr) (fr:Fr) (K:V→St→MS) (s:V) (σ:St) (q:Bool×List V):MS:=.comp elt t ifs fr s q.1 q.2 q.2 σ (wComp3 K)
noncomputable def wComp (elt:Expr) (t:Str) (ifs:List Expr) (fr:Fr) (K:V→St→MS) (s:V) (σ:St):MS:=.ask (loopD σ s) (wComp2 elt t ifs fr K s σ)
noncomputable def compT (elt:Expr) (sc:Scope) (K:V→St→MS) (it:Expr) (ifs:List Expr) (ia:Int):Expr→MS
 | .Name t _=>chkS (ia==0&&(notSet it&&compScW sc t&&freesW fr sc.names)) (.ev it fr σ (wComp elt t ifs (fr.compW sc.names) K))
 | _=>.done False
noncomputable def compS (elt:Expr) (sc:Scope) (K:V→St→MS):List Comprehension→MS
 | []=>.done False
 | c::cs=>match cs with
  | []=>compT fr σ elt sc K c.iter c.ifs c.is_async c.target
  | _=>.done False
noncomputable def wInst (n:Nat) (K:V→St→MS) (v:V) (σ:St):MS:=match v with | .none=>K (.loc n) σ | _=>.done False
noncomputable def wI (K:V→St→MS) (σ:St) (n:Nat):MS:=K (.int n) σ
noncomputable def wAny (K:V→St→MS) (σ:St) (l:List Bool):MS:=K (.bool (l.any id)) σ
noncomputable def wAll (K:V→St→MS) (σ:St) (l:List Bool):MS:=K (.bool (l.all id)) σ
noncomputable def wSo (K:V→St→MS) (σ:St) (l:List V):MS:=.ask (sortV l) fun l=>K (.lst l) σ
noncomputable def wTu (K:V→St→MS) (σ:St) (l:List V):MS:=K (.tup l) σ
noncomputable def wRg (K:V→St→MS) (σ:St) (n:Int):MS:=K (.rng n) σ
noncomputable def biS (x:Str) (K:V→St→MS):List V→MS
 | [v]=>bif sBeq x "len" then .ask (lenV σ v) (wI K σ) else bif sBeq x "any" then .ask (bools σ v) (wAny K σ) else bif sBeq x "all" then .ask (bools σ v) (wAll K σ)
   else bif sBeq x "sorted" then .ask (sortSrc σ v) (wSo K σ) else bif sBeq x "tuple" then .ask (tupV σ v) (wTu K σ) else bif sBeq x "range" then .ask (rangeV v) (wRg K σ) else .done False
 | _=>.done False
noncomputable def wFn (r:FnRec) (K:V→St→MS) (l:List V) (σ:St):MS:=.call r l σ K
noncomputable def wCls (x:Str) (r:FnRec) (K:V→St→MS) (l:List V) (σ:St):MS:=.call r (.loc σ.length::l) (σ++[.inst x []]) (wInst σ.length K)
noncomputable def wBi (x:Str) (K:V→St→MS) (l:List V) (σ:St):MS:=biS σ x K l
noncomputable def clsS (x:Str) (args:List Expr) (K:V→St→MS):Option FnRec→MS
 | some r=>.evs args fr σ (wCls x r K)
 | none=>.done False
noncomputable def callS (x:Str) (args:List Expr) (K:V→St→MS):Option GK→MS
 | some (.fn r)=>.evs args fr σ (wFn r K)
 | some .cls=>clsS fr σ x args K (methW x "__init__")
 | some .bi=>.evs args fr σ (wBi x K)
 | _=>.done False
noncomputable def wCall (args:List Expr) (fr:Fr) (K:V→St→MS) (a:V) (σ:St):MS:=match a with
 | .glb x=>callS fr σ x args K (globW x)
 | _=>.done False
noncomputable def appS (n:Nat) (v:V) (K:V→St→MS) (σ:St):Ob→MS
 | .list l=>.chk (decide (l.length < cap)) (K .none (σ.set n (.list (l++[v]))))
 | _=>.done False
noncomputable def extS (n:Nat) (k:List V) (K:V→St→MS) (σ:St):Ob→MS
 | .list l=>.chk (decide (l.length+k.length≤cap)) (K .none (σ.set n (.list (l++k))))
 | _=>.done False
noncomputable def wExt (n:Nat) (K:V→St→MS) (σ:St) (k:List V):MS:=.ask (σ[n]?) (extS n k K σ)
noncomputable def wPop (n:Nat) (l:List V) (K:V→St→MS) (σ:St) (v:V):MS:=K v (σ.set n (.list l.dropLast))
noncomputable def popS (n:Nat) (K:V→St→MS) (σ:St):Ob→MS
 | .list l=>.ask l.getLast? (wPop n l K σ)
 | _=>.done False
noncomputable def wApp (n:Nat) (K:V→St→MS) (args:List V) (σ:St):MS:=match args with
 | [v]=>.ask (σ[n]?) (appS n v K σ)
 | _=>.done False
noncomputable def wExt0 (n:Nat) (K:V→St→MS) (args:List V) (σ:St):MS:=match args with
 | [v]=>.ask (listOf σ v) (wExt n K σ)
 | _=>.done False
noncomputable def wPop0 (n:Nat) (K:V→St→MS) (args:List V) (σ:St):MS:=match args with
 | []=>.ask (σ[n]?) (popS n K σ)
 | _=>.done False
noncomputable def wMLst (n:Nat) (x:Str) (args:List Expr) (fr:Fr) (K:V→St→MS) (σ:St):MS :=
 bif sBeq x "append" then .evs args fr σ (wApp n K) else bif sBeq x "extend" then .evs args fr σ (wExt0 n K) else bif sBeq x "pop" then .evs args fr σ (wPop0 n K) else .done False
noncomputable def getS (k d:V) (K:V→St→MS) (σ:St):Ob→MS
 | .dict es=>.chk (kOk es k) (K ((dictGetV es k).getD d) σ)
 | _=>.done False
noncomputable def wGet (n:Nat) (K:V→St→MS) (args:List V) (σ:St):MS:=match args with
 | [k,d]=>.ask (σ[n]?) (getS k d K σ)
 | _=>.done False
noncomputable def wJoin2 (s:Str) (K:V→St→MS) (σ:St) (l:List Str):MS:=.chk (decide ((l.map fun x=>x.cps.size).sum+s.cps.size * l.length≤cap)) (K (.str (joinStr s l)) σ)
noncomputable def wJoin (s:Str) (K:V→St→MS) (σ:St) (l:List V):MS:=.ask (allStrs l) (wJoin2 s K σ)
noncomputable def wJoin1 (s:Str) (K:V→St→MS) (args:List V) (σ:St):MS:=match args with
 | [v]=>.ask (listOf σ v) (wJoin s K σ)
 | _=>.done False
noncomputable def wMFn (r:FnRec) (n:Nat) (K:V→St→MS) (args:List V) (σ:St):MS:=.call r (.loc n::args) σ K
noncomputable def methS (n:Nat) (x:Str) (args:List Expr) (fr:Fr) (K:V→St→MS) (σ:St):Ob→MS
 | .list _=>wMLst n x args fr K σ
 | .dict _=>bif sBeq x "get" then .evs args fr σ (wGet n K) else .done False
 | .inst c fs=>match kindW fs x with
  | some _=>.done False
  | none=>match methW c x with
   | some r=>.evs args fr σ (wMFn r n K)
   | none=>.done False
noncomputable def wMeth (x:Str) (args:List Expr) (fr:Fr) (K:V→St→MS) (a:V) (σ:St):MS:=match a with
 | .str s=>bif sBeq x "join" then .evs args fr σ (wJoin1 s K) else .done False
 | .loc n=>.ask (σ[n]?) (methS n x args fr K σ)
 | _=>.done False
noncomputable def callFS (args:List Expr) (p:Pos) (K:V→St→MS) (e0:Expr):MS:=exC e0 (chkS (noStar args) (.ev e0 fr σ (wCall args fr K))) (cAttribute:=fun o x ap=>chkS (methForm o ap p args&&noStar args) (.ev o fr σ (wMeth x args fr K)))
noncomputable def callES (f:Expr) (args:List Expr) (p:Pos) (K:V→St→MS):List Keyword→MS
 | []=>callFS fr σ args p K f
 | _=>.done False
noncomputable def attrS (x:Str) (K:V→St→MS) (σ:St):Ob→MS
 | .inst c fs=>bif attrW c x then .ask (kindW fs x) (wV K σ) else .done False
 | _=>.done False
noncomputable def wAttr (x:Str) (K:V→St→MS) (a:V) (σ:St):MS:=match a with
 | .loc n=>.ask (σ[n]?) (attrS x K σ)
 | _=>.done False
noncomputable def wSlice (lo hi st:Option Expr) (K:V→St→MS) (a:V) (σ:St):MS:=match optInt lo,optInt hi,optInt st with
 | some lo,some hi,some st=>.ask (sliceV σ a lo hi st) (wV K σ)
 | _,_,_=>.done False
noncomputable def wSub2 (a:V) (K:V→St→MS) (b:V) (σ:St):MS:=.ask (subV σ a b) (wV K σ)
noncomputable def wSub (i:Expr) (fr:Fr) (K:V→St→MS) (a:V) (σ:St):MS:=.ev i fr σ (wSub2 a K)
noncomputable def subS (o:Expr) (K:V→St→MS) (e0:Expr):MS:=exC e0 (.ev o fr σ (wSub e0 fr K)) (cSlice:=fun lo hi st I=>.ev o fr σ (wSlice lo hi st K))
noncomputable def evS (K:V→St→MS) (e0:Expr):MS:=exC e0 (.done False) (cConstant:=fun c I I=>constS σ K c) (cName:=fun x I=>nameS fr σ x K (kindW fr.sc x)) (cBoolOp:=fun op vs I=>.bools op vs fr σ K) (cBinOp:=fun l op r I=>.ev l fr σ (wBin op r fr K)) (cUnaryOp:=fun op x I=>.ev x fr σ (wUn op K)) (cIfExp:=fun t b o I=>.cond t fr σ (wIfE b o fr K)) (cDict:=fun ks vs I=>chkS (short 15 ks&&dispOk ks vs) (.dict ks vs fr σ (wDict K))) (cList:=fun es I=>chkS (short 64 es&&noStar es) (.evs es fr σ (wLst K))) (cTuple:=fun es I I=>chkS (short 64 es&&noStar es) (.evs es fr σ (wTup K))) (cCompare:=fun l ops rs I=>chkS (noSets rs) (.ev l fr σ (wCmp ops rs fr (wBV K)))) (cListComp:=fun elt gens sc I=>compS fr σ elt sc K gens) (cCall:=fun f args kws p=>callES fr σ f args p K kws) (cAttribute:=fun o x I=>chkS (!bareCall o) (.ev o fr σ (wAttr x K))) (cSubscript:=fun o i I=>subS fr σ o K i)
noncomputable def wNot (K:Bool→St→MS) (b:Bool) (σ:St):MS:=K (!b) σ
noncomputable def wCIf (y o:Expr) (fr:Fr) (K:Bool→St→MS) (c:Bool) (σ:St):MS:=.sel c (.cond y fr σ K) (.cond o fr σ K)
noncomputable def condU (x:Expr) (p:Pos) (K:Bool→St→MS):UnaryOp→MS
 | .Not=>.cond x fr σ (wNot K)
 | op=>.ev (.UnaryOp op x p) fr σ (wTr K)
noncomputable def condS (K:Bool→St→MS) (e0:Expr):MS:=exC e0 (.ev e0 fr σ (wTr K)) (cCompare:=fun l ops rs I=>chkS (noSets rs) (.ev l fr σ (wCmp ops rs fr K))) (cBoolOp:=fun op vs I=>.conds op vs fr σ K) (cUnaryOp:=fun op x p=>condU fr σ x p K op) (cIfExp:=fun t y o I=>.cond t fr σ (wCIf y o fr K))
noncomputable def wEvs2 (v:V) (K:List V→St→MS) (l:List V) (σ:St):MS:=K (v::l) σ
noncomputable def wEvs (es:List Expr) (fr:Fr) (K:List V→St→MS) (v:V) (σ:St):MS:=.evs es fr σ (wEvs2 v K)
noncomputable def evsS (K:List V→St→MS):List Expr→MS
 | []=>K [] σ
 | e::es=>.ev e fr σ (wEvs es fr K)
noncomputable def wBool2 (op:BoolOp) (es:List Expr) (fr:Fr) (K:V→St→MS) (v:V) (σ:St) (b:Bool):MS:=match op with
 | .And=>.sel b (.bools .And es fr σ K) (K v σ)
 | .Or=>.sel b (K v σ) (.bools .Or es fr σ K)
noncomputable def wBool (op:BoolOp) (es:List Expr) (fr:Fr) (K:V→St→MS) (v:V) (σ:St):MS:=.ask (truthV σ v) (wBool2 op es fr K v σ)
noncomputable def boolsS (op:BoolOp) (K:V→St→MS):List Expr→MS
 | []=>.done False
 | e::es=>match es with
  | []=>.ev e fr σ K
  | e'::es=>.ev e fr σ (wBool op (e'::es) fr K)
noncomputable def wCond (op:BoolOp) (es:List Expr) (fr:Fr) (K:Bool→St→MS) (b:Bool) (σ:St):MS:=match op with
 | .And=>.sel b (.conds .And es fr σ K) (K false σ)
 | .Or=>.sel b (K true σ) (.conds .Or es fr σ K)
noncomputable def condsS (op:BoolOp) (K:Bool→St→MS):List Expr→MS
 | []=>.done False
 | e::es=>match es with
  | []=>.cond e fr σ K
  | e'::es=>.cond e fr σ (wCond op (e'::es) fr K)
noncomputable def cmpsS (a:V) (K:Bool→St→MS):List CmpOp→List Expr→MS
 | op::ops,e::es=>match ops,es with
  | [],[]=>.ev e fr σ (wCmp1 op a K)
  | op'::ops,e'::es=>.ev e fr σ (wCmp2 op a (op'::ops) (e'::es) fr K)
  | _,_=>.done False
 | _,_=>.done False
noncomputable def wDct3 (a b:V) (K:List (V×V)→St→MS) (l:List (V×V)) (σ:St):MS:=K ((a,b)::l) σ
noncomputable def wDct2 (ks:List (Option Expr)) (vs:List Expr) (fr:Fr) (a:V) (K:List (V×V)→St→MS) (b:V) (σ:St):MS:=.dict ks vs fr σ (wDct3 a b K)
noncomputable def wDct (ks:List (Option Expr)) (v:Expr) (vs:List Expr) (fr:Fr) (K:List (V×V)→St→MS) (a:V) (σ:St):MS:=.ev v fr σ (wDct2 ks vs fr a K)
noncomputable def dictS (K:List (V×V)→St→MS):List (Option Expr)→List Expr→MS
 | [],[]=>K [] σ
 | some k::ks,v::vs=>.ev k fr σ (wDct ks v vs fr K)
 | _,_=>.done False
noncomputable def wIfs (cs:List Expr) (fr:Fr) (K:Bool→St→MS) (b:Bool) (σ:St):MS:=.sel b (.ifs cs fr σ K) (K false σ)
noncomputable def ifsS (K:Bool→St→MS):List Expr→MS
 | []=>K true σ
 | c::cs=>match cs with
  | []=>.cond c fr σ K
  | c'::cs=>.cond c fr σ (wIfs (c'::cs) fr K)
noncomputable def wSrt2 (K:V→St→MS) (σ:St) (l:List V):MS:=K (.loc σ.length) (σ++[.list l])
noncomputable def wSrt3 (K:V→St→MS) (σ:St) (l:List V):MS:=.ask (sortV l) (wSrt2 K σ)
noncomputable def wSrt1 (K:V→St→MS) (s:V) (σ:St):MS:=.ask (sortSrc σ s) (wSrt3 K σ)
noncomputable def wSrt (a:Expr) (fr:Fr) (K:V→St→MS) (v:V) (σ:St):MS:=match v with
 | .glb y=>chkS (sBeq y "sorted") (.ev a fr σ (wSrt1 K))
 | _=>.done False
noncomputable def rhs1S (f:Expr) (args:List Expr) (kws:List Keyword) (p:Pos) (K:V→St→MS):MS:=match f with
 | .Name x q=>match args with
  | [a]=>match kws with
   | []=>bif sBeq x "sorted" then chkS (notStar a) (.ev (.Name x q) fr σ (wSrt a fr K)) else .ev (.Call (.Name x q) [a] [] p) fr σ K
   | kw::kws=>.ev (.Call (.Name x q) [a] (kw::kws) p) fr σ K
  | args=>.ev (.Call (.Name x q) args kws p) fr σ K
 | f=>.ev (.Call f args kws p) fr σ K
noncomputable def wNew (K:V→St→MS) (l:List V) (σ:St):MS:=K (.loc σ.length) (σ++[.list l])
noncomputable def rhsS (K:V→St→MS) (e0:Expr):MS:=exC e0 (.ev e0 fr σ K) (cList:=fun es I=>chkS (short 64 es&&noStar es) (.evs es fr σ (wNew K))) (cCall:=fun f args kws p=>rhs1S fr σ f args kws p K) (cListComp:=fun elt gens sc I=>compS fr σ elt sc K gens)
noncomputable def storeS (x:Str) (v:V) (K:Fl→Fr→St→MS):Bool→MS
 | true=>K .next (fr.set x v) σ
 | false=>.done False
noncomputable def setAS (n:Nat) (x:Str) (v:V) (fr:Fr) (K:Fl→Fr→St→MS) (σ:St):Ob→MS
 | .inst c fs=>.chk (attrW c x&&decide (fs.length < 100)) (K .next fr (σ.set n (.inst c (setW x v fs))))
 | _=>.done False
noncomputable def wAsAttr (x:Str) (v:V) (fr:Fr) (K:Fl→Fr→St→MS) (a:V) (σ:St):MS:=match a with
 | .loc n=>.ask (σ[n]?) (setAS n x v fr K σ)
 | _=>.done False
noncomputable def setIS (n:Nat) (i v:V) (fr:Fr) (K:Fl→Fr→St→MS) (σ:St):Ob→MS
 | .list l=>match i with
  | .int k=>.chk (decide (0≤k)&&decide (k.toNat < l.length)) (K .next fr (σ.set n (.list (l.set k.toNat v))))
  | _=>.done False
 | .dict es=>.chk (kOk es i&&decide (es.length < cap)) (K .next fr (σ.set n (.dict (dictSetV es i v))))
 | .inst ..=>.done False
noncomputable def wAsSub2 (a v:V) (fr:Fr) (K:Fl→Fr→St→MS) (b:V) (σ:St):MS:=match a with
 | .loc n=>.ask (σ[n]?) (setIS n b v fr K σ)
 | _=>.done False
noncomputable def wAsSub (i:Expr) (v:V) (fr:Fr) (K:Fl→Fr→St→MS) (a:V) (σ:St):MS:=.ev i fr σ (wAsSub2 a v fr K)
noncomputable def asgSubS (o:Expr) (v:V) (K:Fl→Fr→St→MS):Expr→MS
 | .Slice ..=>.done False
 | i=>.ev o fr σ (wAsSub i v fr K)
noncomputable def tupS (es:List Expr) (K:Fl→Fr→St→MS) (v:V):MS:=match v with
 | .tup l=>match storeW fr es l with | some fr'=>K .next fr' σ | none=>.done False
 | _=>.done False
noncomputable def asgS (v:V) (K:Fl→Fr→St→MS):Expr→MS
 | .Name x _=>storeS fr σ x v K (canW fr x)
 | .Attribute o x _=>.ev o fr σ (wAsAttr x v fr K)
 | .Subscript o i _=>asgSubS fr σ o v K i
 | .Tuple es _ _=>tupS fr σ es K v
 | _=>.done False
noncomputable def wSeq (ss:List Stmt) (K:Fl→Fr→St→MS) (fl:Fl) (fr:Fr) (σ:St):MS:=match fl with
 | .next=>.exs ss fr σ K
 | .cont=>K .cont fr σ
 | .ret v=>K (.ret v) fr σ
noncomputable def exsS (K:Fl→Fr→St→MS):List Stmt→MS
 | []=>K .next fr σ
 | s::ss=>.ex s fr σ (wSeq ss K)
noncomputable def wFor2 (t:Str) (body:List Stmt) (fr:Fr) (K:Fl→Fr→St→MS) (s:V) (σ:St) (q:Bool×List V):MS:=.forS t body s q.1 q.2 q.2 fr σ K
noncomputable def wFor (t:Str) (body:List Stmt) (fr:Fr) (K:Fl→Fr→St→MS) (s:V) (σ:St):MS:=.ask (loopD σ s) (wFor2 t body fr K s σ)
noncomputable def forHS (it:Expr) (body:List Stmt) (K:Fl→Fr→St→MS) (t:Expr) (el:List Stmt):MS:=match t with
 | .Name x _=>match el with
  | []=>chkS (notSet it&&canW fr x) (.ev it fr σ (wFor x body fr K))
  | _=>.done False
 | _=>.done False
noncomputable def wAsg (t:Expr) (fr:Fr) (K:Fl→Fr→St→MS) (v:V) (σ:St):MS:=.asg t v fr σ K
noncomputable def isNm:Expr→Bool
 | .Name ..=>true
 | _=>false
noncomputable def oneG:List Comprehension→Bool
 | [c]=>isNm c.target&&c.is_async==0
 | _=>false
noncomputable def lcOk (e0:Expr):Bool:=exC e0 (notComp e0) (cListComp:=fun I gens I I=>oneG gens)
noncomputable def asHS (e:Expr) (K:Fl→Fr→St→MS):List Expr→MS
 | [t]=>chkS (asOk t e&&lcOk e) (.rhs e fr σ (wAsg t fr K))
 | _=>.done False
noncomputable def wRet (K:Fl→Fr→St→MS) (fr:Fr) (v:V) (σ:St):MS:=K (.ret v) fr σ
noncomputable def wExp (K:Fl→Fr→St→MS) (fr:Fr) (v:V) (σ:St):MS:=K .next fr σ
noncomputable def retS (K:Fl→Fr→St→MS):Option Expr→MS
 | some e=>.ev e fr σ (wRet K fr)
 | none=>.done False
noncomputable def wWh2 (t:Expr) (body:List Stmt) (K:Fl→Fr→St→MS) (fl:Fl) (fr:Fr) (σ:St):MS:=match fl with
 | .ret v=>K (.ret v) fr σ
 | .next=>.whl t body fr σ K
 | .cont=>.whl t body fr σ K
noncomputable def wWh (t:Expr) (body:List Stmt) (fr:Fr) (K:Fl→Fr→St→MS) (c:Bool) (σ:St):MS:=.sel c (.exs body fr σ (wWh2 t body K)) (K .next fr σ)
noncomputable def whHS (t:Expr) (body:List Stmt) (K:Fl→Fr→St→MS):List Stmt→MS
 | []=>.whl t body fr σ K
 | _=>.done False
noncomputable def wIf (b o:List Stmt) (fr:Fr) (K:Fl→Fr→St→MS) (c:Bool) (σ:St):MS:=.sel c (.exs b fr σ K) (.exs o fr σ K)
noncomputable def exS (K:Fl→Fr→St→MS):Stmt→MS
 | .Expr e _=>chkS (notComp e) (.ev e fr σ (wExp K fr))
 | .Continue _=>K .cont fr σ
 | .Return e _=>retS fr σ K e
 | .Assign ts e _=>asHS fr σ e K ts
 | .If t b o _=>.cond t fr σ (wIf b o fr K)
 | .For t it body el _=>forHS fr σ it body K t el
 | .While t body el _=>whHS fr σ t body K el
 | _=>.done False
end Mine
namespace Mine
open PySem PySem.W PySem.Calls PyProof.Rows
theorem bs {α β:Type} {o:Option α} {f:α→Option β} {z:β} {P:Prop} (h:o.bind f=some z) (k:∀ a,o=some a→f a=some z→P):P:=by cases o with | none=>exact no h | some a=>exact k a rfl h
theorem mp {α β:Type} {o:Option α} {f:α→β} {z:β} {P:Prop} (h:o.map f=some z) (k:∀ a,o=some a→f a=z→P):P:=by cases o with | none=>exact no h | some a=>exact k a rfl (Option.some.inj h)
@[elab_as_elim] theorem so {α:Type} {a b:α} {P:α→Prop} (h:some a=some b) (k:P b):P a:=Option.some.inj h▸k
theorem ifs {α:Type} {c:Prop} [Decidable c] {o:Option α} {b:α} {P:Prop} (h:(if c then o else Option.none)=some b) (k:c→o=some b→P):P:=by
 by_cases hc:c
 ·exact k hc ((if_pos hc).symm.trans h)
 ·exact no ((if_neg hc).symm.trans h)
theorem ifn {α:Type} {c:Prop} [Decidable c] {o:Option α} {b:α} {P:Prop} (h:(if c then Option.none else o)=some b) (k:¬ c→o=some b→P):P:=by
 by_cases hc:c
 ·exact no ((if_pos hc).symm.trans h)
 ·exact k hc ((if_neg hc).symm.trans h)
theorem ifNo_el {α β:Type} {s:Option α} {o:Option β} {b:β} {P:Prop} (h:ifNo s o=some b) (k:s=Option.none→o=some b→P):P:=by cases s with
 | none=>exact k rfl h
 | some _=>exact no h
set_option genInjectivity false in
structure Rn where
 own:List (Addr×Addr)
 fz:Addr→Option Obj
set_option genInjectivity false in
structure Wd where
 r:Rn
 s:Shared
noncomputable def Wd.put (W:Wd) (h:Heap) (t:Nat):Wd:=⟨W.r,{ W.s with heap:=h,toks:=t }⟩
noncomputable def Rn.add (r:Rn) (p:Addr×Addr):Rn:=⟨r.own++[p],r.fz⟩
noncomputable def Rn.frz (r:Rn) (a:Addr) (o:Obj):Rn:=⟨r.own,fun b=>if b=a then some o else r.fz b⟩
structure Rn.Le (r r':Rn):Prop where
 own:∀ (n:Nat) (p:Addr×Addr),r.own[n]?=some p→r'.own[n]?=some p
 fz:∀ a o,r.fz a=some o→r'.fz a=some o
theorem Rn.Le.refl (r:Rn):Rn.Le r r:=⟨fun I I e=>e,fun I I e=>e⟩
theorem Rn.Le.trans {a b c:Rn} (x:Rn.Le a b) (y:Rn.Le b c):Rn.Le a c:=⟨fun n p e=>y.own n p (x.own n p e),fun n p e=>y.fz n p (x.fz n p e)⟩
noncomputable def At (p:Addr×Addr) (a:Addr):Prop:=a=p.1∨a=p.2
inductive Own (r:Rn) (a:Addr):Prop
 | mk {n:Nat} {p:Addr×Addr} (e:r.own[n]?=some p) (h:At p a)
structure Out (r:Rn) (a:Addr):Prop where
 fz:r.fz a=none
 own:¬ Own r a
set_option genInjectivity false in
structure Ctx0 where
 prog:Program
 w:World
 K:Frag
 h₀:Heap
 mg:Str→Option Value
 mb:Str→Option Value
noncomputable def Ctx0.GV (C:Ctx0) (x:Str) (v:Value):Prop:=C.mg x=some v∨(C.mg x=none∧C.mb x=some v)
noncomputable abbrev Ctx0.M (C:Ctx0):Model:=model C.prog C.w
noncomputable def Sm {α:Type} (l:List α):Prop:=l.length≤cap
noncomputable def SqO (T:String) (vs:List Value) (o:Obj):Prop:=o.cls=.type T∧∃ n,o.data=.seq vs.toArray n
mutual
inductive Rep (C:Ctx0) (r:Rn):V→Value→Prop
 | none:Rep C r .none .none
 | bool (b):Rep C r (.bool b) (.bool b)
 | int (i t):Rep C r (.int i) (.int i t)
 | str (x t):Rep C r (.str x) (.str x t)
 | tup {a o l vs}:r.fz a=some o→SqO "tuple" vs o→Reps C r l vs→Sm l→Rep C r (.tup l) (.ref a)
 | lst {a o l vs}:r.fz a=some o→SqO "list" vs o→Reps C r l vs→Sm l→Rep C r (.lst l) (.ref a)
 | loc {n p}:r.own[n]?=some p→Rep C r (.loc n) (.ref p.1)
 | rng {n a t1 t2 t3}:(0≤n∧n < 1000)→r.fz a=some { cls:=.type "range",dict:=none,data:=.fields #[.int 0 t1,.int n t2,.int 1 t3],slots:=#[] }→Rep C r (.rng n) (.ref a)
 | glb {x v}:C.GV x v→Rep C r (.glb x) v
inductive Reps (C:Ctx0) (r:Rn):List V→List Value→Prop
 | nil:Reps C r [] []
 | cons {v vs x xs}:Rep C r v x→Reps C r vs xs→Reps C r (v::vs) (x::xs)
end
section
variable {C:Ctx0} {r:Rn} {x:Value} {P:Value→Prop}
@[elab_as_elim] theorem Rep.elN (h:Rep C r .none x) (k:P .none):P x:=by cases h;exact k
@[elab_as_elim] theorem Rep.elB {b:Bool} (h:Rep C r (.bool b) x) (k:P (.bool b)):P x:=by cases h;exact k
@[elab_as_elim] theorem Rep.elI {i:Int} (h:Rep C r (.int i) x) (k:∀ t,P (.int i t)):P x:=by cases h;exact k _
@[elab_as_elim] theorem Rep.elS {i:Str} (h:Rep C r (.str i) x) (k:∀ t,P (.str i t)):P x:=by cases h;exact k _
@[elab_as_elim] theorem Rep.elT {l:List V} (h:Rep C r (.tup l) x) (k:∀ a o vs,r.fz a=some o→SqO "tuple" vs o→Reps C r l vs→Sm l→P (.ref a)):P x:=by cases h with | tup a b c d=>exact k _ _ _ a b c d
@[elab_as_elim] theorem Rep.elL {l:List V} (h:Rep C r (.lst l) x) (k:∀ a o vs,r.fz a=some o→SqO "list" vs o→Reps C r l vs→Sm l→P (.ref a)):P x:=by cases h with | lst a b c d=>exact k _ _ _ a b c d
@[elab_as_elim] theorem Rep.elO {n:Nat} (h:Rep C r (.loc n) x) (k:∀ p,r.own[n]?=some p→P (.ref p.1)):P x:=by cases h with | loc e=>exact k _ e
@[elab_as_elim] theorem Rep.elR {n:Int} (h:Rep C r (.rng n) x) (k:∀ a t1 t2 t3,(0≤n∧n < 1000)→r.fz a=some { cls:=.type "range",dict:=Option.none,data:=.fields #[.int 0 t1,.int n t2,.int 1 t3],slots:=#[] }→P (.ref a)):P x:=by cases h with | rng a b=>exact k _ _ _ _ a b
theorem Rep.elG {g:Str} (h:Rep C r (.glb g) x):C.GV g x:=by cases h with | glb a=>exact a
@[elab_as_elim] theorem Reps.el0 {P:List Value→Prop} {vs:List Value} (h:Reps C r [] vs) (k:P []):P vs:=by cases h;exact k
@[elab_as_elim] theorem Reps.el1 {P:List Value→Prop} {vs:List Value} {v:V} {l:List V} (h:Reps C r (v::l) vs) (k:∀ x xs,Rep C r v x→Reps C r l xs→P (x::xs)):P vs:=by cases h with | cons a b=>exact k _ _ a b
@[elab_as_elim] theorem asB_el {v:V} {b:Bool} (e:asB v=some b) (h:Rep C r v x) (k:P (.bool b)):P x:=Rep.elB (show Rep C r (.bool b) x from asB_c e▸h) k
@[elab_as_elim] theorem asI_el {v:V} {i:Int} (e:asI v=some i) (h:Rep C r v x) (k:∀ t,P (.int i t)):P x:=Rep.elI (show Rep C r (.int i) x from asI_c e▸h) k
@[elab_as_elim] theorem asS_el {v:V} {i:Str} (e:asS v=some i) (h:Rep C r v x) (k:∀ t,P (.str i t)):P x:=Rep.elS (show Rep C r (.str i) x from asS_c e▸h) k
@[elab_as_elim] theorem asT_el {v:V} {l:List V} (e:asT v=some l) (h:Rep C r v x) (k:∀ a o vs,r.fz a=some o→SqO "tuple" vs o→Reps C r l vs→Sm l→P (.ref a)):P x:=Rep.elT (show Rep C r (.tup l) x from asT_c e▸h) k
@[elab_as_elim] theorem ints_el {α:Type} {f:Int→Int→Option α} {a b:V} {y:Value} {z:α} {P:Value→Value→Prop} (e:onInts f a b=some z) (h:Rep C r a x) (h':Rep C r b y) (k:∀ i j t u,f i j=some z→P (.int i t) (.int j u)):P x y :=
 bs e fun I e1 e=>bs e fun I e2 e=>asI_el (P:=fun x=>P x y) e1 h fun t=>asI_el e2 h' fun u=>k _ _ t u e
theorem Rep.up {r':Rn} (m:Rn.Le r r') {v:V} {x:Value} (h:Rep C r v x):Rep C r' v x :=
 Rep.rec (motive_1:=fun v x I=>Rep C r' v x) (motive_2:=fun l xs I=>Reps C r' l xs) .none .bool .int .str (fun a b I d ih=>.tup (m.fz _ _ a) b ih d) (fun a b I d ih=>.lst (m.fz _ _ a) b ih d) (fun e=>.loc (m.own _ _ e)) (fun n a=>.rng n (m.fz _ _ a)) .glb .nil (fun I I=>.cons) h
theorem Reps.map {r':Rn} {l:List V} {xs:List Value} (f:∀ v x,Rep C r v x→Rep C r' v x) (h:Reps C r l xs):Reps C r' l xs:=by
 induction l generalizing xs with
 | nil=>exact h.el0 .nil
 | cons v l ih=>exact h.el1 fun I I a b=>.cons (f _ _ a) (ih b)
theorem Reps.up {r':Rn} (m:Rn.Le r r') {l:List V} {xs:List Value} (h:Reps C r l xs):Reps C r' l xs:=h.map fun I I a=>a.up m
theorem Reps.len {l:List V} {vs:List Value} (h:Reps C r l vs):l.length=vs.length:=by
 induction l generalizing vs with
 | nil=>exact h.el0 rfl
 | cons v l ih=>exact h.el1 fun I I I b=>congrArg (·+1) (ih b)
theorem Reps.get {l:List V} {vs:List Value} (h:Reps C r l vs) {i:Nat} {v:V} (e:l[i]?=some v):∃ x,vs[i]?=some x∧Rep C r v x:=by
 induction l generalizing vs i with
 | nil=>exact no e
 | cons u l ih =>
  refine h.el1 fun x xs a b=>?_
  cases i with
  | zero=>exact ⟨x,rfl,so (show some v=some u from e.symm) a⟩
  | succ i=>exact ih b e
theorem Reps.append {l:List V} {vs:List Value} {k:List V} {ws:List Value} (h:Reps C r l vs) (y:Reps C r k ws):Reps C r (l++k) (vs++ws):=by
 induction l generalizing vs with
 | nil=>exact h.el0 y
 | cons v l ih=>exact h.el1 fun I I a b=>.cons a (ih b)
theorem Reps.reverse {l:List V} {vs:List Value} (h:Reps C r l vs):Reps C r l.reverse vs.reverse:=by
 induction l generalizing vs with
 | nil=>exact h.el0 .nil
 | cons v l ih=>exact h.el1 fun x xs a b=>rwl (List.reverse_cons (a:=v) (as:=l)) (rwl (List.reverse_cons (a:=x) (as:=xs)) ((ih b).append (.cons a .nil)))
theorem Reps.take {l:List V} {vs:List Value} (n:Nat) (h:Reps C r l vs):Reps C r (l.take n) (vs.take n):=by
 induction l generalizing vs n with
 | nil=>exact h.el0 (by cases n<;>exact .nil)
 | cons v l ih=>exact h.el1 fun x xs a b=>by cases n with | zero=>exact .nil | succ n=>exact .cons a (ih n b)
theorem Reps.set {l:List V} {vs:List Value} {v:V} {x:Value} (hv:Rep C r v x) (n:Nat) (h:Reps C r l vs):Reps C r (l.set n v) (vs.set n x):=by
 induction l generalizing vs n with
 | nil=>exact h.el0 .nil
 | cons u l ih=>exact h.el1 fun I I a b=>by cases n with | zero=>exact .cons hv b | succ n=>exact .cons a (ih n b)
theorem Reps.picks {l:List V} {xs:List Value} (h:Reps C r l xs):∀ js:List Nat,Reps C r (js.filterMap fun k=>l[k]?) (js.filterMap fun k=>xs[k]?)
 | []=>.nil
 | j::js=>by
  have ih:=Reps.picks h js
  cases e:l[j]? with
  | none=>exact (List.filterMap_cons_none (f:=fun k=>l[k]?) e).symm▸(List.filterMap_cons_none (f:=fun k=>xs[k]?) (List.getElem?_eq_none_iff.mpr (h.len▸List.getElem?_eq_none_iff.mp e))).symm▸ih
  | some a=>obtain ⟨x',e',rx⟩:=h.get e;exact (List.filterMap_cons_some (f:=fun k=>l[k]?) e).symm▸(List.filterMap_cons_some (f:=fun k=>xs[k]?) e').symm▸.cons rx ih
end
mutual
inductive PRep (h:Heap):V→Value→Prop
 | int (i t):PRep h (.int i) (.int i t)
 | str (x t):PRep h (.str x) (.str x t)
 | tup {a l vs}:h.IsTuple a (List.toArray vs)→PReps h l vs→PRep h (.tup l) (.ref a)
inductive PReps (h:Heap):List V→List Value→Prop
 | nil:PReps h [] []
 | cons {v vs x xs}:PRep h v x→PReps h vs xs→PReps h (v::vs) (x::xs)
end
theorem pureN_tup {n:Nat} {l:List V} (e:(V.tup l).pureN n=true):∃ m,∀ v∈l,v.pureN m=true:=by
 cases n with
 | zero=>exact nf e
 | succ n=>exact ⟨n,List.all_eq_true.mp e⟩
theorem pure_no {P:Prop} {n:Nat} {v:V} (h:∀ n,v.pureN n=false) (e:v.pureN n=true):P:=nf ((h n).symm.trans e)
theorem Rep.pure {C:Ctx0} {r:Rn} {h:Heap} (f:∀ a o,r.fz a=some o→h.get? a=some o) {v:V} {x:Value} (q:Rep C r v x):∀ n,v.pureN n=true→PRep h v x :=
 Rep.rec (motive_1:=fun v x I=>∀ n,v.pureN n=true→PRep h v x) (motive_2:=fun l xs I=>∀ n,(∀ v∈l,v.pureN n=true)→PReps h l xs)
  (fun I=>pure_no fun n=>by cases n<;>rfl) (fun I I=>pure_no fun n=>by cases n<;>rfl) (fun i t I I=>.int i t) (fun i t I I=>.str i t)
  (fun a b I I ih I e=>.tup ⟨_,f _ _ a,b⟩ ((pureN_tup e).elim ih)) (fun I I I I I I=>pure_no fun n=>by cases n<;>rfl) (fun I I=>pure_no fun n=>by cases n<;>rfl) (fun I I I=>pure_no fun n=>by cases n<;>rfl) (fun I I=>pure_no fun n=>by cases n<;>rfl)
  (fun I I=>.nil) (fun I I i j n e=>.cons (i n (e _ (.head _))) (j n fun v hv=>e v (.tail _ hv))) q
@[elab_as_elim] theorem PReps.el0 {h:Heap} {P:List Value→Prop} {vs:List Value} (r:PReps h [] vs) (k:P []):P vs:=by cases r;exact k
@[elab_as_elim] theorem PReps.el1 {h:Heap} {P:List Value→Prop} {vs:List Value} {v:V} {l:List V} (r:PReps h (v::l) vs) (k:∀ x xs,PRep h v x→PReps h l xs→P (x::xs)):P vs:=by cases r with | cons a b=>exact k _ _ a b
theorem Reps.pure {C:Ctx0} {r:Rn} {h:Heap} (f:∀ a o,r.fz a=some o→h.get? a=some o) {l:List V} {xs:List Value} (q:Reps C r l xs) (n:Nat) (e:∀ v∈l,v.pureN n=true):PReps h l xs:=by
 induction l generalizing xs with
 | nil=>exact q.el0 .nil
 | cons v l ih=>exact q.el1 fun I I a b=>.cons (a.pure f n (e _ (.head _))) (ih b fun v hv=>e v (.tail _ hv))
theorem PReps.len {h:Heap} {l:List V} {vs:List Value} (r:PReps h l vs):l.length=vs.length:=by
 induction l generalizing vs with
 | nil=>exact r.el0 rfl
 | cons v l ih=>exact r.el1 fun I I I b=>congrArg (·+1) (ih b)
theorem PRep.keeps {h h':Heap} (k:∀ a vs,h.IsTuple a vs→h'.IsTuple a vs) {v:V} {x:Value} (r:PRep h v x):PRep h' v x :=
 PRep.rec (motive_1:=fun v x I=>PRep h' v x) (motive_2:=fun l xs I=>PReps h' l xs) .int .str (fun a I ih=>.tup (k _ _ a) ih) .nil (fun I I=>.cons) r
theorem isTuple_inj {h:Heap} {a:Addr} {vs ws} (x:h.IsTuple a vs) (y:h.IsTuple a ws):vs=ws:=by
 obtain ⟨o,e,_,n,d⟩:=x
 obtain ⟨o',e',_,n',d'⟩:=y
 cases Option.some.inj (e.symm.trans e')
 cases d.symm.trans d';rfl
theorem PRep.inj {h:Heap} {v u:V} {x:Value} (r:PRep h v x):PRep h u x→v=u :=
 PRep.rec (motive_1:=fun v x I=>∀ u,PRep h u x→v=u) (motive_2:=fun l xs I=>∀ k,PReps h k xs→l=k)
  (fun i t u r=>by cases r;rfl) (fun i t u r=>by cases r;rfl)
  (fun a I ih u r=>by cases r with | tup c d=>exact congrArg V.tup (ih _ ((show _=_ from congrArg Array.toList (isTuple_inj a c)).symm.subst (motive:=fun ws=>PReps h _ ws) d)))
  (fun k r=>by cases r;rfl) (fun I I i j k r=>by cases r with | cons c d=>rw [i _ c,j _ d]) r u
end Mine
namespace Mine
open PySem PySem.W PySem.Calls PyProof.Rows PySem.SeqAt
theorem all_range_eqb:∀ (l k:List V),((List.range (min l.length k.length)).all (fun j=>(l.getD j .none).eqb (k.getD j .none))&&l.length==k.length)=V.eqbs l k
 | [],[]=>rfl
 | [],_::_=>rfl
 | _::_,[]=>rfl
 | a::l,b::k=>by
  have ih:=all_range_eqb l k
  show _=(V.eqb a b&&V.eqbs l k)
  rw [← ih,List.length_cons,List.length_cons,Nat.succ_min_succ,List.range_succ_eq_map,List.all_cons,List.all_map,Bool.and_assoc,show (l.length+1==k.length+1)=(l.length==k.length) from Bool.eq_iff_iff.mpr (beq_iff_eq.trans (Nat.succ_inj.trans beq_iff_eq.symm))]
  rfl
theorem tup_at {h:Heap} {l k:List V} {vs ws:List Value} {P:Bool→Prop} (hl:PReps h l vs) (hk:PReps h k ws) (x:P ((List.range (min vs.toArray.size ws.toArray.size)).all (fun j=>(l.getD j .none).eqb (k.getD j .none))&&vs.toArray.size==ws.toArray.size)):P (V.eqbs l k) :=
 rwr (motive:=P) (show ((List.range (min vs.length ws.length)).all _&&vs.length==ws.length)=V.eqbs l k from hl.len▸hk.len▸all_range_eqb l k) x
theorem PReps.at {h:Heap} {l:List V} {vs:List Value} (r:PReps h l vs) {j:Nat} (q:j < vs.toArray.size):(∀ v∈l,v.pureN n=true)→(l.getD j .none).pureN n=true∧PRep h (l.getD j .none) vs.toArray[j]:=by
 induction l generalizing vs j with
 | nil=>exact r.el0 (P:=fun vs=>∀ q:j < vs.toArray.size,_→_∧PRep h _ vs.toArray[j]) (fun q=>absurd q (Nat.not_lt_zero _)) q
 | cons v l ih=>exact r.el1 (P:=fun vs=>∀ q:j < vs.toArray.size,_→_∧PRep h _ vs.toArray[j]) (fun x xs a b q e=>by cases j with
  | zero=>exact ⟨e _ (.head _),a⟩
  | succ j=>exact ih b (Nat.lt_of_succ_lt_succ q) fun v hv=>e v (.tail _ hv)) q
theorem low {n m k:Nat} (h:n+m < k):n < k:=Nat.lt_of_le_of_lt (Nat.le_add_right _ _) h
theorem eqAt_pure (n:Nat):∀ {A:Around} {s:Shared} {v u:V} {x y:Value},A.units+n < cLine→v.pureN n=true→u.pureN n=true→PRep s.heap v x→PRep s.heap u y→EqAt A s x y (v.eqb u):=by
 induction n using Nat.strongRecOn with | _ n ih=>?_
 intro A s v u x y hu hv hw X Y
 cases X with
 | int i t=>cases Y with
  | int j t'=>exact EqAt.int_int _ _ _ _
  | str j t'=>exact EqAt.int_str _ _ _ _
  | tup a b=>exact EqAt.int_tuple _ _ a (low hu)
 | str i t=>cases Y with
  | int j t'=>exact EqAt.str_int _ _ _ _
  | str j t'=>exact EqAt.str_str _ _ _ _
  | tup a b=>exact EqAt.str_tuple _ _ a (low hu)
 | @tup a l vs ha hl=>cases Y with
  | int j t'=>exact EqAt.tuple_int _ _ ha (low hu)
  | str j t'=>exact EqAt.tuple_str _ _ ha (low hu)
  | @tup b k ws hb hk=>cases n with
   | zero=>exact nf hv
   | succ n =>
    by_cases hab:a=b
    ·exact rwr (motive:=EqAt A s (.ref a) (.ref b)) ((V.eqb_iff _ _).mpr (PRep.inj (.tup ha hl) (hab▸.tup hb hk))).symm (hab▸EqAt.same _)
    ·exact EqAt.of_refs hab (tup_at (P:=RcAt A s (.ref a) (.ref b)) hl hk (RcAt.tuples ha hb (low hu) fun j h1 h2 =>
      have p:=hl.at h1 (List.all_eq_true.mp hv)
      have q:=hk.at h2 (List.all_eq_true.mp hw)
      ih n (Nat.lt_succ_self _) (show A.units+1+n < cLine from Nat.add_right_comm A.units n 1▸hu) p.1 q.1 p.2 q.2))
section
variable {n:Nat} {A:Around} {s:Shared} {a b:Addr} {l k:List V} {vs ws:List Value}
theorem eq_items (hu:A.units+1+n < cLine) (hv:∀ z∈l,z.pureN n=true) (hw:∀ z∈k,z.pureN n=true) (hl:PReps s.heap l vs) (hk:PReps s.heap k ws) :
  ∀ j (h1:j < vs.toArray.size) (h2:j < ws.toArray.size),EqAt A.in1 s vs.toArray[j] ws.toArray[j] ((l.getD j .none).eqb (k.getD j .none)):=fun j h1 h2 =>
 have p:=hl.at h1 hv
 have q:=hk.at h2 hw
 eqAt_pure n hu p.1 q.1 p.2 q.2
theorem rcTuples (hu:A.units+1+n < cLine) (hv:∀ z∈l,z.pureN n=true) (hw:∀ z∈k,z.pureN n=true) (ha:s.heap.IsTuple a vs.toArray) (hb:s.heap.IsTuple b ws.toArray) (hl:PReps s.heap l vs) (hk:PReps s.heap k ws):RcAt A s (.ref a) (.ref b) (V.eqbs l k) :=
 tup_at (P:=RcAt A s (.ref a) (.ref b)) hl hk (RcAt.tuples ha hb (low (low hu)) (eq_items hu hv hw hl hk))
theorem rcNeTuples (hu:A.units+1+n < cLine) (hv:∀ z∈l,z.pureN n=true) (hw:∀ z∈k,z.pureN n=true) (ha:s.heap.IsTuple a vs.toArray) (hb:s.heap.IsTuple b ws.toArray) (hl:PReps s.heap l vs) (hk:PReps s.heap k ws):RcNeAt A s (.ref a) (.ref b) (!V.eqbs l k) :=
 tup_at (P:=fun c=>RcNeAt A s (.ref a) (.ref b) (!c)) hl hk (RcNeAt.tuples ha hb (low (low hu)) (eq_items hu hv hw hl hk))
theorem eqbs_len {l k:List V} (h:l.length≠k.length):V.eqbs l k=false:=Bool.eq_false_iff.mpr fun e=>h (congrArg List.length ((V.eqbs_iff _ _).mp e))
theorem rcLists (hu:A.units+1+n < cLine) (hv:∀ z∈l,z.pureN n=true) (hw:∀ z∈k,z.pureN n=true) (ha:s.heap.IsList a vs.toArray) (hb:s.heap.IsList b ws.toArray) (hl:PReps s.heap l vs) (hk:PReps s.heap k ws):RcAt A s (.ref a) (.ref b) (V.eqbs l k):=by
 by_cases hz:vs.length=ws.length
 ·refine tup_at (P:=RcAt A s (.ref a) (.ref b)) hl hk ?_
  rw [show (vs.toArray.size==ws.toArray.size)=true from beq_iff_eq.mpr hz,Bool.and_true,show min vs.toArray.size ws.toArray.size=vs.toArray.size from (congrArg (min _) hz.symm).trans (Nat.min_self _)]
  exact RcAt.lists ha hb hz (low (low hu)) (eq_items hu hv hw hl hk)
 ·exact rwl (motive:=RcAt A s (.ref a) (.ref b)) (eqbs_len fun e=>hz (hl.len▸hk.len▸e)) (RcAt.lists_lengths ha hb (bne_iff_ne.mpr hz) (low (low hu)))
end
noncomputable def hashV (w:World) (v:V):Int:=V.rec (motive_1:=fun I=>Int) (motive_2:=fun I=>List Int) 0 (fun I=>0) hashInt (hashStr w) (fun I l=>reduceHash (Builtin.Tuple.tupleHashOf l)) (fun I I=>0) (fun I=>0) (fun I=>0) (fun I=>0) [] (fun I I h t=>h::t) v
noncomputable def drawsV (v:V):Nat:=V.rec (motive_1:=fun I=>Nat) (motive_2:=fun I=>Nat) 1 (fun I=>1) (fun I=>1) (fun I=>1) (fun I n=>n+1) (fun I I=>1) (fun I=>1) (fun I=>1) (fun I=>1) 0 (fun I I h t=>h+t) v
noncomputable def drawsVs:List V→Nat
 | []=>0
 | v::l=>drawsV v+drawsVs l
theorem hash_tup (w:World) (l:List V):hashV w (.tup l)=reduceHash (Builtin.Tuple.tupleHashOf (l.map (hashV w))):=congrArg (fun z=>reduceHash (Builtin.Tuple.tupleHashOf z)) (by induction l with | nil=>rfl | cons v l ih=>exact congrArg (hashV w v::·) ih)
theorem draws_tup (l:List V):drawsV (.tup l)=drawsVs l+1:=congrArg (·+1) (by induction l with | nil=>rfl | cons v l ih=>exact congrArg (drawsV v+·) ih)
theorem typeIs_tup {s:Shared} {a:Addr} {vs} (h:s.heap.IsTuple a vs):s.TypeIs (.ref a) "tuple" := (by obtain ⟨o,ho,hc,_⟩:=h;exact ⟨o,ho,hc⟩)
theorem hash_fold {prog:Program} {w:World} {A:Around} {E:Value→Shared→Prop} {R:Array Int→Shared→Prop} {f:Value→Array Int→Sem (ForInStep (Array Int))} (hf:∀ x b,f x b=pyHash x >>= fun h=>pure (.yield (b.push h))) {n:Nat}
  (ih:∀ {v x} {Q:Int→Shared→Prop} {s:Shared},v.pureN n=true→PRep s.heap v x→Q (hashV w v) { s with toks:=s.toks+drawsV v }→wpAny (model prog w) A (pyHash x) Q E s) {l:List V} :
  ∀ {xs:List Value} {b:Array Int} {s:Shared},PReps s.heap l xs→(∀ z∈l,z.pureN n=true)→(∀ b',b'.toList=b.toList++l.map (hashV w)→R b' { s with toks:=s.toks+drawsVs l })→wpAny (model prog w) A (forIn xs b f) R E s:=by
 induction l with
 | nil=>exact fun r I q=>r.el0 (P:=fun xs=>wpAny _ _ (forIn xs _ _) _ _ _) (rwl List.forIn_nil (wpAny_pure (q _ (List.append_nil _).symm)))
 | cons v l il =>
  exact fun r e q=>r.el1 (P:=fun xs=>wpAny _ _ (forIn xs _ _) _ _ _) fun x xs p r=>by
   rw [List.forIn_cons,hf]
   refine wpAny_bind (wpAny_bind (ih (e _ (.head _)) p (wpAny_pure (il r (fun z hz=>e z (.tail _ hz)) fun b' hb=>?_))))
   have:=q b' (hb.trans (by rw [Array.toList_push,List.append_assoc];rfl))
   rwa [show drawsVs (v::l)=drawsV v+drawsVs l from rfl,← Nat.add_assoc] at this
theorem pyHash_pure {prog:Program} {w:World} (n:Nat):∀ {A:Around} {E:Value→Shared→Prop} {s:Shared} {v:V} {x:Value} {Q:Int→Shared→Prop},A.units+n < cLine→v.pureN n=true→PRep s.heap v x →
  Q (hashV w v) { s with toks:=s.toks+drawsV v }→wpAny (model prog w) A (pyHash x) Q E s:=by
 induction n using Nat.strongRecOn with | _ n ih=>?_
 intro A E s v x Q hu hv X h
 cases X with
 | int i t=>exact (intKind prog w).pyHash (k:=i) (beq_self_eq_true i) h
 | str i t=>exact (strKind prog w).pyHash (k:=i) (strKind_is prog w i t) h
 | @tup a l vs ha hl=>cases n with
  | zero=>exact nf hv
  | succ n =>
   have hT:=typeIs_tup ha
   obtain ⟨o,ho,_,m,hd⟩:=ha
   unfold pyHash
   first | unfold pyHashByItsType | skip
   first | refine wpAny_bind (wpAny_cRoomFor_or (.inr (low hu)) ?_) | skip
   refine wpAny_bind (wpAny_specialOf hT F.slot_tuple_hash.lookup ?_)
   show wpAny _ _ (if (some (Value.builtin "tuple.__hash__")==some Value.none)=true then _ else _) Q E s
   rw [if_neg (by rw [beq_builtin_none];exact Bool.false_ne_true)]
   refine wpAny_bind (wpAny_specialOf hT F.slot_tuple_hash.lookup ?_)
   show wpAny _ _ (callSpecialIfBoundUnlessNone? (.ref a) "__hash__" _ >>= _) Q E s
   refine wpAny_bind (wpAny_callSpecialIfBoundUnlessNone?_slot hT F.slot_tuple_hash (wpAny_call_entry F.slot_tuple_hash hT F.entry_tuple_hash ?_ (F.args_tuple_hash_1 _)))
   show wpAny _ _ (Builtin.Tuple.tupleItemsOf (.ref a) >>= _) _ _ s
   refine wpAny_bind (wpAny_tupleItemsOf ho hd ?_)
   refine wpAny_bind ?_
   rw [← Array.forIn_toList]
   refine hash_fold (w:=w) (l:=l) (n:=n) (fun I I=>rfl) (fun {v x Q s} hv hP hQ=>ih n (Nat.lt_succ_self _) (show A.units+1+n < cLine from Nat.add_right_comm A.units n 1▸hu) hv hP hQ) hl (List.all_eq_true.mp hv) fun b hb=>?_
   show wpAny _ _ (retInt (Builtin.Tuple.tupleHashOf b.toList)) _ _ _
   rw [hb.trans (List.nil_append _)]
   rw [hash_tup,draws_tup] at h
   refine wpAny_ret_mkInt ?_
   unfold reduceHash at h
   show wpAny _ _ (if (decide (-(2:Int) ^ 63≤Builtin.Tuple.tupleHashOf (l.map (hashV w)))&&decide (Builtin.Tuple.tupleHashOf (l.map (hashV w)) < 2 ^ 63))=true then _ else _) Q E _
   split
   ·rename_i hr
    rw [if_pos hr] at h
    exact wpAny_pure h
   ·rename_i hr
    rw [if_neg hr] at h
    exact wpAny_bind (wpAny_rule (wpAny_pure h))
theorem quiet_pure {prog:Program} {w:World} (n:Nat):∀ {A:Around} {E:Value→Shared→Prop} {s:Shared} {v:V} {x:Value} {Q:Bool→Shared→Prop},v.pureN n=true→PRep s.heap v x→Q true s →
  wpAny (model prog w) A (eqIsQuiet n x) Q E s:=by
 induction n using Nat.strongRecOn with | _ n ih=>?_
 intro A E s v x Q hv X h
 cases X with
 | int i t=>exact wpAny_of_eq (eqIsQuiet_byValue n rfl) h
 | str i t=>exact wpAny_of_eq (eqIsQuiet_byValue n rfl) h
 | @tup a l vs ha hl=>cases n with
  | zero=>exact nf hv
  | succ n =>
   have hT:=typeIs_tup ha
   obtain ⟨o,ho,_,m,hd⟩:=ha
   unfold eqIsQuiet
   refine wpAny_bind (wpAny_specialOf hT F.slot_tuple_eq.lookup ?_)
   show wpAny _ _ (isInstance (.ref a) (.type "tuple") >>= _) _ _ s
   refine wpAny_bind (wpAny_isInstance hT isSubtype_tuple_tuple ?_)
   refine wpAny_bind (wpAny_seqItems ho hd ?_)
   refine wpAny_bind ?_
   show wpAny _ _ (forIn (List.toArray vs) _ _) _ _ s
   rw [← Array.forIn_toList]
   refine wpAny_forIn_list _ (fun rest r s'=>r.1=none∧s'=s∧∃ left,(∀ z∈left,z∈l)∧PReps s.heap left rest) _ ?_ ?_ _ _ ⟨rfl,rfl,l,fun I h=>h,hl⟩
   ·rintro v rest r s' ⟨hr,rfl,left,hsub,hP⟩
    cases hP with
    | cons h1 h2=>exact wpAny_bind (ih n (Nat.lt_succ_self _) (List.all_eq_true.mp hv _ (hsub _ (.head _))) h1 (wpAny_pure ⟨rfl,rfl,_,fun z hz=>hsub _ (.tail _ hz),h2⟩))
   ·rintro ⟨r1,r2⟩ s' ⟨hr,rfl,_⟩
    cases hr
    exact wpAny_pure h
theorem pureN_mono (n:Nat):∀ (m:Nat) (v:V),n≤m→v.pureN n=true→v.pureN m=true:=by
 induction n with
 | zero=>intro m v _ h;cases v<;>first | exact nf h | (cases m<;>rfl)
 | succ n ih =>
  intro m v hm h
  cases v with
  | tup l=>cases m with
   | zero=>exact absurd hm (Nat.not_succ_le_zero _)
   | succ m=>exact List.all_eq_true.mpr fun v hv=>ih m v (Nat.le_of_succ_le_succ hm) (List.all_eq_true.mp h v hv)
  | _=>first | exact nf h | (cases m<;>rfl)
theorem tag3 {v:V} (h:v.tag=3):v.pureN 6=true:=by
 cases v with
 | tup l=>exact Classical.byContradiction fun q=>by have h:(if (V.tup l).pure then 3 else 0)=3:=h;rw [if_neg (show ¬ (V.tup l).pure=true from q)] at h;cases h
 | _=>cases h
open Classical in
noncomputable def tupKind (prog:Program) (w:World):HeapKind prog w V where
 is:=fun h v a=>v.tag=3∧PRep h v (.ref a)
 hash:=hashV w
 draws:=drawsV
 room:=fun A=>A.units+6 < cLine
 inj:=fun hx hy=>hx.2.inj hy.2
 keeps:=fun {h h' k a d o es ep} x ho hd hs=>⟨x.1,x.2.keeps fun b vs hb=>by
  obtain ⟨o',e,c,n,d'⟩:=hb
  refine ⟨o',(hs.2 b ?_).trans e,c,n,d'⟩
  rintro rfl
  cases Option.some.inj (ho.symm.trans e)
  cases hd.symm.trans d'⟩
 pyHash:=fun {A E s k a Q} hu hk h=>pyHash_pure 6 hu (tag3 hk.1) hk.2 h
 eqBool:=fun {A E s x y a b Q} hu hx hy h=>eqAt_pure 6 hu (tag3 hx.1) (tag3 hy.1) hx.2 hy.2 prog w E Q (by
  rw [show x.eqb y=decide (x=y) from Bool.eq_iff_iff.mpr ((V.eqb_iff _ _).trans (decide_eq_true_iff).symm)];exact h)
 quiet:=fun {A E s k a Q} hk h=>quiet_pure 8 (pureN_mono 6 8 _ (by decide) (tag3 hk.1)) hk.2 h
open Classical in
noncomputable def TDict (prog:Program) (w:World) (h:Heap) (a:Addr) (xs:List (V×Addr×Value)):Prop:=h.DictOfH (tupKind prog w) a xs
end Mine
namespace Mine
open PySem PySem.W PySem.Calls PyProof.Rows
inductive F2 {α β:Type} (R:α→β→Prop):List α→List β→Prop
 | nil:F2 R [] []
 | cons {a b as bs}:R a b→F2 R as bs→F2 R (a::as) (b::bs)
theorem F2.mono {α β:Type} {R S:α→β→Prop} (h:∀ a b,R a b→S a b) {l k} (f:F2 R l k):F2 S l k:=F2.rec (motive:=fun l k I=>F2 S l k) .nil (fun a I ih=>.cons (h _ _ a) ih) f
theorem F2.len {α β:Type} {R:α→β→Prop} {l k} (f:F2 R l k):l.length=k.length:=by induction f with | nil=>rfl | cons _ _ ih=>exact congrArg (·+1) ih
theorem F2.append {α β:Type} {R:α→β→Prop} {a b c d} (f:F2 R a b) (g:F2 R c d):F2 R (a++c) (b++d):=F2.rec (motive:=fun a b I=>F2 R (a++c) (b++d)) g (fun a I ih=>.cons a ih) f
noncomputable def allTag (t:Nat) (es:List (V×V)):Bool:=es.all fun e=>e.1.tag==t
inductive DctK {prog:Program} {w:World} {K:Type} [DecidableEq K] (knd:KeyKind prog w K) (enc:K→V) (C:Ctx0) (r:Rn) (h:Heap) (a:Addr) (es:List (V×V)):Prop
 | mk (kvs:List (K×Value)) (d:h.DictAt knd a kvs kvs.length) (f:F2 (fun e kv=>e.1=enc kv.1∧Rep C r e.2 kv.2) es kvs)
inductive DT (C:Ctx0) (r:Rn) (h:Heap) (a:Addr) (es:List (V×V)):Prop
 | mk (xs:List (V×Addr×Value)) (d:TDict C.prog C.w h a xs) (f:F2 (fun e x=>e.1=x.1∧Rep C r e.2 x.2.2) es xs) (g:∀ x∈xs,Rep C r x.1 (.ref x.2.1))
structure DRep (C:Ctx0) (r:Rn) (h:Heap) (a:Addr) (es:List (V×V)):Prop where
 ex:∃ o,h.get? a=some o∧o.ExactDict
 i:allTag 1 es=true→DctK (intKind C.prog C.w) .int C r h a es
 s:allTag 2 es=true→DctK (strKind C.prog C.w) .str C r h a es
 t:allTag 3 es=true→DT C r h a es
inductive FsRep (C:Ctx0) (r:Rn):List (Str×V)→List DictEntry→Prop
 | nil:FsRep C r [] []
 | cons {x v t val fs es}:Rep C r v val→FsRep C r fs es→FsRep C r ((x,v)::fs) (⟨PyData.keyHash C.w.params x,.str x t,val⟩::es)
inductive ObRep (C:Ctx0) (r:Rn) (h:Heap) (p:Addr×Addr):Ob→Prop
 | list {l vs} {n:Nat}:IsL h p.1 (List.toArray vs) n→Reps C r l vs→Sm l→p.2=p.1→ObRep C r h p (.list l)
 | dict {es}:DRep C r h p.1 es→Sm es→p.2=p.1→ObRep C r h p (.dict es)
 | inst {c fs D es n}:C.GV c (.ref D)→h.get? p.1=some (instObj D p.2)→h.get? p.2=some (dictOf es n)→FsRep C r fs es→fs.length≤100→ObRep C r h p (.inst c fs)
section
variable {C:Ctx0} {r:Rn} {h:Heap} {p:Addr×Addr} {P:Prop}
theorem ObRep.elL {l:List V} (X:ObRep C r h p (.list l)) (k:∀ vs n,IsL h p.1 (List.toArray vs) n→Reps C r l vs→Sm l→p.2=p.1→P):P:=by cases X with | list a b c d=>exact k _ _ a b c d
theorem ObRep.elD {es:List (V×V)} (X:ObRep C r h p (.dict es)) (k:DRep C r h p.1 es→Sm es→p.2=p.1→P):P:=by cases X with | dict a b c=>exact k a b c
theorem ObRep.elI {c:Str} {fs:List (Str×V)} (X:ObRep C r h p (.inst c fs)) (k:∀ D es n,C.GV c (.ref D)→h.get? p.1=some (instObj D p.2)→h.get? p.2=some (dictOf es n)→FsRep C r fs es→fs.length≤100→P):P:=by cases X with | inst a b c d e=>exact k _ _ _ a b c d e
theorem ObRep.live {o:Ob} (X:ObRep C r h p o) {a:Addr} (q:At p a):∃ ob,h.get? a=some ob:=by
 cases X with
 | list x _ _ e=>exact q.elim (fun q=>⟨_,q▸x⟩) fun q=>⟨_,q.trans e▸x⟩
 | dict x _ e=>obtain ⟨ob,x,_⟩:=x.ex;exact q.elim (fun q=>⟨ob,q▸x⟩) fun q=>⟨ob,q.trans e▸x⟩
 | inst _ x y _ _=>exact q.elim (fun q=>⟨_,q▸x⟩) fun q=>⟨_,q▸y⟩
theorem DRep.keep {r':Rn} {h':Heap} {a:Addr} {es:List (V×V)} (m:Rn.Le r r') (ka:∀ o,h.get? a=some o→h'.get? a=some o) (kf:∀ b o,r'.fz b=some o→h'.get? b=some o) (X:DRep C r h a es):DRep C r' h' a es where
 ex:=X.ex.elim fun o x=>⟨o,ka o x.1,x.2⟩
 i q:=(by obtain ⟨kvs,⟨o,es,ho,r⟩,f⟩:=X.i q;exact ⟨kvs,⟨o,es,ka o ho,r⟩,f.mono fun I I z=>⟨z.1,z.2.up m⟩⟩)
 s q:=(by obtain ⟨kvs,⟨o,es,ho,r⟩,f⟩:=X.s q;exact ⟨kvs,⟨o,es,ka o ho,r⟩,f.mono fun I I z=>⟨z.1,z.2.up m⟩⟩)
 t q:=(by obtain ⟨xs,⟨o,es,ep,ho,hx,hd,he,hi,hn⟩,f,g⟩:=X.t q;exact ⟨xs,⟨o,es,ep,ka o ho,hx,hd,he,fun x hx=>⟨(hi x hx).1,((g x hx).up m).pure kf 6 (tag3 (hi x hx).1)⟩,hn⟩,f.mono fun I I z=>⟨z.1,z.2.up m⟩,fun x hx=>(g x hx).up m⟩)
theorem FsRep.up {r':Rn} (m:Rn.Le r r') {fs es} (X:FsRep C r fs es):FsRep C r' fs es:=FsRep.rec (motive:=fun fs es I=>FsRep C r' fs es) .nil (fun a I ih=>.cons (a.up m) ih) X
theorem ObRep.keep {r':Rn} {h':Heap} {o:Ob} (m:Rn.Le r r') (ka:∀ a,At p a→∀ o,h.get? a=some o→h'.get? a=some o) (kf:∀ b o,r'.fz b=some o→h'.get? b=some o) (X:ObRep C r h p o):ObRep C r' h' p o:=by
 cases X with
 | list a b c e=>exact .list (ka _ (.inl rfl) _ a) (b.up m) c e
 | dict a b e=>exact .dict (a.keep m (ka _ (.inl rfl)) kf) b e
 | inst a b c d e=>exact .inst a (ka _ (.inl rfl) _ b) (ka _ (.inr rfl) _ c) (d.up m) e
end
structure Inv (C:Ctx0) (W:Wd) (σ:St):Prop where
 fz:∀ a o,W.r.fz a=some o→W.s.heap.get? a=some o
 base:∀ a o,C.h₀.get? a=some o→W.r.fz a=some o
 len:W.r.own.length=σ.length
 obs:∀ (n:Nat) (p:Addr×Addr) (o:Ob),W.r.own[n]?=some p→σ[n]?=some o→ObRep C W.r W.s.heap p o
 uniq:∀ (i j:Nat) (p q:Addr×Addr) (a:Addr),W.r.own[i]?=some p→W.r.own[j]?=some q→At p a→At q a→i=j
 nfz:∀ a,Own W.r a→W.r.fz a=none∧sysModules < a
noncomputable def sh (s:Shared):=(s.os,s.gens,s.drawn)
structure Step (X:List Addr) (W W':Wd):Prop where
 le:Rn.Le W.r W'.r
 keep:∀ b o,W.s.heap.get? b=some o→Out W.r b→b∉X→W'.s.heap.get? b=some o∧Out W'.r b
 same:sh W'.s=sh W.s
structure Nx (C:Ctx0) (X:List Addr) (W W':Wd) (σ':St):Prop where
 S:Step X W W'
 R:Inv C W' σ'
theorem notNil {a:Addr}:a∉([]:List Addr):=fun q=>nomatch q
theorem Step.refl (W:Wd):Step [] W W:=⟨.refl _,fun I I e o I=>⟨e,o⟩,rfl⟩
theorem Step.trans {X W W₁ W₂} (x:Step X W W₁) (y:Step X W₁ W₂):Step X W W₂:=⟨x.le.trans y.le,fun b o e q h=>(x.keep b o e q h).elim fun e q=>y.keep b o e q h,y.same.trans x.same⟩
theorem Step.to {X Y W W'} (x:Step X W W') (h:∀ a∈X,a∈Y∨W.s.heap.get? a=none):Step Y W W' :=
 ⟨x.le,fun b o e q n=>x.keep b o e q fun m=>(h b m).elim n fun z=>no (z.symm.trans e),x.same⟩
theorem Step.wide {Y W W'} (x:Step [] W W'):Step Y W W':=x.to fun I q=>nomatch q
section
variable {C:Ctx0} {W W' W₁:Wd} {σ σ':St} {X:List Addr}
theorem Nx.refl (R:Inv C W σ):Nx C [] W W σ:=⟨.refl W,R⟩
theorem Nx.wide {Y:List Addr} (x:Nx C [] W W' σ'):Nx C Y W W' σ':=⟨x.S.wide,x.R⟩
theorem Nx.to {Y:List Addr} (x:Nx C X W W' σ') (h:∀ a∈X,a∈Y∨W.s.heap.get? a=none):Nx C Y W W' σ':=⟨x.S.to h,x.R⟩
theorem Nx.trans (x:Nx C X W W₁ σ) (y:Nx C X W₁ W' σ'):Nx C X W W' σ':=⟨x.S.trans y.S,y.R⟩
theorem Inv.tup (R:Inv C W σ) {a:Addr} {o:Obj} {T:String} {vs:List Value} (e:W.r.fz a=some o) (q:SqO T vs o):∃ o,W.s.heap.get? a=some o∧o.cls=.type T∧∃ n,o.data=.seq vs.toArray n:=⟨o,R.fz a o e,q⟩
theorem Inv.ob (R:Inv C W σ) {n:Nat} {p:Addr×Addr} (e:W.r.own[n]?=some p):∃ o,σ[n]?=some o∧ObRep C W.r W.s.heap p o :=
 have h:n < σ.length:=R.len▸(List.getElem?_eq_some_iff.mp e).1
 ⟨_,List.getElem?_eq_getElem h,R.obs n p _ e (List.getElem?_eq_getElem h)⟩
theorem Inv.live (R:Inv C W σ) {a:Addr} (q:Own W.r a):∃ ob,W.s.heap.get? a=some ob:=(by obtain ⟨e,h⟩:=q;exact (by obtain ⟨_,_,x⟩:=R.ob e;exact x.live h))
theorem Inv.dead (R:Inv C W σ) {a:Addr} (e:W.s.heap.get? a=none):Out W.r a :=
 ⟨by cases q:W.r.fz a with | none=>rfl | some o=>exact no (e.symm.trans (R.fz a o q)),fun q=>(by obtain ⟨_,x⟩:=R.live q;exact no (e.symm.trans x))⟩
theorem dead_of {h:Heap} {a:Addr} (x:h.objs.size≤a):h.get? a=none:=by
 cases e:h.get? a with
 | none=>rfl
 | some o=>exact absurd (Heap.lt_size e) (Nat.not_lt.mpr x)
theorem push_keep {h:Heap} {o:Obj} {b:Addr} {x:Obj} (e:h.get? b=some x):(h.push o).get? b=some x:=Heap.get?_push_of_some _ e
theorem Nx.put (R:Inv C W σ) {h':Heap} {t:Nat} (X:List Addr) (k:∀ b o,W.s.heap.get? b=some o→b∉X→h'.get? b=some o) (hX:∀ a∈X,Out W.r a):Nx C X W (W.put h' t) σ :=
 have kf:∀ b o,W.r.fz b=some o→h'.get? b=some o:=fun b o e=>k b o (R.fz b o e) fun m=>no ((hX b m).fz.symm.trans e)
 ⟨⟨.refl _,fun b o e q m=>⟨k b o e m,q⟩,rfl⟩,kf,R.base,R.len,fun n p o e q=>(R.obs n p o e q).keep (.refl _) (fun a h o z=>k a o z fun m=>(hX a m).own ⟨e,h⟩) kf,R.uniq,R.nfz⟩
theorem Nx.ext (R:Inv C W σ) {h':Heap} {t:Nat} (k:∀ b o,W.s.heap.get? b=some o→h'.get? b=some o):Nx C [] W (W.put h' t) σ:=.put R [] (fun b o e I=>k b o e) fun I q=>nomatch q
theorem Nx.tk (R:Inv C W σ) (t:Nat):Nx C [] W (W.put W.s.heap t) σ:=.ext R fun I I e=>e
theorem Nx.frz (R:Inv C W σ) {a:Addr} {o:Obj} (q:Out W.r a) (e:W.s.heap.get? a=some o):Nx C [a] W ⟨W.r.frz a o,W.s⟩ σ:=by
 have up:∀ b ob,W.r.fz b=some ob→(W.r.frz a o).fz b=some ob:=fun b ob x=>(if_neg fun z=>no (q.fz.symm.trans (z▸x))).trans x
 have fz:∀ b ob,(W.r.frz a o).fz b=some ob→W.s.heap.get? b=some ob:=fun b ob x=>by
  by_cases z:b=a
  ·exact z▸e.trans ((if_pos z).symm.trans x)
  ·exact R.fz b ob ((if_neg z).symm.trans x)
 have le:Rn.Le W.r (W.r.frz a o):=⟨fun I I e=>e,up⟩
 exact ⟨⟨le,fun b ob x y m=>⟨x,(if_neg (show ¬ b=a from fun z=>m (z▸.head _))).trans y.fz,fun zz=>(by obtain ⟨u,v⟩:=zz;exact y.own ⟨u,v⟩)⟩,rfl⟩,fz,fun b ob x=>up b ob (R.base b ob x),R.len,fun n p ob x y=>(R.obs n p ob x y).keep le (fun I I I x=>x) fz,R.uniq,
  fun b zz=>(by obtain ⟨u,v⟩:=zz;exact ⟨(if_neg (show ¬ b=a from fun z=>q.own (z▸⟨u,v⟩))).trans (R.nfz b ⟨u,v⟩).1,(R.nfz b ⟨u,v⟩).2⟩)⟩
theorem Rn.Le.add (r:Rn) (p:Addr×Addr):Rn.Le r (r.add p):=⟨fun I I e=>(List.getElem?_append_left (List.getElem?_eq_some_iff.mp e).1).trans e,fun I I e=>e⟩
theorem add_at {α:Type} {l:List α} {x y:α} {n:Nat} {P:Prop} (e:(l++[x])[n]?=some y) (k:l[n]?=some y→n < l.length→P) (k':n=l.length→y=x→P):P:=by
 rcases Nat.lt_trichotomy n l.length with h | h | h
 ·exact k ((List.getElem?_append_left h).symm.trans e) h
 ·subst h;exact k' rfl (Option.some.inj (e.symm.trans (List.getElem?_concat_length)))
 ·exact no ((List.getElem?_eq_none (by rw [List.length_append];exact h)).symm.trans e)
theorem own_add {r:Rn} {p:Addr×Addr} {a:Addr} {P:Prop} (q:Own (r.add p) a) (k:Own r a→P) (k':At p a→P):P:=(by obtain ⟨e,h⟩:=q;exact add_at e (fun e I=>k ⟨e,h⟩) fun I z=>k' (z▸h))
theorem Nx.own (R:Inv C W σ) {p:Addr×Addr} {o:Ob} (q:∀ a,At p a→Out W.r a∧sysModules < a) (X:ObRep C (W.r.add p) W.s.heap p o):Nx C [p.1,p.2] W ⟨W.r.add p,W.s⟩ (σ++[o]) :=
 ⟨⟨.add W.r p,fun b ob x y m=>⟨x,y.fz,fun z=>own_add z y.own fun z=>m (z.elim (fun z=>z▸.head _) fun z=>z▸.tail _ (.head _))⟩,rfl⟩,R.fz,R.base,by
   show (W.r.own++[p]).length=_;rw [List.length_append,List.length_append,R.len];rfl,fun n p' o' e e'=>add_at e (fun e h=>add_at e' (fun e' I=>(R.obs n p' o' e e').keep (.add W.r p) (fun I I I x=>x) R.fz) fun z I=>absurd h (by rw [z,R.len];exact Nat.lt_irrefl _))
    fun z hp=>add_at e' (fun I h=>absurd h (by rw [z,R.len];exact Nat.lt_irrefl _)) fun I ho=>by subst hp ho;exact X,
  fun i j p₁ p₂ a e₁ e₂ h₁ h₂=>add_at e₁ (fun e₁ I=>add_at e₂ (fun e₂ I=>R.uniq i j p₁ p₂ a e₁ e₂ h₁ h₂) fun I z=>absurd ⟨e₁,h₁⟩ (q a (z▸h₂)).1.own) fun z₁ y₁=>add_at e₂ (fun e₂ I=>absurd ⟨e₂,h₂⟩ (q a (y₁▸h₁)).1.own) fun z₂ I=>z₁.trans z₂.symm,
  fun a z=>own_add z (R.nfz a) fun z=>⟨(q a z).1.fz,(q a z).2⟩⟩
theorem Nx.turn (R:Inv C W σ) {n:Nat} {p:Addr×Addr} {o:Ob} {h':Heap} {t:Nat} (e:W.r.own[n]?=some p) (k:∀ b o,¬ At p b→W.s.heap.get? b=some o→h'.get? b=some o) (X:(∀ b o,W.r.fz b=some o→h'.get? b=some o)→ObRep C W.r h' p o):Nx C [] W (W.put h' t) (σ.set n o) :=
 have kf:∀ b o,W.r.fz b=some o→h'.get? b=some o:=fun b o x=>k b o (fun z=>no ((R.nfz b ⟨e,z⟩).1.symm.trans x)) (R.fz b o x)
 ⟨⟨.refl _,fun b o x q I=>⟨k b o (fun z=>q.own ⟨e,z⟩) x,q⟩,rfl⟩,kf,R.base,R.len.trans List.length_set.symm,fun m p' o' x y=>by
   by_cases z:n=m
   ·subst z
    cases Option.some.inj (e.symm.trans x)
    rw [List.getElem?_set_self (R.len▸(List.getElem?_eq_some_iff.mp e).1)] at y
    exact Option.some.inj y▸X kf
   ·rw [List.getElem?_set_ne z] at y
    exact (R.obs m p' o' x y).keep (.refl _) (fun a h o x'=>k a o (fun w=>z (R.uniq n m p p' a e x w h)) x') kf,R.uniq,R.nfz⟩
theorem Nx.newF (R:Inv C W σ) {o:Obj} {t:Nat} (hf:o.isFreed=false:=by rfl):Nx C [] W ⟨W.r.frz W.s.heap.objs.size o,(W.put (W.s.heap.push o) t).s⟩ σ :=
 have d:=dead_of (Nat.le_refl W.s.heap.objs.size)
 have x:=Nx.ext R (t:=t) fun I I e=>push_keep (o:=o) e
 (x.wide.trans (Nx.frz x.R (R.dead d) (Heap.get?_push_size W.s.heap hf))).to fun I m=>.inr (List.mem_singleton.mp m▸d)
theorem frz_self (r:Rn) (a:Addr) (o:Obj):(r.frz a o).fz a=some o:=if_pos rfl
end
structure Room (A:Around) (n:Nat):Prop where
 h:A.handled=none
 d:A.depth+n≤900
 u:A.units+8 * n≤9000
theorem Room.less {A:Around} {n m:Nat} (x:Room A n) (h:m≤n):Room A m:=⟨x.h,Nat.le_trans (Nat.add_le_add_left h _) x.d,Nat.le_trans (Nat.add_le_add_left (Nat.mul_le_mul_left 8 h) _) x.u⟩
theorem Room.lt {A:Around} {n:Nat} (x:Room A n) (k:Nat) (h:k < 900):A.units+k < cLine:=Nat.lt_of_lt_of_le (Nat.add_lt_add_left h A.units) (Nat.le_trans (Nat.add_le_add_right (Nat.le_trans (Nat.le_add_right _ _) x.u) 900) (show 9000+900≤cLine by decide))
noncomputable def frX (env:Env):List Addr:=env.locals::env.cells.map (·.2)
inductive Hv (h:Heap) (env:Env) (x:Str) (val:Value):Prop
 | loc {m} (k:env.kindOf x=some .local) (n:h.Ns env.locals m) (e:m x=some val)
 | cell {c} (k:env.kindOf x=some .cell∨env.kindOf x=some .free) (l:env.cells.lookup x=some c) (i:h.IsCell c (some val))
noncomputable def Odd (x:Str):Prop:=(x==("__debug__" : Str))=true∨(x==("__classdict__" : Str))=true
structure FrAt (C:Ctx0) (fr:Fr) (env:Env) (W:Wd):Prop where
 kind:env.scope.kind=.function
 glb:env.globals=mainGlobals
 bi:env.builtins=builtinsNs
 sc:∀ x k,kindW fr.sc x=some k→(env.kindOf x=some k∨(k=.free∧env.kindOf x=some .cell))∧¬ Odd x
 val:∀ x v,seenK fr x (kindW fr.sc x)=some v→∃ val,Hv W.s.heap env x val∧Rep C W.r v val
 ns:∃ m,W.s.heap.Ns env.locals m
 cl:∀ x,kindW fr.sc x=some .cell→∃ c,env.cells.lookup x=some c
 isc:∀ a∈env.cells.map (·.2),∃ o,W.s.heap.IsCell a o
 out:∀ a∈frX env,Out W.r a
 cinj:∀ x y c,env.cells.lookup x=some c→env.cells.lookup y=some c→x=y
structure Here (C:Ctx0) (fr:Fr) (env:Env) (σ:St) (W:Wd):Prop where
 F:FrAt C fr env W
 R:Inv C W σ
theorem cells_mem {env:Env} {x:Str} {c:Addr} (h:env.cells.lookup x=some c):c∈env.cells.map (·.2):=List.mem_map.mpr ⟨_,mem_of_lookup h,rfl⟩
theorem FrAt.live {C fr env W} (F:FrAt C fr env W):∀ a∈frX env,∃ o,W.s.heap.get? a=some o:=fun a m=>by
 cases m with
 | head=>obtain ⟨_,o,_,_,e,_⟩:=F.ns;exact ⟨o,e⟩
 | tail _ m=>obtain ⟨_,o,e,_⟩:=F.isc a m;exact ⟨o,e⟩
theorem FrAt.keep {C fr env W W'} (F:FrAt C fr env W) (le:Rn.Le W.r W'.r) (k:∀ a∈frX env,∀ o,W.s.heap.get? a=some o→W'.s.heap.get? a=some o∧Out W'.r a):FrAt C fr env W' where
 kind:=F.kind
 glb:=F.glb
 bi:=F.bi
 sc:=F.sc
 val x v e:=(by obtain ⟨val,h,r⟩:=F.val x v e;exact ⟨val,(match h with | .loc a n e=>.loc a (n.at' fun o e=>(k _ (.head _) o e).1) e | .cell a l ⟨o,e,r⟩=>.cell a l ⟨o,(k _ (.tail _ (cells_mem l)) o e).1,r⟩),r.up le⟩)
 ns:=F.ns.elim fun m n=>⟨m,n.at' fun o e=>(k _ (.head _) o e).1⟩
 cl:=F.cl
 isc a m:=(F.isc a m).elim fun o zz=>(by obtain ⟨ob,e,r⟩:=zz;exact ⟨o,ob,(k a (.tail _ m) ob e).1,r⟩)
 out a m:=(F.live a m).elim fun o e=>(k a m o e).2
 cinj:=F.cinj
theorem Here.nx {C fr env σ W W' σ' X} (H:Here C fr env σ W) (x:Nx C X W W' σ') (h:∀ a∈frX env,a∉X):Here C fr env σ' W':=⟨H.F.keep x.S.le fun a m o e=>x.S.keep a o e (H.F.out a m) (h a m),x.R⟩
theorem Here.nx0 {C fr env σ W W' σ'} (H:Here C fr env σ W) (x:Nx C [] W W' σ'):Here C fr env σ' W':=H.nx x fun I I=>notNil
noncomputable def Ctx0.rn (C:Ctx0):Rn:=⟨[],C.h₀.get?⟩
structure FnOb (C:Ctx0) (f:Addr) (r:FnRec) (o:Obj) (fd:FuncData) (dv:List Value):Prop where
 at_:C.h₀.get? f=some o
 data:o.data=.func fd
 co:fd.scope.isCoroutine=false
 gen:fd.scope.isGenerator=false
 body:fd.body=.stmts r.body
 code:C.h₀.CodeRec fd.code fd.qualname
 kind:fd.scope.kind=.function
 names:fd.scope.names=r.sc
 glb:fd.globals=mainGlobals
 bi:fd.builtins=builtinsNs
 cl:fd.closure=[]
 p1:fd.params.posonlyargs=[]
 p2:fd.params.args.map (·.arg)=r.params
 p3:fd.params.kwonlyargs=[]
 p4:fd.params.vararg=none
 p5:fd.params.kwarg=none
 dr:Reps C C.rn r.dflt dv
 df:(fd.defaults=.none∧dv=[])∨∃ T,fd.defaults=.ref T∧C.h₀.IsTuple T dv.toArray
structure FnAt (C:Ctx0) (f:Addr) (r:FnRec):Prop where
 ob:∃ o fd dv,FnOb C f r o fd dv
 nd:r.params.Nodup
 dl:r.dflt.length≤r.params.length
 loc:∀ x∈r.params,r.sc.lookup x=some .local∨r.sc.lookup x=some .cell
 nf:∀ x,r.sc.lookup x≠some .free
 cn:((r.sc.filter fun p=>p.2==.cell).map (·.1)).Nodup
 dbg:∀ x k,r.sc.lookup x=some k→¬ Odd x
inductive ItAt (C:Ctx0) (W:Wd) (J:Addr) (i:Nat):V→Bool→List V→Prop
 | tup {ax o xs l}:W.r.fz ax=some o→SqO "tuple" xs o→Reps C W.r l xs→W.s.heap.IsTupleIter J ax i→ItAt C W J i (.tup l) false l
 | lst {ax o xs l}:W.r.fz ax=some o→SqO "list" xs o→Reps C W.r l xs→W.s.heap.IsListIter J ax i→ItAt C W J i (.lst l) false l
 | loc {n p l}:W.r.own[n]?=some p→W.s.heap.IsListIter J p.1 i→ItAt C W J i (.loc n) false l
 | dct {n p l}:W.r.own[n]?=some p→W.s.heap.IsKeyIter J p.1 i l.length l.length→ItAt C W J i (.loc n) true l
 | rng {n:Int} {l}:IsRangeIter W.s.heap J i ((n.toNat:Int) - i) 1→ItAt C W J i (.rng n) false l
 | str {w:Str} {l} (St:Nat→Heap→Prop):(∀ A:Around,A.handled=none→Walks C.prog C.w A J [J] [J] w.cps.size (SignAt w) St)→(∀ i h,St i h→∃ o,h.get? J=some o)→St i W.s.heap→ItAt C W J i (.str w) false l
structure LoopAt (C:Ctx0) (env:Env) (J:Addr) (src:V) (d:Bool) (all:List V) (i:Nat) (fr:Fr) (σ:St) (W:Wd):Prop where
 H:Here C fr env σ W
 it:ItAt C W J i src d all
 loop:loopOf σ src=some all
 isd:isD σ src=d
 out:Out W.r J
 nfr:J∉frX env
 le:i≤all.length
structure CompAt (C:Ctx0) (env:Env) (J D:Addr) (src:V) (d:Bool) (all:List V) (i:Nat) (fr:Fr) (σ:St) (done:List V) (W:Wd):Prop where
 L:LoopAt C env J src d all i fr σ W
 acc:∃ ys k,IsL W.s.heap D (List.toArray ys) k∧Reps C W.r done ys
 out:Out W.r D
 ne:D≠J
 nfr:D∉frX env
 len:done.length≤i
 cap:Sm all
structure CompFin (C:Ctx0) (env:Env) (D:Addr) (done:List V) (W:Wd):Prop where
 F:∃ fr,FrAt C fr env W
 acc:∃ ys k,IsL W.s.heap D (List.toArray ys) k∧Reps C W.r done ys
 out:Out W.r D
 sm:Sm done
structure Va (C:Ctx0) (W:Wd) (v:V) (x:Value) (W':Wd) (σ':St):Prop where
 n:Nx C [] W W' σ'
 r:Rep C W'.r v x
inductive FlRep (C:Ctx0) (r:Rn):Fl→Flow→Prop
 | next:FlRep C r .next .next
 | cont:FlRep C r .cont .cont
 | ret {v x}:Rep C r v x→FlRep C r (.ret v) (.ret x)
structure Ex (C:Ctx0) (X:List Addr) (env:Env) (fr:Fr) (W:Wd) (fl:Fl) (flow:Flow) (fr':Fr) (W':Wd) (σ':St):Prop where
 n:Nx C X W W' σ'
 F:FrAt C fr' env W'
 sc:fr'.sc=fr.sc
 r:FlRep C W'.r fl flow
structure CompEnd (C:Ctx0) (W:Wd) (v:V) (D L:Addr) (W':Wd) (σ':St):Prop where
 v:Va C W v (.ref D) W' σ'
 ns:∃ m,W'.s.heap.Ns L m
 dead:W.s.heap.get? L=none
 out:Out W'.r L
noncomputable def Den (C:Ctx0) (h:Nat) (A:Around):MS→Prop
 | .ev e fr σ K=>∀ W env Q E,Here C fr env σ W→(∀ v x W' σ',Va C W v x W' σ'→Den C h A (K v σ')→Q x W'.s)→wpAny C.M A (eval e env) Q E W.s
 | .cond e fr σ K=>∀ W env (Q:Bool→Shared→Prop) E,Here C fr env σ W→(∀ b W' σ',Nx C [] W W' σ'→Den C h A (K b σ')→Q b W'.s)→wpAny C.M A (isTrue e env (eval e env)) Q E W.s
 | .evs es fr σ K=>∀ W env (Q:List Value→Shared→Prop) E,Here C fr env σ W→(∀ vs xs W' σ',Nx C [] W W' σ'→Reps C W'.r vs xs→vs.length=es.length→Den C h A (K vs σ')→Q xs W'.s)→wpAny C.M A (spliced (es.map fun e=>(false,eval e env))) Q E W.s
 | .bools op es fr σ K=>∀ W env pos Q E,Here C fr env σ W→(∀ v x W' σ',Va C W v x W' σ'→Den C h A (K v σ')→Q x W'.s)→wpAny C.M A (boolOp pos op (evalEach es env)) Q E W.s
 | .conds op es fr σ K=>∀ W env (Q:Bool→Shared→Prop) E,Here C fr env σ W→(∀ b W' σ',Nx C [] W W' σ'→Den C h A (K b σ')→Q b W'.s)→wpAny C.M A (allTrue op es env) Q E W.s
 | .cmps ops es a fr σ K=>∀ W env pos x,Here C fr env σ W→Rep C W.r a x→(∀ Q E,(∀ b W' σ',Nx C [] W W' σ'→Den C h A (K b σ')→Q (.bool b) W'.s)→wpAny C.M A (compareChain pos x ops (evalEach es env)) Q E W.s) ∧
   (∀ (Q:Bool→Shared→Prop) E,(∀ b W' σ',Nx C [] W W' σ'→Den C h A (K b σ')→Q b W'.s)→wpAny C.M A (testChain pos x ops (evalEach es env)) Q E W.s)
 | .dict ks vs fr σ K=>∀ W env pos (Q:List (Value×Value)→Shared→Prop) E,Here C fr env σ W→(∀ ps xs W' σ',Nx C [] W W' σ'→F2 (fun p x=>Rep C W'.r p.1 x.1∧Rep C W'.r p.2 x.2) ps xs→ps.length=ks.length→Den C h A (K ps σ')→Q xs W'.s)→wpAny C.M A (evalPairs (pairTrees ks vs env pos)) Q E W.s
 | .ifs cs fr σ K=>∀ W env (Q:Bool→Shared→Prop) E,Here C fr env σ W→(∀ b W' σ',Nx C [] W W' σ'→Den C h A (K b σ')→Q b W'.s)→wpAny C.M A (forIn cs true fun c r=>if r=true then do let ok ← isTrue c env (eval c env);pure (ForInStep.yield ok) else pure (ForInStep.yield r)) Q E W.s
 | .rhs e fr σ K=>∀ W env,Here C fr env σ W→(∀ Q E,(∀ v x W' σ',Va C W v x W' σ'→Den C h A (K v σ')→Q x W'.s)→wpAny C.M A (eval e env) Q E W.s) ∧
   (∀ elt t px it ifs sc pos,e=.ListComp elt [⟨.Name t px,it,ifs,0⟩] sc pos→∀ pos' use Q E,(∀ v D L W' σ',CompEnd C W v D L W' σ'→Den C h A (K v σ')→compPost C.M A E use Q (.ref D) L (.ok .next) W'.s) →
    wpAny C.M A (comprehension (.ListComp elt [⟨.Name t px,it,ifs,0⟩] sc pos) sc env pos' (newList []) false (eval it env) use) Q E W.s)
 | .asg t v fr σ K=>∀ W env x (Q:Unit→Shared→Prop) E,Here C fr env σ W→Rep C W.r v x→(∀ fr' W' σ',Ex C (frX env) env fr W .next .next fr' W' σ'→Den C h A (K .next fr' σ')→Q () W'.s)→wpAny C.M A (assign t env x) Q E W.s
 | .ex s fr σ K=>∀ W env (Q:Flow→Shared→Prop) E,Here C fr env σ W→(∀ fl flow fr' W' σ',Ex C (frX env) env fr W fl flow fr' W' σ'→Den C h A (K fl fr' σ')→Q flow W'.s)→wpAny C.M A (exec s env) Q E W.s
 | .exs ss fr σ K=>∀ W env (Q:Flow→Shared→Prop) E,Here C fr env σ W→(∀ fl flow fr' W' σ',Ex C (frX env) env fr W fl flow fr' W' σ'→Den C h A (K fl fr' σ')→Q flow W'.s)→wpAny C.M A (execs ss env) Q E W.s
 | .ask x K=>∃ a,x=some a∧Den C h A (K a)
 | .chk b p=>b=true∧Den C h A p
 | .sel b p q=>match b with | true=>Den C h A p | false=>Den C h A q
 | .call r args σ K=>∀ W f xs A' (R:Result→Shared→Prop),FnAt C f r→Reps C W.r args xs→Inv C W σ→Room A' (2 * h)→(∀ v x W' σ',Va C W v x W' σ'→Den C h A (K v σ')→R (.ok (.ret x)) W'.s)→codeAny C.M A' (.call (.ref f) ⟨xs,[]⟩) R W.s
 | .forS t body src d all l fr σ K=>∀ W env J i p (R:Result→Shared→Prop),LoopAt C env J src d all i fr σ W→all.drop i=l→canW fr t=true→(∀ fl flow fr' W' σ',Ex C (J::frX env) env fr W fl flow fr' W' σ'→Den C h A (K fl fr' σ')→R (.ok flow) W'.s) →
   codeAny C.M A (.forLoop (.Name t p) (.ref J) body [] env) R W.s
 | .comp elt t ifs fr src d all l σ K=>∀ W env J D i fr₀ done px it sc pos (R:Result→Shared→Prop),CompAt C env J D src d all i fr₀ σ done W→all.drop i=l→(∀ a,fr₀.set t a=fr.set t a)→kindW fr.sc t=some .local →
   (∀ rest W' σ',Nx C [J,D,env.locals] W W' σ'→CompFin C env D (done++rest) W'→Den C h A (K rest σ')→R (.ok .next) W'.s) →
   codeAny C.M A (.compLoop (.ListComp elt [⟨.Name t px,it,ifs,0⟩] sc pos) 0 (.ref J) (.ref D) env) R W.s
 | .whl t body fr σ K=>∀ W env (R:Result→Shared→Prop),Here C fr env σ W→(∀ fl flow fr' W' σ',Ex C (frX env) env fr W fl flow fr' W' σ'→Den C h A (K fl fr' σ')→R (.ok flow) W'.s)→codeAny C.M A (.whileLoop t body [] env) R W.s
 | .done P=>P
end Mine
namespace Mine
open PySem PySem.W PySem.Calls PyProof.Rows PySem.SeqAt
noncomputable def VK (C:Ctx0) (W:Wd) (z:V) (σ:St) (Q:Value→Shared→Prop):Prop:=∀ x W',Va C W z x W' σ→Q x W'.s
section
variable {C:Ctx0} {A:Around} {W W':Wd} {σ σ':St} {Q:Value→Shared→Prop} {E:Value→Shared→Prop} {v u z:V} {n:Nat} {x y:Value} {l k:List V} {b:Bool}
theorem VK.at (q:VK C W z σ Q) (R:Inv C W σ) (r:Rep C W.r z x):Q x W.s:=q x W ⟨.refl R,r⟩
theorem VK.tk (q:VK C W z σ Q) (R:Inv C W σ) (r:Rep C W.r z x) {t:Nat}:Q x { W.s with toks:=t }:=q x (W.put W.s.heap t) ⟨.tk R t,r⟩
theorem VK.of (q:VK C W z σ Q) (e:some u=some z):VK C W u σ Q:=Option.some.inj e▸q
theorem cap_line:cap≤sizeLine:=by decide
theorem Sm.line {α:Type} {l:List α} (h:Sm l):l.length≤sizeLine:=Nat.le_trans h cap_line
theorem Reps.sm {r:Rn} {vs:List Value} (h:Reps C r l vs) (m:Sm l):vs.length≤sizeLine:=h.len▸m.line
theorem Reps.fit {r:Rn} {vs:List Value} (h:Reps C r l vs) (m:Sm l):((List.toArray vs).size:Int) < 2 ^ 63:=Int.lt_of_le_of_lt (Int.ofNat_le.mpr (h.len▸m:vs.length≤cap)) (by decide)
theorem Reps.emp {r:Rn} {vs:List Value} (h:Reps C r l vs):(List.toArray vs).isEmpty=l.isEmpty:=by cases h<;>rfl
theorem asL_el {o:Ob} {P:Prop} (h:asL o=some l) (k:o=.list l→P):P:=by cases o with
 | list _=>exact k (congrArg Ob.list (Option.some.inj h))
 | _=>exact no h
theorem lstAt_el {n:Nat} {P:Prop} (h:lstAt σ n=some l) (k:σ[n]?=some (.list l)→P):P:=bs h fun I e h=>asL_el h fun q=>k (q▸e)
@[elab_as_elim] theorem list_el {P:Value→Prop} (R:Inv C W σ) (r:Rep C W.r v x) (h:listOf σ v=some l) (k:∀ a vs,W.s.heap.IsList a (List.toArray vs)→Reps C W.r l vs→Sm l→P (.ref a)):P x:=by
 cases v with
 | lst l'=>exact r.elL fun a o vs e q b c=>k a vs (R.tup e q) (so h.symm b) (so h.symm c)
 | loc m=>exact r.elO fun p e=>lstAt_el h fun hl=>(R.obs m p _ e hl).elL fun vs I a b c I=>k _ vs (IsL.isList a) b c
 | _=>exact no h
theorem list_truthy {a:Addr} {vs:List Value} {Q:Bool→Shared→Prop} (h:W.s.heap.IsList a (List.toArray vs)) (r:Reps C W.r l vs) (c:Sm l) (q:∀ t,Q (!l.isEmpty) { W.s with toks:=t }):wpAny C.M A (truthy (.ref a)) Q E W.s :=
 wpAny_truthy_list h (r.fit c) (r.emp.symm▸q _)
theorem sim_truthy {Q:Bool→Shared→Prop} (R:Inv C W σ) (r:Rep C W.r v x) (h:truthV σ v=some b) (q:∀ t,Q b { W.s with toks:=t }):wpAny C.M A (truthy x) Q E W.s:=by
 cases v with
 | none=>exact r.elN (truthy_none (so h (q W.s.toks)))
 | bool b=>exact r.elB (wpAny_truthy_bool (so h (q W.s.toks)))
 | int i=>exact r.elI fun t=>PyProof.Rows.truthy_int (rwl (Bool.eq_iff_iff.mpr (bne_iff_ne.trans decide_eq_true_iff.symm):(i != 0)=decide (i≠0)) (so h (q W.s.toks)))
 | tup l=>exact r.elT fun a o vs e s b c=>truthy_tuple (R.tup e s) (b.fit c) (b.emp.symm▸so h (q _))
 | lst l=>exact r.elL fun a o vs e s b c=>list_truthy (R.tup e s) b c (so h q)
 | loc m=>exact r.elO fun p e=>bs h fun l hl h=>lstAt_el hl fun hl=>(R.obs m p _ e hl).elL fun vs I a b c I=>list_truthy (IsL.isList a) b c (so h q)
 | _=>exact no h
theorem pures_of (h:V.pures l=true):∀ v∈l,v.pureN 6=true:=List.all_eq_true.mp h
theorem sim_sameE (Rm:Room A n) (R:Inv C W σ) (r:Rep C W.r v x) (r':Rep C W.r u y) (h:sameV v u=some b):RcAt A W.s x y b∧RcNeAt A W.s x y (!b):=by
 cases v with
 | bool a=>exact r.elB (bs h fun c e h=>asB_el e r' (so h.symm ⟨RcAt.bool_bool a c,RcNeAt.bool_bool a c⟩))
 | int a=>exact r.elI fun t=>bs h fun c e h=>asI_el e r' fun u=>so h.symm ⟨RcAt.int_int a t c u,RcNeAt.int_int a t c u⟩
 | str a=>exact r.elS fun t=>bs h fun c e h=>asS_el e r' fun u=>so h.symm ⟨RcAt.str_str a t c u,RcNeAt.str_str a t c u⟩
 | tup l =>
  exact bs h fun k e h=>ifs h fun hp h=>an hp fun h1 h2=>r.elT fun a o vs e1 s1 p I=>asT_el e r' fun a' o' ws e2 s2 p' I=>so h.symm
   (have u:=List.all_eq_true.mp h1;have u':=List.all_eq_true.mp h2
    ⟨rcTuples (n:=5) (Rm.lt 6 (by decide)) u u' (R.tup e1 s1) (R.tup e2 s2) (p.pure R.fz 5 u) (p'.pure R.fz 5 u'),rcNeTuples (n:=5) (Rm.lt 6 (by decide)) u u' (R.tup e1 s1) (R.tup e2 s2) (p.pure R.fz 5 u) (p'.pure R.fz 5 u')⟩)
 | _=>exact no h
theorem sim_eq (Rm:Room A n) (R:Inv C W σ) (r:Rep C W.r v x) (r':Rep C W.r u y) (h:eqV σ v u=some b) (q:Q (.bool b) W.s):wpAny C.M A (compareOp .Eq x y) Q E W.s:=by
 unfold eqV at h
 cases hc:sameV v u with
 | some c=>rw [hc] at h;exact (sim_sameE Rm R r r' hc).1 _ _ _ _ (so h q)
 | none =>
  rw [hc] at h
  exact bs h fun l hl h=>bs h fun k hk h=>ifs h fun hp h=>an hp fun h1 h2=>list_el R r hl fun a vs ha hr I=>list_el R r' hk fun a' ws hb hr' I =>
   rcLists (n:=6) (Rm.lt 7 (by decide)) (pures_of h1) (pures_of h2) ha hb (hr.pure R.fz 6 (pures_of h1)) (hr'.pure R.fz 6 (pures_of h2)) _ _ _ _ (so h q)
open Classical in
noncomputable def AnyR (a:V) (A:Around) (s:Shared) (x:Value) (l:List V) (vs:List Value):Prop:=(∀ y∈vs,EqAt A.in1 s y x (decide (PRep s.heap a y)))∧vs.any (fun y=>decide (PRep s.heap a y))=l.any (·.eqb a)
open Classical in
theorem any_rep {a:V} {A:Around} {s:Shared} {x:Value} (hx:PRep s.heap a x) (hn:a.pureN 6=true) (hu:A.units+7 < cLine) {l:List V}:∀ {vs:List Value},PReps s.heap l vs→(∀ v∈l,v.pureN 6=true)→AnyR a A s x l vs:=by
 induction l with
 | nil=>exact fun r I=>r.el0 ⟨fun I h=>(nomatch h),rfl⟩
 | cons v l ih =>
  refine fun r hp=>r.el1 fun y vs p r=>?_
  have h:=ih r fun v hv=>hp v (.tail _ hv)
  have e:decide (PRep s.heap a y)=v.eqb a:=Bool.eq_iff_iff.mpr (decide_eq_true_iff.trans ⟨fun z=>(V.eqb_iff _ _).mpr (PRep.inj p z),fun z=>(V.eqb_iff _ _).mp z▸p⟩)
  exact ⟨fun y' m=>by
   cases m with
   | head=>exact e.symm▸eqAt_pure 6 (show A.units+1+6 < cLine from hu) (hp _ (.head _)) hn p hx
   | tail _ m=>exact h.1 _ m,(congrArg (decide (PRep s.heap a y)||·) h.2).trans (congrArg (·||l.any (·.eqb a)) e)⟩
structure InOK (C:Ctx0) (A:Around) (E:Value→Shared→Prop) (s:Shared) (x y:Value) (b:Bool):Prop where
 i:∀ {Q:Value→Shared→Prop},(∀ t,Q (.bool b) { s with toks:=t })→wpAny C.M A (compareOp .In x y) Q E s
 n:∀ {Q:Value→Shared→Prop},(∀ t,Q (.bool (!b)) { s with toks:=t })→wpAny C.M A (compareOp .NotIn x y) Q E s
open Classical in
theorem in_seq {s:Shared} {vs:List Value} (px:PRep s.heap v x) (hp:v.pureN 6=true) (hu:A.units+7 < cLine) (r:PReps s.heap l vs) (hl:V.pures l=true) :
  (∀ y,y∈vs.toArray→EqAt A.in1 s y x (decide (PRep s.heap v y)))∧vs.toArray.any (fun y=>decide (PRep s.heap v y))=l.any (·.eqb v) :=
 have h:=any_rep px hp hu r (pures_of hl)
 ⟨fun y m=>h.1 y (List.mem_toArray.mp m),(List.any_toArray).trans h.2⟩
theorem in_tup {a:Addr} {vs:List Value} (px:PRep W.s.heap v x) (hp:v.pureN 6=true) (hu:A.units+7 < cLine) (ha:W.s.heap.IsTuple a (List.toArray vs)) (r:PReps W.s.heap l vs) (hl:V.pures l=true):InOK C A E W.s x (.ref a) (l.any (·.eqb v)) :=
 have f:=in_seq px hp hu r hl
 ⟨fun q=>in_tupleAt _ ha f.1 (f.2.symm▸q W.s.toks),fun q=>notIn_tupleAt _ ha f.1 (f.2.symm▸q W.s.toks)⟩
theorem in_lst {a:Addr} {vs:List Value} (px:PRep W.s.heap v x) (hp:v.pureN 6=true) (hu:A.units+7 < cLine) (ha:W.s.heap.IsList a (List.toArray vs)) (r:PReps W.s.heap l vs) (hl:V.pures l=true):InOK C A E W.s x (.ref a) (l.any (·.eqb v)) :=
 have f:=in_seq px hp hu r hl
 ⟨fun q=>in_listAt _ ha f.1 (f.2.symm▸q W.s.toks),fun q=>notIn_listAt _ ha f.1 (f.2.symm▸q W.s.toks)⟩
theorem sim_none (r:Rep C W.r v x) (h:isNoneV v=some b):(∀ {Q:Value→Shared→Prop},Q (.bool b) W.s→wpAny C.M A (compareOp .Is x .none) Q E W.s)∧(∀ {Q:Value→Shared→Prop},Q (.bool (!b)) W.s→wpAny C.M A (compareOp .IsNot x .none) Q E W.s):=by
 cases v with
 | none=>exact so h.symm (r.elN ⟨fun q=>wpAny_is_plain rfl q,fun q=>wpAny_isNot_plain rfl q⟩)
 | tup l=>exact so h.symm (r.elT fun I I I I I I I=>⟨fun q=>wpAny_is_plain rfl q,fun q=>wpAny_isNot_plain rfl q⟩)
 | lst l=>exact so h.symm (r.elL fun I I I I I I I=>⟨fun q=>wpAny_is_plain rfl q,fun q=>wpAny_isNot_plain rfl q⟩)
 | loc l=>exact so h.symm (r.elO fun I I=>⟨fun q=>wpAny_is_plain rfl q,fun q=>wpAny_isNot_plain rfl q⟩)
 | _=>exact no h
theorem ifN_el {o:Option Bool} {P:Prop} (h:ifN u o=some b) (k:u=.none→o=some b→P):P:=by cases u with
 | none=>exact k rfl h
 | _=>exact no h
theorem new_seq {T:String} {vs:List Value} {t:Nat} (R:Inv C W σ):∃ W',Nx C [] W W' σ∧W'.s={ W.s with heap:=W.s.heap.push { cls:=.type T,data:=.seq vs.toArray },toks:=t }∧W'.r.fz W.s.heap.objs.size=some { cls:=.type T,data:=.seq vs.toArray } :=
 ⟨_,Nx.newF R (o:={ cls:=.type T,data:=.seq vs.toArray }) (t:=t),rfl,if_pos rfl⟩
theorem new_tup {vs:List Value} {t:Nat} (R:Inv C W σ) (r:Reps C W.r l vs) (hl:Sm l) (q:VK C W (.tup l) σ Q):Q (.ref W.s.heap.objs.size) { W.s with heap:=W.s.heap.push { cls:=.type "tuple",data:=.seq vs.toArray },toks:=t } :=
 let ⟨W',n,e,f⟩:=new_seq (T := "tuple") (vs:=vs) (t:=t) R
 e▸q _ W' ⟨n,.tup f ⟨rfl,0,rfl⟩ (r.up n.S.le) hl⟩
theorem new_lst {vs:List Value} {t:Nat} (R:Inv C W σ) (r:Reps C W.r l vs) (hl:Sm l) (q:VK C W (.lst l) σ Q):Q (.ref W.s.heap.objs.size) { W.s with heap:=W.s.heap.push { cls:=.type "list",data:=.seq vs.toArray },toks:=t } :=
 let ⟨W',n,e,f⟩:=new_seq (T := "list") (vs:=vs) (t:=t) R
 e▸q _ W' ⟨n,.lst f ⟨rfl,0,rfl⟩ (r.up n.S.le) hl⟩
theorem bits_ok {a:Int} (h:a.natAbs < big.natAbs):Builtin.Int.intBits a≤64:=by
 have h':a.natAbs < 2 ^ 62:=h
 unfold Builtin.Int.intBits
 split
 ·decide
 ·rename_i hz
  exact Nat.le_trans (Nat.succ_le_of_lt ((Nat.log2_lt (by intro e;simp_all)).mpr h')) (by decide)
theorem app_arr {vs ws:List Value}:vs.toArray++ws.toArray=(vs++ws).toArray:=List.append_toArray _ _
theorem list_add_sim {a b:Addr} {vs ws:List Value} (R:Inv C W σ) (ha:W.s.heap.IsList a (List.toArray vs)) (hb:W.s.heap.IsList b (List.toArray ws)) (r:Reps C W.r l vs) (r':Reps C W.r k ws) (hc:Sm (l++k)) (q:VK C W (.lst (l++k)) σ Q):wpAny C.M A (binaryOp .Add (.ref a) (.ref b)) Q E W.s:=by
 obtain ⟨⟨cls,dd,data,sl⟩,ho,hc',n,hd⟩:=ha
 obtain ⟨⟨cls2,dd2,data2,sl2⟩,ho2,hc2,n2,hd2⟩:=hb
 cases hc';cases hd;cases hc2;cases hd2
 have rr:=r.append r'
 have hz:vs.toArray.size+ws.toArray.size≤sizeLine:=(List.length_append (as:=vs) (bs:=ws)).symm▸rr.sm hc
 exact concat_meets ⟨_,ho,rfl⟩ ⟨_,ho2,rfl⟩ noFill_list_add seq_list_add PySem.F.slot_list_add PySem.F.entry_list_add (PySem.F.args_list_add_2 _ _) (list_addW a b vs.toArray ws.toArray n n2 dd dd2 sl sl2 hz) ⟨ho,ho2,app_arr▸new_lst R rr hc q⟩
theorem tup_add_sim {a b:Addr} {vs ws:List Value} (R:Inv C W σ) (ha:W.s.heap.IsTuple a (List.toArray vs)) (hb:W.s.heap.IsTuple b (List.toArray ws)) (r:Reps C W.r l vs) (r':Reps C W.r k ws) (hc:Sm (l++k))
  (ra:Rep C W.r (.tup l) (.ref a)) (rb:Rep C W.r (.tup k) (.ref b)) (q:VK C W (.tup (l++k)) σ Q):wpAny C.M A (binaryOp .Add (.ref a) (.ref b)) Q E W.s:=by
 obtain ⟨⟨cls,dd,data,sl⟩,ho,hc',n,hd⟩:=ha
 obtain ⟨⟨cls2,dd2,data2,sl2⟩,ho2,hc2,n2,hd2⟩:=hb
 cases hc';cases hd;cases hc2;cases hd2
 have T:∀ {x o},W.s.heap.get? x=some o→o.cls=.type "tuple" → W.s.TypeIs (.ref x) "tuple" := fun e c=>⟨_,e,c⟩
 cases vs with
 | nil=>cases r;exact concat_meets (T ho rfl) (T ho2 rfl) noFill_tuple_add seq_tuple_add PySem.F.slot_tuple_add PySem.F.entry_tuple_add (PySem.F.args_tuple_add_2 _ _) (tuple_addW0 a b (List.toArray []) ws.toArray n n2 dd dd2 sl sl2 rfl) ⟨ho,ho2,q.at R rb⟩
 | cons v vs=>cases ws with
  | nil=>cases r';exact concat_meets (T ho rfl) (T ho2 rfl) noFill_tuple_add seq_tuple_add PySem.F.slot_tuple_add PySem.F.entry_tuple_add (PySem.F.args_tuple_add_2 _ _) (tuple_addW1 a b (v::vs).toArray (List.toArray []) n n2 dd dd2 sl sl2 (fun e=>nf e) rfl) ⟨ho,ho2,(VK.of q (congrArg (fun z=>some (V.tup z)) (List.append_nil l).symm)).at R ra⟩
  | cons w ws =>
   have rr:=r.append r'
   exact concat_meets (T ho rfl) (T ho2 rfl) noFill_tuple_add seq_tuple_add PySem.F.slot_tuple_add PySem.F.entry_tuple_add (PySem.F.args_tuple_add_2 _ _) (tuple_addW2 a b (v::vs).toArray (w::ws).toArray n n2 dd dd2 sl sl2 (fun e=>nf e) (fun e=>nf e) ((List.length_append (as:=v::vs) (bs:=w::ws)).symm▸rr.sm hc)) ⟨ho,ho2,app_arr▸new_tup R rr hc q⟩
theorem sm_app (h:l.length+k.length≤cap):Sm (l++k):=Nat.le_trans (Nat.le_of_eq List.length_append) h
theorem lst_add {a:Addr} {vs:List Value} (R:Inv C W σ) (ha:W.s.heap.IsList a (List.toArray vs)) (r:Reps C W.r l vs) (r':Rep C W.r u y) (h:lstAdd σ l u=some z) (q:VK C W z σ Q):wpAny C.M A (binaryOp .Add (.ref a) y) Q E W.s :=
 bs h fun I hk h=>ifs h fun hb h=>list_el R r' hk fun I ws hb' rb I=>list_add_sim R ha hb' r rb (sm_app hb) (q.of h)
theorem sim_add (R:Inv C W σ) (r:Rep C W.r v x) (r':Rep C W.r u y) (h:addV σ v u=some z) (q:VK C W z σ Q):wpAny C.M A (binaryOp .Add x y) Q E W.s:=by
 cases v with
 | int i=>exact r.elI fun t=>bs h fun j e h=>asI_el e r' fun u=>PyProof.Rows.add_int ((q.of h).tk R (.int _ _))
 | str i=>exact r.elS fun t=>bs h fun j e h=>asS_el e r' fun u=>ifs h fun hb h=>PyProof.Rows.add_str (fun t' tk=>(q.of h).tk R (.str _ _)) (Nat.le_trans hb cap_line)
 | tup l=>exact r.elT fun a o vs e s b c=>bs h fun j e' h=>asT_el e' r' fun a' o' ws e2 s2 b' c'=>ifs h fun hb h=>tup_add_sim R (R.tup e s) (R.tup e2 s2) b b' (sm_app hb) (.tup e s b c) (.tup e2 s2 b' c') (q.of h)
 | lst l=>exact r.elL fun a o vs e s b c=>lst_add R (R.tup e s) b r' h q
 | loc m=>exact bs h fun l hl h=>list_el R r hl fun a vs ha ra I=>lst_add R ha ra r' h q
 | _=>exact no h
theorem sim_bin {op:Operator} (R:Inv C W σ) (r:Rep C W.r v x) (r':Rep C W.r u y) (h:binV σ op v u=some z) (q:VK C W z σ Q):wpAny C.M A (binaryOp op x y) Q E W.s:=by
 cases op with
 | Add=>exact sim_add R r r' h q
 | Sub=>exact ints_el h r r' fun i j t u e=>PyProof.Rows.sub_int ((q.of e).tk R (.int _ _))
 | Mult=>exact ints_el h r r' fun i j t u e=>ifs e fun hb e=>PyProof.Rows.mul_int ((q.of e).tk R (.int _ _)) (IntMulOk.of_left (bits_ok hb.1))
 | FloorDiv=>exact ints_el h r r' fun i j t u e=>ifs e fun hb e=>PyProof.Rows.floordiv_int hb.2 ((q.of e).tk R (.int _ _)) (Or.inl (PyProof.noPylong_small (by have:=hb.1;fail "a")))
 | Mod=>exact ints_el h r r' fun i j t u e=>ifn e fun hj e=>PyProof.Rows.mod_int hj ((q.of e).tk R (.int _ _))
 | BitAnd=>exact ints_el h r r' fun i j t u e=>PyProof.Rows.and_int ((q.of e).tk R (.int _ _))
 | BitOr=>exact ints_el h r r' fun i j t u e=>PyProof.Rows.or_int ((q.of e).tk R (.int _ _))
 | _=>exact no h
theorem sim_un {op:UnaryOp} (R:Inv C W σ) (r:Rep C W.r v x) (h:unV σ op v=some z) (q:VK C W z σ Q):wpAny C.M A (unaryOp op x) Q E W.s:=by
 cases op with
 | Not=>exact mp h fun b hb e=>not_of (sim_truthy R r hb fun I=>(q.of (congrArg some e)).tk R (.bool _))
 | USub=>exact bs h fun i e h=>asI_el e r fun t=>PyProof.Rows.neg_int ((q.of h).tk R (.int _ _))
 | _=>exact no h
end
section
variable {prog:Program} {w:World} {A:Around} {s:Shared} {E:Value→Shared→Prop} {K:Type} [DecidableEq K] {knd:KeyKind prog w K} {d:Addr} {kvs:List (K×Value)} {k:K} {key v:Value} {Q:Unit→Shared→Prop}
theorem key_dictSet (hkey:knd.is k key=true) (hm:s.heap.DictAt knd d kvs kvs.length) (hsz:kvs.length≤sizeLine)
  (hQ:∀ h',h'.DictAt knd d (stored kvs k v) (stored kvs k v).length→Heap.SameBut d s.heap h'→Q () { s with heap:=h',toks:=s.toks+1 }):wpAny (model prog w) A (dictSet d key v) Q E s:=by
 obtain ⟨o,⟨l⟩,ho,hc,hd,hk,hp,hn⟩:=hm
 have hes:(Array.mk l).size≤sizeLine:=Nat.le_trans (Nat.le_of_eq hp.length) hsz
 unfold dictSet
 try with_reducible refine wpAny_holding ?_
 refine wpAny_bind (knd.pyHash hkey ?_)
 unfold dictSetHashed
 try with_reducible refine wpAny_holding ?_
 refine wpAny_bind (wpAny_dictFind_of (s:={ s with toks:=s.toks+1 }) hkey ho hd hk ?_)
 have hl:((Array.mk l).findIdx? fun e=>knd.is k e.key)=l.findIdx? fun e=>knd.is k e.key:=List.findIdx?_toArray _ _
 have hidx:=hl.trans (hp.findIdx k)
 cases hi:(Array.mk l).findIdx? fun e=>knd.is k e.key with
 | some i =>
  have hs:stored kvs k v=_:=if_pos (any_of_findIdx_some (hidx▸hi))
  rw [hs] at hQ
  exact wpAny_bind (wpAny_rule (wpAny_bind (wpAny_updateDict (s:={ s with toks:=s.toks+1 }) ho hd (wpAny_point (hQ _ ⟨_,_,Heap.get?_update_self _ ho (Obj.isFreed_of_dict (Obj.data_mapDict hd _)),
   hc.mapDict _,(Obj.data_mapDict hd _).trans (congrArg (fun n=>Data.dict _ n) (List.length_map ..).symm),hk.modify _ _,(by have:=hp.modify hn (hl.symm.trans hi) v;simpa using this),(by rw [keys_map_store];exact hn)⟩ (Heap.SameBut.update ..))))))
 | none =>
  have hnot:k∉kvs.map (·.1):=not_mem_of_findIdx_none (hidx▸hi)
  have hs:stored kvs k v=_:=if_neg (fun q=>by obtain ⟨kv,m,e⟩:=List.any_eq_true.mp q;exact hnot (List.mem_map.mpr ⟨kv,m,of_decide_eq_true e⟩))
  rw [hs] at hQ
  exact wpAny_bind (wpAny_rule (wpAny_updateDictKeys (hz:=hes) (s:={ s with toks:=s.toks+1 }) ho hd (hQ _ ⟨_,_,Heap.get?_update_self _ ho (Obj.isFreed_of_dict (Obj.data_mapDictKeys hd _)),
   hc.mapDictKeys _,(Obj.data_mapDictKeys hd _).trans (congrArg (fun n=>Data.dict _ n) (List.length_append (as:=kvs) (bs:=[(k,v)])).symm),hk.push hkey _,(by have:=hp.append hkey (knd.hash k) v;simpa using this),(by
    rw [List.map_append,List.nodup_append]
    exact ⟨hn,List.nodup_cons.mpr ⟨(fun q=>nomatch q),List.nodup_nil⟩,fun a ha b hb e=>hnot ((e.trans (List.mem_singleton.mp hb):a=k)▸ha)⟩)⟩ (Heap.SameBut.update ..))))
theorem key_put (hkey:knd.is k key=true) (hm:s.heap.DictAt knd d kvs kvs.length) (hsz:kvs.length≤sizeLine)
  (hQ:∀ h',h'.DictAt knd d (stored kvs k v) (stored kvs k v).length→Heap.SameBut d s.heap h'→Q () { s with heap:=h',toks:=s.toks+1 }):wpAny (model prog w) A (setItem (.ref d) key v) Q E s:=by
 have hT:=hm.dictOf.typeIs
 unfold setItem
 try with_reducible refine wpAny_holding ?_
 refine wpAny_bind (wpAny_sequenceKey hT (by decide) ?_)
 refine wpAny_bind (wpAny_callSpecial?_slot (name:=Str.ofString "__setitem__") hT slot_dict_setitem (wpAny_call_entry slot_dict_setitem hT entry_dict_setitem ?_ (args_dict_setitem _ _ _)))
 show wpAny _ _ (Builtin.Dict.notOrdered "__setitem__" ⟨[.ref d,key,v],[]⟩ >>= _) _ _ s
 refine wpAny_bind (wpAny_notOrdered_dict hT ?_)
 show wpAny _ _ (dictSet d key v >>= _) _ _ s
 exact wpAny_bind (m:=dictSet d key v) (key_dictSet hkey hm hsz fun h' a b=>wpAny_pure ⟨.none,rfl,wpAny_pure (hQ h' a b)⟩)
end
section
variable {C:Ctx0} {A:Around} {W:Wd} {σ:St} {v u:V} {n:Nat} {x y:Value} {es:List (V×V)} {r:Rn}
inductive Fd (C:Ctx0) (r:Rn):Option V→Option Value→Prop
 | none:Fd C r none none
 | some {z:V} {w:Value}:Rep C r z w→Fd C r (some z) (some w)
theorem Fd.is {o:Option V} {p:Option Value} (h:Fd C r o p):p.isSome=o.isSome:=by cases h<;>rfl
theorem any_get (es:List (V×V)) (k:V):es.any (·.1.eqb k)=(dictGetV es k).isSome:=((List.isSome_find? ..).symm.trans (Option.isSome_map ..).symm)
theorem f2_find {α K:Type} [DecidableEq K] {enc:K→V} (inj:∀ a b,enc a=enc b→a=b) {key:α→K} {val:α→Value} (k:K) {xs:List α} (f:F2 (fun e x=>e.1=enc (key x)∧Rep C r e.2 (val x)) es xs) :
  Fd C r (dictGetV es (enc k)) ((xs.find? (fun x=>decide (key x=k))).map val):=by
 unfold dictGetV
 induction f with
 | nil=>exact .none
 | @cons e y es xs a _ ih =>
  by_cases q:key y=k
  ·rw [List.find?_cons_of_pos (p:=fun e:V×V=>e.1.eqb (enc k)) ((V.eqb_iff _ _).mpr (a.1.trans (congrArg enc q))),List.find?_cons_of_pos (p:=fun x=>decide (key x=k)) (decide_eq_true q)]
   exact .some a.2
  ·rw [List.find?_cons_of_neg (p:=fun e:V×V=>e.1.eqb (enc k)) (fun z=>q (inj _ _ (a.1.symm.trans ((V.eqb_iff _ _).mp z)))),List.find?_cons_of_neg (p:=fun x=>decide (key x=k)) (fun z=>q (of_decide_eq_true z))]
   exact ih
theorem f2_map {α K:Type} {enc:K→V} (inj:∀ a b,enc a=enc b→a=b) {key:α→K} {val:α→Value} {put:α→α} {k:K} (hv:Rep C r v x) (hp1:∀ y,key y=k→key (put y)=k∧val (put y)=x) (hp2:∀ y,key y≠k→put y=y) {xs:List α}
  (f:F2 (fun e x=>e.1=enc (key x)∧Rep C r e.2 (val x)) es xs):F2 (fun e x=>e.1=enc (key x)∧Rep C r e.2 (val x)) (es.map fun e=>if e.1.eqb (enc k) then (e.1,v) else e) (xs.map put):=by
 induction f with
 | nil=>exact .nil
 | @cons e y es xs a _ ih =>
  refine .cons ?_ ih
  by_cases q:key y=k
  ·show (if e.1.eqb (enc k) then (e.1,v) else e).1=_∧Rep C r (if e.1.eqb (enc k) then (e.1,v) else e).2 _
   rw [if_pos ((V.eqb_iff _ _).mpr (a.1.trans (congrArg enc q)))]
   exact ⟨a.1.trans (congrArg enc (q.trans (hp1 y q).1.symm)),(hp1 y q).2.symm▸hv⟩
  ·show (if e.1.eqb (enc k) then (e.1,v) else e).1=_∧Rep C r (if e.1.eqb (enc k) then (e.1,v) else e).2 _
   rw [if_neg (fun z=>q (inj _ _ (a.1.symm.trans ((V.eqb_iff _ _).mp z)))),hp2 y q]
   exact a
theorem f2_stored {K:Type} [DecidableEq K] {enc:K→V} (inj:∀ a b,enc a=enc b→a=b) {kvs:List (K×Value)} {k:K} (hv:Rep C r v x) (f:F2 (fun e kv=>e.1=enc kv.1∧Rep C r e.2 kv.2) es kvs) :
  F2 (fun e kv=>e.1=enc kv.1∧Rep C r e.2 kv.2) (dictSetV es (enc k) v) (stored kvs k x):=by
 have e:es.any (·.1.eqb (enc k))=kvs.any fun kv=>decide (kv.1=k):=by
  have h:=f2_find (key:=fun kv:K×Value=>kv.1) (val:=fun kv=>kv.2) inj k f
  rw [any_get,← List.isSome_find?,← Option.isSome_map (f:=fun kv:K×Value=>kv.2)]
  exact h.is.symm
 unfold dictSetV stored
 rw [e]
 split
 ·exact f2_map (key:=fun kv:K×Value=>kv.1) (val:=fun kv=>kv.2) inj hv (fun y h=>by rw [if_pos h];exact ⟨h,rfl⟩) (fun y h=>if_neg h) f
 ·exact f.append (.cons ⟨rfl,hv⟩ .nil)
theorem dictSet_mem (es:List (V×V)) (k v:V):(k,v)∈dictSetV es k v:=by
 unfold dictSetV
 split
 ·rename_i q
  obtain ⟨e,m,h⟩:=List.any_eq_true.mp q
  exact List.mem_map.mpr ⟨e,m,(if_pos h).trans (congrArg (·,v) ((V.eqb_iff _ _).mp h))⟩
 ·exact List.mem_append_right _ (.head _)
theorem dictSet_len (es:List (V×V)) (k v:V):(dictSetV es k v).length≤es.length+1:=by
 unfold dictSetV
 split
 ·exact Nat.le_trans (Nat.le_of_eq (List.length_map ..)) (Nat.le_succ _)
 ·exact Nat.le_of_eq (List.length_append ..)
theorem allTag_mem {t:Nat} {e:V×V} (h:allTag t es=true) (m:e∈es):e.1.tag=t:=beq_iff_eq.mp (List.all_eq_true.mp h e m)
theorem DRep.of {h:Heap} {a:Addr} {e:V×V} (m:e∈es) (ex:∃ o,h.get? a=some o∧o.ExactDict) (i:e.1.tag=1→DctK (intKind C.prog C.w) .int C r h a es) (s:e.1.tag=2→DctK (strKind C.prog C.w) .str C r h a es) (t:e.1.tag=3→DT C r h a es):DRep C r h a es :=
 ⟨ex,fun q=>i (allTag_mem q m),fun q=>s (allTag_mem q m),fun q=>t (allTag_mem q m)⟩
structure DOps (C:Ctx0) (A:Around) (W:Wd) (a:Addr) (es:List (V×V)) (v:V) (x:Value):Prop where
 i:∀ {E},InOK C A E W.s x (.ref a) (es.any (·.1.eqb v))
 get:∀ {Q:Value→Shared→Prop} {E u},dictGetV es v=some u→(∀ t y,Rep C W.r u y→Q y { W.s with toks:=t })→wpAny C.M A (getItem (.ref a) x) Q E W.s
 dflt:∀ {Q:Value→Shared→Prop} {E d y},Rep C W.r d y→(∀ t y,Rep C W.r ((dictGetV es v).getD d) y→Q y { W.s with toks:=t })→wpAny C.M A (call (.builtin "dict.get") [.ref a,x,y]) Q E W.s
 set:∀ {Q:Unit→Shared→Prop} {E u y},Rep C W.r u y→es.length≤sizeLine→(∀ h' t,Heap.SameBut a W.s.heap h'→((∀ b o,W.r.fz b=some o→h'.get? b=some o)→DRep C W.r h' a (dictSetV es v u))→Q () { W.s with heap:=h',toks:=t })→wpAny C.M A (setItem (.ref a) x y) Q E W.s
theorem dops_k {K:Type} [DecidableEq K] {knd:KeyKind C.prog C.w K} {enc:K→V} (inj:∀ a b,enc a=enc b→a=b) {k:K} (hkey:knd.is k x=true) {a:Addr} (ha:(a==sysModules)=false) (D:DctK knd enc C W.r W.s.heap a es)
  (up:∀ h' u,DctK knd enc C W.r h' a (dictSetV es (enc k) u)→DRep C W.r h' a (dictSetV es (enc k) u)):DOps C A W a es (enc k) x:=by
 obtain ⟨kvs,da,f⟩:=D
 have G:Fd C W.r (dictGetV es (enc k)) (valueAt kvs k):=f2_find (key:=fun kv:K×Value=>kv.1) (val:=fun kv=>kv.2) inj k f
 have e:(valueAt kvs k).isSome=es.any (·.1.eqb (enc k)):=G.is.trans (any_get es (enc k)).symm
 have m:=da.dictOf.mapOf
 refine ⟨⟨fun q=>wpAny_in_of hkey ha m (e.symm▸q _),fun q=>wpAny_notIn_of hkey ha m (e.symm▸q _)⟩,fun {Q E u} h q=>?_,fun {Q E d y} rd q=>?_,fun {Q E u y} ru hz q=>?_⟩
 ·generalize hv:valueAt kvs k=o at G
  rw [h] at G
  cases G with | some r=>exact wpAny_getItem_of hkey m hv (q _ _ r)
 ·refine call_meetsIn F.slot_dict_get m.typeIs F.entry_dict_get (F.args_dict_get_3 _ _ _) (meets_dict_get_default knd a hkey ha y) ⟨_,m,?_⟩
  generalize valueAt kvs k=o at G
  generalize dictGetV es (enc k)=g at G q
  cases G with
  | none=>exact q _ _ rd
  | some r=>exact q _ _ r
 ·exact key_put hkey da (f.len▸hz) fun h' d' hs=>q h' _ hs fun kf=>up h' u ⟨_,d',f2_stored inj ru f⟩
end
section
variable {C:Ctx0} {A:Around} {W:Wd} {σ σ':St} {v u z:V} {n:Nat} {x y:Value} {es:List (V×V)} {Q:Value→Shared→Prop} {E:Value→Shared→Prop}
open Classical in
theorem dops_t (Rm:Room A n) (R:Inv C W σ) {l:List V} {b a:Addr} (ht:(V.tup l).tag=3) (r:Rep C W.r (.tup l) (.ref b)) (ha:(a==sysModules)=false) (D:DT C W.r W.s.heap a es):DOps C A W a es (.tup l) (.ref b):=by
 obtain ⟨xs,d,f,g⟩:=D
 have G:Fd C W.r (dictGetV es (.tup l)) ((xs.find? (fun x=>decide (x.1=.tup l))).map fun x=>x.2.2):=f2_find (enc:=id) (key:=fun x:V×Addr×Value=>x.1) (val:=fun x=>x.2.2) (fun I I h=>h) (V.tup l) f
 have e:(atKey xs (.tup l)).isSome=es.any (·.1.eqb (.tup l)):=(Option.isSome_map ..).trans ((Option.isSome_map ..).symm.trans (G.is.trans (any_get es _).symm))
 have his:(tupKind C.prog C.w).is W.s.heap (.tup l) b:=⟨ht,r.pure R.fz 6 (tag3 ht)⟩
 have hr:(tupKind C.prog C.w).room A.in1:=Rm.lt 7 (by decide)
 refine ⟨⟨fun q=>wpAny_in_heap hr his ha d (e.symm▸q _),fun q=>wpAny_notIn_heap hr his ha d (e.symm▸q _)⟩,fun {Q E u} h q=>?_,fun {Q E d' y} rd q=>?_,fun {Q E u y} ru hz q=>?_⟩
 ·cases hf:xs.find? (fun x=>decide (x.1=V.tup l)) with
  | none=>rw [hf,h] at G;cases G
  | some p=>rw [hf,h] at G;cases G with | some r=>exact wpAny_getItem_heap (p:=p.2) hr his d (congrArg (Option.map _) hf) (q _ _ r)
 ·refine call_meetsIn F.slot_dict_get d.typeIs F.entry_dict_get (F.args_dict_get_3 _ _ _) (meetsH_dict_get_default (tupKind C.prog C.w) a b ha y) ⟨hr,_,_,his,d,?_⟩
  unfold atKey
  cases hf:xs.find? (fun x=>decide (x.1=V.tup l)) with
  | none=>rw [hf] at G;generalize dictGetV es (.tup l)=o at G q;cases G;exact q _ _ rd
  | some p=>rw [hf] at G;generalize dictGetV es (.tup l)=o at G q;cases G with | some r=>exact q _ _ r
 ·refine wpAny_setItem_heap hr his d (fun h' d' hs=>q h' _ hs fun kf=>?_) (f.len▸hz)
  have ex:∃ o,h'.get? a=some o∧o.ExactDict:=(by obtain ⟨o,_,_,ho,hc,_⟩:=d';exact ⟨o,ho,hc⟩)
  refine DRep.of (dictSet_mem es (.tup l) u) ex (fun h=>?_) (fun h=>?_) fun I=>?_
  ·rw [ht] at h;cases h
  ·rw [ht] at h;cases h
  ·refine ⟨_,d',?_,?_⟩
   ·unfold dictSetV storedH
    rw [e]
    split
    ·exact f2_map (enc:=id) (key:=fun x:V×Addr×Value=>x.1) (val:=fun x=>x.2.2) (fun I I h=>h) ru (fun y h=>by rw [if_pos h];exact ⟨h,rfl⟩) (fun y h=>if_neg h) f
    ·exact f.append (.cons ⟨rfl,ru⟩ .nil)
   ·unfold storedH
    split
    ·exact fun x m=>by
      obtain ⟨z,m',rfl⟩:=List.mem_map.mp m
      unfold putAt
      split<;>exact g z m'
    ·exact fun x m=>(List.mem_append.mp m).elim (g x) fun m=>List.mem_singleton.mp m▸r
theorem dict_ops (Rm:Room A n) (R:Inv C W σ) {a:Addr} (r:Rep C W.r v x) (hk:kOk es v=true) (ha:(a==sysModules)=false) (D:DRep C W.r W.s.heap a es):DOps C A W a es v x:=by
 refine an hk fun h0 hk=>?_
 cases v with
 | int i=>exact r.elI fun t=>dops_k (fun I I=>V.int.inj) (beq_self_eq_true i) ha (D.i hk) fun h' u d=>.of (dictSet_mem _ _ _) ((by obtain ⟨_,⟨o,_,ho,hc,_⟩,_⟩:=d;exact ⟨o,ho,hc⟩)) (fun I=>d) (fun h=>nomatch h) (fun h=>nomatch h)
 | str i=>exact r.elS fun t=>dops_k (fun I I=>V.str.inj) (strKind_is _ _ i t) ha (D.s hk) fun h' u d=>.of (dictSet_mem _ _ _) ((by obtain ⟨_,⟨o,_,ho,hc,_⟩,_⟩:=d;exact ⟨o,ho,hc⟩)) (fun h=>nomatch h) (fun I=>d) (fun h=>nomatch h)
 | tup l =>
  have ht:(V.tup l).tag=3:=Classical.byContradiction fun q=>nf ((show ((V.tup l).tag != 0)=false by
   show ((if (V.tup l).pure then 3 else 0) != 0)=false
   rw [if_neg fun z=>q (if_pos z)];rfl).symm.trans h0)
  exact r.elT (P:=fun x=>Rep C W.r (.tup l) x→DOps C A W a es (.tup l) x) (fun b I I I I I I r=>dops_t Rm R ht r ha (D.t (ht▸hk))) r
 | _=>exact nf h0
theorem ne_sys (R:Inv C W σ) {m:Nat} {p:Addr×Addr} (e:W.r.own[m]?=some p):(p.1==sysModules)=false:=beq_eq_false_iff_ne.mpr (Nat.ne_of_gt (R.nfz p.1 ⟨e,.inl rfl⟩).2)
theorem sim_in (Rm:Room A n) (R:Inv C W σ) (r:Rep C W.r v x) (r':Rep C W.r u y) {b:Bool} (h:inV σ v u=some b):InOK C A E W.s x y b:=by
 refine ifs h fun hp h=>?_
 have hp:v.pureN 6=true:=hp
 have px:=r.pure R.fz 6 hp
 have hu:=Rm.lt 7 (by decide)
 cases u with
 | tup l=>exact r'.elT fun I I vs e s p I=>ifs h fun hl h=>so h.symm (in_tup px hp hu (R.tup e s) (p.pure R.fz 6 (pures_of hl)) hl)
 | lst l=>exact r'.elL fun I I vs e s p I=>ifs h fun hl h=>so h.symm (in_lst px hp hu (R.tup e s) (p.pure R.fz 6 (pures_of hl)) hl)
 | loc m =>
  refine r'.elO fun p e=>bs h fun o ho h=>?_
  cases o with
  | list l=>exact (R.obs m p _ e ho).elL fun vs I a q I I=>ifs h fun hl h=>so h.symm (in_lst px hp hu (IsL.isList a) (q.pure R.fz 6 (pures_of hl)) hl)
  | dict es=>exact (R.obs m p _ e ho).elD fun D I I=>ifs h fun hk h=>so h.symm (dict_ops Rm R r hk (ne_sys R e) D).i
  | inst=>exact no h
 | _=>exact no h
theorem sim_cmp (Rm:Room A n) (R:Inv C W σ) (r:Rep C W.r v x) (r':Rep C W.r u y) {op:CmpOp} {b:Bool} (h:cmpV σ op v u=some b) (q:∀ t,Q (.bool b) { W.s with toks:=t }):wpAny C.M A (compareOp op x y) Q E W.s:=by
 cases op with
 | Eq=>exact sim_eq Rm R r r' h (q W.s.toks)
 | NotEq=>exact mp h fun c h' e=>(sim_sameE Rm R r r' h').2 _ _ _ _ (e▸q W.s.toks)
 | Lt=>exact ints_el h r r' fun i j t u e=>PyProof.Rows.lt_int (so e (q W.s.toks))
 | LtE=>cases v with
  | int i=>exact r.elI fun t=>bs h fun j e h=>asI_el e r' fun u=>PyProof.Rows.le_int (so h (q W.s.toks))
  | str i=>exact r.elS fun t=>bs h fun j e h=>asS_el e r' fun u=>P.le_str (so h (q W.s.toks))
  | _=>exact no h
 | Gt=>exact ints_el h r r' fun i j t u e=>PyProof.Rows.gt_int (so e (q W.s.toks))
 | GtE=>exact ints_el h r r' fun i j t u e=>PyProof.Rows.ge_int (so e (q W.s.toks))
 | Is=>exact ifN_el h fun hu h=>by subst hu;exact r'.elN ((sim_none r h).1 (q W.s.toks))
 | IsNot=>exact ifN_el h fun hu h=>by subst hu;exact r'.elN (mp h fun c h' e=>(sim_none r h').2 (e▸q W.s.toks))
 | In=>exact (sim_in Rm R r r' h).i q
 | NotIn=>exact mp h fun c h' e=>(sim_in Rm R r r' h').n (e▸q)
theorem cmpS_el {h:Nat} {op:CmpOp} {a b:V} {K:Bool→MS} {P:Prop} (d:Den C h A (cmpS σ op a b K)) (k:∀ c,cmpV σ op a b=some c→Den C h A (K c)→P):P:=by
 cases op with
 | NotEq=>obtain ⟨c,e,d⟩:=d;exact k (!c) (congrArg (Option.map _) e) d
 | NotIn=>obtain ⟨c,e,d⟩:=d;exact k (!c) (congrArg (Option.map _) e) d
 | _=>exact d.elim fun c d=>k c d.1 d.2
end
section
variable {C:Ctx0} {A:Around} {W:Wd} {σ σ':St} {v u z:V} {n:Nat} {x y:Value} {l:List V} {Q:Value→Shared→Prop} {E:Value→Shared→Prop} {env:Env}
structure GetOK (C:Ctx0) (A:Around) (Q:Value→Shared→Prop) (E:Value→Shared→Prop) (s:Shared) (x y:Value):Prop where
 t:∃ T id,s.TypeIs x T∧typeLookup (.type T) "__getitem__" = pure (some (.builtin id))
 g:wpAny C.M A (getItem x y) Q E s
theorem GetOK.tail {s:Shared} {value slice:Expr} (h:GetOK C A Q E s x y):wpAny C.M A (subscriptTail value slice x y) Q E s:=by
 obtain ⟨T,id,hT,hl⟩:=h.t
 obtain ⟨ops,e⟩:∃ ops,subscripted slice false x y=operate ops (getItem x y):=by
  cases slice with
  | Slice l u st p=>cases st<;>exact ⟨_,rfl⟩
  | _=>exact ⟨_,rfl⟩
 exact tail_any hT hl h.g e
theorem idx_some {k:Int} {m j:Nat} (h:idx? k m=some j):-(2 ^ 63)≤k∧k < 2 ^ 63∧seqIndex? k m=some j:=by
 refine ifn h fun hc h=>?_
 simp only [Bool.or_eq_true,decide_eq_true_eq,not_or,Int.not_lt,ge_iff_le,Int.not_le] at hc
 exact ⟨hc.1,hc.2,h⟩
theorem seqIndex_nat {k:Int} {m j:Nat} (h0:0≤k) (h:seqIndex? k m=some j):j=k.toNat:=by
 unfold seqIndex? at h
 simp only [if_neg (Int.not_lt.mpr h0)] at h
 exact ifs h fun I h=>(Option.some.inj h).symm
theorem tuple_lookup:typeLookup (.type "tuple") "__getitem__" = pure (some (.builtin "tuple.__getitem__")):=slot_tuple_getitem.lookup
theorem subl_any {a:Addr} {vs:List Value} (R:Inv C W σ) (ha:W.s.heap.IsList a (List.toArray vs)) (b:Reps C W.r l vs) (r':Rep C W.r u y) (h:subL u l=some z) (q:VK C W z σ Q):GetOK C A Q E W.s (.ref a) y :=
 bs h fun k e h=>asI_el e r' fun t=>ifs h fun h0 h=>bs h fun j hj hl=>by
  obtain ⟨h1,h2,h3⟩:=idx_some hj
  obtain ⟨x',e,rx⟩:=b.get hl
  exact ⟨⟨_,_,ha.typeIs,list_getitem_lookup⟩,wpAny_getItem_list ha h0 h2 (seqIndex_nat h0 h3▸(List.getElem?_toArray ..).trans e) (q.at R rx)⟩
theorem drep_type {a:Addr} {es:List (V×V)} (D:DRep C W.r W.s.heap a es):W.s.TypeIs (.ref a) "dict" := (by obtain ⟨o,ho,hc⟩:=D.ex;exact ⟨o,ho,hc.1⟩)
theorem sim_sub (Rm:Room A n) (R:Inv C W σ) (r:Rep C W.r v x) (r':Rep C W.r u y) (h:subV σ v u=some z) (q:VK C W z σ Q):GetOK C A Q E W.s x y:=by
 cases v with
 | tup l =>
  exact r.elT fun I I vs e s b c=>bs h fun k e' h=>asI_el e' r' fun t=>bs h fun j hj hl=>by
   obtain ⟨h1,h2,h3⟩:=idx_some hj
   obtain ⟨x',e2,rx⟩:=b.get hl
   have ha:=R.tup e s
   exact ⟨⟨_,_,typeIs_tup ha,tuple_lookup⟩,getItem_tuple ha h1 h2 (b.len▸h3:seqIndex? k vs.length=some j) ((List.getElem?_toArray ..).trans e2) (q.at R rx)⟩
 | lst l=>exact r.elL fun I I vs e s b c=>subl_any R (R.tup e s) b r' h q
 | str w =>
  exact r.elS fun t=>bs h fun k e h=>asI_el e r' fun t'=>bs h fun j hj hl=>mp hl fun c hc e=>by
   obtain ⟨h1,h2,h3⟩:=idx_some hj
   refine ⟨⟨_,_,typeIs_str _ _ _,F.slot_str_getitem.lookup⟩,P.getItem_str (c:=c) (Bool.or_eq_false_iff.mpr ⟨decide_eq_false (Int.not_lt.mpr h1),decide_eq_false (Int.not_le.mpr h2)⟩) ?_ ((q.of (congrArg some e)).tk R (.str _ _))⟩
   show (seqIndex? k w.cps.size).bind _=_
   rw [h3];exact hc
 | loc m =>
  refine r.elO fun p e=>bs h fun o ho h=>?_
  cases o with
  | list l=>exact (R.obs m p _ e ho).elL fun vs I a b c I=>subl_any R (IsL.isList a) b r' h q
  | dict es=>exact (R.obs m p _ e ho).elD fun D I I=>ifs h fun hk h=>⟨⟨_,_,drep_type D,slot_dict_getitem.lookup⟩,(dict_ops Rm R r' hk (ne_sys R e) D).get h fun I I rv=>q.tk R rv⟩
  | inst=>exact no h
 | _=>exact no h
theorem litC_el {e:Expr} {i:Int} {P:Expr→Prop} (h:litC e=some i) (k:∀ j p,P (.Constant (.int i) j p)):P e:=by
 cases e with
 | Constant c j p=>cases c with
  | int i'=>exact so (show some i'=some i from h) (P:=fun i'=>P (.Constant (.int i') j p)) (k j p)
  | _=>exact no h
 | _=>exact no h
theorem sim_lit {e:Expr} {i:Int} (h:litI e=some i) (R:Inv C W σ) (q:VK C W (.int i) σ Q):wpAny C.M A (eval e env) Q E W.s:=by
 have base:litC e=some i→wpAny C.M A (eval e env) Q E W.s:=fun h=>litC_el (P:=fun e=>wpAny C.M A (eval e env) Q E W.s) h fun j p=>wpAny_Constant_int (q.tk R (.int _ _))
 cases e with
 | UnaryOp op e p=>cases op with
  | USub=>exact mp h fun i' h e'=>litC_el (P:=fun e=>wpAny C.M A (eval (.UnaryOp .USub e p) env) Q E W.s) h fun j p' =>
    wpAny_bind (wpAny_Constant_int (wpAny_bind (wpAny_standAt (wpAny_holding (PyProof.Rows.neg_int ((q.of (congrArg (fun i=>some (V.int i)) e')).tk R (.int _ _)))))))
  | _=>exact no h
 | _=>exact base h
theorem sim_part {e:Option Expr} {k:Option Int} (R:Inv C W σ) (h:optInt e=some k) (q:∀ v W',IsPart v k→Nx C [] W W' σ→Q v W'.s):wpAny C.M A (valueOrNone (evalOpt e env)) Q E W.s:=by
 cases e with
 | none=>exact so h.symm (P:=fun k=>(∀ v W',IsPart v k→Nx C [] W W' σ→Q v W'.s)→_) (fun q=>wpAny_pure (q _ W .none (.refl R))) q
 | some e=>exact mp h fun i hi e'=>sim_lit (Q:=Q) hi R fun x W' a=>a.r.elI (P:=fun x=>Q x W'.s) fun t=>q _ W' (e'▸.int _ _) a.n
theorem slicePart_of {s:Shared} {v:Value} {k:Option Int} (p:IsPart v k) {Q:Option Int→Shared→Prop} (h:Q k s):wpAny C.M A (Builtin.Slice.slicePartIndex v) Q E s:=by
 cases p with
 | none=>exact slicePart_none h
 | int i t=>exact slicePart_int h
theorem sliceApplied_of {s:Shared} {sl:Addr} {vl vu:Value} {lo hi:Option Int} {m:Nat} {Q:Int×Int×Nat→Shared→Prop} (hs:s.heap.IsSliceOf sl vl vu .none) (pl:IsPart vl lo) (pu:IsPart vu hi)
  (h:Q ((Builtin.Slice.sliceAdjust lo hi 1 m).1,1,Builtin.Slice.slicePlaces (Builtin.Slice.sliceAdjust lo hi 1 m).1 (Builtin.Slice.sliceAdjust lo hi 1 m).2 1) s) :
  wpAny C.M A (Builtin.Slice.sliceApplied (.ref sl) (pure (m:Int))) Q E s:=by
 obtain ⟨os,hos,hcs,hds⟩:=id hs
 unfold Builtin.Slice.sliceApplied Builtin.Slice.sliceFields
 refine wpAny_bind (wpAny_bind (wpAny_field hos hds (x:=vl) rfl (wpAny_bind (wpAny_field hos hds (x:=vu) rfl (wpAny_bind (wpAny_field hos hds (x:=.none) rfl (wpAny_pure ?_)))))))
 exact wpAny_bind (slicePart_none (wpAny_bind (slicePart_of pl (wpAny_bind (slicePart_of pu (wpAny_bind (wpAny_pure (wpAny_pure h))))))))
theorem getItem_tuple_slice {s:Shared} {t sl:Addr} {items:Array Value} {vl vu:Value} {lo hi:Option Int} {a:Int} {m:Nat} (ht:s.heap.IsTuple t items) (hs:s.heap.IsSliceOf sl vl vu .none) (pl:IsPart vl lo) (pu:IsPart vu hi)
  (ha:(Builtin.Slice.sliceAdjust lo hi 1 items.size).1=a) (hm:Builtin.Slice.slicePlaces (Builtin.Slice.sliceAdjust lo hi 1 items.size).1 (Builtin.Slice.sliceAdjust lo hi 1 items.size).2 1=m)
  (h0:(a==0&&(1:Int)==1&&m==items.size)=true→Q (.ref t) s) {ys:List Value} (hy:(List.range m).filterMap (fun (k:Nat)=>items[(a+(k:Int) * 1).toNat]?)=ys)
  (h1:¬ (a==0&&(1:Int)==1&&m==items.size)=true→Q (.ref s.heap.objs.size) { s with heap:=s.heap.push { cls:=.type "tuple",data:=.seq ys.toArray } }) (hle:ys.length≤sizeLine) :
  wpAny C.M A (getItem (.ref t) (.ref sl)) Q E s:=by
 obtain ⟨os,hos,hcs,hds⟩:=id hs
 have hTs:s.TypeIs (.ref sl) "slice" := ⟨os,hos,hcs⟩
 have htT:=typeIs_tup ht
 unfold getItem
 try with_reducible refine wpAny_holding ?_
 first | refine wpAny_bind (wpAny_pure ?_) | skip
 refine wpAny_bind (wpAny_sequenceKey htT (by decide) ?_)
 refine wpAny_bind (wpAny_callSpecial?_slot (name:=Str.ofString "__getitem__") htT slot_tuple_getitem
  (wpAny_call_entry slot_tuple_getitem htT entry_tuple_getitem ?_ (args_tuple_getitem _ _)))
 show wpAny _ _ (Builtin.Tuple.tupleItemsOf (.ref t) >>= _) _ _ s
 refine wpAny_bind (tupleItemsOf_ ht ?_)
 refine wpAny_bind (wpAny_typeOf hTs ?_)
 rw [if_pos (by decide)]
 refine wpAny_bind (sliceApplied_of hs pl pu ?_)
 rw [hm,ha]
 show wpAny _ _ (if (a==0&&(1:Int)==1&&m==items.size)=true then _ else _) _ _ s
 split
 ·rename_i hc
  have hq:=h0 hc
  refine wpAny_bind (m:=Builtin.Tuple.tupleIsExact _) ?_
  unfold Builtin.Tuple.tupleIsExact
  first
  | exact wpAny_bind (wpAny_typeOf htT (wpAny_pure (by rw [if_pos (by decide)];exact wpAny_rule (wpAny_pure ⟨_,rfl,wpAny_pure hq⟩))))
  | exact wpAny_bind (wpAny_typeOf htT (wpAny_pure (by rw [if_pos (by decide)];exact wpAny_bind (wpAny_rule (wpAny_pure ⟨_,rfl,wpAny_pure hq⟩)))))
 ·rename_i hc
  have hq:=h1 hc
  subst hy
  first
  | exact wpAny_bind (m:=Builtin.Tuple.tupleExact _) (wpAny_newObj_type (wpAny_pure ⟨_,rfl,wpAny_pure hq⟩) hle)
  | exact wpAny_bind (m:=Builtin.Tuple.tupleExact _) (wpAny_newObj_type (wpAny_bind (wpAny_pure (wpAny_pure ⟨_,rfl,wpAny_pure hq⟩))) hle)
  | exact wpAny_bind (wpAny_bind (m:=Builtin.Tuple.tupleExact _) (wpAny_newObj_type (wpAny_pure (wpAny_pure ⟨_,rfl,wpAny_pure hq⟩)) hle))
  | exact wpAny_bind (wpAny_bind (m:=Builtin.Tuple.tupleExact _) (wpAny_newObj_type (wpAny_pure ⟨_,rfl,wpAny_pure hq⟩) hle))
theorem sliceAdjust_bounds (lo hi:Option Int) (m:Nat):0≤(Builtin.Slice.sliceAdjust lo hi 1 m).1∧(Builtin.Slice.sliceAdjust lo hi 1 m).2≤m:=by
 unfold Builtin.Slice.sliceAdjust
 simp only [show ¬ ((1:Int) < 0) by decide,if_false]
 constructor
 ·cases lo with
  | none=>exact Int.le_refl _
  | some v=>dsimp only;split<;>fail "a"
 ·cases hi with
  | none=>exact Int.le_refl _
  | some v=>dsimp only;split<;>fail "a"
theorem slicePlaces_le {a b:Int} {m:Nat} (h:0≤a∧b≤m):Builtin.Slice.slicePlaces a b 1≤m:=by
 unfold Builtin.Slice.slicePlaces
 rw [if_pos (by decide)]
 split
 ·rw [Int.ediv_one];fail "a"
 ·exact Nat.zero_le _
theorem sim_tupSlice {t sl:Addr} {o:Obj} {xs:List Value} {vl vu:Value} {lo hi:Option Int} (R:Inv C W σ) (e:W.r.fz t=some o) (so:SqO "tuple" xs o) (r:Reps C W.r l xs) (hl:Sm l) (hs:W.s.heap.IsSliceOf sl vl vu .none) (pl:IsPart vl lo) (pu:IsPart vu hi)
  (q:VK C W (.tup (tupSlice l lo hi)) σ Q):wpAny C.M A (getItem (.ref t) (.ref sl)) Q E W.s:=by
 have hlen:xs.toArray.size=l.length:=r.len.symm
 have B:=slicePlaces_le (sliceAdjust_bounds lo hi l.length)
 unfold tupSlice at q
 dsimp only at q
 revert B q
 generalize ha:(Builtin.Slice.sliceAdjust lo hi 1 l.length).1=a
 generalize hm:Builtin.Slice.slicePlaces a _ 1=m
 intro q B
 have e1:∀ {α:Type} (l':List α),(List.range m).filterMap (fun (k:Nat)=>l'[(a+(k:Int) * 1).toNat]?)=((List.range m).map fun (k:Nat)=>(a+(k:Int) * 1).toNat).filterMap fun k=>l'[k]?:=fun l'=>(List.filterMap_map ..).symm
 have P:=Reps.picks r ((List.range m).map fun (k:Nat)=>(a+(k:Int) * 1).toNat)
 have S:Sm (((List.range m).map fun (k:Nat)=>(a+(k:Int) * 1).toNat).filterMap fun k=>l[k]?):=Nat.le_trans (List.length_filterMap_le ..) (by rw [List.length_map,List.length_range];exact Nat.le_trans B hl)
 refine getItem_tuple_slice (R.tup e so) hs pl pu (hlen.symm▸ha) (hlen.symm▸ha.symm▸hm) (fun h=>?_) (by simp only [List.getElem?_toArray];exact e1 xs) (fun h=>?_) (P.sm S)
 ·rw [hlen] at h
  rw [if_pos h] at q
  exact q.at R (.tup e so r hl)
 ·rw [hlen] at h
  rw [if_neg h,e1] at q
  exact new_tup R P S q
theorem partValue_of {v:Value} {k:Option Int} (h:IsPart v k):∃ p:Option (Int×Tok),v=partValue p∧p.map (·.1)=k:=by
 cases h with
 | none=>exact ⟨none,rfl,rfl⟩
 | int i t=>exact ⟨some (i,t),rfl,rfl⟩
theorem sim_strSlice {w:Str} {t:Tok} {sl:Addr} {vl vu:Value} {lo hi:Option Int} (R:Inv C W σ) (hs:W.s.heap.IsSliceOf sl vl vu .none) (pl:IsPart vl lo) (pu:IsPart vu hi) (hz:(strSlice w lo hi).cps.size≤cap) (q:VK C W (.str (strSlice w lo hi)) σ Q) :
  wpAny C.M A (getItem (.str w t) (.ref sl)) Q E W.s:=by
 obtain ⟨p1,rfl,rfl⟩:=partValue_of pl
 obtain ⟨p2,rfl,rfl⟩:=partValue_of pu
 refine wpAny_getItem_str_slice (l:=p1) (u:=p2) (st:=none) hs rfl ?_
 unfold sliceMade
 unfold strSlice at q hz
 by_cases h:((Builtin.Str.strSliceIndices (p1.map (·.1)) (p2.map (·.1)) 1 w.length).length==w.length)=true
 ·rw [if_pos h] at q
  rw [if_pos (by exact h)]
  exact q.tk R (.str _ _)
 ·rw [if_neg h] at q hz
  rw [if_neg (by exact h)]
  exact ⟨Nat.le_trans hz cap_line,q.tk R (.str _ _)⟩
theorem slicePick_take (xs:List Value) {k:Int} (h0:0≤k):slicePick xs.toArray none (some k) none=(xs.take k.toNat).toArray:=by
 obtain ⟨m,rfl⟩:=Int.eq_ofNat_of_zero_le h0
 have e:sliceBounds none (some (m:Int)) none xs.toArray.size=sliceBounds none (some ((min m xs.length:Nat):Int)) none xs.toArray.size:=by
  unfold sliceBounds
  simp only [Option.getD_none,show ((1:Int) > 0)=True by simp,if_true,List.size_toArray]
  rw [if_neg (by fail "a"),if_neg (by fail "a")]
  refine congrArg (Prod.mk _) (congrArg (fun z=>Prod.mk z _) ?_)
  rcases Nat.le_total m xs.length with h | h
  ·rw [Nat.min_eq_left h]
  ·rw [Nat.min_eq_right h,Int.min_self,Int.min_eq_right (Int.ofNat_le.mpr h)]
 have e2:=slicePick_upto xs.toArray (min m xs.length) (by rw [List.size_toArray];exact Nat.min_le_right _ _)
 unfold slicePick at e2 ⊢
 rw [e,e2]
 exact congrArg List.toArray (List.take_eq_take_min.symm:xs.take (min m xs.length)=xs.take m)
theorem lst_slice {lo hi st:Option Int} {sl:Addr} {vl vu vs:Value} {xs:List Value} {a:Addr} (R:Inv C W σ) (hl:W.s.heap.IsList a xs.toArray) (r:Reps C W.r l xs) (hz:Sm l) (h:lstSlice l lo hi st=some z)
  (hs:W.s.heap.IsSliceOf sl vl vu vs) (pl:IsPart vl lo) (pu:IsPart vu hi) (pk:IsPart vs st) (q:VK C W z σ Q):wpAny C.M A (getItem (.ref a) (.ref sl)) Q E W.s:=by
 have hsz:xs.toArray.size≤sizeLine:=r.sm hz
 refine ifNo_el h fun hlo h=>?_
 subst hlo
 cases hi with
 | none =>
  refine bs h fun k hk h=>ifs h fun h1 h=>?_
  subst hk h1
  exact wpAny_getItem_list_slice hl hs pl pu pk (by simp) (rwl (krv_pick xs.toArray) (new_lst (vs:=xs.reverse) R r.reverse (Nat.le_trans (Nat.le_of_eq List.length_reverse) hz) (q.of h))) hsz
 | some k =>
  refine ifNo_el (show ifNo st (if 0≤k then some (V.lst (l.take k.toNat)) else none)=some z from h) fun hk h2=>ifs h2 fun h0 h3=>?_
  subst hk
  exact wpAny_getItem_list_slice hl hs pl pu pk (by simp) (slicePick_take xs h0▸new_lst R (r.take _) (Nat.le_trans (List.length_take_le' ..) hz) (q.of h3)) hsz
theorem sim_getSlice {lo hi st:Option Int} {sl:Addr} {vl vu vs:Value} (R:Inv C W σ) (r:Rep C W.r v x) (h:sliceV σ v lo hi st=some z) (hs:W.s.heap.IsSliceOf sl vl vu vs) (pl:IsPart vl lo) (pu:IsPart vu hi) (pk:IsPart vs st)
  (q:VK C W z σ Q):GetOK C A Q E W.s x (.ref sl):=by
 cases v with
 | tup l=>exact r.elT fun I I vs e s b c=>ifNo_el h fun hn h2=>by subst hn;cases pk;exact ⟨⟨_,_,typeIs_tup (R.tup e s),tuple_lookup⟩,sim_tupSlice R e s b c hs pl pu (q.of h2)⟩
 | str w=>exact r.elS fun t=>ifNo_el h fun hn h2=>ifs h2 fun hz h3=>by subst hn;cases pk;exact ⟨⟨_,_,typeIs_str _ _ _,F.slot_str_getitem.lookup⟩,sim_strSlice R hs pl pu hz (q.of h3)⟩
 | lst l=>exact r.elL fun I I vs e s b c=>⟨⟨_,_,Heap.IsList.typeIs (R.tup e s),list_getitem_lookup⟩,lst_slice R (R.tup e s) b c h hs pl pu pk q⟩
 | loc m=>exact r.elO fun p e=>bs h fun l hl h=>lstAt_el hl fun hl=>(R.obs m p _ e hl).elL fun vs I a b c I=>⟨⟨_,_,(IsL.isList a).typeIs,list_getitem_lookup⟩,lst_slice R (IsL.isList a) b c h hs pl pu pk q⟩
 | _=>exact no h
end
noncomputable def clsNm (c:Str):Bool:=attrTab.any fun p=>sBeq c (Str.ofString p.1)
theorem clsNm_of {c x:Str} (h:attrW c x=true):clsNm c=true:=(by obtain ⟨p,m,h⟩:=List.any_eq_true.mp h;exact List.any_eq_true.mpr ⟨p,m,an h fun h I=>h⟩)
noncomputable def biVal (x:Str):Option Value:=lookW x [("len",.builtin "len"),("any",.builtin "any"),("all",.builtin "all"),("sorted",.builtin "sorted"),("tuple",.type "tuple"),("range",.type "range")]
structure ClsOK (C:Ctx0) (c:Str) (D:Addr):Prop where
 get:∀ x,plainGet C.K D x=true
 has:hasDictIn C.K D=true
 set:findIn C.K (.ref D) "__setattr__" = some (some (.builtin "object.__setattr__"))
 over:plainOver C.K D=true
 attr:∀ x,attrW c x=true→findIn C.K (.ref D) x=some none
structure FnIn (C:Ctx0) (f:Addr) (r:FnRec):Prop where
 at_:FnAt C f r
 keep:keepIn C.K (.ref f)=true
structure Ctx0.Ok (C:Ctx0):Prop where
 g:C.h₀.Ns mainGlobals C.mg
 b:C.h₀.Ns builtinsNs C.mb
 nl:C.h₀.NoLimit
 k:C.K.In C.h₀
 glob:∀ x v,globW x=some (.val v)→∃ val,C.mg x=some val∧Rep C C.rn v val
 glob2:∀ x g,globW x=some g→(∀ v,g≠.val v)→∃ val,C.GV x val
 cls:∀ c D,clsNm c=true→C.GV c (.ref D)→ClsOK C c D
 fn:∀ x r val,globW x=some (.fn r)→C.GV x val→∃ f,val=.ref f∧FnIn C f r
 meth:∀ c D m r,methW c m=some r→C.GV c (.ref D)→clsNm c=true∧∃ f,findIn C.K (.ref D) m=some (some (.ref f))∧isFn C.K (.ref f)=true∧FnIn C f r
 make:∀ x val,globW x=some .cls→C.GV x val→∃ D,val=.ref D∧keepIn C.K (.ref D)=true∧makesIn C.K D=true
 bi:∀ x val,globW x=some .bi→C.GV x val→biVal x=some val
 data:∀ y i,C.GV y (.builtin i)→(withoutEnding? i "#data").isNone=true
theorem attributeBase_of {o:Expr} {x:Str} {env:Env} {t:Sem Value} (h:(!bareCall o)=true):attributeBase o x env t=t:=by
 cases o with
 | Call f args kws p=>cases f with
  | Name=>cases args with
   | nil=>cases kws with
    | nil=>exact nf h
    | cons=>rfl
   | cons=>rfl
  | _=>rfl
 | _=>rfl
section
variable {C:Ctx0} {A:Around} {W:Wd} {r:Rn} {σ σ':St} {v u z:V} {n h:Nat} {x y:Value} {k:Str} {Q:Value→Shared→Prop} {E:Value→Shared→Prop} {fs:List (Str×V)} {es:List DictEntry}
theorem Inv.le (R:Inv C W σ):Rn.Le C.rn W.r:=⟨fun I p e=>no ((List.getElem?_nil).symm.trans e:(none:Option (Addr×Addr))=some p),R.base⟩
theorem Inv.keepB (R:Inv C W σ):∀ a o,C.h₀.get? a=some o→W.s.heap.get? a=some o:=fun a o e=>R.fz a o (R.base a o e)
theorem Inv.low (O:C.Ok) (R:Inv C W σ):sysModules < W.s.heap.objs.size:=(by obtain ⟨_,_,_,e,_⟩:=O.g;exact Nat.lt_trans (by decide:sysModules < mainGlobals) (Heap.lt_size (R.keepB _ _ e)))
theorem base_K (O:C.Ok) (R:Inv C W σ):C.K.In W.s.heap:=O.k.keeps R.keepB
theorem Rep.handed (O:C.Ok) (q:Rep C r v x):handedIn x=true:=by
 cases x with
 | builtin i=>cases q with | glb e=>exact O.data _ _ e
 | _=>rfl
inductive FdL (C:Ctx0) (r:Rn):Option V→Option (Option Value)→Prop
 | none:FdL C r none (some none)
 | some {z:V} {w:Value}:Rep C r z w→FdL C r (some z) (some (some w))
theorem FdL.is {o:Option V} {p:Option (Option Value)} (h:FdL C r o p):p.isSome=true:=by cases h<;>rfl
theorem str_key {x k:Str} {t:Tok} {hs:Int} {val:Value}:(DictEntry.key ⟨hs,.str x t,val⟩).isStr k=(x==k):=rfl
theorem FsRep.find (q:FsRep C r fs es):FdL C r (kindW fs k) (getL k es):=by
 induction q with
 | nil=>exact .none
 | @cons x v t val fs es a _ ih =>
  unfold getL at ih ⊢
  show FdL C r (bif sBeq k x then some v else kindW fs k) _
  rw [sBeq_eq,List.find?_cons,str_key]
  by_cases e:k=x
  ·subst e;rw [decide_eq_true rfl,beq_self_eq_true];exact .some a
  ·rw [decide_eq_false e,beq_eq_false_iff_ne.mpr (Ne.symm e)];exact ih
theorem FsRep.put {tk:Tok} (rv:Rep C r v x) (q:FsRep C r fs es):FsRep C r (setW k v fs) (putL k (PyData.keyHash C.w.params k) (.str k tk) x es):=by
 induction q with
 | nil=>exact .cons rv .nil
 | @cons y u t val fs es a b ih =>
  show FsRep C r (bif sBeq y k then (y,v)::fs else (y,u)::setW k v fs) (if (DictEntry.key ⟨PyData.keyHash C.w.params y,.str y t,val⟩).isStr k=true then _ else _)
  rw [sBeq_eq,str_key]
  by_cases e:y=k
  ·subst e;rw [decide_eq_true rfl,if_pos (beq_self_eq_true y)];exact .cons rv b
  ·rw [decide_eq_false e,if_neg (fun z=>e (eq_of_beq z))];exact .cons a ih
theorem FsRep.len (q:FsRep C r fs es):fs.length=es.length:=by induction q with | nil=>rfl | cons _ _ ih=>exact congrArg (·+1) ih
theorem setW_len (k:Str) (v:V) (fs:List (Str×V)):(setW k v fs).length≤fs.length+1:=by
 induction fs with
 | nil=>exact Nat.le_refl _
 | cons p fs ih=>unfold setW;cases sBeq p.1 k with
  | true=>exact Nat.le_succ _
  | false=>exact Nat.succ_le_succ ih
theorem instAt_of {h:Heap} {p:Addr×Addr} {D:Addr} {o:Obj} (a:h.get? p.1=some (instObj D p.2)) (b:h.get? p.2=some o):InstAt h p.1 (instObj D p.2) D (some o):=⟨a,rfl,rfl,b⟩
theorem d_attr (O:C.Ok) (R:Inv C W σ) {K:V→St→MS} {expr:Bool} (q:Rep C W.r v x) (d:Den C h A (wAttr k K v σ)) (f:∀ z x W',Va C W z x W' σ→Den C h A (K z σ)→Q x W'.s):wpAny C.M A (getAttr x k expr) Q E W.s:=by
 cases v with
 | loc m =>
  obtain ⟨o,ho,d⟩:=d
  refine q.elO fun p e=>?_
  cases o with
  | inst c fs =>
   have d:Den C h A (bif attrW c k then .ask (kindW fs k) (wV K σ) else .done False):=d
   cases hk:attrW c k with
   | false=>rw [hk] at d;exact d.elim
   | true =>
    rw [hk] at d
    obtain ⟨z,e1,d⟩:=d
    refine (R.obs m p _ e ho).elI fun D es n a b c' g I=>?_
    have G:=g.find (k:=k)
    rw [show kindW fs k=some z from e1] at G
    generalize hg:getL k es=w at G
    cases G with | some rv =>
    have CO:=O.cls c D (clsNm_of hk) a
    exact get_value (base_K O R) (instAt_of b c') (plainGet_of (CO.get k)).1 (findObj_own CO.has (CO.attr k hk) rfl ((lookIn_dict ..).trans hg)) (rv.handed O) (VK.tk (fun x W' a=>f z x W' a d) R rv)
  | _=>exact d.elim
 | _=>exact d.elim
noncomputable def putF (C:Ctx0) (k:Str) (t:Nat) (y:Value):Obj→Obj:=Obj.putName k (PyData.keyHash C.w.params k) (.str k t) y
noncomputable def putE (C:Ctx0) (k:Str) (t:Nat) (y:Value) (es:List DictEntry):List DictEntry:=putL k (PyData.keyHash C.w.params k) (.str k t) y es
set_option tactic.hygienic true in
theorem d_setA (O:C.Ok) (R:Inv C W σ) {fr:Fr} {K:Fl→Fr→St→MS} {Q:Unit→Shared→Prop} (q:Rep C W.r v x) (qu:Rep C W.r u y) (d:Den C h A (wAsAttr k u fr K v σ)) (f:∀ W' σ',Nx C [] W W' σ'→Den C h A (K .next fr σ')→Q () W'.s):wpAny C.M A (setAttr x k y) Q E W.s:=by
 cases v with
 | loc m =>
  obtain ⟨o,ho,d⟩:=d
  refine q.elO fun p e=>?_
  cases o with
  | inst cn fs =>
   obtain ⟨hc,d⟩:=d
   refine an hc fun hk hl=>?_
   refine (R.obs m p _ e ho).elI fun D es n' a b c g I=>?_
   have CO:=O.cls cn D (clsNm_of hk) a
   have Ka:=CO.attr k hk
   have Kn:takerIn C.K D k=some none:=by unfold takerIn;rw [Ka];rfl
   obtain ⟨cd,hc',hd'⟩:=any_some CO.has
   have XK:C.K.In (Shared.heap { W.s with toks:=W.s.toks+1 }):=base_K O R
   refine set_plain (base_K O R) (instAt_of b c) CO.set (osa_open (s:={ W.s with toks:=W.s.toks+1 }) XK (instAt_of b c) CO.over Kn fun bb=>?_)
   refine wpAny_bind (wpAny_pure (wpAny_bind (wpAny_bind (wpAny_loadPart b (wpAny_bind ((looks_clsIn XK hc').here ?_))))))
   rw [hd']
   refine wpAny_pure (a:=some p.2) (wpAny_bind (wpAny_pure (wpAny_bind ?_)))
   unfold nsSet
   refine wpAny_bind (wpAny_bind (wpAny_askSetting (wpAny_pure (wpAny_bind (wpAny_mkText (wpAny_bind (wpAny_loadPart c ?_)))))))
   have hr:(!es.any (·.key.isStr k)&&es.any (·.refKey))=false:=by
    have hl:=(g.find (k:=k)).is
    unfold getL at hl
    split at hl
    ·rename_i en he
     rw [List.any_eq_true.mpr ⟨en,List.mem_of_find?_eq_some he,List.find?_some he⟩];rfl
    ·split at hl
     ·cases hl
     ·rename_i z;rw [Bool.not_eq_true] at z;rw [z,Bool.and_false]
   show wpAny _ _ (if aRefKeyMayBeTheName k es.toArray=true then _ else _) _ _ _
   rw [aRefKeyMayBeTheName_at,show (!es.toArray.any (·.key.isStr k)&&es.toArray.any (·.refKey))=false by rw [← Array.any_toList,← Array.any_toList];exact hr]
   refine wpAny_updatePart c ?_
   have hF:putF C k (W.s.toks+1) y (dictOf es n')=dictOf (putE C k (W.s.toks+1) y es) (putN k es n'):=putName_dict ..
   have ne:p.2≠p.1:=fun q=>by rw [q,b] at c;cases c
   have g2:(W.s.heap.update p.2 (putF C k (W.s.toks+1) y)).get? p.2=some (dictOf (putE C k (W.s.toks+1) y es) (putN k es n')):=hF▸Heap.get?_update_self (putF C k (W.s.toks+1) y) c (hF▸rfl)
   have P:FsRep C W.r (setW k u fs) (putE C k (W.s.toks+1) y es):=g.put qu
   have hz:(setW k u fs).length≤100:=Nat.le_trans (setW_len k u fs) (of_decide_eq_true hl)
   refine wpAny_bind (wpAny_lookBehind g2 (pastItsLine_dict (Nat.le_trans (P.len▸hz) (by decide))) (wpAny_pure ?_))
   exact f (W.put (W.s.heap.update p.2 (putF C k (W.s.toks+1) y)) (W.s.toks+2)) _ (.turn R e (fun b' o' q e'=>Heap.get?_update_of_ne _ (fun z=>q (.inr z.symm)) e') fun I=>.inst a (Heap.get?_update_of_ne _ ne b) g2 P hz) d
  | _=>exact d.elim
 | _=>exact d.elim
end
noncomputable def someW:V→Option V
 | .int i=>some (.int i)
 | .str s=>some (.str s)
 | .tup l=>some (.tup l)
 | .none=>some .none
 | v=>some v
noncomputable def dfltW:List Str→List V→Str→Option V
 | p::ps,a::as=>fun y=>bif sBeq y p then someW a else dfltW ps as y
 | _,_=>fun I=>none
noncomputable def argsW:List Str→List V→(Str→Option V)→Str→Option V
 | p::ps,a::as,f=>upd (argsW ps as f) p a
 | _,_,f=>f
section
variable {C:Ctx0} {r:Rn} {y:Str}
theorem lookup_cons_if {α:Type} (x y:Str) (a:α) (l:List (Str×α)):((y,a)::l).lookup x=bif sBeq x y then some a else l.lookup x:=by rw [List.lookup_cons,sBeq_beq];cases x==y<;>rfl
theorem dflt_fd {ns:List Str}:∀ {ds:List V} {xs:List Value},Reps C r ds xs→Fd C r (dfltW ns ds y) ((ns.zip xs).lookup y):=by
 induction ns with
 | nil=>exact fun I=>.none
 | cons n ns ih =>
  intro ds xs h
  cases h with
  | nil=>exact .none
  | @cons d ds x xs a b =>
   show Fd C r (bif sBeq y n then someW d else dfltW ns ds y) (((n,x)::ns.zip xs).lookup y)
   rw [lookup_cons_if,show someW d=some d by cases d<;>rfl]
   cases sBeq y n with
   | true=>exact .some a
   | false=>exact ih b
theorem args_fd {ns:List Str} {f:Str→Option V} {g:Option Value} (hf:Fd C r (f y) g):∀ {vs:List V} {xs:List Value},Reps C r vs xs→Fd C r (argsW ns vs f y) (((ns.zip xs).lookup y).or g):=by
 induction ns with
 | nil=>exact fun I=>hf
 | cons n ns ih =>
  intro vs xs h
  cases h with
  | nil=>exact hf
  | @cons v vs x xs a b =>
   show Fd C r (bif sBeq y n then some v else argsW ns vs f y) ((((n,x)::ns.zip xs).lookup y).or g)
   rw [lookup_cons_if]
   cases sBeq y n with
   | true=>exact .some a
   | false=>exact ih b
end
theorem lookup_app {α:Type} {n:Str} {b c:List (Str×α)}:(b++c).lookup n=(b.lookup n).or (c.lookup n):=by
 induction b with
 | nil=>rfl
 | cons p r ih=>rw [List.cons_append,lookup_cons_if,lookup_cons_if,ih];cases sBeq n p.1<;>rfl
noncomputable def slotPut (b:List (Str×Value)) (p:Str×Value):List (Str×Value):=if (b.lookup p.1).isNone then b++[(p.1,p.2)] else b
theorem slot_look (n:Str):∀ (l b:List (Str×Value)),(l.foldl slotPut b).lookup n=(b.lookup n).or (l.lookup n)
 | [],b=>(Option.or_none).symm
 | p::l,b=>by
  rw [List.foldl_cons,slot_look n l,lookup_cons_if,sBeq_eq]
  unfold slotPut
  split
  ·rename_i h
   rw [lookup_app,Option.or_assoc,lookup_cons_if,sBeq_eq];cases decide (n=p.1)<;>rfl
  ·rename_i h
   by_cases e:n=p.1
   ·rw [decide_eq_true e]
    cases q:b.lookup n with
    | none=>exact absurd (e▸q▸rfl:(b.lookup p.1).isNone=true) h
    | some z=>rfl
   ·rw [decide_eq_false e];rfl
theorem wpAny_forIn_fold {M:Model} {A:Around} {E:Value→Shared→Prop} {s:Shared} {α β:Type} (f:α→β→Sem (ForInStep β)) (g:β→α→β) (hf:∀ x b,f x b=pure (.yield (g b x))) {Q:β→Shared→Prop}:∀ (l:List α) (b:β),Q (l.foldl g b) s→wpAny M A (forIn l b f) Q E s
 | [],b,h=>rwl List.forIn_nil (wpAny_pure h)
 | x::l,b,h=>by
  rw [List.forIn_cons,hf]
  exact wpAny_bind (wpAny_pure (wpAny_forIn_fold f g hf l _ h))
theorem zip_some {α:Type} {n:Str}:∀ {ns:List Str} {vs:List α},n∈ns.take vs.length→((ns.zip vs).lookup n).isNone=false
 | [],_,h=>(by rw [List.take_nil] at h;cases h)
 | _::_,[],h=>nomatch h
 | x::ns,v::vs,h=>by
  rw [List.zip_cons_cons,lookup_cons_if,sBeq_eq]
  by_cases e:n=x
  ·rw [decide_eq_true e];rfl
  ·rw [decide_eq_false e];exact zip_some ((List.mem_cons.mp h).resolve_left e)
theorem fm_look (f:Str→Option Value) (y:Str):∀ {ns:List Str},y∈ns→(ns.filterMap fun n=>(f n).map (n,·)).lookup y=f y
 | n::ns,h=>by
  by_cases e:y=n
  ·subst e
   cases q:f y with
   | none =>
    rw [List.filterMap_cons_none (f:=fun n=>(f n).map (n,·)) (congrArg (Option.map _) q)]
    by_cases m:y∈ns
    ·exact (fm_look f y m).trans q
    ·cases z:(ns.filterMap fun n=>(f n).map (n,·)).lookup y with
     | none=>rfl
     | some v=>obtain ⟨n',m',e⟩:=List.mem_filterMap.mp (mem_of_lookup z);exact mp e fun I I e=>absurd ((show n'=y from congrArg Prod.fst e)▸m') m
   | some v=>rw [List.filterMap_cons_some (f:=fun n=>(f n).map (n,·)) (congrArg (Option.map _) q),lookup_cons_if,sBeq_eq,decide_eq_true rfl];rfl
  ·have ih:=fm_look f y ((List.mem_cons.mp h).resolve_left e)
   cases q:f n with
   | none=>rw [List.filterMap_cons_none (f:=fun n=>(f n).map (n,·)) (congrArg (Option.map _) q)];exact ih
   | some v=>rw [List.filterMap_cons_some (f:=fun n=>(f n).map (n,·)) (congrArg (Option.map _) q),lookup_cons_if,sBeq_eq,decide_eq_false e];exact ih
theorem fm_names (f:Str→Option Value):∀ ns:List Str,List.Sublist ((ns.filterMap fun n=>(f n).map (n,·)).map (·.1)) ns
 | []=>.slnil
 | n::ns=>by
  cases q:f n with
  | none=>rw [List.filterMap_cons_none (f:=fun n=>(f n).map (n,·)) (congrArg (Option.map _) q)];exact .cons _ (fm_names f ns)
  | some v=>rw [List.filterMap_cons_some (f:=fun n=>(f n).map (n,·)) (congrArg (Option.map _) q)];exact .cons_cons _ (fm_names f ns)
noncomputable def bound (ns:List Str) (xs dv:List Value) (y:Str):Option Value:=((ns.zip xs).lookup y).or (((ns.drop (ns.length - dv.length)).zip dv).lookup y)
structure Binds (ns:List Str) (xs dv:List Value) (bs:List (Str×Value)):Prop where
 names:List.Sublist (bs.map (·.1)) ns
 look:∀ y∈ns,bs.lookup y=bound ns xs dv y
theorem wpAny_no {M:Model} {A:Around} {E:Value→Shared→Prop} {s:Shared} {α:Type} {c:Prop} [Decidable c] {a b:Sem α} {Q:α→Shared→Prop} (hc:¬ c) (h:wpAny M A b Q E s):wpAny M A (if c then a else b) Q E s:=rwl (if_neg hc) h
theorem bind_args {M:Model} {A:Around} {E:Value→Shared→Prop} {s:Shared} {fd:FuncData} {xs:List Value} {ns:List Str} {dv:List Value} (hp:fd.params.posonlyargs=[]) (hn:fd.params.args.map (·.arg)=ns) (hk:fd.params.kwonlyargs=[]) (hv:fd.params.vararg=none) (hw:fd.params.kwarg=none)
  (h1:xs.length≤ns.length) (h2:ns.length≤xs.length+dv.length) (h3:dv.length≤ns.length)
  (hd:∀ {Q:Option (Array Value)→Shared→Prop},(∀ o,(o.getD #[]).toList=dv→Q o s)→wpAny M A (seqItems? fd.defaults) Q E s)
  {Q:List (Str×Value)→Shared→Prop} (q:∀ bs,Binds ns xs dv bs→Q bs s):wpAny M A (bindArgs fd ⟨xs,[]⟩) Q E s:=by
 obtain ⟨nm,qn,⟨po,ar,va,ko,kd,kw,df⟩,bd,sc,gl,cl,dfs,kdf,dc,pm,an,cd,ct,bu⟩:=fd
 cases hp;cases hk;cases hv;cases hw
 unfold bindArgs
 refine wpAny_bind (wpAny_pure (wpAny_bind (hd fun o ho=>?_)))
 subst ho hn
 refine wpAny_no (fun h=>Nat.not_lt.mpr h1 (of_decide_eq_true (Bool.and_eq_true_iff.mp h).1)) ?_
 have e0:List.drop ((o.getD #[]).toList.length - (List.map (fun x:Arg=>x.arg) []++List.map (fun x=>x.arg) ar).length) (o.getD #[]).toList=(o.getD #[]).toList:=by
  show List.drop (_ - (ar.map fun x=>x.arg).length) _=_
  rw [Nat.sub_eq_zero_of_le h3];rfl
 dsimp only
 rw [e0]
 refine wpAny_no (fun h=>?_) ?_
 ·refine nf ((congrArg (fun l:List Str=>!l.isEmpty) (?_:_=[])).symm.trans h)
  rw [List.filter_eq_nil_iff]
  intro n hn
  refine fun q=>nf ((zip_some ?_).symm.trans q)
  exact List.Sublist.subset (List.take_sublist_take_left (Nat.sub_le_iff_le_add.mpr h2)) hn
 refine wpAny_bind (wpAny_forIn_fold _ slotPut (fun p b=>?_) _ _ ?_)
 ·unfold slotPut
  cases hc:(b.lookup p.1).isNone<;>rfl
 refine wpAny_bind (wpAny_pure (wpAny_no (fun h=>nomatch h) (wpAny_pure (q _ ?_))))
 show Binds _ xs _ ((List.map (fun x:Arg=>x.arg) ar++[]).filterMap fun n=>(List.lookup n (((List.drop ((List.map (fun x:Arg=>x.arg) ar).length - (o.getD #[]).toList.length) (List.map (fun x:Arg=>x.arg) ar)).zip (o.getD #[]).toList).foldl slotPut ((List.map (fun x:Arg=>x.arg) ar).zip xs))).map (n,·))
 rw [List.append_nil]
 exact ⟨fm_names (fun n=>List.lookup n _) _,fun y hy=>(fm_look (fun n=>List.lookup n _) y hy).trans (slot_look y _ _)⟩
theorem cellsFrom_acc:∀ (names:List (Str×NameKind)) (n:Nat) (acc:List (Str×Addr)),∃ l,cellsFrom n names acc=l++acc∧l.map (·.1)=((names.filter fun p=>p.2==.cell).map (·.1)).reverse
 | [],_,acc=>⟨[],rfl,rfl⟩
 | (x,k)::r,n,acc=>by
  unfold cellsFrom
  rw [List.filter_cons]
  by_cases h:(k==NameKind.cell)=true
  ·rw [if_pos h,if_pos h]
   obtain ⟨l,e,m⟩:=cellsFrom_acc r (n+1) ((x,n)::acc)
   exact ⟨l++[(x,n)],by rw [e,List.append_assoc];rfl,by rw [List.map_append,m];exact List.reverse_cons.symm⟩
  ·rw [if_neg h,if_neg h]
   exact cellsFrom_acc r n acc
theorem cells_names (names:List (Str×NameKind)) (n:Nat):(cellsFrom n names []).map (·.1)=((names.filter fun p=>p.2==.cell).map (·.1)).reverse:=by
 obtain ⟨l,e,m⟩:=cellsFrom_acc names n []
 rw [e,List.append_nil,m]
theorem lookup_of_mem {α:Type}:∀ {l:List (Str×α)} {x:Str},x∈l.map (·.1)→(l.lookup x).isSome=true
 | p::r,x,h=>by
  rw [lookup_cons_if,sBeq_eq]
  by_cases e:x=p.1
  ·rw [decide_eq_true e];rfl
  ·rw [decide_eq_false e];exact lookup_of_mem ((List.mem_cons.mp h).resolve_left e)
theorem lookup_at {α:Type}:∀ {l:List (Str×α)} {x:Str} {a:α},(l.map (·.1)).Nodup→(x,a)∈l→l.lookup x=some a
 | p::r,x,a,nd,h=>by
  obtain ⟨h1,h2⟩:=List.nodup_cons.mp nd
  rw [lookup_cons_if,sBeq_eq]
  rcases List.mem_cons.mp h with rfl | h
  ·rw [decide_eq_true rfl];rfl
  ·rw [decide_eq_false (fun e=>h1 (List.mem_map.mpr ⟨_,h,e⟩))];exact lookup_at h2 h
theorem cells_some {names:List (Str×NameKind)} {n:Nat} {x:Str} (h:names.lookup x=some .cell):((cellsFrom n names []).lookup x).isSome=true :=
 lookup_of_mem (by rw [cells_names,List.mem_reverse];exact List.mem_map.mpr ⟨(x,.cell),List.mem_filter.mpr ⟨mem_of_lookup h,rfl⟩,rfl⟩)
theorem not_found {x:Str} {r:List (Str×Value)} (h:x∉r.map (·.1)):r.lookup x=none:=by
 cases q:r.lookup x with
 | none=>rfl
 | some y=>exact absurd (List.mem_map.mpr ⟨_,mem_of_lookup q,rfl⟩) h
theorem bindL_at {kindOf:Str→Option NameKind} {x:Str} (hx:kindOf x=some .local):∀ (ps:List (Str×Value)) (m:Str→Option Value),(ps.map (·.1)).Nodup→bindL kindOf ps m x=(ps.lookup x).or (m x)
 | [],m,_=>rfl
 | (n,v)::r,m,nd=>by
  obtain ⟨h1,h2⟩:=List.nodup_cons.mp nd
  unfold bindL
  rw [bindL_at hx r _ h2,lookup_cons_if,sBeq_eq]
  by_cases e:x=n
  ·subst e
   rw [if_pos hx,decide_eq_true rfl,not_found h1]
   exact if_pos rfl
  ·rw [decide_eq_false e]
   split
   ·exact congrArg (Option.or _) (if_neg e)
   ·rfl
theorem bindC_at {kindOf:Str→Option NameKind} {x:Str} (hx:kindOf x≠some .local):∀ (ps:List (Str×Value)) (m:Str→Option Value),(ps.map (·.1)).Nodup→bindC kindOf ps m x=(ps.lookup x).or (m x)
 | [],m,_=>rfl
 | (n,v)::r,m,nd=>by
  obtain ⟨h1,h2⟩:=List.nodup_cons.mp nd
  unfold bindC
  rw [bindC_at hx r _ h2,lookup_cons_if,sBeq_eq]
  by_cases e:x=n
  ·subst e
   rw [if_neg hx,decide_eq_true rfl,not_found h1]
   exact if_pos rfl
  ·rw [decide_eq_false e]
   split
   ·rfl
   ·exact congrArg (Option.or _) (if_neg e)
section
variable {C:Ctx0} {A:Around} {W W':Wd} {σ σ':St} {n h:Nat} {env:Env} {fr:Fr}
theorem fd_get {r:Rn} {o:Option Value} {v:V} {a:Option V} (p:Fd C r a o) (e:a=some v):∃ x,o=some x∧Rep C r v x:=by cases p with
 | none=>exact no e
 | some x=>exact ⟨_,rfl,so e.symm x⟩
theorem bound_mem {ns:List Str} {xs dv:List Value} {y:Str} {x:Value} (e:bound ns xs dv y=some x):y∈ns:=by
 unfold bound at e
 cases h:(ns.zip xs).lookup y with
 | some z=>exact (List.of_mem_zip (mem_of_lookup h)).1
 | none=>rw [h] at e;exact List.mem_of_mem_drop (List.of_mem_zip (mem_of_lookup e)).1
theorem Inv.noLim (O:C.Ok) (R:Inv C W σ) {g:Heap} (k:∀ b o,W.s.heap.get? b=some o→g.get? b=some o):g.NoLimit:=O.nl.keeps fun b o e=>k b o (R.keepB b o e)
theorem frame_of {r:FnRec} {f:Addr} (H:FnAt C f r) (R:Inv C W σ) {bs:List (Str×Value)} {vars:Str→Option V} {s':Shared} (e1:env.scope.names=r.sc) (e2:env.scope.kind=.function) (e3:env.globals=mainGlobals) (e4:env.builtins=builtinsNs) (e5:env.cells=cellsFrom (W.s.heap.objs.size+1) r.sc []) (e6:env.locals=W.s.heap.objs.size)
  (nd:(bs.map (·.1)).Nodup) (q:∀ y v,vars y=some v→∃ x,bs.lookup y=some x∧Rep C W.r v x) (x:InCallC W.s env.locals (bindL env.kindOf bs fun I=>none) env.cells (bindC env.kindOf bs fun I=>none) s') :
  ∃ g t,s'=(W.put g t).s∧FrAt C ⟨r.sc,vars,fun I=>none⟩ env (W.put g t)∧Nx C [] W (W.put g t) σ∧∀ a∈frX env,W.s.heap.get? a=none:=by
 obtain ⟨g,t,rfl⟩:=x.toInCall.same
 have N:Nx C [] W (W.put g t) σ:=.ext R x.toInCall.keep
 have cn:(env.cells.map (·.1)).Nodup:=by
  rw [e5,cells_names]
  exact List.nodup_iff_pairwise_ne.mpr (List.pairwise_reverse.mpr ((List.nodup_iff_pairwise_ne.mp H.cn).imp Ne.symm))
 have lk:∀ y,env.kindOf y=kindW r.sc y:=fun y=>by rw [kindW_eq];exact congrArg (List.lookup y) e1
 have at_:∀ a∈env.cells.map (·.2),∃ y,env.cells.lookup y=some a∧(y,a)∈env.cells:=fun a m=>(by obtain ⟨p,m,e⟩:=List.mem_map.mp m;exact ⟨p.1,e▸⟨lookup_at cn m,m⟩⟩)
 have dead:∀ a∈frX env,W.s.heap.get? a=none:=fun a m=>dead_of (by cases m with
  | head=>exact Nat.le_of_eq e6.symm
  | tail _ m=>obtain ⟨y,_,m⟩:=at_ a m;exact Nat.le_of_lt (e6▸x.above _ _ m))
 have nf:∀ y,kindW r.sc y≠some .free:=fun y=>by rw [kindW_eq];exact H.nf y
 refine ⟨g,t,rfl,⟨e2,e3,e4,fun y k e=>⟨.inl ((lk y).trans e),H.dbg y k ((kindW_eq y r.sc).symm.trans e)⟩,fun y v e=>?_,⟨_,x.toInCall.ns⟩,fun y e=>?_,fun a m=>?_,fun a m=>R.dead (dead a m),fun a b c h1 h2=>name_of_addr x.apart (mem_of_lookup h1) (mem_of_lookup h2)⟩,N,dead⟩
 ·have e:seenK ⟨r.sc,vars,fun I=>none⟩ y (kindW r.sc y)=some v:=e
  cases hk:kindW r.sc y with
  | none=>rw [hk] at e;exact no e
  | some k =>
   rw [hk] at e
   cases k with
   | «local» =>
    obtain ⟨z,h1,h2⟩:=q y v e
    exact ⟨z,.loc ((lk y).trans hk) x.toInCall.ns ((bindL_at ((lk y).trans hk) bs _ nd).trans ((congrArg (Option.or · _) h1).trans rfl)),h2⟩
   | cell =>
    obtain ⟨z,h1,h2⟩:=q y v e
    obtain ⟨c,hc⟩:=Option.isSome_iff_exists.mp (cells_some (n:=W.s.heap.objs.size+1) ((kindW_eq y r.sc).symm.trans hk))
    have hc:=(congrArg (List.lookup y) e5).trans hc
    have:=x.cell _ _ hc
    rw [bindC_at (fun z=>by rw [lk,hk] at z;cases z) bs _ nd,h1] at this
    exact ⟨z,.cell (.inl ((lk y).trans hk)) hc this,h2⟩
   | free=>exact absurd hk (nf y)
   | _=>exact no e
 ·exact (Option.isSome_iff_exists.mp (cells_some (n:=W.s.heap.objs.size+1) ((kindW_eq y r.sc).symm.trans e))).imp fun c hc=>(congrArg (List.lookup y) e5).trans hc
 ·obtain ⟨y,hl,_⟩:=at_ a m
  exact ⟨_,x.cell _ _ hl⟩
theorem Room.deeper {n:Nat} (x:Room A (n+1)) (env:Env):Room (A.deeper env) n:=⟨x.h,Nat.le_trans (Nat.le_of_eq (Nat.succ_add A.depth n)) x.d,Nat.le_trans (Nat.le_of_eq (Nat.add_right_comm A.units 3 (8 * n))) (Nat.le_trans (Nat.add_le_add_left (by decide:3≤8) _) x.u)⟩
noncomputable def wEnd (Q:V×St→Prop) (fl:Fl) (_:Fr) (σ:St):MS:=match fl with | .ret v=>.done (Q (v,σ)) | .next=>.done (Q (.none,σ)) | .cont=>.done False
noncomputable def frameW (r:FnRec) (args:List V):Fr:=⟨r.sc,argsW r.params args (dfltW (r.params.drop (r.params.length - r.dflt.length)) r.dflt),fun I=>none⟩
noncomputable def wQ (Q:V×St→Prop) (v:V) (σ:St):MS:=.done (Q (v,σ))
theorem d_call (O:C.Ok) {r:FnRec} {args:List V} {Q:V×St→Prop} (hl:args.length≤r.params.length∧r.params.length≤args.length+r.dflt.length) (d:∀ A,Room A (2 * h+1)→Den C h A (.exs r.body (frameW r args) σ (wEnd Q))):Den C (h+1) A (.call r args σ (wQ Q)):=by
 intro W f xs A' P H hr R Rm q
 obtain ⟨o,fd,dv,X⟩:=H.ob
 have hdl:=X.dr.len
 have hrl:=hr.len
 refine codeAny_call_function (o:=o) (fd:=fd) (body:=r.body) (Nat.lt_of_le_of_lt (Nat.le_add_right _ _) (Nat.lt_of_le_of_lt Rm.d (by decide))) (R.keepB _ _ X.at_) X.data X.co X.gen X.body (X.code.keeps R.keepB) ?_
 refine bind_args (dv:=dv) (ns:=r.params) X.p1 X.p2 X.p3 X.p4 X.p5 (hrl▸hl.1) (hrl▸hdl▸hl.2) (hdl▸H.dl) (fun {Q} hq=>?_) fun bs B=>?_
 ·rcases X.df with ⟨e,rfl⟩ | ⟨T,e,hT⟩
  ·rw [e];exact wpAny_bind (m:=notAStandIn .none) (wpAny_pure (wpAny_pure (hq none rfl)))
  ·obtain ⟨oT,hoT,_,m,hdT⟩:=hT
   rw [e];exact wpAny_seqItems (R.keepB _ _ hoT) hdT (hq _ rfl)
 rw [X.cl,X.glb,X.bi]
 refine wpAny_newFunctionEnv_cells X.kind (fun x m=>?_) fun env henv s₁ hc=>?_
 ·have m:x.1∈r.params:=B.names.subset (List.mem_map.mpr ⟨_,m,rfl⟩)
  rw [X.names]
  exact (H.loc _ m).imp id fun e=>⟨e,cells_some e⟩
 subst henv
 have hq:∀ y v,(frameW r args).vars y=some v→∃ x,bs.lookup y=some x∧Rep C W.r v x:=fun y v e=>by
  obtain ⟨z,h1,h2⟩:=fd_get (args_fd (g:=((r.params.drop (r.params.length - dv.length)).zip dv).lookup y) (hdl▸dflt_fd (X.dr.up R.le)) hr) e
  exact ⟨z,(B.look y (bound_mem h1)).trans h1,h2⟩
 obtain ⟨g,t,rfl,F,N,dead⟩:=frame_of H R X.names X.kind rfl rfl (congrArg (fun z=>cellsFrom _ z []) X.names) rfl (B.names.nodup H.nd) hq hc
 refine ⟨R.noLim O hc.toInCall.keep,codeAny_func (d _ (Rm.deeper _) _ _ _ _ ⟨F,N.R⟩ fun fl flow fr' W₂ σ₂ x d=>?_)⟩
 have M:=(N.wide.trans x.n).to (Y:=[]) fun a m=>.inr (dead a m)
 cases x.r with
 | next=>exact q _ _ _ _ ⟨M,.none⟩ d
 | cont=>exact d.elim
 | ret r=>exact q _ _ _ _ ⟨M,r⟩ d
end
theorem list_extend_any (l:Addr) (items:Array Value) (n:Nat) (b:Addr) (items2:Array Value) (hc0:¬(!items.isEmpty&&Builtin.List.listTooLong (items.size+items2.size))=true) (hc1:items.size≤sizeLine) (hs2:items.size+items2.size≤sizeLine+1) :
  Meets (Builtin.«list.extend» ⟨[.ref l,.ref b],[]⟩) (fun I R s=>IsL s.heap l items n∧s.heap.IsList b items2∧R (.ok (.ret Value.none)) { s with heap:=s.heap.update l (Obj.mapSeq fun x=>x++items2),toks:=s.toks }) :=
 .of_wp fun prog w A R s h=>by
  obtain ⟨hp,g,d,tk,os⟩:=s;obtain ⟨hl,hb,h⟩:=h;have f1:=AutoSeq1.idx_int;have f2:=AutoSeq1.sub_tuple_tuple;have f3:=AutoSeq1.sub_list_list;have f4:=AutoSeq1.sub_tuple_list;have f5:=AutoSeq1.sub_list_tuple;
  obtain ⟨⟨oc,od,oda,osl⟩,ho,hcc,n2,hdd⟩:=hb
  cases hcc;cases hdd
  have hz':(items++items2).size≤sizeLine+1:=by rw [Array.size_append];exact hs2
  wp_walk using (wpAny_updateSeq hl rfl (hz:=hc1) (_hz':=hz')),wpAny_loadPart' hl,wpAny_loadPart' ho;exact ⟨_,rfl,h⟩
section
variable {C:Ctx0} {A:Around} {W W' W₁:Wd} {σ σ':St} {v u z:V} {n m h:Nat} {x y:Value} {Q:Value→Shared→Prop} {E:Value→Shared→Prop} {env:Env} {fr:Fr} {K:V→St→MS} {p:Addr×Addr} {l k:List V} {xs:List Value}
abbrev EK (C:Ctx0) (h:Nat) (A:Around) (K:V→St→MS) (W:Wd) (Q:Value→Shared→Prop):Prop:=∀ v x W' σ',Va C W v x W' σ'→Den C h A (K v σ')→Q x W'.s
theorem EK.vk (q:EK C h A K W Q) (d:Den C h A (K z σ)):VK C W z σ Q:=fun x W' a=>q z x W' σ a d
theorem EK.nx (q:EK C h A K W Q) (x:Nx C [] W W₁ σ):EK C h A K W₁ Q:=fun v y W' σ' a d=>q v y W' σ' ⟨x.trans a.n,a.r⟩ d
theorem list_turn {ys:List Value} {t i:Nat} {f:Array Value→Array Value} (R:Inv C W σ) (e:W.r.own[m]?=some p) (he:p.2=p.1) (hl:IsL W.s.heap p.1 xs.toArray i) (hf:f xs.toArray=ys.toArray) (r:Reps C W.r l ys) (hz:Sm l) :
  Nx C [] W (W.put (W.s.heap.update p.1 (Obj.mapSeq f)) t) (σ.set m (.list l)) :=
 .turn R e (fun b o q e'=>Heap.get?_update_of_ne _ (fun z=>q (.inl z.symm)) e') fun I=>.list (n:=if (f xs.toArray).size==xs.toArray.size then i else i+1) (hf▸IsL.update hl f) r hz he
theorem d_app (R:Inv C W σ) (e:W.r.own[m]?=some p) (r:Rep C W.r v x) (d:Den C h A (.ask (σ[m]?) (appS m v K σ))) (q:EK C h A K W Q):wpAny C.M A (call (.builtin "list.append") [.ref p.1,x]) Q E W.s:=by
 obtain ⟨o,ho,d⟩:=d
 cases o with
 | list l =>
  obtain ⟨hz,d⟩:=d
  exact (R.obs m p _ e ho).elL fun xs i a b c he=>call_meets F.slot_list_append (IsL.isList a).typeIs F.entry_list_append (F.args_list_append_2 _ _) (list_append p.1 xs.toArray i x (b.sm c)) ⟨a,q.vk d _ _ ⟨list_turn (f:=fun xs=>xs.push x) R e he a (List.push_toArray xs x) (b.append (.cons r .nil)) (Nat.le_trans (Nat.le_of_eq List.length_append) (of_decide_eq_true hz)),.none⟩⟩
 | _=>exact d.elim
theorem d_ext (R:Inv C W σ) (e:W.r.own[m]?=some p) (r:Rep C W.r v x) (d:Den C h A (.ask (listOf σ v) (wExt m K σ))) (q:EK C h A K W Q):wpAny C.M A (call (.builtin "list.extend") [.ref p.1,x]) Q E W.s:=by
 obtain ⟨k,hk,o,ho,d⟩:=d
 cases o with
 | list l =>
  obtain ⟨hz,d⟩:=d
  refine list_el R r hk fun a2 ws hl2 r2 I=>(R.obs m p _ e ho).elL fun xs i a b c he=>?_
  have S:Sm (l++k):=sm_app (of_decide_eq_true hz)
  have rr:=b.append r2
  have hs:xs.toArray.size+ws.toArray.size≤sizeLine:=Nat.le_trans (Nat.le_of_eq List.length_append.symm) (rr.sm S)
  refine call_meets F.slot_list_extend (IsL.isList a).typeIs F.entry_list_extend (F.args_list_extend_2 _ _) (list_extend_any p.1 xs.toArray i a2 ws.toArray (fun z=>?_) (b.sm c) (Nat.le_succ_of_le hs)) ⟨a,hl2,q.vk d _ _ ⟨list_turn (f:=fun x=>x++ws.toArray) R e he a app_arr rr S,.none⟩⟩
  exact an z fun I z=>absurd (of_decide_eq_true z) (Nat.not_lt.mpr hs)
 | _=>exact d.elim
theorem d_pop (R:Inv C W σ) (e:W.r.own[m]?=some p) (d:Den C h A (.ask (σ[m]?) (popS m K σ))) (q:EK C h A K W Q):wpAny C.M A (call (.builtin "list.pop") [.ref p.1]) Q E W.s:=by
 obtain ⟨o,ho,d⟩:=d
 cases o with
 | list l =>
  obtain ⟨v,hl,d⟩:=d
  refine (R.obs m p _ e ho).elL fun xs i a b c he=>?_
  obtain ⟨y,ey,ry⟩:=b.get (show l[l.length - 1]?=some v from List.getLast?_eq_getElem? (l:=l)▸hl)
  rw [b.len] at ey
  refine call_meets F.slot_list_pop (IsL.isList a).typeIs F.entry_list_pop (F.args_list_pop_1 _) (MeetsSeq.list_pop_last p.1 xs.toArray i y ((List.getElem?_toArray ..).trans ey) (b.sm c)) ⟨a,q.vk d _ _ ⟨list_turn (f:=fun ys=>ys.eraseIdxIfInBounds (xs.toArray.size - 1)) (ys:=xs.take (xs.length - 1)) R e he a ?_ ?_ ?_,ry⟩⟩
  ·have h0:0 < xs.length:=List.length_pos_iff.mpr fun z=>by rw [z] at ey;exact no ey
   apply Array.ext'
   rw [Array.toList_eraseIdxIfInBounds,List.eraseIdx_eq_take_drop_succ]
   show List.take (xs.length - 1) xs++List.drop (xs.length - 1+1) xs=_
   rw [Nat.sub_add_cancel h0,List.drop_length,List.append_nil]
  ·exact (List.dropLast_eq_take (l:=l)).symm▸b.len▸b.take _
  ·exact Nat.le_trans (Nat.le_of_eq List.length_dropLast) (Nat.le_trans (Nat.sub_le _ _) c)
 | _=>exact d.elim
theorem d_get {d':V} (Rm:Room A n) (R:Inv C W σ) (e:W.r.own[m]?=some p) (r:Rep C W.r v x) (r':Rep C W.r d' y) (d:Den C h A (.ask (σ[m]?) (getS v d' K σ))) (q:EK C h A K W Q):wpAny C.M A (call (.builtin "dict.get") [.ref p.1,x,y]) Q E W.s:=by
 obtain ⟨o,ho,d⟩:=d
 cases o with
 | dict es=>obtain ⟨hk,d⟩:=d;exact (R.obs m p _ e ho).elD fun D I I=>(dict_ops Rm R r hk (ne_sys R e) D).dflt r' fun I I rv=>(q.vk d).tk R rv
 | _=>exact d.elim
theorem join_sum (sep:Str):∀ (l:List Str) (n:Nat),l.foldl (fun (a:Nat) (x:Str)=>a+x.length+sep.length) n=n+((l.map fun x=>x.cps.size).sum+sep.cps.size * l.length)
 | [],n=>rfl
 | x::l,n=>by
  rw [List.foldl_cons,join_sum sep l,List.map_cons,List.sum_cons,List.length_cons,Nat.mul_succ]
  show n+x.cps.size+sep.cps.size+_=_
  fail "a"
theorem strs_rep {r:Rn}:∀ {xs:List Value} {ss:List Str},Reps C r l xs→allStrs l=some ss→∃ lp:List (Str×Tok),strValues lp=xs∧lp.map (·.1)=ss:=by
 induction l with
 | nil=>exact fun q e=>q.el0 (so e.symm ⟨[],rfl,rfl⟩)
 | cons v l ih =>
  refine fun q e=>q.el1 fun x xs a b=>?_
  cases v with
  | str i=>exact mp (show (allStrs l).map (i::·)=some _ from e) fun ss' e' e2=>(by obtain ⟨lp,h1,h2⟩:=ih b e';exact a.elS fun t=>⟨(i,t)::lp,congrArg (Value.str i t::·) h1,(congrArg (i::·) h2).trans e2⟩)
  | _=>exact no e
theorem sim_join {sep:Str} {t:Tok} {ss:List Str} (R:Inv C W σ) (r:Rep C W.r v x) (hk:listOf σ v=some k) (hs:allStrs k=some ss) (hz:(ss.map fun x=>x.cps.size).sum+sep.cps.size * ss.length≤cap) (q:VK C W (.str (joinStr sep ss)) σ Q) :
  wpAny C.M A (call (.builtin "str.join") [.str sep t,x]) Q E W.s:=by
 refine list_el R r hk fun a xs hl rs I=>?_
 obtain ⟨lp,rfl,rfl⟩:=strs_rep rs hs
 have hsum:((lp.map (·.1)).toArray.foldl (·+·.length+sep.length) 0)=((lp.map (·.1)).map fun x=>x.cps.size).sum+sep.cps.size * (lp.map (·.1)).length:=by
  rw [List.foldl_toArray',join_sum,Nat.zero_add]
  ·simp
 refine call_meets F.slot_str_join (typeIs_str _ _ _) F.entry_str_join (F.args_str_join_2 _ _) (meets_str_join_list sep t a lp ?_) ⟨hl,?_⟩
 ·rw [hsum];exact decide_eq_false (Nat.not_lt.mpr (Nat.le_trans hz (by decide)))
 have hg:(Builtin.Str.glued sep (lp.map (·.1))).length≤sizeLine:=by
  rw [size_glued]
  refine Nat.le_trans (Nat.add_le_add_left ?_ _) (Nat.le_trans hz cap_line)
  rw [Nat.mul_comm]
  exact Nat.mul_le_mul_left _ (Nat.sub_le _ _)
 unfold joinMade
 split
 ·exact q.at R (.str _ _)
 ·exact ⟨hg,q.tk R (.str _ _)⟩
end
section
variable {C:Ctx0} {A:Around} {W W' W₁:Wd} {σ σ':St} {v u z:V} {n m h:Nat} {x y:Value} {Q:Value→Shared→Prop} {E:Value→Shared→Prop} {env:Env} {fr:Fr} {K:V→St→MS} {p:Addr×Addr} {l k:List V} {xs:List Value} {es:List Expr} {pos:Pos}
theorem star_plain:∀ {es:List Expr},noStar es=true→starEach es env=es.map fun e=>(false,eval e env)
 | [],_=>rfl
 | e::es,h=>an h fun h1 h2=>by
  have:starEach (e::es) env=(false,eval e env)::starEach es env:=by cases e<;>first | rfl | exact nf h1
  rw [this,star_plain h2];rfl
theorem backTo_plain:∀ {es:List Expr},backTo pos (es.map fun e=>(false,eval e env))=es.map fun e=>(false,eval e env)
 | []=>rfl
 | e::es=>by
  have ih:=backTo_plain (es:=es)
  unfold backTo at ih ⊢
  rw [List.map_cons,List.map_cons,ih]
  rfl
theorem args_plain (h:noStar es=true):backTo pos (starEach es env)=es.map fun e=>(false,eval e env):=(congrArg (backTo pos) (star_plain h)).trans backTo_plain
noncomputable def Kept (C:Ctx0) (f:Value):Prop:=∀ h,C.K.In h→∃ k,(k=Keeper.frame∨k=Keeper.machine∨k=Keeper.boundFrame)∧Looks C.M h (keeperOf f) k
theorem kept_non {f:Value} (hf:∀ a,f≠.ref a):Kept C f:=fun h I=>by
 refine ⟨.machine,.inr (.inl rfl),?_⟩
 unfold keeperOf
 cases f<;>first | exact absurd rfl (hf _) | exact .now
theorem kept_K {f:Value} (k:keepIn C.K f=true):Kept C f:=fun h X=>keeps_K k h X
theorem any_false:∀ {es:List Expr},((es.map fun e=>(false,eval e env)).any (·.1))=false
 | []=>rfl
 | _::es=>any_false (es:=es)
theorem d_callWith (O:C.Ok) {Kl:List V→St→MS} {f:Value} {first:List Value} (H:Here C fr env σ W) (ns:noStar es=true) (d:Den C h A (.evs es fr σ Kl)) (hk:Kept C f)
  (q:∀ vs xs W' σ',Nx C [] W W' σ'→Reps C W'.r vs xs→Den C h A (Kl vs σ')→wpAny C.M A (call f (first++xs)) Q E W'.s):wpAny C.M A (callWith pos f first (backTo pos (starEach es env)) []) Q E W.s:=by
 rw [args_plain ns]
 have hs:∀ {Q:List Value→Shared→Prop},(∀ vs xs W' σ',Nx C [] W W' σ'→Reps C W'.r vs xs→Den C h A (Kl vs σ')→Q xs W'.s)→wpAny C.M A (evalArgs f true (es.map fun e=>(false,eval e env)) []) (fun a s'=>a.kw=[]∧Q a.pos s') E W.s:=fun {Q} hq=>by
  have hh:=d W env (fun vs s'=>(([]:List (Str×Value))=[]∧Q vs s')) E H fun vs xs W' σ' a b I c=>⟨rfl,hq vs xs W' σ' a b c⟩
  cases es with
  | nil=>exact fun Γ p hΓ=>evalArgs_nil3 (hh Γ p hΓ) Γ p hΓ
  | cons e er=>exact evalArgs_plain hh
 refine callWith_of (P:=C.K.In) (by rw [any_false];rfl) hk (wpAny_mono (hs (Q:=fun xs s'=>C.K.In s'.heap∧wpAny C.M A (call f (first++xs)) Q E s') fun vs xs W' σ' a b c=>⟨base_K O a.R,q vs xs W' σ' a b c⟩) (fun a s' z=>?_) fun I I x=>x)
 exact ⟨z.2.1,z.1.symm▸z.2.2⟩
theorem d_fn {r:FnRec} {args:List V} {f:Addr} (Rm:Room A (2 * h)) (R:Inv C W σ) (H:FnAt C f r) (hr:Reps C W.r args xs) (d:Den C h A (.call r args σ K)) (q:EK C h A K W Q):wpAny C.M A (call (.ref f) xs) Q E W.s :=
 wpAny_call (d W f xs A _ H hr R Rm q)
theorem short_le {α:Type}:∀ {n:Nat} {l:List α},short n l=true→l.length≤n
 | _,[],_=>Nat.zero_le _
 | 0,_::_,h=>nf h
 | n+1,_::l,h=>Nat.succ_le_succ (short_le (l:=l) h)
theorem meth_open {o:Expr} {ap p:Pos} {args:List Expr} {m:Str} (hf:methForm o ap p args=true) (hn:noStar args=true)
  (hh:wpAny C.M A (eval o env) (fun ov s₁=>∀ pl,wpAny C.M A (getMethod ov m pl) (fun fx s₂=>wpAny C.M A (callWith p fx.1 fx.2 (backTo p (starEach args env)) []) Q E s₂) E s₁) E W.s) :
  wpAny C.M A (eval (.Call (.Attribute o m ap) args [] p) env) Q E W.s:=by
 refine an hf fun h1 h3=>an h1 fun h1 h2=>?_
 rw [arm_eval_Call,attributeBase_of h1]
 refine wpAny_bind (wpAny_mono hh (fun ov s₁ h₁=>wpAny_bind (wpAny_standAt ?_)) fun I I x=>x)
 have hform:methodCallForm (args.length+([]:List Keyword).length) (backTo p (starEach args env)) (backToKw p (keywordEach [] env))=true:=by
  unfold methodCallForm
  rw [args_plain hn,arm_keywordEach_nil]
  have:=short_le h3
  simp [backToKw]
  fail "a"
 have hpos:methodCallPos true o env ap p=pure p:=by unfold methodCallPos;simp [h2]
 unfold methodCall
 rw [hform]
 exact wpAny_bind (wpAny_holding (wpAny_mono (h₁ _) (fun fx s₂ h₂=>wpAny_bind (wpAny_of_eq hpos h₂)) fun I I x=>x))
theorem name_is {x:Str} {s:String} {P:Prop} (h:sBeq x (Str.ofString s)=true) (k:x=Str.ofString s→P):P:=k (of_decide_eq_true ((sBeq_eq x _).symm.trans h))
theorem d_bif {c:Bool} {p q:MS} {P:Prop} (d:Den C h A (bif c then p else q)) (k:c=true→Den C h A p→P) (k':Den C h A q→P):P:=by cases c with
 | true=>exact k rfl d
 | false=>exact k' d
theorem d_meth (O:C.Ok) (Rm:Room A (2 * h+1)) {o:Expr} {ap p:Pos} {args:List Expr} {m:Str} (hf:methForm o ap p args=true) (hn:noStar args=true) (d:Den C h A (.ev o fr σ (wMeth m args fr K))):Den C h A (.ev (.Call (.Attribute o m ap) args [] p) fr σ K):=by
 intro W env Q E H q
 refine meth_open hf hn (d W env _ E H fun a x W₁ σ₁ va d pl=>?_)
 have R₁:=va.n.R
 have H₁:=H.nx0 va.n
 replace q:=EK.nx q va.n
 cases a with
 | str w =>
  refine d_bif (q:=.done False) d (fun hm d=>name_is hm fun hm=>va.r.elS fun t=>?_) False.elim
  subst hm
  refine getMethod_builtin (typeIs_str _ _ _) PySem.F.plainAttrs_str PySem.F.slot_str_join PySem.F.type_str_join (fun a e=>nomatch e) (d_callWith O H₁ hn d (kept_non fun a e=>nomatch e) fun vs xs W₂ σ₂ nx rx d=>?_)
  cases rx with
  | nil=>exact d.elim
  | cons ra rx=>cases rx with
   | cons=>exact d.elim
   | nil=>obtain ⟨k,hk,ss,hs,hz,d⟩:=d;exact sim_join nx.R ra hk hs (of_decide_eq_true hz) ((q.nx nx).vk d)
 | loc m' =>
  obtain ⟨ob,ho,d⟩:=d
  refine va.r.elO fun p₀ e₀=>?_
  have X:=R₁.obs m' p₀ _ e₀ ho
  cases ob with
  | list l₀ =>
   refine X.elL fun zs k ha I I I=>?_
   have hT:=(IsL.isList ha).typeIs
   have hd:∀ a,Value.ref p₀.1=.ref a→∃ o,W₁.s.heap.get? a=some o∧o.dict=none:=fun a e=>Value.ref.inj e▸⟨_,ha,rfl⟩
   refine d_bif d (fun hm d=>name_is hm fun hm=>?_) fun d=>d_bif d (fun hm d=>name_is hm fun hm=>?_) fun d=>d_bif (q:=.done False) d (fun hm d=>name_is hm fun hm=>?_) False.elim
   ·subst hm
    refine getMethod_builtin hT PySem.F.plainAttrs_list PySem.F.slot_list_append PySem.F.type_list_append hd (d_callWith O H₁ hn d (kept_non fun a e=>nomatch e) fun vs xs W₂ σ₂ nx rx d=>?_)
    cases rx with
    | nil=>exact d.elim
    | cons ra rx=>cases rx with
     | cons=>exact d.elim
     | nil=>exact d_app nx.R (nx.S.le.own _ _ e₀) ra d (q.nx nx)
   ·subst hm
    refine getMethod_builtin hT PySem.F.plainAttrs_list PySem.F.slot_list_extend PySem.F.type_list_extend hd (d_callWith O H₁ hn d (kept_non fun a e=>nomatch e) fun vs xs W₂ σ₂ nx rx d=>?_)
    cases rx with
    | nil=>exact d.elim
    | cons ra rx=>cases rx with
     | cons=>exact d.elim
     | nil=>exact d_ext nx.R (nx.S.le.own _ _ e₀) ra d (q.nx nx)
   ·subst hm
    refine getMethod_builtin hT PySem.F.plainAttrs_list PySem.F.slot_list_pop PySem.F.type_list_pop hd (d_callWith O H₁ hn d (kept_non fun a e=>nomatch e) fun vs xs W₂ σ₂ nx rx d=>?_)
    cases rx with
    | nil=>exact d_pop nx.R (nx.S.le.own _ _ e₀) d (q.nx nx)
    | cons ra rx=>exact d.elim
  | dict es =>
   refine X.elD fun D I I=>d_bif (q:=.done False) d (fun hm d=>name_is hm fun hm=>?_) False.elim
   subst hm
   obtain ⟨o,e,hx⟩:=D.ex
   refine getMethod_builtin ⟨o,e,hx.1⟩ PySem.F.plainAttrs_dict PySem.F.slot_dict_get PySem.F.type_dict_get (fun a z=>Value.ref.inj z▸⟨o,e,hx.2.1⟩) (d_callWith O H₁ hn d (kept_non fun a e=>nomatch e) fun vs xs W₂ σ₂ nx rx d=>?_)
   cases rx with
   | nil=>exact d.elim
   | cons ra rx=>cases rx with
    | nil=>exact d.elim
    | cons rb rx=>cases rx with
     | cons=>exact d.elim
     | nil=>exact d_get Rm nx.R (nx.S.le.own _ _ e₀) ra rb d (q.nx nx)
  | inst c fs =>
   have d:Den C h A (match kindW fs m with | some _=>MS.done False | none=>match methW c m with | some r=>.evs args fr σ₁ (wMFn r m' K) | none=>.done False):=d
   cases hk:kindW fs m with
   | some _=>rw [hk] at d;exact d.elim
   | none=>cases hr:methW c m with
    | none=>rw [hk,hr] at d;exact d.elim
    | some r =>
     rw [hk,hr] at d
     refine X.elI fun D es n' ha hb hc hd I=>?_
     obtain ⟨hcn,f,g1,g2,⟨H₂,g3⟩⟩:=O.meth _ _ _ _ hr ha
     have CO:=O.cls c D hcn ha
     have G:=hd.find (k:=m)
     rw [hk] at G
     generalize hg:getL m es=w at G
     cases G
     exact method_fn (base_K O R₁) (instAt_of hb hc) (plainGet_of (CO.get m)).1 (plainGet_of (CO.get m)).2 g1 (beq_iff_eq.mp g2) (congrArg (Option.map _) ((lookIn_dict ..).trans hg))
      (d_callWith O H₁ hn d (kept_K g3) fun vs xs W₂ σ₂ nx rx d=>d_fn (Rm.less (Nat.le_succ _)) nx.R H₂ (.cons (.loc (nx.S.le.own _ _ e₀)) rx) d (q.nx nx))
 | _=>exact d.elim
end
end Mine
namespace Mine
open PySem PySem.W PySem.Calls PyProof.Rows PySem.SeqAt PySem.Spec
theorem ins_c {α:Type} (lt:α→α→Bool) (a b:α) (r:List α):insSort.ins lt a (b::r)=if lt b a then b::insSort.ins lt a r else a::b::r:=rfl
theorem sort_c {α:Type} (lt:α→α→Bool) (a:α) (l:List α):insSort lt (a::l)=insSort.ins lt a (insSort lt l):=rfl
theorem ins_perm {α:Type} (lt:α→α→Bool) (a:α):∀ l:List α,(insSort.ins lt a l).Perm (a::l)
 | []=>List.Perm.refl _
 | b::r=>by
  rw [ins_c]
  split
  ·exact (List.Perm.cons b (ins_perm lt a r)).trans (List.Perm.swap a b r)
  ·exact List.Perm.refl _
theorem insSort_perm {α:Type} (lt:α→α→Bool):∀ l:List α,(insSort lt l).Perm l
 | []=>List.Perm.refl _
 | a::l=>(ins_perm lt a _).trans (List.Perm.cons a (insSort_perm lt l))
structure Ord {α:Type} (lt:α→α→Bool):Prop where
 tr:∀ a b c,lt b a=false→lt c b=false→lt c a=false
 as:∀ a b,lt a b=true→lt b a=false
 an:∀ a b,lt a b=false→lt b a=false→a=b
theorem ins_sorted {α:Type} {lt:α→α→Bool} (O:Ord lt) (a:α):∀ l:List α,l.Pairwise (fun x y=>lt y x=false)→(insSort.ins lt a l).Pairwise (fun x y=>lt y x=false)
 | [],_=>List.pairwise_cons.mpr ⟨fun I h=>(nomatch h),.nil⟩
 | b::r,h=>by
  obtain ⟨h1,h2⟩:=List.pairwise_cons.mp h
  rw [ins_c]
  split
  ·rename_i q
   exact List.pairwise_cons.mpr ⟨fun x hx=>(List.mem_cons.mp ((ins_perm lt a r).mem_iff.mp hx)).elim (fun e=>e▸O.as _ _ q) (h1 x),ins_sorted O a r h2⟩
  ·rename_i q
   have q:=Bool.eq_false_iff.mpr q
   exact List.pairwise_cons.mpr ⟨fun x hx=>(List.mem_cons.mp hx).elim (fun e=>e▸q) fun hx=>O.tr _ _ _ q (h1 x hx),h⟩
theorem insSort_sorted {α:Type} {lt:α→α→Bool} (O:Ord lt):∀ l:List α,(insSort lt l).Pairwise (fun x y=>lt y x=false)
 | []=>.nil
 | a::l=>ins_sorted O a _ (insSort_sorted O l)
theorem ord_of {α:Type} {f:α→Nat} (hf:∀ a b,f a=f b→a=b):Ord fun a b=>decide (f a < f b) where
 tr _ _ _ h k:=decide_eq_false (Nat.not_lt.mpr (Nat.le_trans (Nat.not_lt.mp (of_decide_eq_false h)) (Nat.not_lt.mp (of_decide_eq_false k))))
 as _ _ h:=decide_eq_false (Nat.not_lt.mpr (Nat.le_of_lt (of_decide_eq_true h)))
 an _ _ h k:=hf _ _ (Nat.le_antisymm (Nat.not_lt.mp (of_decide_eq_false k)) (Nat.not_lt.mp (of_decide_eq_false h)))
theorem sorted_uniq {α:Type} {lt:α→α→Bool} (O:Ord lt):∀ {l k:List α},l.Perm k→l.Pairwise (fun x y=>lt y x=false)→k.Pairwise (fun x y=>lt y x=false)→l=k
 | [],k,hp,_,_=>(List.nil_perm.mp hp).symm
 | a::l,[],hp,_,_=>nomatch hp.length_eq
 | a::l,b::k,hp,h1,h2=>by
  obtain ⟨h3,h4⟩:=List.pairwise_cons.mp h1
  obtain ⟨h5,h6⟩:=List.pairwise_cons.mp h2
  have e:a=b:=(List.mem_cons.mp (hp.mem_iff.mp (.head _))).elim id fun q1=>(List.mem_cons.mp (hp.mem_iff.mpr (.head _))).elim Eq.symm fun q2=>(O.an b a (h3 b q2) (h5 a q1)).symm
  subst e
  exact congrArg (a::·) (sorted_uniq O ((List.perm_cons a).mp hp) h4 h6)
theorem sort_is {α:Type} {lt:α→α→Bool} (O:Ord lt) {is js:List α} (hp:js.Perm is) (h:js.Pairwise fun x y=>lt y x=false):js=insSort lt is:=sorted_uniq O (hp.trans (insSort_perm _ _).symm) h (insSort_sorted O is)
theorem ord_int:Ord fun (a b:Int)=>decide (a < b) :=
 have f:∀ {a b:Int},decide (a < b)=false→b≤a:=fun h=>Int.not_lt.mp (of_decide_eq_false h)
 ⟨fun I I I h1 h2=>decide_eq_false (Int.not_lt.mpr (Int.le_trans (f h1) (f h2))),fun I I h=>decide_eq_false (Int.lt_asymm (of_decide_eq_true h)),fun I I h1 h2=>Int.le_antisymm (f h2) (f h1)⟩
theorem ord_str:Ord strLt :=
 have f:∀ {a b:Str},strLt a b=false→b.cps.toList≤a.cps.toList:=fun h=>of_decide_eq_false h
 ⟨fun I I I h1 h2=>decide_eq_false (List.le_trans (f h1) (f h2)),fun I I h=>decide_eq_false (List.lt_asymm (of_decide_eq_true h)),fun a b h1 h2=>by
  obtain ⟨⟨x⟩⟩:=a;obtain ⟨⟨y⟩⟩:=b
  exact congrArg (fun l=>(⟨⟨l⟩⟩:Str)) (List.le_antisymm (f h2) (f h1))⟩
theorem rising_pair:∀ (p:Str) (l:List Str),risingS p l=true→(p::l).Pairwise (fun a b=>strLt b a=false)
 | p,[],_=>List.pairwise_cons.mpr ⟨fun I h=>(nomatch h),.nil⟩
 | p,x::r,h=>an h fun h1 h2=>by
  have ih:=rising_pair x r h2
  have hx:strLt x p=false:=(ltCps_eq _ _).symm.trans (Bool.not_eq_true' _▸h1)
  exact List.pairwise_cons.mpr ⟨fun y hy=>(List.mem_cons.mp hy).elim (fun e=>e▸hx) fun hy=>ord_str.tr _ _ _ hx ((List.pairwise_cons.mp ih).1 y hy),ih⟩
theorem rising_all:∀ {l:List Str},sortedS l=true→l.Pairwise fun a b=>strLt b a=false
 | [],_=>.nil
 | p::r,h=>rising_pair p r h
section
variable {C:Ctx0} {A:Around} {W:Wd} {r:Rn} {σ:St} {v z:V} {n m h:Nat} {x y:Value} {Q:Value→Shared→Prop} {E:Value→Shared→Prop} {K:V→St→MS} {p:Addr×Addr} {l k:List V}
theorem ints_of {l:List V}:∀ {xs:List Value} {is:List Int},Reps C r l xs→allInts l=some is→IntsAre xs is:=by
 induction l with
 | nil=>exact fun h e=>so e.symm (h.el0 .nil)
 | cons v l ih =>
  refine fun h e=>h.el1 fun x xs a b=>?_
  cases v with
  | int i=>exact mp (show (allInts l).map (i::·)=some _ from e) fun js e1 e2=>e2▸a.elI fun t=>.cons i t (ih b e1)
  | _=>exact no e
theorem strs_of {l:List V}:∀ {xs:List Value} {is:List Str},Reps C r l xs→allStrs l=some is→StrsAre xs is:=by
 induction l with
 | nil=>exact fun h e=>so e.symm (h.el0 .nil)
 | cons v l ih =>
  refine fun h e=>h.el1 fun x xs a b=>?_
  cases v with
  | str i=>exact mp (show (allStrs l).map (i::·)=some _ from e) fun js e1 e2=>e2▸a.elS fun t=>.cons i t (ih b e1)
  | _=>exact no e
theorem ints_tag:∀ {l:List V} {is},allInts l=some is→l=is.map .int
 | [],_,e=>so e.symm rfl
 | .int i::l,_,e=>mp (show (allInts l).map (i::·)=some _ from e) fun js e1 e2=>e2▸congrArg (V.int i::·) (ints_tag e1)
theorem strs_tag:∀ {l:List V} {is},allStrs l=some is→l=is.map .str
 | [],_,e=>so e.symm rfl
 | .str i::l,_,e=>mp (show (allStrs l).map (i::·)=some _ from e) fun js e1 e2=>e2▸congrArg (V.str i::·) (strs_tag e1)
theorem tag_of {α:Type} {f:α→V} {t:Nat} (g:∀ a,(f a).tag=t) {es:List (V×V)} {is:List α} (e:es.map (·.1)=is.map f):allTag t es=true:=List.all_eq_true.mpr fun p m =>
 have m:p.1∈is.map f:=e▸List.mem_map_of_mem m
 (by obtain ⟨a,_,e⟩:=List.mem_map.mp m;exact beq_iff_eq.mpr (e▸g a))
theorem ints_reps:∀ {xs:List Value} {is:List Int},IntsAre xs is→Reps C r (is.map .int) xs
 | _,_,.nil=>.nil
 | _,_,.cons n t r=>.cons (.int n t) (ints_reps r)
theorem strs_reps:∀ {xs:List Value} {is:List Str},StrsAre xs is→Reps C r (is.map .str) xs
 | _,_,.nil=>.nil
 | _,_,.cons n t r=>.cons (.str n t) (strs_reps r)
theorem bools_of {l:List V}:∀ {xs:List Value} {is:List Bool},Reps C r l xs→allBools l=some is→LSm.BoolsAre xs is:=by
 induction l with
 | nil=>exact fun h e=>so e.symm (h.el0 .nil)
 | cons v l ih =>
  refine fun h e=>h.el1 fun x xs a b=>?_
  cases v with
  | bool i=>exact mp (show (allBools l).map (i::·)=some _ from e) fun js e1 e2=>e2▸a.elB (.cons i (ih b e1))
  | _=>exact no e
theorem sortV_el {P:Prop} (h:sortV l=some k) (f:l.length < 64→(∃ is,allInts l=some is∧k=(insSort (fun a b=>decide (a < b)) is).map .int)∨(∃ ss,allStrs l=some ss∧k=(insSort strLt ss).map .str)→P):P :=
 ifn h fun hl h=>f (Nat.not_le.mp hl) (by
  cases hI:allInts l with
  | some is=>rw [hI] at h;exact .inl ⟨is,rfl,(Option.some.inj h).symm⟩
  | none =>
   rw [hI] at h
   cases hS:allStrs l with
   | some ss=>rw [hS] at h;exact .inr ⟨ss,rfl,(Option.some.inj h).symm⟩
   | none=>rw [hS] at h;exact no h)
abbrev HExt (h h':Heap):Prop:=∀ b o,h.get? b=some o→h'.get? b=some o
theorem Nx.newD (R:Inv C W σ) {h':Heap} {t:Nat} {D:Addr} {o:Obj} (d:W.s.heap.get? D=none) (k:HExt W.s.heap h') (e:h'.get? D=some o):Nx C [] W ⟨W.r.frz D o,(W.put h' t).s⟩ σ :=
 have x:=Nx.ext R (t:=t) k
 (x.wide.trans (Nx.frz x.R (R.dead d) e)).to fun I m=>.inr (List.mem_singleton.mp m▸d)
theorem Nx.newO (R:Inv C W σ) {h':Heap} {t:Nat} {o:Ob} (d:∀ a,At p a→W.s.heap.get? a=none∧sysModules < a) (k:HExt W.s.heap h') (X:ObRep C (W.r.add p) h' p o):Nx C [] W ⟨W.r.add p,(W.put h' t).s⟩ (σ++[o]) :=
 have x:=Nx.ext R (t:=t) k
 (x.wide.trans (Nx.own x.R (fun a m=>⟨R.dead (d a m).1,(d a m).2⟩) X)).to fun a m=>.inr ((List.mem_cons.mp m).elim (fun e=>(d a (.inl e)).1) fun m=>(d a (.inr (List.mem_singleton.mp m))).1)
theorem own_new (R:Inv C W σ) (p:Addr×Addr):(W.r.add p).own[σ.length]?=some p:=R.len▸List.getElem?_concat_length
abbrev ColK (C:Ctx0) (W:Wd) (l:List V) (P:List Value→Shared→Prop):Prop:=∀ h' tk ys,HExt W.s.heap h'→Reps C W.r l ys→P ys { W.s with heap:=h',toks:=tk }
theorem sorted_core (O:C.Ok) (R:Inv C W σ) (hk:sortV l=some k) (hc:∀ {P:List Value→Shared→Prop},ColK C W l P→wpAny C.M A.in1 (collect x) P E W.s)
  (q:∀ (D:Addr) h' tk e out,W.s.heap.get? D=none∧sysModules < D→HExt W.s.heap h'→h'.get? D=some (seqObj "list" out.toArray e)→Reps C W.r k out→Sm k→Q (.ref D) { W.s with heap:=h',toks:=tk }) :
  wpAny C.M A (call (.builtin "sorted") [x]) Q E W.s:=by
 refine sortV_el hk fun h64 hk=>Calls.call_function_entry kind_sorted plain_sorted entry_sorted (args_sorted1 _) ?_
 unfold Builtin.«sorted»
 refine wpAny_bind (m:=checkCount "sorted" 1 1 _) (wpAny_pure (wpAny_bind (hc fun h' tk ys hkeep hr=>?_)))
 have hy64:ys.length < 64:=hr.len▸h64
 have sm:∀ {z:List V},z.length=l.length→Sm z:=fun e=>Nat.le_trans (Nat.le_of_eq e) (Nat.le_trans (Nat.le_of_lt h64) (by decide))
 refine wpAny_bind (wpAny_newList ?_ (Nat.le_trans (Nat.le_of_lt hy64) (by decide)))
 have ho:(h'.push (seqObj "list" ys.toArray 0)).get? h'.objs.size=some (seqObj "list" ys.toArray 0):=Heap.get?_push_size _ rfl
 show wpAny _ _ _ _ _ { W.s with heap:=h'.push (seqObj "list" ys.toArray 0),toks:=tk }
 have fin:∀ (out:Array Value),Reps C W.r k out.toList→Sm k→Q (.ref h'.objs.size) { W.s with heap:=sortedHeap (h'.push (seqObj "list" ys.toArray 0)) h'.objs.size ys out,toks:=tk }:=fun out hr hz=>by
  obtain ⟨e,he⟩:=sortedHeap_at (out:=out) ho
  refine q _ _ tk e out.toList ⟨?_,?_⟩ (fun b o e=>?_) (Array.toArray_toList (xs:=out)▸he) hr hz
  ·cases z:W.s.heap.get? h'.objs.size with
   | none=>rfl
   | some o=>exact absurd (Heap.lt_size (hkeep _ _ z)) (Nat.lt_irrefl _)
  ·exact (by obtain ⟨_,_,_,e,_⟩:=O.g;exact Nat.lt_trans (by decide:sysModules < mainGlobals) (Heap.lt_size (hkeep _ _ (R.keepB _ _ e))))
  ·have e':=hkeep b o e
   have hlt:=Heap.lt_size e'
   exact (sortedHeap_old (Nat.ne_of_lt hlt) (by rw [size_push'];exact Nat.lt_succ_of_lt hlt)).trans (Heap.get?_push_of_some _ e')
 rcases hk with ⟨is,hI,hk⟩ | ⟨ss,hS,hk⟩
 ·have i1:=ints_of hr hI
  have i3:l.length=is.length:=ints_tag hI▸List.length_map _
  refine wpAny_bind (wpAny_holding (wpAny_call_entry slot_list_sort ⟨_,ho,rfl⟩ entry_list_sort (list_sort_tree (s:={ W.s with heap:=h'.push (seqObj "list" ys.toArray 0),toks:=tk }) ho i1 hy64 fun out ns' a1 a2 a3=>⟨_,rfl,?_⟩) (args_list_sort _)))
  have e:=sort_is ord_int a2 (a3.imp fun q=>decide_eq_false (Int.not_lt.mpr q))
  exact wpAny_pure ⟨_,rfl,fin out (hk▸e▸ints_reps a1) (sm (hk▸(List.length_map _).trans ((insSort_perm _ _).length_eq.trans i3.symm)))⟩
 ·have i1:=strs_of hr hS
  have i3:l.length=ss.length:=strs_tag hS▸List.length_map _
  refine wpAny_bind (wpAny_holding (wpAny_call_entry slot_list_sort ⟨_,ho,rfl⟩ entry_list_sort (list_sort_treeK (s:={ W.s with heap:=h'.push (seqObj "list" ys.toArray 0),toks:=tk }) strKind_oneLt ho i1.keysOf (fun v₁ v₂ rest e=>keyKind_strs (e▸i1)) hy64 fun st' a1 a2=>⟨_,rfl,?_⟩) (args_list_sort _)))
  obtain ⟨ss',h1,h2,h3⟩:=sorted_out_str i1 a1 a2
  have e:=sort_is ord_str h2 (rising_all h3)
  exact wpAny_pure ⟨_,rfl,fin _ (hk▸e▸strs_reps h1) (sm (hk▸(List.length_map _).trans ((insSort_perm _ _).length_eq.trans i3.symm)))⟩
theorem keys_reps {K':Type} [DecidableEq K'] {knd:KeyKind C.prog C.w K'} {enc:K'→V} (hk:∀ k v,knd.is k v=true→Rep C r (enc k) v) {es:List (V×V)} {kvs:List (K'×Value)} (f:F2 (fun e kv=>e.1=enc kv.1∧Rep C r e.2 kv.2) es kvs) :
  ∀ {ys:List Value},ys.length=kvs.length→(∀ (j:Nat) v,ys[j]?=some v→∃ k x,kvs[j]?=some (k,x)∧knd.is k v=true)→Reps C r (es.map (·.1)) ys:=by
 induction f with
 | nil=>exact fun hl I=>List.length_eq_zero_iff.mp hl▸.nil
 | cons a _ ih =>
  intro ys hl h
  cases ys with
  | nil=>exact nomatch hl
  | cons y ys=>exact .cons ((by obtain ⟨k,x,e,q⟩:=h 0 y rfl;exact (congrArg (Rep C r · y) (a.1.trans (congrArg (fun p=>enc p.1) (Option.some.inj e)))).mpr (hk _ _ q))) (ih (Nat.succ.inj hl) fun j=>h (j+1))
theorem rep_int {i:Int} (h:(intKind C.prog C.w).is i x=true):Rep C r (.int i) x:=(by obtain ⟨t,e⟩:=Value.isInt_shape h;exact e▸.int _ t)
theorem rep_str {i:Str} (h:(PySem.strKind C.prog C.w).is i x=true):Rep C r (.str i) x:=(by obtain ⟨t,e⟩:=Value.isStrOf_shape h;exact e▸.str _ t)
theorem list_col {a:Addr} {xs:List Value} {P:List Value→Shared→Prop} (hl:W.s.heap.IsList a xs.toArray) (q:Reps C W.r l xs) (h:l.length < 64) (k:ColK C W l P):wpAny C.M A (collect (.ref a)) P E W.s :=
 collect_list hl (k _ W.s.toks xs (fun b o e=>(Heap.get?_update_ne _ _ _ _ (Nat.ne_of_lt (Heap.lt_size e))).trans (Heap.get?_push_of_some _ e)) q) (q.len▸Nat.le_trans (Nat.le_of_lt h) (by decide))
theorem dict_col {K':Type} [DecidableEq K'] {knd:KeyKind C.prog C.w K'} {enc:K'→V} (hk:∀ k v,knd.is k v=true→Rep C W.r (enc k) v) {es:List (V×V)} {a:Addr} {P:List Value→Shared→Prop} (lo:(a==sysModules)=false) (hh:A.handled=none) (X:DctK knd enc C W.r W.s.heap a es) (h:es.length < 64) (k:ColK C W (es.map (·.1)) P):wpAny C.M A (collect (.ref a)) P E W.s:=by
 cases X with | mk kvs d f =>
 exact kdu_collect (kdl_dict (kvs:=kvs) lo) hh d (f.len▸Nat.le_trans (Nat.le_of_lt h) (by decide)) fun h' tk acc kk ha=>k h' tk acc.toList kk (keys_reps hk f (Array.length_toList.trans ha.1) fun j v e=>ha.2 j v (Array.getElem?_toList.symm.trans e))
theorem src_col (hh:A.handled=none) (r:Rep C W.r v x) (h:sortSrc σ v=some l) (hk:sortV l=some k) (R:Inv C W σ) {P:List Value→Shared→Prop} (q:ColK C W l P):wpAny C.M A (collect x) P E W.s:=by
 refine sortV_el hk fun h64 hk=>?_
 cases v with
 | lst l'=>exact so (show some l=some l' from h.symm) (fun h64 r q=>r.elL fun a o vs e s b c=>list_col (R.tup e s) b h64 q) h64 r q
 | loc m =>
  refine r.elO fun p e=>?_
  obtain ⟨ob,ho,X⟩:=R.ob e
  have h:(match σ[m]? with | some (.list l)=>some l | some (.dict es)=>some (es.map (·.1)) | _=>none)=some l:=h
  rw [ho] at h
  cases ob with
  | list l'=>exact X.elL fun xs i a b c I=>list_col (IsL.isList a) ((Option.some.inj h:l'=l)▸b) h64 q
  | dict es =>
   have h:=Option.some.inj (show some (es.map (·.1))=some l from h)
   subst h
   have hl:es.length < 64:=(List.length_map (as:=es) (·.1))▸h64
   exact X.elD fun D I I=>hk.elim (fun zz=>(by obtain ⟨_,e,_⟩:=zz;exact dict_col (fun I I=>rep_int) (ne_sys R ‹_›) hh (D.i (tag_of (f:=V.int) (t:=1) (fun I=>rfl) (ints_tag e))) hl q)) fun zz=>(by obtain ⟨_,e,_⟩:=zz;exact dict_col (fun I I=>rep_str) (ne_sys R ‹_›) hh (D.s (tag_of (f:=V.str) (t:=2) (fun I=>rfl) (strs_tag e))) hl q)
  | inst=>exact no h
 | _=>exact no h
end
section
variable {C:Ctx0} {A:Around} {W W₁:Wd} {r:Rn} {σ:St} {v z:V} {n m h:Nat} {x y:Value} {Q:Value→Shared→Prop} {E:Value→Shared→Prop} {K:V→St→MS} {p:Addr×Addr} {l k:List V} {env:Env} {fr:Fr} {xs:List Value}
theorem d_sorted (O:C.Ok) (hh:A.handled=none) (R:Inv C W σ) (r:Rep C W.r v x) (h:sortSrc σ v=some l) (hk:sortV l=some k) (q:VK C W (.lst k) σ Q):wpAny C.M A (call (.builtin "sorted") [x]) Q E W.s :=
 sorted_core O R hk (fun q=>src_col (A:=A.in1) hh r h hk R q) fun D h' tk e out hd kk ho hr hz =>
  have N:=Nx.newD R (t:=tk) hd.1 kk ho
  q _ _ ⟨N,.lst (frz_self ..) ⟨rfl,e,rfl⟩ (hr.up N.S.le) hz⟩
theorem d_sortedM (O:C.Ok) (hh:A.handled=none) (R:Inv C W σ) (r:Rep C W.r v x) (h:sortSrc σ v=some l) (hk:sortV l=some k) (q:VK C W (.loc σ.length) (σ++[.list k]) Q):wpAny C.M A (call (.builtin "sorted") [x]) Q E W.s :=
 sorted_core O R hk (fun q=>src_col (A:=A.in1) hh r h hk R q) fun D h' tk e out hd kk ho hr hz =>
  have N:=Nx.newO (p:=(D,D)) R (t:=tk) (fun a m=>(m.elim id id:a=D)▸hd) kk (.list (n:=e) ho (hr.up (.add ..)) hz rfl)
  q _ _ ⟨N,.loc (p:=(D,D)) (own_new R _)⟩
theorem new_iter {h h':Heap} {o:Obj} (hk:∀ b x,b∉[h.objs.size]→(h.push o).get? b=some x→h'.get? b=some x):HExt h h':=fun b x e =>
 hk b x (fun hm=>(Nat.ne_of_lt (Heap.lt_size e)) (List.mem_singleton.mp hm)) (Heap.get?_push_of_some _ e)
theorem VK.tk' {h':Heap} {t:Nat} (q:VK C W v σ Q) (R:Inv C W σ) (k:HExt W.s.heap h') (r:Rep C W.r v x):Q x { W.s with heap:=h',toks:=t }:=q x (W.put h' t) ⟨.ext R k,r⟩
theorem sim_any {a:Addr} {vs:List Value} {bs:List Bool} (hh:A.handled=none) (hl:W.s.heap.IsList a vs.toArray) (hb:LSm.BoolsAre vs bs) (R:Inv C W σ) (q:VK C W (.bool (bs.any id)) σ Q):wpAny C.M A (call (.builtin "any") [.ref a]) Q E W.s:=by
 have hne:W.s.heap.objs.size≠a:=(by obtain ⟨_,e,_⟩:=hl;exact (Nat.ne_of_lt (Heap.lt_size e)).symm)
 refine call_any_walk (wpAny_pyIter_list hl ⟨W.s.heap.objs.size,_,_,vs.toArray.size,_,_,fun i=>(bs[i]?).getD false,rfl,Walks.list (A:=A.in1) hh _ a hne.symm vs.toArray,⟨⟨_,Heap.get?_push_size _ rfl,rfl,rfl⟩,hl.push _⟩,fun i v s' Q' E' hP hQ=>?_,fun h' tk hk=>?_⟩)
 ·obtain ⟨b,e,rfl⟩:=hb.get i v ((List.getElem?_toArray ..).symm.trans hP)
  exact wpAny_truthy_bool ((show ((bs[i]?).getD false)=b from e▸rfl)▸hQ)
 ·exact (show vs.toArray.size=bs.length from hb.length)▸LSm.range_any bs▸q.tk' R (new_iter hk) (.bool _)
theorem sim_all {a:Addr} {vs:List Value} {bs:List Bool} (hh:A.handled=none) (hl:W.s.heap.IsList a vs.toArray) (hb:LSm.BoolsAre vs bs) (R:Inv C W σ) (q:VK C W (.bool (bs.all id)) σ Q):wpAny C.M A (call (.builtin "all") [.ref a]) Q E W.s:=by
 have hne:W.s.heap.objs.size≠a:=(by obtain ⟨_,e,_⟩:=hl;exact (Nat.ne_of_lt (Heap.lt_size e)).symm)
 refine call_all_walk (wpAny_pyIter_list hl ⟨W.s.heap.objs.size,_,_,vs.toArray.size,_,_,fun i=>(bs[i]?).getD true,rfl,Walks.list (A:=A.in1) hh _ a hne.symm vs.toArray,⟨⟨_,Heap.get?_push_size _ rfl,rfl,rfl⟩,hl.push _⟩,fun i v s' Q' E' hP hQ=>?_,fun h' tk hk=>?_⟩)
 ·obtain ⟨b,e,rfl⟩:=hb.get i v ((List.getElem?_toArray ..).symm.trans hP)
  exact wpAny_truthy_bool ((show ((bs[i]?).getD true)=b from e▸rfl)▸hQ)
 ·exact (show vs.toArray.size=bs.length from hb.length)▸LSm.range_all bs▸q.tk' R (new_iter hk) (.bool _)
theorem dict_len {K':Type} [DecidableEq K'] {knd:KeyKind C.prog C.w K'} {enc:K'→V} {es:List (V×V)} {a:Addr} (lo:(a==sysModules)=false) (X:DctK knd enc C W.r W.s.heap a es) (hz:Sm es) (q:∀ t tk,Q (.int es.length t) { W.s with toks:=tk }):wpAny C.M A (call (.builtin "len") [.ref a]) Q E W.s:=by
 cases X with | mk kvs d f=>exact call_len_dict lo d.dictOf (f.len▸Int.lt_of_le_of_lt (Int.ofNat_le.mpr hz) (by decide)) (f.len▸q _ _)
theorem list_len {a:Addr} {vs:List Value} (hl:W.s.heap.IsList a vs.toArray) (b:Reps C W.r l vs) (c:Sm l) (q:∀ t tk,Q (.int l.length t) { W.s with toks:=tk }):wpAny C.M A (call (.builtin "len") [.ref a]) Q E W.s :=
 call_len_list hl (b.fit c) ((show l.length=vs.toArray.size from b.len)▸q _ _)
theorem sim_len (R:Inv C W σ) (r:Rep C W.r v x) (h:lenV σ v=some m) (q:∀ t tk,Q (.int m t) { W.s with toks:=tk }):wpAny C.M A (call (.builtin "len") [x]) Q E W.s:=by
 cases v with
 | tup l=>exact r.elT fun a o vs e s b c=>PyProof.Rows.len_tuple (R.tup e s) (b.fit c) ((show m=vs.toArray.size from (Option.some.inj h).symm.trans b.len)▸q _ _)
 | lst l=>exact r.elL fun a o vs e s b c=>list_len (R.tup e s) b c ((Option.some.inj h:l.length=m)▸q)
 | loc i =>
  refine r.elO fun p e=>?_
  obtain ⟨ob,ho,X⟩:=R.ob e
  have h:(match σ[i]? with | some (.list l)=>some l.length | some (.dict es)=>if loopKeys es then some es.length else none | _=>none)=some m:=h
  rw [ho] at h
  cases ob with
  | list l=>exact X.elL fun xs i a b c I=>list_len (IsL.isList a) b c ((Option.some.inj h:l.length=m)▸q)
  | dict es=>exact ifs h fun hk h=>X.elD fun D hz I=>(Bool.or_eq_true_iff.mp hk).elim (fun t=>dict_len (ne_sys R e) (D.s t) hz ((Option.some.inj h:es.length=m)▸q)) fun t=>dict_len (ne_sys R e) (D.i t) hz ((Option.some.inj h:es.length=m)▸q)
  | inst=>exact no h
 | _=>exact no h
theorem sim_tupleOf {a:Addr} {vs:List Value} (hl:W.s.heap.IsList a vs.toArray) (b:Reps C W.r l vs) (c:Sm l) (R:Inv C W σ) (q:VK C W (.tup l) σ Q):wpAny C.M A (call (.type "tuple") [.ref a]) Q E W.s :=
 call_tuple_list hl (fun h' kk =>
  have dead:W.s.heap.get? h'.objs.size=none:=by
   cases z:W.s.heap.get? h'.objs.size with
   | none=>rfl
   | some o=>exact absurd (Heap.lt_size (kk _ _ z)) (Nat.lt_irrefl _)
  have N:=Nx.newD R (o:={ cls:=.type "tuple",data:=.seq vs.toArray }) (t:=W.s.toks) dead (fun b o e=>Heap.get?_push_of_some _ (kk b o e)) (Heap.get?_push_size _ rfl)
  q _ _ ⟨N,.tup (frz_self ..) ⟨rfl,0,rfl⟩ (b.up N.S.le) c⟩) (b.sm c)
theorem sim_range {i:Int} {t:Tok} (hi:0≤i∧i < 1000) (R:Inv C W σ) (q:VK C W (.rng i) σ Q):wpAny C.M A (call (.type "range") [.int i t]) Q E W.s :=
 call_range_1 (q _ _ ⟨Nx.newF R (t:=W.s.toks+1+1),.rng hi (frz_self ..)⟩)
theorem tupV_el {P:Prop} (h:tupV σ v=some l) (k:v=.tup l→P) (k':listOf σ v=some l→P):P:=by
 cases v with
 | tup l'=>exact k (congrArg V.tup (Option.some.inj h))
 | _=>exact k' h
theorem rangeV_el {i:Int} {P:Prop} (h:rangeV v=some i) (k:v=.int i→0≤i∧i < 1000→P):P:=by
 cases v with
 | int j=>exact ifs (show (if (decide (0≤j)&&decide (j < 1000))=true then some j else none)=some i from h) fun hc h=>an hc fun h0 h1=>so h.symm (P:=fun i=>(V.int j=.int i→0≤i∧i < 1000→P)→P) (fun k=>k rfl ⟨of_decide_eq_true h0,of_decide_eq_true h1⟩) k
 | _=>exact no h
end
theorem eval_Call_other {f:Expr} {args:List Expr} {kws:List Keyword} {pos:Pos} {env:Env} (h:∀ o m p,f≠.Attribute o m p) :
  eval (.Call f args kws pos) env=(do callWith pos (← eval f env) [] (backTo pos (starEach args env)) (backToKw pos (keywordEach kws env))):=by
 cases f<;>first | rfl | exact absurd rfl (h _ _ _)
section
variable {C:Ctx0} {A:Around} {W W₁:Wd} {r:Rn} {σ:St} {v z:V} {n m h:Nat} {x y:Value} {Q:Value→Shared→Prop} {E:Value→Shared→Prop} {K:V→St→MS} {p:Addr×Addr} {l k:List V} {env:Env} {fr:Fr} {xs:List Value}
theorem d_make (O:C.Ok) (Rm:Room A (2 * h+1)) {c:Str} {f:FnRec} {D:Addr} (hm:makesIn C.K D=true) (hv:C.GV c (.ref D)) (he:methW c "__init__" = some f) (hr:Reps C W.r l xs) (R:Inv C W σ) (d:Den C h A (.call f (.loc σ.length::l) (σ++[.inst c []]) (wInst σ.length K))) (q:EK C h A K W Q) :
  wpAny C.M A (call (.ref D) xs) Q E W.s:=by
 obtain ⟨_,fa,hf,hfn,HF⟩:=O.meth _ _ _ _ he hv
 have X:=base_K O R
 have lo:=R.low O
 refine wpAny_call (make_core (makes_of X hm) (looks_findIn X hf) (fun self=>bind_fn X self (beq_iff_eq.mp hfn)) (.inl rfl) ?_)
 have N:=Nx.newO (p:=(W.s.heap.objs.size+1,W.s.heap.objs.size)) (h':=(W.s.heap.push emptyDict).push (instObj D W.s.heap.objs.size)) (t:=W.s.toks) R
  (fun a m=>m.elim (fun (e:a=_+1)=>e▸⟨dead_of (Nat.le_succ _),Nat.lt_succ_of_lt lo⟩) fun (e:a=_)=>e▸⟨dead_of (Nat.le_refl _),lo⟩) (fun b o e=>Heap.get?_push_of_some _ (Heap.get?_push_of_some _ e))
  (.inst (es:=[]) (n:=0) hv (by heap_get) (by heap_get) .nil (Nat.zero_le _))
 refine d _ fa _ _ _ HF.at_ (.cons (.loc (p:=(W.s.heap.objs.size+1,W.s.heap.objs.size)) (own_new R _)) (hr.up N.S.le)) N.R ⟨Rm.h,?_,?_⟩ fun v x W' σ' a d=>?_
 ·have:=Rm.d
  have e:(Code.builtin "type.__call__" ⟨.ref D::xs,[]⟩).weight=1:=by kernel_rfl
  show A.depth+(Code.builtin "type.__call__" ⟨.ref D::xs,[]⟩).weight+_≤900
  fail "a"
 ·have:=Rm.u
  have e:(Code.builtin "type.__call__" ⟨.ref D::xs,[]⟩).cUnits=1:=by kernel_rfl
  show A.units+(Code.builtin "type.__call__" ⟨.ref D::xs,[]⟩).cUnits+8 * _≤9000
  fail "a"
 ·cases v with
  | none=>exact a.r.elN (P:=fun x=>InitBack (W.s.heap.objs.size+1) _ (.ok (.ret x)) W'.s) ⟨rfl,q _ _ _ _ ⟨N.trans a.n,.loc (a.n.S.le.own _ _ (own_new R _))⟩ d⟩
  | _=>exact d.elim
theorem biVal_of {y:Str} {s:String} {P:Prop} {g:Value} (h:sBeq y (Str.ofString s)=true) (hb:biVal y=some x) (hg:biVal (Str.ofString s)=some g) (k:x=g→P):P:=name_is h fun e=>k (Option.some.inj (hb.symm.trans (e▸hg)))
theorem d_bi (O:C.Ok) (hh:A.handled=none) {y:Str} (hb:biVal y=some x) (hr:Reps C W.r l xs) (R:Inv C W σ) (d:Den C h A (biS σ y K l)) (q:EK C h A K W Q):wpAny C.M A (call x xs) Q E W.s:=by
 cases hr with
 | nil=>exact d.elim
 | @cons v l x₁ xs r rs=>cases rs with
  | cons=>exact d.elim
  | nil =>
   refine d_bif (A:=A) d (fun hx d=>biVal_of hx hb (g:=.builtin "len") (by decide +kernel) fun e=>?_) fun d=>d_bif (A:=A) d (fun hx d=>biVal_of hx hb (g:=.builtin "any") (by decide +kernel) fun e=>?_) fun d=>d_bif (A:=A) d (fun hx d=>biVal_of hx hb (g:=.builtin "all") (by decide +kernel) fun e=>?_) fun d =>
    d_bif (A:=A) d (fun hx d=>biVal_of hx hb (g:=.builtin "sorted") (by decide +kernel) fun e=>?_) fun d=>d_bif (A:=A) d (fun hx d=>biVal_of hx hb (g:=.type "tuple") (by decide +kernel) fun e=>?_) fun d=>d_bif (q:=.done False) d (fun hx d=>biVal_of hx hb (g:=.type "range") (by decide +kernel) fun e=>?_) False.elim
   all_goals subst e;obtain ⟨w,hw,d'⟩:=d
   ·exact sim_len R r hw fun t tk=>(q.vk d').tk R (.int _ t)
   ·exact bs hw fun l h1 h2=>list_el R r h1 fun a vs hl hr I=>sim_any hh hl (bools_of hr h2) R (q.vk d')
   ·exact bs hw fun l h1 h2=>list_el R r h1 fun a vs hl hr I=>sim_all hh hl (bools_of hr h2) R (q.vk d')
   ·obtain ⟨k,hk,d'⟩:=d';exact d_sorted O hh R r hw hk (q.vk d')
   ·exact tupV_el hw (fun e=>by subst e;exact r.elT fun a o vs e s b c=>call_tuple_same (R.tup e s) ((q.vk d').at R (.tup e s b c))) fun hw=>list_el R r hw fun a vs hl hr c=>sim_tupleOf hl hr c R (q.vk d')
   ·exact rangeV_el hw fun e hi=>by subst e;exact r.elI fun t=>sim_range hi R (q.vk d')
theorem lookW_all {α:Type} {x:Str} {f:α→Bool} {v:α}:∀ {l:List (String×α)},(l.all fun p=>f p.2)=true→lookW x l=some v→f v=true
 | [],_,h=>no h
 | p::l,g,h=>an g fun g1 g2=>by
  have h:(bif sBeq x (Str.ofString p.1) then some p.2 else lookW x l)=some v:=h
  cases e:sBeq x (Str.ofString p.1) with
  | true=>rw [e] at h;exact so h.symm g1
  | false=>rw [e] at h;exact lookW_all g2 h
noncomputable def isRef:Value→Bool | .ref _=>true | _=>false
theorem biVal_ne {y:Str} {a:Addr} (h:biVal y=some (.ref a)):False:=nf (lookW_all (f:=fun v=>!isRef v) (by decide +kernel) h)
theorem d_call0 (O:C.Ok) (Rm:Room A (2 * h+1)) {f:Expr} {args:List Expr} {pos:Pos} (hf:∀ o m p,f≠.Attribute o m p) (hn:noStar args=true) (d:Den C h A (.ev f fr σ (wCall args fr K))):Den C h A (.ev (.Call f args [] pos) fr σ K):=by
 intro W env Q E H q
 rw [eval_Call_other hf]
 refine wpAny_bind (d W env _ E H fun a x W₁ σ₁ va d=>?_)
 have R₁:=va.n.R
 have H₁:=H.nx0 va.n
 replace q:=EK.nx q va.n
 cases a with
 | glb y =>
  have hv:=va.r.elG
  have d:Den C h A (callS fr σ₁ y args K (globW y)):=d
  cases hg:globW y with
  | none=>rw [hg] at d;exact d.elim
  | some g =>
   rw [hg] at d
   cases g with
   | val=>exact d.elim
   | fn r =>
    obtain ⟨fa,rfl,F⟩:=O.fn _ _ _ hg hv
    exact d_callWith O H₁ hn d (kept_K F.keep) fun vs xs W₂ σ₂ nx rx d=>d_fn (Rm.less (Nat.le_succ _)) nx.R F.at_ rx d (q.nx nx)
   | cls =>
    obtain ⟨D,rfl,hk,hm⟩:=O.make _ _ hg hv
    have d:Den C h A (clsS fr σ₁ y args K (methW y "__init__")):=d
    cases he:methW y "__init__" with
    | none=>rw [he] at d;exact d.elim
    | some r=>rw [he] at d;exact d_callWith O H₁ hn d (kept_K hk) fun vs xs W₂ σ₂ nx rx d=>d_make O Rm hm hv he rx nx.R d (q.nx nx)
   | bi =>
    have hb:=O.bi _ _ hg hv
    exact d_callWith O H₁ hn d (kept_non fun a e=>biVal_ne (e▸hb)) fun vs xs W₂ σ₂ nx rx d=>d_bi O Rm.h hb rx nx.R d (q.nx nx)
 | _=>exact d.elim
end
end Mine
namespace Mine
open PySem PySem.W PySem.Calls PyProof.Rows PySem.SeqAt
theorem F2.get {α β:Type} {R:α→β→Prop} {l k} (f:F2 R l k):∀ {i:Nat} {a:α},l[i]?=some a→∃ b,k[i]?=some b∧R a b:=by
 induction f with
 | nil=>exact fun h=>no h
 | cons a _ ih=>exact fun {i} {u} h=>by cases i with | zero=>exact ⟨_,rfl,(Option.some.inj h)▸a⟩ | succ i=>exact ih h
section
variable {C:Ctx0} {A:Around} {W W₁:Wd} {r:Rn} {σ:St} {v z u:V} {n m h i:Nat} {x y:Value} {E:Value→Shared→Prop} {p:Addr×Addr} {l k:List V} {env:Env} {fr:Fr} {J a:Addr} {d:Bool} {P:Prop} {es:List (V×V)}
structure Key (C:Ctx0) {K:Type} [DecidableEq K] (knd:KeyKind C.prog C.w K) (enc:K→V):Prop where
 rep:∀ r k v,knd.is k v=true→Rep C r (enc k) v
theorem loc_el (R:Inv C W σ) (e:W.r.own[n]?=some p) (h:loopOf σ (.loc n)=some l) (k:isD σ (.loc n)=false→∀ vs i,IsL W.s.heap p.1 (List.toArray vs) i→Reps C W.r l vs→Sm l→P)
  (k':isD σ (.loc n)=true→∀ {K:Type} [DecidableEq K] {knd:KeyKind C.prog C.w K} {enc:K→V} {es:List (V×V)},Key C knd enc→DctK knd enc C W.r W.s.heap p.1 es→Sm es→l=es.map (·.1)→P):P:=bs h fun o ho h=>by
 have X:=R.obs n p _ e ho
 have hd:isD σ (.loc n)=isDO o:=congrArg (fun o=>Option.casesOn (motive:=fun I=>Bool) o false isDO) ho
 cases o with
 | list l'=>exact X.elL fun vs i a b c I=>so (show some l=some l' from h.symm) (fun k b c=>k hd vs i a b c) k b c
 | dict es=>exact ifs h fun hk h=>X.elD fun D hz I=>(Bool.or_eq_true_iff.mp hk).elim (fun t=>k' hd (enc:=V.str) ⟨fun I I I=>rep_str⟩ (D.s t) hz (Option.some.inj h).symm) fun t=>k' hd (enc:=V.int) ⟨fun I I I=>rep_int⟩ (D.i t) hz (Option.some.inj h).symm
 | inst=>exact no h
theorem range_len {n:Int} (h:0≤n):Builtin.Range.rangeSize 0 n 1=n:=by
 unfold Builtin.Range.rangeSize
 rw [if_pos (by decide)]
 split
 ·rw [Int.ediv_one];fail "a"
 ·fail "a"
theorem it_start {Q:Value→Shared→Prop} (R:Inv C W σ) (r:Rep C W.r v x) (h:loopOf σ v=some l) (q:∀ o,Obj.isFreed o=false→ItAt C (W.put (W.s.heap.push o) W.s.toks) W.s.heap.objs.size 0 v (isD σ v) l→Q (.ref W.s.heap.objs.size) { W.s with heap:=W.s.heap.push o }):wpAny C.M A (pyIter x) Q E W.s:=by
 cases v with
 | tup l'=>exact r.elT fun a o vs e s b c=>wpAny_pyIter_tuple (R.tup e s) (q _ rfl (so (show some l=some l' from h.symm) (.tup e s b ⟨_,Heap.get?_push_size _ rfl,rfl,rfl⟩)))
 | lst l'=>exact r.elL fun a o vs e s b c=>wpAny_pyIter_list (R.tup e s) (q _ rfl (so (show some l=some l' from h.symm) (.lst e s b ⟨_,Heap.get?_push_size _ rfl,rfl,rfl⟩)))
 | str w =>
  refine r.elS fun t=>?_
  cases ha:w.cps.all (· < 128) with
  | true=>exact wpAny_pyIter_ascii ha (q _ rfl (.str (fun i h=>h.IsStrIter W.s.heap.objs.size "str_ascii_iterator" w t i) (fun A' hh=>Walks.strAscii hh _ w t) (fun I I zz=>(by obtain ⟨o,e,_⟩:=zz;exact ⟨o,e⟩)) ⟨_,Heap.get?_push_size _ rfl,rfl,rfl⟩))
  | false=>exact wpAny_pyIter_wide ha (q _ rfl (.str (fun i h=>h.IsStrIter W.s.heap.objs.size "str_iterator" w t i) (fun A' hh=>Walks.strWide hh _ w t) (fun I I zz=>(by obtain ⟨o,e,_⟩:=zz;exact ⟨o,e⟩)) ⟨_,Heap.get?_push_size _ rfl,rfl,rfl⟩))
 | rng n' =>
  refine r.elR fun a t1 t2 t3 hn e=>?_
  refine wpAny_pyIter_range (R.fz _ _ e) ?_ (q _ rfl (.rng ?_))
  ·unfold Builtin.Range.small
   rw [range_len hn.1]
   unfold Builtin.Range.rangeFitsLong
   rw [if_pos (by decide)]
   have h1:=hn.1
   have h2:=hn.2
   simp only [Bool.and_eq_true,Bool.or_eq_true,decide_eq_true_eq,beq_iff_eq]
   fail "a"
  ·show (W.s.heap.push _).get? _=_
   rw [Heap.get?_push_size _ rfl,range_len hn.1,show ((n'.toNat:Int) - ((0:Nat):Int))=n' from (Int.sub_zero _).trans (Int.toNat_of_nonneg hn.1)]
   rfl
 | loc m =>
  exact r.elO fun p e=>loc_el R e h (fun hd vs i a b c=>wpAny_pyIter_list (IsL.isList a) (q _ rfl (hd▸.loc e ⟨_,Heap.get?_push_size _ rfl,rfl,rfl⟩))) fun hd {I I I I I} I X I hl=>by
   cases X with | mk kvs da f=>exact wpAny_pyIter_dict (ne_sys R e) da (q _ rfl (hd▸.dct e ⟨_,Heap.get?_push_size _ rfl,rfl,by rw [hl,List.length_map,f.len];rfl⟩))
 | _=>exact no h
theorem strChars_len (w:Str):(strChars w).length=w.cps.size:=(List.length_map _).trans Array.length_toList
theorem loop_str {w:Str} (h:loopOf σ (.str w)=some l) (k:w.cps.size≤cap→l=strChars w→P):P:=ifs h fun hz h=>k hz (Option.some.inj h).symm
abbrev BK (J:Addr) (W:Wd) (h':Heap):Prop:=∀ b o,b≠J→W.s.heap.get? b=some o→h'.get? b=some o
theorem it_item {Q:Option Value→Shared→Prop} (hh:A.handled=none) (t:ItAt C W J i v d l) (h:loopOf σ v=some l) (hd:isD σ v=d) (R:Inv C W σ) (hu:l[i]?=some u)
  (q:∀ val h' tk,Rep C W.r u val→BK J W h'→ItAt C (W.put h' tk) J (i+1) v d l→Q (some val) { W.s with heap:=h',toks:=tk }):wpAny C.M A (pyNext (.ref J)) Q E W.s:=by
 cases t with
 | tup e s b it =>
  obtain ⟨y,ey,ry⟩:=b.get hu
  exact wpAny_pyNext_tuple_item it (R.tup e s) (x:=y) ((List.getElem?_toArray ..).trans ey) fun h' it hs=>q y h' _ ry hs.extBut (.tup e s b it)
 | lst e s b it =>
  obtain ⟨y,ey,ry⟩:=b.get hu
  exact wpAny_pyNext_list_item it (R.tup e s) (x:=y) ((List.getElem?_toArray ..).trans ey) fun h' it hs=>q y h' _ ry hs.extBut (.lst e s b it)
 | loc e it =>
  refine loc_el R e h (fun I vs I a b c=>?_) fun hd'=>nf (hd.symm.trans hd')
  obtain ⟨y,ey,ry⟩:=b.get hu
  exact wpAny_pyNext_list_item it (IsL.isList a) (x:=y) ((List.getElem?_toArray ..).trans ey) fun h' it hs=>q y h' _ ry hs.extBut (.loc e it)
 | dct e it =>
  refine loc_el R e h (fun hd'=>nf (hd'.symm.trans hd)) fun I {I I I I es} hk X I hl=>?_
  cases X with | mk kvs da f =>
  subst hl
  have hlen:=(List.length_map (as:=es) (·.1)).trans f.len
  rw [hlen] at it
  exact mp (List.getElem?_map.symm.trans hu) fun ⟨a,b⟩ e1 e2=>let ⟨kv,e3,e4⟩:=f.get e1
   wpAny_pyNext_dict_item it da (k:=kv.1) (v:=kv.2) e3 fun key h' hkey it hs=>q _ h' _ (e2▸(show a=_ from e4.1)▸hk.rep _ _ _ hkey) hs.extBut (.dct e (hlen.symm▸it))
 | @rng n' _ it =>
  refine mp (List.getElem?_map.symm.trans ((Option.some.inj h:_=l)▸hu)) fun j hj e=>?_
  obtain ⟨hi,e2⟩:=List.getElem?_eq_some_iff.mp hj
  rw [List.getElem_range] at e2
  rw [List.length_range] at hi
  subst e2 e
  refine wpAny_pyNext_range_item it (by fail "a") fun h' it hs=>q _ h' _ (.int _ _) hs.extBut (.rng ?_)
  rw [show ((n'.toNat:Int) - ((i+1:Nat):Int))=(n'.toNat:Int) - (i:Int) - 1 by push_cast;fail "a"]
  exact it
 | @str w _ St hW hN hS =>
  refine loop_str h fun I hl=>?_
  subst hl
  refine (hW A hh).item i W.s _ E ((strChars_len w)▸(List.getElem?_eq_some_iff.mp hu).1) hS fun val h' tk hv hS' hk=>?_
  obtain ⟨c,t',hc,rfl⟩:=hv
  refine mp (List.getElem?_map.symm.trans hu) fun c' h1 h2=>?_
  cases Option.some.inj (hc.symm.trans ((Array.getElem?_toList (xs:=w.cps)).symm.trans h1))
  subst h2
  exact q _ h' tk (.str _ _) (fun b o hb e=>hk b o (fun m=>hb (List.mem_singleton.mp m)) e) (.str St hW hN hS')
theorem it_done {Q:Option Value→Shared→Prop} (hh:A.handled=none) (t:ItAt C W J i v d l) (hi:l.length=i) (h:loopOf σ v=some l) (hd:isD σ v=d) (R:Inv C W σ) (q:∀ h' tk,BK J W h'→Q none { W.s with heap:=h',toks:=tk }):wpAny C.M A (pyNext (.ref J)) Q E W.s:=by
 cases t with
 | tup e s b it=>exact wpAny_pyNext_tuple_end hh it (R.tup e s) ((List.getElem?_toArray ..).trans (List.getElem?_eq_none (Nat.le_of_eq (b.len.symm.trans hi)))) fun h' he=>q h' _ he
 | lst e s b it=>exact wpAny_pyNext_list_end hh it (R.tup e s) ((List.getElem?_toArray ..).trans (List.getElem?_eq_none (Nat.le_of_eq (b.len.symm.trans hi)))) fun h' he=>q h' _ he
 | loc e it=>exact loc_el R e h (fun I vs I a b c=>wpAny_pyNext_list_end hh it (IsL.isList a) ((List.getElem?_toArray ..).trans (List.getElem?_eq_none (Nat.le_of_eq (b.len.symm.trans hi)))) fun h' he=>q h' _ he) fun hd'=>nf (hd.symm.trans hd')
 | dct e it =>
  refine loc_el R e h (fun hd'=>nf (hd'.symm.trans hd)) fun I {I I I I es} hk X I hl=>?_
  cases X with | mk kvs da f =>
  subst hl
  have hlen:=(List.length_map (as:=es) (·.1)).trans f.len
  rw [hlen] at it hi
  exact wpAny_pyNext_dict_end hh it da (List.getElem?_eq_none (Nat.le_of_eq hi)) fun h' he=>q h' _ he
 | @rng n' _ it =>
  have e:n'.toNat=l.length:=(Option.some.inj h:_=l)▸((List.length_map _).trans List.length_range).symm
  exact wpAny_pyNext_range_end hh it (by fail "a") fun h' he=>q h' _ he
 | @str w _ St hW hN hS =>
  refine loop_str h fun I hl=>?_
  have e:w.cps.size=i:=(strChars_len w).symm.trans (hl▸hi)
  subst e
  exact (hW A hh).done W.s _ E hS fun h' tk hk=>q h' tk fun b o hb e=>hk b o (fun m=>hb (List.mem_singleton.mp m)) e
theorem it_self {Q:Value→Shared→Prop} (hh:A.handled=none) (t:ItAt C W J i v d l) (q:Q (.ref J) W.s):wpAny C.M A (pyIter (.ref J)) Q E W.s:=by
 cases t with
 | tup _ _ _ c=>exact wpAny_pyIter_tupleiter c q
 | lst _ _ _ c=>exact wpAny_pyIter_listiter c q
 | loc _ c=>exact wpAny_pyIter_listiter c q
 | dct _ c=>exact wpAny_pyIter_keyiter c q
 | rng a=>exact wpAny_pyIter_rangeiter a q
 | str St hW ns st=>exact (hW A hh).self _ _ _ _ st q
theorem loop_cap (R:Inv C W σ) (r:Rep C W.r v x) (h:loopOf σ v=some l):Sm l:=by
 cases v with
 | tup l'=>exact r.elT fun I I I I I I c=>so h.symm c
 | lst l'=>exact r.elL fun I I I I I I c=>so h.symm c
 | str w=>exact loop_str h fun hz hl=>hl▸Nat.le_trans (Nat.le_of_eq (strChars_len w)) hz
 | rng n'=>exact r.elR fun I I I I hn I=>so h.symm (Nat.le_trans (Nat.le_of_eq ((List.length_map _).trans List.length_range)) (Nat.le_trans (Int.toNat_le.mpr (Int.le_of_lt hn.2)) (show (1000:Nat)≤cap by decide)))
 | loc m=>exact r.elO fun p e=>loc_el R e h (fun I I I I I c=>c) fun I {I I I I I} I I c hl=>hl▸Nat.le_trans (Nat.le_of_eq (List.length_map _)) c
 | _=>exact no h
theorem ItAt.keep {W':Wd} (t:ItAt C W J i v d l) (m:Rn.Le W.r W'.r) (k:∀ o,W.s.heap.get? J=some o→W'.s.heap.get? J=some o):ItAt C W' J i v d l:=by
 cases t with
 | tup e s b it=>exact .tup (m.fz _ _ e) s (b.up m) (it.at k)
 | lst e s b it=>exact .lst (m.fz _ _ e) s (b.up m) (it.at k)
 | loc e it=>exact .loc (m.own _ _ e) (it.at k)
 | dct e it=>exact .dct (m.own _ _ e) (it.at k)
 | rng it=>exact .rng (k _ it)
 | str St hW hN hS=>exact .str St hW hN ((hW ⟨none,0,none,none,1⟩ rfl).frame _ _ _ hS fun b' hb o e=>by
   cases List.mem_singleton.mp hb;exact k o e)
theorem ItAt.live (t:ItAt C W J i v d l):∃ o,W.s.heap.get? J=some o:=by
 cases t with
 | tup _ _ _ it=>exact (by obtain ⟨o,e,_⟩:=it;exact ⟨o,e⟩)
 | lst _ _ _ it=>exact (by obtain ⟨o,e,_⟩:=it;exact ⟨o,e⟩)
 | loc _ it=>exact (by obtain ⟨o,e,_⟩:=it;exact ⟨o,e⟩)
 | dct _ it=>exact (by obtain ⟨o,e,_⟩:=it;exact ⟨o,e⟩)
 | rng it=>exact ⟨_,it⟩
 | str St hW hN hS=>exact hN _ _ hS
end
section
variable {C:Ctx0} {A:Around} {W W₁:Wd} {σ:St} {v:V} {x:Value} {E:Value→Shared→Prop} {env:Env} {fr:Fr} {a:Addr} {k:Str} {h':Heap}
theorem loc_ne_cell (F:FrAt C fr env W) {c:Addr} (hc:c∈env.cells.map (·.2)):c≠env.locals:=by
 rintro rfl
 obtain ⟨m,o,es,ep,ho,hd,_⟩:=F.ns
 obtain ⟨v,o',ho',hd'⟩:=F.isc _ hc
 cases Option.some.inj (ho.symm.trans ho')
 cases hd.symm.trans hd'
theorem ns_same {h:Heap} {m m':Str→Option Value} (p:h.Ns a m) (q:h.Ns a m') (k:Str):m k=m' k :=
 let ⟨o,es,ep,h1,h2,_,h4⟩:=p;let ⟨o',es',ep',g1,g2,_,g4⟩:=q
 (h4 k).symm.trans ((congrArg (fun d=>match d with | Data.dict es _=>nsFind es k | _=>none) (h2.symm.trans ((congrArg Obj.data (Option.some.inj (h1.symm.trans g1))).trans g2)):nsFind es k=nsFind es' k).trans (g4 k))
theorem can_el {P:Prop} (h:canW fr k=true) (f:kindW fr.sc k=some .local→P) (g:kindW fr.sc k=some .cell→P):P:=by
 unfold canW at h
 cases e:kindW fr.sc k with
 | none=>rw [e] at h;exact nf h
 | some K =>
  rw [e] at h
  cases K with
  | «local»=>exact f e
  | cell=>exact g e
  | _=>exact nf h
theorem store_at (hc:canW fr k=true) (H:Here C fr env σ W) {t:Nat} {Q:Unit→Shared→Prop} (r:Rep C W.r v x) (ha:a∈frX env) (hs:Heap.SameBut a W.s.heap h') (hn:∃ m,h'.Ns env.locals m) (hi:∀ b∈env.cells.map (·.2),∃ o,h'.IsCell b o) (hk:Hv h' env k x) (ho:∀ y val,y≠k→Hv W.s.heap env y val→Hv h' env y val)
  (q:∀ W',Nx C [a] W W' σ→FrAt C (fr.set k v) env W'→Q () W'.s):Q () { W.s with heap:=h',toks:=t } :=
 have F:=H.F
 q (W.put h' t) (.put H.R _ (fun b o e m=>(hs.2 b fun z=>m (z▸.head _)).trans e) fun b m=>F.out b (List.mem_singleton.mp m▸ha)) ⟨F.kind,F.glb,F.bi,F.sc,fun y w e=>by
  have hv:(fr.set k v).vars y=bif sBeq y k then some v else fr.vars y:=rfl
  rw [sBeq_eq] at hv
  by_cases z:y=k
  ·subst z
   have e:seenK (fr.set y v) y (kindW fr.sc y)=some w:=e
   refine ⟨x,hk,(Option.some.inj ?_:v=w)▸r⟩
   rw [decide_eq_true rfl] at hv
   exact can_el hc (fun z=>hv.symm.trans (show seenK (fr.set y v) y (some .local)=some w from z▸e)) fun z=>hv.symm.trans (show seenK (fr.set y v) y (some .cell)=some w from z▸e)
  ·rw [decide_eq_false z] at hv
   obtain ⟨val,h1,h2⟩:=F.val y w (by rw [← e];unfold seenK;rw [hv];rfl)
   exact ⟨val,ho _ _ z h1,h2⟩,hn,F.cl,hi,F.out,F.cinj⟩
theorem sim_storeA {Q:Unit→Shared→Prop} (hc:canW fr k=true) (H:Here C fr env σ W) (r:Rep C W.r v x) (q:∀ a W',a∈frX env→(kindW fr.sc k=some .local→a=env.locals)→Nx C [a] W W' σ→FrAt C (fr.set k v) env W'→Q () W'.s):wpAny C.M A (bindName env k x) Q E W.s:=by
 have F:=H.F
 refine wpAny_bindName (can_el hc (fun hk=>?_) fun hk=>?_)
 ·have e:=(F.sc _ _ hk).1.elim id fun z=>nomatch z.1
  obtain ⟨m,hn⟩:=F.ns
  refine wpAny_storeName_local e hn (fun h' hn' hs=>store_at hc H r (.head _) hs ⟨_,hn'⟩ (fun b m=>(F.isc b m).imp fun o zz=>(by obtain ⟨ob,e,r⟩:=zz;exact ⟨ob,(hs.2 b (loc_ne_cell F m)).trans e,r⟩)) (.loc e hn' (if_pos rfl)) (fun y val z q'=>?_) fun W'=>q _ W' (.head _) fun I=>rfl) (by rw [F.kind];rfl)
  cases q' with
  | loc kk n e=>exact .loc kk hn' ((if_neg z).trans ((ns_same hn n y).trans e))
  | cell kk l i=>exact .cell kk l ((by obtain ⟨ob,e,r⟩:=i;exact ⟨ob,(hs.2 _ (loc_ne_cell F (cells_mem l))).trans e,r⟩))
 ·have e:=(F.sc _ _ hk).1.elim id fun z=>nomatch z.1
  obtain ⟨c,h1⟩:=F.cl k hk
  obtain ⟨o,h2⟩:=F.isc c (cells_mem h1)
  have kn:∀ {h' m},Heap.SameBut c W.s.heap h'→W.s.heap.Ns env.locals m→h'.Ns env.locals m:=fun hs n=>n.at' fun o e=>(hs.2 _ (Ne.symm (loc_ne_cell F (cells_mem h1)))).trans e
  refine wpAny_storeName_cell F.kind e h1 h2 fun h' hc' hs=>store_at hc H r (.tail _ (cells_mem h1)) hs (F.ns.imp fun m=>kn hs) (fun b m=>?_) (.cell (.inl e) h1 hc') (fun y val z q'=>?_) fun W'=>q _ W' (.tail _ (cells_mem h1)) fun z=>nomatch hk.symm.trans z
  ·by_cases z:b=c
   ·exact ⟨_,z▸hc'⟩
   ·exact (F.isc b m).imp fun o zz=>(by obtain ⟨ob,e,r⟩:=zz;exact ⟨ob,(hs.2 b z).trans e,r⟩)
  ·cases q' with
   | loc kk n e=>exact .loc kk (kn hs n) e
   | cell kk l i=>exact .cell kk l ((by obtain ⟨ob,e,r⟩:=i;exact ⟨ob,(hs.2 _ fun w=>z (F.cinj _ _ c (w▸l) h1)).trans e,r⟩))
theorem sim_store {Q:Unit→Shared→Prop} (hc:canW fr k=true) (H:Here C fr env σ W) (r:Rep C W.r v x) (q:∀ W',Nx C (frX env) W W' σ→FrAt C (fr.set k v) env W'→Q () W'.s):wpAny C.M A (bindName env k x) Q E W.s :=
 sim_storeA hc H r fun I W' m I n F=>q W' (n.to fun I z=>.inl (List.mem_singleton.mp z▸m)) F
end
noncomputable def wForN (t:Str) (body:List Stmt) (src:V) (d:Bool) (all l:List V) (K:Fl→Fr→St→MS) (fl:Fl) (fr:Fr) (σ:St):MS:=match fl with
 | .ret v=>K (.ret v) fr σ
 | .next=>.chk (sameItems σ src d all) (.forS t body src d all l fr σ K)
 | .cont=>.chk (sameItems σ src d all) (.forS t body src d all l fr σ K)
theorem same_el {σ:St} {src:V} {d:Bool} {l:List V} {P:Prop} (h:sameItems σ src d l=true) (k:loopOf σ src=some l→isD σ src=d→P):P:=an h fun h1 h2=>by
 cases e:loopOf σ src with
 | none=>rw [e] at h2;exact nf h2
 | some k'=>rw [e] at h2;exact k (e.trans (congrArg some ((V.eqbs_iff _ _).mp h2))) (beq_iff_eq.mp h1)
theorem folded_of {iter:Expr} {env:Env} (h:notSet iter=true):∀ x,foldedSetIterable iter env x=pure x:=by
 cases iter<;>first | exact nf h | exact fun I=>rfl
theorem dr_n {l:List V} {i:Nat} (h:l.drop i=[]) (k:i≤l.length):l.length=i:=Nat.le_antisymm (List.drop_eq_nil_iff.mp h) k
theorem dr_c {l r:List V} {i:Nat} {u:V} {P:Prop} (h:l.drop i=u::r) (k:l[i]?=some u→l.drop (i+1)=r→i+1≤l.length→P):P:=by
 have e:l[i]?=some u:=(List.getElem?_drop (xs:=l) (i:=i) (j:=0)).symm.trans (h▸rfl)
 exact k e ((List.drop_drop (i:=1) (j:=i) (l:=l)).symm.trans (h▸rfl)) (List.getElem?_eq_some_iff.mp e).1
section
variable {prog:Program} {w:World} {A:Around} {s:Shared} {R:Result→Shared→Prop} {env:Env} {body orelse:List Stmt}
theorem for_turn {target:Expr} {it:Value} (h:wpAny (model prog w) A (pyNext it) (fun r s₁=>match r with
   | none=>wpAny (model prog w) A (execs orelse env) (fun f s₃=>R (.ok f) s₃) (notedBy (model prog w) A env fun e s'=>R (.error e) s') s₁
   | some v=>wpAny (model prog w) A (assign target env v) (fun I s₂=>wpAny (model prog w) A (execs body env) (fun f s₃=>match f with
     | .next | .cont=>codeAny (model prog w) A (.forLoop target it body orelse env) R s₃
     | .brk=>R (.ok .next) s₃
     | .ret v=>R (.ok (.ret v)) s₃) (notedBy (model prog w) A env fun e s'=>R (.error e) s') s₂) (notedBy (model prog w) A env fun e s'=>R (.error e) s') s₁) (notedBy (model prog w) A env fun e s'=>R (.error e) s') s)
  (ht:∀ v,letOwnedTupleGo target it v=pure ()):codeAny (model prog w) A (.forLoop target it body orelse env) R s:=by
 refine codeAny_of_tree ?_
 show wpAny _ _ ((forTurn target it body orelse env).onRaise (fun x=>do noteFrame x env;theTreesLotGoes x)) _ _ s
 refine wpAny_noted ?_
 unfold forTurn
 refine wpAny_bind (wpAny_standAt (wpAny_bind (wpAny_onRaise (wpAny_mono h (fun r s₁ h₁=>?_) fun I I h'=>wpAny_standAt h'))))
 cases r with
 | none=>exact wpAny_pure ⟨rfl,codeAny_block h₁⟩
 | some v =>
  refine wpAny_bind (wpAny_of_eq (ht v) (wpAny_bind (wpAny_mono h₁ (fun I s₂ h₂=>wpAny_bind (wpAny_mono h₂ (fun f s₃ h₃=>?_) fun I I h'=>h')) fun I I h'=>h')))
  cases f with
  | next=>exact wpAny_pure ⟨rfl,h₃⟩
  | cont=>exact wpAny_pure ⟨rfl,h₃⟩
  | brk=>exact wpAny_pure h₃
  | ret v=>exact wpAny_pure h₃
theorem whl_turn {test:Expr} (h:wpAny (model prog w) A (isTrue test env (eval test env)) (fun b s₂=>match b with
   | true=>wpAny (model prog w) A (execs body env) (fun f s₃=>match f with
     | .next | .cont=>codeAny (model prog w) A (.whileLoop test body orelse env) R s₃
     | .brk=>R (.ok .next) s₃
     | .ret v=>R (.ok (.ret v)) s₃) (notedBy (model prog w) A env fun e s'=>R (.error e) s') s₂
   | false=>wpAny (model prog w) A (execs orelse env) (fun f s₃=>R (.ok f) s₃) (notedBy (model prog w) A env fun e s'=>R (.error e) s') s₂) (notedBy (model prog w) A env fun e s'=>R (.error e) s') s) :
  codeAny (model prog w) A (.whileLoop test body orelse env) R s:=by
 refine codeAny_of_tree ?_
 show wpAny _ _ ((whileTurn test body orelse env).onRaise (fun x=>do noteFrame x env;theTreesLotGoes x)) _ _ s
 refine wpAny_noted ?_
 unfold whileTurn
 refine wpAny_bind (wpAny_mono h (fun b s₂ h₂=>?_) fun I I h'=>h')
 cases b with
 | false=>exact wpAny_bind (wpAny_mono h₂ (fun f s₃ h₃=>wpAny_pure h₃) fun I I h'=>h')
 | true =>
  refine wpAny_bind (wpAny_mono h₂ (fun f s₃ h₃=>?_) fun I I h'=>h')
  cases f with
  | next=>exact wpAny_pure ⟨rfl,h₃⟩
  | cont=>exact wpAny_pure ⟨rfl,h₃⟩
  | brk=>exact wpAny_pure h₃
  | ret v=>exact wpAny_pure h₃
end
section
variable {C:Ctx0} {A:Around} {W W₁ W₂:Wd} {σ σ':St} {v:V} {n h i:Nat} {x:Value} {E:Value→Shared→Prop} {env:Env} {fr fr':Fr} {J:Addr} {k t:Str} {h':Heap} {src u:V} {d:Bool} {all l:List V} {K:Fl→Fr→St→MS} {body:List Stmt} {X:List Addr} {fl:Fl} {flow:Flow}
theorem fr_dead (F:FrAt C fr env W) {a:Addr} (h:W.s.heap.get? a=none):a∉frX env:=fun m=>(by obtain ⟨_,e⟩:=F.live a m;exact no (h.symm.trans e))
theorem asg_name {p:Pos} {Q:Unit→Shared→Prop} {s:Shared} (h:wpAny C.M A (bindName env k x) Q E s):wpAny C.M A (assign (.Name k p) env x) Q E s:=wpAny_bind (wpAny_standAt h)
theorem bk_nx {t:Nat} (R:Inv C W σ) (out:Out W.r J) (bk:BK J W h'):Nx C [J] W (W.put h' t) σ:=.put R [J] (fun b o e m=>bk b o (fun z=>m (z▸.head _)) e) fun a m=>List.mem_singleton.mp m▸out
theorem hd_in {a:Addr} {X:List Addr}:∀ b∈[a],b∈a::X∨W.s.heap.get? b=none:=fun I m=>.inl (List.mem_singleton.mp m▸.head _)
theorem tl_in {a:Addr} {X:List Addr}:∀ b∈X,b∈a::X∨W.s.heap.get? b=none:=fun I m=>.inl (.tail _ m)
theorem d_for_n (hh:A.handled=none) (d':Den C h A (K .next fr σ)):Den C h A (.forS t body src d all [] fr σ K):=by
 intro W env J i p R L hd hc q
 refine for_turn (it_done hh L.it (dr_n hd L.le) L.loop L.isd L.H.R fun h' tk bk=>?_) (fun I=>rfl)
 have N:=bk_nx (t:=tk) L.H.R L.out bk
 have H₁:=L.H.nx N fun a m z=>L.nfr (List.mem_singleton.mp z▸m)
 exact wpAny_execs_nil (q _ _ _ _ _ ⟨N.to hd_in,H₁.F,rfl,.next⟩ d')
theorem d_for_c (hh:A.handled=none) (d':Den C h A (.exs body (fr.set t u) σ (wForN t body src d all l K))):Den C h A (.forS t body src d all (u::l) fr σ K):=by
 intro W env J i p R L hd hc q
 refine dr_c hd fun hu hd hi=>for_turn (it_item hh L.it L.loop L.isd L.H.R hu fun val h' tk rv bk it=>?_) (fun I=>rfl)
 have N:=bk_nx (t:=tk) L.H.R L.out bk
 have H₁:=L.H.nx N fun a m z=>L.nfr (List.mem_singleton.mp z▸m)
 refine asg_name (sim_store hc H₁ rv fun W₂ N₂ F₂=>d' W₂ env _ _ ⟨F₂,N₂.R⟩ fun fl flow fr' W₃ σ₃ x d'=>?_)
 have N₃:=N₂.trans x.n
 have M:=(N.to hd_in).trans (N₃.to (tl_in (a:=J)))
 have go:(loopOf σ₃ src=some all→isD σ₃ src=d→Den C h A (.forS t body src d all l fr' σ₃ K)→codeAny C.M A (.forLoop (.Name t p) (.ref J) body [] env) R W₃.s):=fun e1 e2 d'=>by
  obtain ⟨o,e⟩:=it.live
  have k:=N₃.S.keep J o e L.out L.nfr
  exact d' W₃ env J (i+1) p R ⟨⟨x.F,x.n.R⟩,it.keep N₃.S.le fun o' e'=>Option.some.inj (e.symm.trans e')▸k.1,e1,e2,k.2,L.nfr,hi⟩ hd (show isLocW (kindW fr'.sc t)=true from x.sc▸hc) fun fl flow fr'' W' σ' y=>q fl flow fr'' W' σ' ⟨M.trans y.n,y.F,y.sc.trans x.sc,y.r⟩
 cases x.r with
 | ret r=>exact q _ _ _ _ _ ⟨M,x.F,x.sc,.ret r⟩ d'
 | next=>exact same_el d'.1 fun e1 e2=>go e1 e2 d'.2
 | cont=>exact same_el d'.1 fun e1 e2=>go e1 e2 d'.2
theorem d_for {it:Expr} {pn pos:Pos} (hs:notSet it=true) (hc:canW fr t=true) (d':Den C h A (.ev it fr σ (wFor t body fr K))):Den C h A (.ex (.For (.Name t pn) it body [] pos) fr σ K):=by
 intro W env Q E H q
 refine wpAny_For (d' W env _ _ H fun v x W₁ σ₁ va d'=>?_) (folded_of hs)
 obtain ⟨s,e,d'⟩:=d'
 obtain ⟨e1,e2⟩:=loopD_of e
 have R₁:=va.n.R
 have H₁:=H.nx0 va.n
 refine it_start R₁ va.r e1 fun o hf it=>?_
 have dead:=dead_of (Nat.le_refl W₁.s.heap.objs.size)
 have N:Nx C [] W₁ (W₁.put (W₁.s.heap.push o) W₁.s.toks) σ₁:=.ext R₁ fun b o e=>push_keep e
 refine d' (W₁.put (W₁.s.heap.push o) W₁.s.toks) env _ 0 pn _ ⟨H₁.nx0 N,e2▸it,e1,e2,R₁.dead dead,fr_dead H₁.F dead,Nat.zero_le _⟩ rfl hc fun fl flow fr' W' σ' x d'=>q fl flow fr' W' σ' ⟨va.n.wide.trans ((N.wide.trans x.n).to fun a m=>?_),x.F,x.sc,x.r⟩ d'
 cases m with
 | head=>exact .inr dead
 | tail _ m=>exact .inl m
theorem d_whl {t:Expr} (d:Den C h A (.cond t fr σ (wWh t body fr K))):Den C h A (.whl t body fr σ K):=by
 intro W env R H q
 refine whl_turn (d W env _ _ H fun b W₁ σ₁ n d=>?_)
 have H₁:=H.nx0 n
 cases b with
 | false=>exact wpAny_execs_nil (q _ _ _ _ _ ⟨n.wide,H₁.F,rfl,.next⟩ d)
 | true =>
  refine d W₁ env _ _ H₁ fun fl flow fr' W₂ σ₂ x d=>?_
  have M:=n.wide.trans x.n
  cases x.r with
  | ret r=>exact q _ _ _ _ _ ⟨M,x.F,x.sc,.ret r⟩ d
  | next=>exact d W₂ env R ⟨x.F,x.n.R⟩ fun fl flow fr'' W' σ' y=>q fl flow fr'' W' σ' ⟨M.trans y.n,y.F,y.sc.trans x.sc,y.r⟩
  | cont=>exact d W₂ env R ⟨x.F,x.n.R⟩ fun fl flow fr'' W' σ' y=>q fl flow fr'' W' σ' ⟨M.trans y.n,y.F,y.sc.trans x.sc,y.r⟩
theorem d_while {t:Expr} {pos:Pos} (d:Den C h A (.whl t body fr σ K)):Den C h A (.ex (.While t body [] pos) fr σ K):=fun W env Q E H q=>wpAny_While (d W env _ H q)
end
noncomputable def wCoV (src:V) (d:Bool) (all:List V) (v:V) (K:List V→St→MS) (l:List V) (σ:St):MS:=K (v::l) σ
noncomputable def wCo2 (elt:Expr) (t:Str) (ifs:List Expr) (fr:Fr) (src:V) (d:Bool) (all l:List V) (K:List V→St→MS) (v:V) (σ:St):MS:=.chk (sameItems σ src d all) (.comp elt t ifs fr src d all l σ (wCoV src d all v K))
noncomputable def wCo (elt:Expr) (t:Str) (ifs:List Expr) (fr:Fr) (x:V) (src:V) (d:Bool) (all l:List V) (K:List V→St→MS) (b:Bool) (σ:St):MS :=
 .sel b (.ev elt (fr.set t x) σ (wCo2 elt t ifs fr src d all l K)) (.chk (sameItems σ src d all) (.comp elt t ifs fr src d all l σ K))
section
variable {prog:Program} {w:World} {A:Around} {s:Shared} {R:Result→Shared→Prop} {env:Env} {E:Value→Shared→Prop}
theorem comp_turn {elt target iter:Expr} {ifs:List Expr} {scope:Scope} {pos:Pos} {it acc:Value} (h:wpAny (model prog w) A (pyNext it) (fun r s₁=>match r with
   | none=>R (.ok .next) s₁
   | some v=>wpAny (model prog w) A (assign target env v) (fun I s₂ =>
     wpAny (model prog w) A (forIn ifs true fun c r=>if r=true then do let ok ← isTrue c env (eval c env);pure (ForInStep.yield ok) else pure (ForInStep.yield r)) (fun ok s₃=>match ok with
      | true=>wpAny (model prog w) A (eval elt env) (fun x s₄=>wpAny (model prog w) A (call (.builtin "list.append") [acc,x]) (fun I s₅=>codeAny (model prog w) A (.compLoop (.ListComp elt [⟨target,iter,ifs,0⟩] scope pos) 0 it acc env) R s₅) (notedBy (model prog w) A env fun e s'=>R (.error e) s') s₄) (notedBy (model prog w) A env fun e s'=>R (.error e) s') s₃
      | false=>codeAny (model prog w) A (.compLoop (.ListComp elt [⟨target,iter,ifs,0⟩] scope pos) 0 it acc env) R s₃) (notedBy (model prog w) A env fun e s'=>R (.error e) s') s₂) (notedBy (model prog w) A env fun e s'=>R (.error e) s') s₁) (notedBy (model prog w) A env fun e s'=>R (.error e) s') s)
  (ht:∀ v,letOwnedTupleGo target it v=pure ()):codeAny (model prog w) A (.compLoop (.ListComp elt [⟨target,iter,ifs,0⟩] scope pos) 0 it acc env) R s:=by
 refine codeAny_of_tree ?_
 show wpAny _ A ((compTurn (.ListComp elt [⟨target,iter,ifs,0⟩] scope pos) 0 it acc env).onRaise (fun x=>do noteFrame x env;theTreesLotGoes x)) _ _ s
 refine wpAny_noted ?_
 rw [compTurn_list]
 refine wpAny_bind (wpAny_standAt (wpAny_bind (wpAny_mono h (fun r s₁ h₁=>?_) fun I I h'=>h')))
 cases r with
 | none=>exact wpAny_pure h₁
 | some v =>
  refine wpAny_bind (wpAny_of_eq (ht v) (wpAny_bind (wpAny_mono h₁ (fun I s₂ h₂=>wpAny_bind (wpAny_mono h₂ (fun ok s₃ h₃=>?_) fun I I h'=>h')) fun I I h'=>h')))
  cases ok with
  | false=>exact wpAny_pure ⟨rfl,h₃⟩
  | true=>exact wpAny_bind (wpAny_bind (wpAny_mono h₃ (fun x s₄ h₄=>wpAny_bind (wpAny_mono h₄ (fun I s₅ h₅=>wpAny_pure (wpAny_pure ⟨rfl,h₅⟩)) fun I I h'=>h')) fun I I h'=>h'))
end
section
variable {C:Ctx0} {A:Around} {W W₁ W₂:Wd} {σ σ' σ₁:St} {v:V} {n h i:Nat} {y:Value} {E:Value→Shared→Prop} {env:Env} {fr fr':Fr} {J D:Addr} {k t:Str} {h':Heap} {src u:V} {d:Bool} {all l done:List V} {K:List V→St→MS} {elt:Expr} {ifs:List Expr} {tk:Nat}
noncomputable abbrev ifF (env:Env) (c:Expr) (r:Bool):Sem (ForInStep Bool):=if r=true then do let ok ← isTrue c env (eval c env);pure (ForInStep.yield ok) else pure (ForInStep.yield r)
theorem ifs_nil {s:Shared} {Q:Bool→Shared→Prop} {b:Bool} (h:Q b s):wpAny C.M A (forIn ([]:List Expr) b (ifF env)) Q E s:=rwl (List.forIn_nil (b:=b) (f:=ifF env)) (wpAny_pure h)
theorem ifs_stay {s:Shared} {Q:Bool→Shared→Prop} (h:Q false s):∀ cs:List Expr,wpAny C.M A (forIn cs false (ifF env)) Q E s
 | []=>ifs_nil h
 | c::cs=>by
  rw [List.forIn_cons]
  refine wpAny_bind (wpAny_of_eq (if_neg Bool.false_ne_true) ?_)
  exact ifs_stay h cs
theorem ifs_cons {s:Shared} {Q:Bool→Shared→Prop} {c:Expr} {cs:List Expr} (h:wpAny C.M A (isTrue c env (eval c env)) (fun b s=>wpAny C.M A (forIn cs b (ifF env)) Q E s) E s):wpAny C.M A (forIn (c::cs) true (ifF env)) Q E s:=by
 rw [List.forIn_cons]
 refine wpAny_bind ?_
 rw [show ifF env c true=(do let ok ← isTrue c env (eval c env);pure (ForInStep.yield ok)) from if_pos rfl]
 exact wpAny_bind (wpAny_mono h (fun b s hb=>wpAny_pure hb) fun I I x=>x)
theorem d_ifs {K:Bool→St→MS} (d:Den C h A (ifsS fr σ K ifs)):Den C h A (.ifs ifs fr σ K):=by
 intro W env Q E H q
 cases ifs with
 | nil=>exact ifs_nil (q _ _ _ (.refl H.R) d)
 | cons c cs =>
  cases cs with
  | nil=>exact ifs_cons (d W env _ E H fun b W₁ σ₁ n d=>ifs_nil (q _ _ _ n d))
  | cons c' cs =>
   refine ifs_cons (d W env _ E H fun b W₁ σ₁ n d=>?_)
   cases b with
   | true=>exact d W₁ env _ E (H.nx0 n) fun b W₂ σ₂ n₂ d=>q _ _ _ (n.trans n₂) d
   | false=>exact ifs_stay (q _ _ _ n d) _
theorem Nx.one {a:Addr} {X:List Addr} (n:Nx C [a] W W₁ σ) (m:a∈X):Nx C X W W₁ σ:=n.to fun I z=>.inl (List.mem_singleton.mp z▸m)
theorem ni {a b:Addr} (h:a≠b):a∉[b]:=fun m=>h (List.mem_singleton.mp m)
theorem CompAt.bk (X:CompAt C env J D src d all i fr σ done W) (bk:BK J W h'):Nx C [J] W (W.put h' tk) σ∧FrAt C fr env (W.put h' tk)∧(∃ ys k,IsL h' D (List.toArray ys) k∧Reps C W.r done ys) :=
 have N:=bk_nx (t:=tk) X.L.H.R X.L.out bk
 ⟨N,(X.L.H.nx N fun a m z=>X.L.nfr (List.mem_singleton.mp z▸m)).F,X.acc.imp fun ys zz=>(by obtain ⟨k,hl,hr⟩:=zz;exact ⟨k,bk D _ X.ne hl,hr⟩)⟩
theorem CompAt.more {fr₁:Fr} (X:CompAt C env J D src d all i fr σ done W) (it:ItAt C (W.put h' tk) J (i+1) src d all) (bk:BK J W h') (n:Nx C [env.locals] (W.put h' tk) W₁ σ₁) (F:FrAt C fr₁ env W₁) (e1:loopOf σ₁ src=some all) (e2:isD σ₁ src=d) (hi:i+1≤all.length):CompAt C env J D src d all (i+1) fr₁ σ₁ done W₁:=by
 obtain ⟨o,e⟩:=it.live
 obtain ⟨_,_,ys,k,hl,hr⟩:=X.bk (tk:=tk) bk
 have nl:∀ {a},a∉frX env→a≠env.locals:=fun h z=>h (z▸.head _)
 have kJ:=n.S.keep J o e X.L.out (ni (nl X.L.nfr))
 have kD:=n.S.keep D _ hl X.out (ni (nl X.nfr))
 exact ⟨⟨⟨F,n.R⟩,it.keep n.S.le fun o' e'=>Option.some.inj (e.symm.trans e')▸kJ.1,e1,e2,kJ.2,X.L.nfr,hi⟩,⟨ys,k,kD.1,hr.up n.S.le⟩,kD.2,X.ne,X.nfr,Nat.le_succ_of_le X.len,X.cap⟩
theorem d_comp_n (hh:A.handled=none) (d':Den C h A (K [] σ)):Den C h A (.comp elt t ifs fr src d all [] σ K):=by
 intro W env J D i fr₀ done px it sc pos R X hd hset hk q
 refine comp_turn (it_done hh X.L.it (dr_n hd X.L.le) X.L.loop X.L.isd X.L.H.R fun h' tk bk=>?_) (fun I=>rfl)
 obtain ⟨N,F,acc⟩:=X.bk (tk:=tk) bk
 exact q [] _ _ (N.one (.head _)) ((List.append_nil done).symm▸⟨⟨_,F⟩,acc,X.out,Nat.le_trans X.len (Nat.le_trans X.L.le X.cap)⟩) d'
theorem set_set (fr:Fr) (t:Str) (a b:V):(fr.set t a).set t b=fr.set t b :=
 congrArg (Fr.mk fr.sc · fr.up) (funext fun y=>by
  show upd (upd fr.vars t a) t b y=upd fr.vars t b y
  unfold upd
  cases sBeq y t<;>rfl)
theorem d_comp_c (hh:A.handled=none) (d':Den C h A (.ifs ifs (fr.set t u) σ (wCo elt t ifs fr u src d all l K))):Den C h A (.comp elt t ifs fr src d all (u::l) σ K):=by
 intro W env J D i fr₀ done px it sc pos R X hd hset hk q
 refine dr_c hd fun hu hd hi=>comp_turn (it_item hh X.L.it X.L.loop X.L.isd X.L.H.R hu fun val h' tk rv bk it=>?_) (fun I=>rfl)
 obtain ⟨N,F₁,_⟩:=X.bk (tk:=tk) bk
 have hk₀:kindW fr₀.sc t=some .local:=(congrArg (kindW · t) (congrArg Fr.sc (hset u))).trans hk
 have hc:canW fr₀ t=true:=congrArg isLocW hk₀
 refine asg_name (sim_storeA hc ⟨F₁,N.R⟩ rv fun a W₂ I ha N₂ F₂=>?_)
 cases ha hk₀
 rw [hset] at F₂
 have M:∀ {W' σ'},Nx C [env.locals] (W.put h' tk) W' σ'→Nx C [J,D,env.locals] W W' σ':=fun n=>(N.one (.head _)).trans (n.one (.tail _ (.tail _ (.head _))))
 refine d' W₂ env _ _ ⟨F₂,N₂.R⟩ fun b W₃ σ₃ n₃ d'=>?_
 have F₃:=(Here.nx0 ⟨F₂,N₂.R⟩ n₃).F
 have N₃:=N₂.trans n₃.wide
 cases b with
 | false=>exact same_el d'.1 fun e1 e2=>d'.2 W₃ env J D (i+1) _ done px _ sc pos R (X.more it bk N₃ F₃ e1 e2 hi) hd (fun a=>set_set ..) hk fun rest W' σ' n ca dK=>q rest W' σ' ((M N₃).trans n) ca dK
 | true =>
  refine d' W₃ env _ _ ⟨F₃,n₃.R⟩ fun v y W₄ σ₄ va d'=>?_
  have F₄:=(Here.nx0 ⟨F₃,n₃.R⟩ va.n).F
  have N₄:=N₃.trans va.n.wide
  refine same_el d'.1 fun e1 e2=>?_
  have X₄:=X.more it bk N₄ F₄ e1 e2 hi
  obtain ⟨ys,k,hl,hr⟩:=X₄.acc
  refine call_meets F.slot_list_append (IsL.isList hl).typeIs F.entry_list_append (F.args_list_append_2 _ _) (list_append D ys.toArray k y (hr.sm (Nat.le_trans X₄.len (Nat.le_trans hi X.cap)))) ⟨hl,?_⟩
  have bk₅:BK D W₄ (W₄.s.heap.update D (Obj.mapSeq fun xs=>xs.push y)):=fun b o hb e=>Heap.get?_update_of_ne _ (Ne.symm hb) e
  have N₅:=bk_nx (t:=W₄.s.toks) X₄.L.H.R X₄.out bk₅
  obtain ⟨o,e⟩:=X₄.L.it.live
  have X₅:CompAt C env J D src d all (i+1) _ σ₄ (done++[v]) (W₄.put (W₄.s.heap.update D (Obj.mapSeq fun xs=>xs.push y)) W₄.s.toks) :=
   ⟨⟨Here.nx ⟨F₄,va.n.R⟩ N₅ fun a m z=>X.nfr (List.mem_singleton.mp z▸m),X₄.L.it.keep (.refl _) (fun o e=>bk₅ J o (Ne.symm X.ne) e),e1,e2,X₄.L.out,X.L.nfr,hi⟩,
    ⟨ys++[y],_,(List.push_toArray ys y).symm▸IsL.update hl fun xs=>xs.push y,hr.append (.cons va.r .nil)⟩,X₄.out,X.ne,X.nfr,(List.length_append (as:=done) (bs:=[v])).symm▸Nat.succ_le_succ X.len,X.cap⟩
  exact d'.2 _ env J D (i+1) _ (done++[v]) px _ sc pos R X₅ hd (fun a=>set_set ..) hk fun rest W' σ' n ca dK=>q (v::rest) W' σ' ((M N₄).trans ((N₅.one (.tail _ (.head _))).trans n)) (List.append_assoc done [v] rest▸ca) dK
end
section
variable {C:Ctx0} {A:Around} {W W₁ W₂:Wd} {σ σ' σ₁:St} {v:V} {n h i:Nat} {x y:Value} {E:Value→Shared→Prop} {env:Env} {fr fr':Fr} {k t:Str} {P:Prop} {names all:List (Str×NameKind)} {sc:Scope} {cl:List (Str×Addr)} {L:Addr}
theorem freesW_at:∀ {names:List (Str×NameKind)},freesW fr names=true→(k,NameKind.free)∈names→hasW fr k (kindW fr.sc k)=true
 | (y,j)::r,h,m=>by
  cases m with
  | head=>exact an h fun h I=>h
  | tail _ m=>cases j<;>first | exact an h fun I h=>freesW_at h m | exact freesW_at (names:=r) h m
theorem Hv.cellOf {h:Heap} (H:Hv h env k x) (ne:env.kindOf k≠some .local) (f:∀ c,env.cells.lookup k=some c→h.IsCell c (some x)→P):P:=by
 cases H with
 | loc e=>exact absurd e ne
 | cell _ l i=>exact f _ l i
theorem not_local {o:Option NameKind} {k:NameKind} (h:o=some k∨(k=.free∧o=some .cell)) (hk:k≠.local):o≠some .local:=fun e=>h.elim (fun z=>hk (Option.some.inj (z.symm.trans e))) fun z=>nomatch z.2.symm.trans e
theorem up_at (F:FrAt C fr env W) (hk:kindW fr.sc k=some .cell∨kindW fr.sc k=some .free) (e:seenK fr k (kindW fr.sc k)=some v) (f:∀ x c,Rep C W.r v x→env.cells.lookup k=some c→W.s.heap.IsCell c (some x)→P):P :=
 let ⟨x,H,r⟩:=F.val k v e
 H.cellOf (hk.elim (fun z=>not_local (F.sc _ _ z).1 (fun q=>nomatch q)) fun z=>not_local (F.sc _ _ z).1 fun q=>nomatch q) fun c l i=>f x c r l i
theorem has_el (h:hasW fr k (kindW fr.sc k)=true) (f:kindW fr.sc k=some .cell→P) (g:kindW fr.sc k=some .free→(∃ v,fr.up k=some v)→P):P:=by
 cases e:kindW fr.sc k with
 | none=>rw [e] at h;exact nf h
 | some K =>
  rw [e] at h
  cases K with
  | cell=>exact f e
  | free=>exact g e (Option.isSome_iff_exists.mp h)
  | _=>exact nf h
theorem has_env (F:FrAt C fr env W) (h:hasW fr k (kindW fr.sc k)=true):∃ c,env.cells.lookup k=some c :=
 has_el h (F.cl k) fun e zz=>(by obtain ⟨v,hv⟩:=zz;exact up_at F (.inr e) ((congrArg (seenK fr k) e).trans hv) fun I c I l I=>⟨c,l⟩)
theorem clos_go:∀ (names:List (Str×NameKind)) (acc:List (Str×Addr)),(∀ x,(x,NameKind.free)∈names→∃ c,env.cells.lookup x=some c)→(∀ q∈acc,env.cells.lookup q.1=some q.2) →
  ∃ cl,(forIn names acc fun (p:Str×NameKind) (r:List (Str×Addr))=>(if (p.2==NameKind.free)=true then (cellOf env p.1 >>= fun c=>pure (ForInStep.yield ((p.1,c)::r))) else pure (ForInStep.yield r):Sem _))=pure cl ∧
   (∀ q∈cl,env.cells.lookup q.1=some q.2)∧∀ x,x∈acc.map (·.1)∨(x,NameKind.free)∈names→x∈cl.map (·.1)
 | [],acc,_,ha=>⟨acc,List.forIn_nil,ha,fun I h=>h.elim id fun q=>nomatch q⟩
 | (x,k)::r,acc,hf,ha=>by
  rw [List.forIn_cons]
  dsimp only
  cases hk:k==NameKind.free with
  | true =>
   obtain ⟨c,hc⟩:=hf x (eq_of_beq hk▸.head _)
   obtain ⟨cl,h1,h2,h3⟩:=clos_go r ((x,c)::acc) (fun y hy=>hf y (.tail _ hy)) fun q m=>(List.mem_cons.mp m).elim (fun e=>e▸hc) (ha q)
   refine ⟨cl,?_,h2,fun y hy=>h3 y (hy.elim (fun m=>.inl (.tail _ m)) fun m=>?_)⟩
   ·rw [if_pos rfl,show cellOf env x=pure c by unfold cellOf;rw [hc]]
    exact h1
   ·cases m with
    | head=>exact .inl (.head _)
    | tail _ m=>exact .inr m
  | false =>
   obtain ⟨cl,h1,h2,h3⟩:=clos_go r acc (fun y hy=>hf y (.tail _ hy)) ha
   refine ⟨cl,by rw [if_neg Bool.false_ne_true];exact h1,h2,fun y hy=>h3 y (hy.imp id fun m=>?_)⟩
   cases m with
   | head=>exact nf hk.symm
   | tail _ m=>exact m
theorem look_ex {α:Type} {x:Str}:∀ {l:List (Str×α)},x∈l.map (·.1)→∃ c,l.lookup x=some c
 | (y,c)::l,m=>by
  rw [lookup_cons_if]
  cases e:sBeq x y with
  | true=>exact ⟨c,rfl⟩
  | false=>exact look_ex ((List.mem_cons.mp m).resolve_left fun z=>nf (e.symm.trans ((sBeq_eq x y).trans (decide_eq_true z))))
theorem closure_at (hf:∀ x,(x,NameKind.free)∈sc.names→∃ c,env.cells.lookup x=some c) :
  ∃ cl,closureFor sc env=pure cl∧(∀ p∈cl,env.cells.lookup p.1=some p.2)∧∀ x,(x,NameKind.free)∈sc.names→∃ c,cl.lookup x=some c:=by
 obtain ⟨cl,h1,h2,h3⟩:=clos_go sc.names [] hf fun I h=>nomatch h
 refine ⟨cl,?_,h2,fun x m=>look_ex (h3 x (.inr m))⟩
 simp only [closureFor]
 exact Eq.trans (congrArg (· >>= fun cs=>pure cs) h1) (show (pure cl >>= fun cs=>pure cs:Sem _)=pure cl from rfl)
theorem namesW_at:∀ {names:List (Str×NameKind)} {p:Str×NameKind},namesW all names=true→p∈names→¬ Odd p.1∧(match p.2 with | .cell=>false | .local=>isLoc (kindW all p.1) | _=>true)=true
 | _::r,p,h,m=>an h fun h h4=>an h fun h h3=>an h fun h1 h2=>by
  cases m with
  | head=>exact ⟨fun z=>z.elim (fun z=>nf (((Bool.not_eq_true' _).mp h1).symm.trans ((sBeq_beq ..).trans z))) fun z=>nf (((Bool.not_eq_true' _).mp h2).symm.trans ((sBeq_beq ..).trans z)),h3⟩
  | tail _ m=>exact namesW_at h4 m
structure CompSc (sc:Scope) (t:Str):Prop where
 kind:sc.kind=.function
 nocell:∀ x∈sc.names,x.2≠.cell
 loc:∀ x∈sc.names,x.2=.local→sc.names.lookup x.1=some .local
 dbg:∀ x k,kindW sc.names x=some k→¬ Odd x
 tgt:kindW sc.names t=some .local
theorem isLoc_eq {k:Option NameKind} (h:isLoc k=true):k=some .local:=by
 cases k with
 | none=>exact nf h
 | some K=>cases K<;>first | rfl | exact nf h
theorem compSc_of (h:compScW sc t=true):CompSc sc t:=an h fun h h3=>an h fun h1 h2 =>
 ⟨by cases e:sc.kind with
   | function=>rfl
   | _=>exact nf ((congrArg kFun e).symm.trans h1),fun x m e=>nf ((e▸(namesW_at h2 m).2:(match NameKind.cell with | .cell=>false | .local=>isLoc (kindW sc.names x.1) | _=>true)=true)),
  fun x m e=>(kindW_eq _ _).symm.trans (isLoc_eq ((e▸(namesW_at h2 m).2:(match NameKind.local with | .cell=>false | .local=>isLoc (kindW sc.names x.1) | _=>true)=true))),
  fun x k e=>(namesW_at h2 (mem_of_lookup ((kindW_eq _ _).symm.trans e))).1,isLoc_eq h3⟩
theorem relabel_at {k:NameKind}:∀ {names:List (Str×NameKind)},names.lookup t=some k →
  (names.map fun (n,k)=>if (k==NameKind.free&&env.scope.kind==.function&&env.kindOf n==some .cell) then (n,NameKind.cell) else (n,k)).lookup t=some (if (k==NameKind.free&&env.scope.kind==.function&&env.kindOf t==some .cell)=true then .cell else k)
 | (n,k')::r,h=>by
  rw [lookup_cons_if,sBeq_eq] at h
  show List.lookup t ((if (k'==NameKind.free&&env.scope.kind==.function&&env.kindOf n==some .cell)=true then (n,NameKind.cell) else (n,k'))::_)=_
  rw [show (if (k'==NameKind.free&&env.scope.kind==.function&&env.kindOf n==some .cell)=true then (n,NameKind.cell) else (n,k'))=(n,if (k'==NameKind.free&&env.scope.kind==.function&&env.kindOf n==some .cell)=true then NameKind.cell else k') by split<;>rfl,lookup_cons_if,sBeq_eq]
  by_cases e:t=n
  ·subst e
   rw [decide_eq_true rfl] at h ⊢
   cases Option.some.inj h
   rfl
  ·rw [decide_eq_false e] at h ⊢
   exact relabel_at (names:=r) h
theorem relabel_el {k:NameKind} (h:kindW sc.names t=some k):(compEnvC sc cl L env).kindOf t=some k∨(k=.free∧(compEnvC sc cl L env).kindOf t=some .cell):=by
 have:=relabel_at (env:=env) ((kindW_eq _ _).symm.trans h)
 by_cases q:(k==NameKind.free&&env.scope.kind==.function&&env.kindOf t==some .cell)=true
 ·rw [if_pos q] at this
  exact .inr ⟨an q fun q I=>an q fun q I=>eq_of_beq q,this⟩
 ·rw [if_neg q] at this
  exact .inl this
theorem comp_frame {m:Str→Option Value} (F:FrAt C fr env W) (H:CompSc sc t) (hf:freesW fr sc.names=true) (h2:∀ p∈cl,env.cells.lookup p.1=some p.2) (h3:∀ x,(x,NameKind.free)∈sc.names→∃ c,cl.lookup x=some c) (hn:W.s.heap.Ns L m) (hL:Out W.r L) :
  FrAt C (fr.compW sc.names) (compEnvC sc cl L env) W:=by
 have cle:∀ {x c},cl.lookup x=some c→env.cells.lookup x=some c:=fun h=>h2 _ (mem_of_lookup h)
 have mc:∀ a∈cl.map (·.2),a∈env.cells.map (·.2):=fun a m=>(by obtain ⟨p,m,e⟩:=List.mem_map.mp m;exact e▸cells_mem (h2 p m))
 refine ⟨H.kind,F.glb,F.bi,fun x k h=>⟨relabel_el h,H.dbg x k h⟩,fun x v e=>?_,⟨m,hn⟩,fun x h=>absurd rfl (H.nocell _ (mem_of_lookup ((kindW_eq _ _).symm.trans h))),fun a m=>F.isc a (mc a m),fun a m=>(List.mem_cons.mp m).elim (fun e=>e▸hL) fun m=>F.out a (.tail _ (mc a m)),fun x y c e1 e2=>F.cinj x y c (cle e1) (cle e2)⟩
 cases hk:kindW sc.names x with
 | none=>exact no ((congrArg (seenK (fr.compW sc.names) x) hk).symm.trans e)
 | some K =>
  have e:=(congrArg (seenK (fr.compW sc.names) x) hk).symm.trans e
  cases K with
  | free =>
   have hm:=mem_of_lookup ((kindW_eq _ _).symm.trans hk)
   obtain ⟨c,hc⟩:=h3 x hm
   have hh:=freesW_at hf hm
   exact up_at F (has_el hh .inl fun z I=>.inr z) e fun y c' r l i=>⟨y,.cell ((relabel_el hk).elim .inr fun z=>.inl z.2) hc ((Option.some.inj ((cle hc).symm.trans l)).symm▸i),r⟩
  | _=>exact no e
end
section
variable {C:Ctx0} {A:Around} {W W₁ W₂:Wd} {σ σ' σ₁:St} {v:V} {n h i:Nat} {x y:Value} {E:Value→Shared→Prop} {Q:Value→Shared→Prop} {env:Env} {fr fr':Fr} {k t:Str} {P:Prop} {sc:Scope} {L D:Addr} {K:V→St→MS} {elt it:Expr} {ifs:List Expr}
theorem Nx.dead (n:Nx C [] W W₁ σ) {a:Addr} (h:W₁.s.heap.get? a=none):W.s.heap.get? a=none:=by
 cases e:W.s.heap.get? a with
 | none=>rfl
 | some o =>
  have q:Out W.r a:=⟨by cases z:W.r.fz a with | none=>rfl | some o=>exact no (h.symm.trans (n.R.fz a o (n.S.le.fz a o z))),fun zz=>(by obtain ⟨e,z⟩:=zz;exact (by obtain ⟨_,x⟩:=n.R.live ⟨n.S.le.own _ _ e,z⟩;exact no (h.symm.trans x)))⟩
  exact no (h.symm.trans (n.S.keep a o e q notNil).1)
theorem d_comp_core (hh:A.handled=none) {px pos pos':Pos} {use:Option (Value→Sem Unit)} (hs:notSet it=true) (hg1:compScW sc t=true) (hg2:freesW fr sc.names=true) (d:Den C h A (.ev it fr σ (wComp elt t ifs (fr.compW sc.names) K))) (H:Here C fr env σ W)
  (hend:∀ v D L W' σ',CompEnd C W v D L W' σ'→Den C h A (K v σ')→compPost C.M A E use Q (.ref D) L (.ok .next) W'.s):wpAny C.M A (comprehension (.ListComp elt [⟨.Name t px,it,ifs,0⟩] sc pos) sc env pos' (newList []) false (eval it env) use) Q E W.s:=by
 have S:=compSc_of hg1
 obtain ⟨cl,c1,c2,c3⟩:=closure_at (sc:=sc) (env:=env) fun x m=>has_env H.F (freesW_at hg2 m)
 refine wpAny_comprehension_free (cl:=cl) rfl (folded_of hs) c1 S.kind S.loc (d W env _ _ H fun src x W₁ σ₁ va d=>?_)
 obtain ⟨z,e,d⟩:=d
 obtain ⟨e1,e2⟩:=loopD_of e
 have R₁:=va.n.R
 have F₁:=(H.nx0 va.n).F
 refine it_start R₁ va.r e1 fun o I hit=>wpAny_newObj_type ?_ (Nat.zero_le _)
 refine wpAny_newFunctionEnv S.nocell (fun I h=>nomatch h) (fun h' hns hsb=>?_) S.kind
 have zD:(W₁.s.heap.push o).objs.size=W₁.s.heap.objs.size+1:=Heap.size_push _ _
 have zL:((W₁.s.heap.push o).push { cls:=.type "list",data:=.seq ([]:List Value).toArray }).objs.size=W₁.s.heap.objs.size+2:=(Heap.size_push _ _).trans (congrArg (·+1) zD)
 have kk:HExt ((W₁.s.heap.push o).push { cls:=.type "list",data:=.seq ([]:List Value).toArray }) h':=fun b o' e=>(hsb.2 b (Nat.ne_of_lt (Heap.lt_size e))).trans (push_keep e)
 have hlD:IsL h' (W₁.s.heap.objs.size+1) ([]:List Value).toArray 0:=zD▸kk _ _ (Heap.get?_push_size _ rfl)
 have dd:∀ j,W₁.s.heap.get? (W₁.s.heap.objs.size+j)=none:=fun j=>dead_of (Nat.le_add_right _ _)
 have N:Nx C [] W₁ (W₁.put h' W₁.s.toks) σ₁:=.ext R₁ fun b o' e=>kk b o' (push_keep (push_keep e))
 have ne:∀ {i j:Nat},i≠j→W₁.s.heap.objs.size+i≠W₁.s.heap.objs.size+j:=fun h e=>h (Nat.add_left_cancel e)
 rw [zL] at hns
 have Fc:=comp_frame (t:=t) (Here.nx0 ⟨F₁,R₁⟩ N).F S hg2 c2 c3 hns (R₁.dead (dd 2))
 have nfr:∀ {j:Nat},j≠2→W₁.s.heap.objs.size+j∉frX (compEnvC sc cl (W₁.s.heap.objs.size+2) env):=fun {j} hj m=>(List.mem_cons.mp m).elim (ne hj) fun m=>(by obtain ⟨p,m,e⟩:=List.mem_map.mp m;exact fr_dead F₁ (dd j) (e▸.tail _ (cells_mem (c2 p m))))
 have it':ItAt C (W₁.put h' W₁.s.toks) W₁.s.heap.objs.size 0 src z.1 z.2:=e2▸hit.keep (.refl _) fun o' e=>kk _ o' (push_keep e)
 have X:CompAt C (compEnvC sc cl (W₁.s.heap.objs.size+2) env) W₁.s.heap.objs.size (W₁.s.heap.objs.size+1) src z.1 z.2 0 (fr.compW sc.names) σ₁ [] (W₁.put h' W₁.s.toks) :=
  ⟨⟨⟨Fc,N.R⟩,it',e1,e2,R₁.dead (dd 0),nfr (j:=0) (by decide),Nat.zero_le _⟩,⟨[],0,hlD,.nil⟩,R₁.dead (dd 1),ne (j:=0) (by decide),nfr (by decide),Nat.le_refl _,loop_cap R₁ va.r e1⟩
 have main:codeAny C.M A (.compLoop (.ListComp elt [⟨.Name t px,it,ifs,0⟩] sc pos) 0 (.ref W₁.s.heap.objs.size) (.ref (W₁.s.heap.objs.size+1)) (compEnvC sc cl (W₁.s.heap.objs.size+2) env)) (compPost C.M A E use Q (.ref (W₁.s.heap.objs.size+1)) (W₁.s.heap.objs.size+2)) (W₁.put h' W₁.s.toks).s:=by
  refine d (W₁.put h' W₁.s.toks) _ _ _ 0 _ [] px it sc pos _ X rfl (fun I=>rfl) S.tgt fun rest W₃ σ₃ n₃ fin d=>?_
  obtain ⟨fe,Fe⟩:=fin.F
  obtain ⟨ys,k,hl,hr⟩:=fin.acc
  have N₄:=Nx.frz n₃.R fin.out hl
  obtain ⟨m,hm⟩:=Fe.ns
  obtain ⟨oL,eL⟩:∃ o,W₃.s.heap.get? (W₁.s.heap.objs.size+2)=some o:=(by obtain ⟨o,_,_,e,_⟩:=hm;exact ⟨o,e⟩)
  have kL:=N₄.S.keep (W₁.s.heap.objs.size+2) _ eL (Fe.out _ (.head _)) (ni (ne (j:=1) (by decide)))
  refine hend (.lst rest) _ _ ⟨W₃.r.frz (W₁.s.heap.objs.size+1) _,W₃.s⟩ σ₃ ⟨⟨va.n.trans (((N.wide.trans n₃).trans (N₄.one (.tail _ (.head _)))).to fun a m=>.inr ?_),.lst (frz_self ..) ⟨rfl,k,rfl⟩ (hr.up N₄.S.le) fin.sm⟩,⟨m,hm⟩,va.n.dead (dd 2),kL.2⟩ d
  cases m with
  | head=>exact dd 0
  | tail _ m=>cases m with
   | head=>exact dd 1
   | tail _ m=>exact List.mem_singleton.mp m▸dd 2
 rw [zD,zL]
 exact codeAny_compStart_list main (it_self hh it' main)
theorem let_go (R:Inv C W σ) {h':Heap} (o:Out W.r L) (hs:Heap.SameBut L W.s.heap h'):Nx C [L] W (W.put h' W.s.toks) σ:=.put R [L] (fun b o e m=>(hs.2 b fun z=>m (z▸.head _)).trans e) fun a m=>List.mem_singleton.mp m▸o
theorem d_listcomp (hh:A.handled=none) {px pos:Pos} (hs:notSet it=true) (hg1:compScW sc t=true) (hg2:freesW fr sc.names=true) (d:Den C h A (.ev it fr σ (wComp elt t ifs (fr.compW sc.names) K))):Den C h A (.ev (.ListComp elt [⟨.Name t px,it,ifs,0⟩] sc pos) fr σ K):=by
 intro W env Q E H q
 rw [arm_eval_ListComp]
 refine d_comp_core (use:=none) hh hs hg1 hg2 d H fun v D L W' σ' x d=>⟨_,x.ns.choose_spec,fun h' hs=>?_⟩
 have N:=let_go x.v.n.R x.out hs
 exact q v _ (W'.put h' W'.s.toks) σ' ⟨(x.v.n.wide.trans N).to fun a m=>.inr (List.mem_singleton.mp m▸x.dead),x.v.r⟩ d
end
theorem marks_of {op:CmpOp} {e:Expr} (h:notSet e=true):behindInMarks op e=false:=by
 unfold behindInMarks
 split<;>first | rfl | exact nf h
theorem cmp_marks:∀ {ops:List CmpOp} {rs:List Expr},noSets rs=true→lastMarks ops rs=false
 | [],_,_=>by unfold lastMarks;rfl
 | [_],[],_=>rfl
 | _::_::_,[],_=>rfl
 | [op],[e],h=>an h fun h I=>marks_of h
 | op::op'::ops,e::es,h=>an h fun I h=>(show lastMarks (op'::ops) es=false from cmp_marks h)
 | [op],e::e'::es,h=>an h fun I h=>(show lastMarks [] (e'::es)=false from cmp_marks (ops:=[]) h)
section
variable {C:Ctx0} {A:Around} {W W₁ W₂:Wd} {σ σ' σ₁:St} {v:V} {n h i:Nat} {x y:Value} {env:Env} {fr fr':Fr} {k t:Str} {P:Prop} {K:V→St→MS} {Kb:Bool→St→MS} {Kl:List V→St→MS} {e:Expr} {es:List Expr} {p:Pos}
theorem chk_el {b:Bool} {q:MS} (d:Den C h A (chkS b q)) (k:b=true→Den C h A q→P):P:=by cases b with
 | true=>exact k rfl d
 | false=>exact d.elim
theorem spliced_cons {t:Sem Value} {rest:List (Bool×Sem Value)} {s:Shared} {E:Value→Shared→Prop} {Q:List Value→Shared→Prop} (h:wpAny C.M A t (fun v s₁=>wpAny C.M A (spliced rest) (fun vs s₂=>Q (v::vs) s₂) E s₁) E s) :
  wpAny C.M A (spliced ((false,t)::rest)) Q E s:=by
 unfold spliced
 exact wpAny_bind (wpAny_mono h (fun v s₁ h₁=>wpAny_bind (wpAny_pure (wpAny_bind (wpAny_holding (wpAny_mono h₁ (fun vs s₂ h₂=>wpAny_pure h₂) fun I I x=>x))))) fun I I x=>x)
theorem d_evs (d:Den C h A (evsS fr σ Kl es)):Den C h A (.evs es fr σ Kl):=by
 intro W env Q E H q
 cases es with
 | nil=>exact wpAny_pure (q _ _ _ _ (.refl H.R) .nil rfl d)
 | cons e es=>exact spliced_cons (d W env _ E H fun v x W₁ σ₁ va d=>d W₁ env _ E (H.nx0 va.n) fun vs xs W₂ σ₂ n r hl d=>q _ _ _ _ (va.n.trans n) (.cons (va.r.up n.S.le) r) (congrArg (·+1) hl) d)
theorem spl_plain {Q:List Value→Shared→Prop} {s:Shared} {E:Value→Shared→Prop} (hn:noStar es=true) (h:wpAny C.M A (spliced (es.map fun e=>(false,eval e env))) Q E s):wpAny C.M A (spliced (backTo p (starEach es env))) Q E s:=args_plain hn▸h
theorem d_name (O:C.Ok) (d:Den C h A (nameS fr σ k K (kindW fr.sc k))):Den C h A (.ev (.Name k p) fr σ K):=by
 intro W env Q E H q
 have F:=H.F
 cases hk:kindW fr.sc k with
 | none=>rw [hk] at d;exact d.elim
 | some kd =>
  rw [hk] at d
  obtain ⟨h1,h2⟩:=F.sc k kd hk
  have nd:(k==("__debug__" : Str))=false:=Bool.eq_false_iff.mpr fun z=>h2 (.inl z)
  have loc:∀ {v},seenK fr k (kindW fr.sc k)=some v→Den C h A (K v σ)→wpAny C.M A (eval (.Name k p) env) Q E W.s:=fun {v} e d=>by
   obtain ⟨x,X,r⟩:=F.val k v e
   have q:=(EK.vk q d).at H.R r
   cases X with
   | loc z n e=>exact wpAny_Name (wpAny_loadName_local F.kind z n e q) nd
   | cell z l i=>exact z.elim (fun z=>wpAny_Name (wpAny_loadName_cell F.kind z l i q) nd) fun z=>wpAny_Name (wpAny_loadName_free F.kind z l i q (Bool.eq_false_iff.mpr fun z=>h2 (.inr z))) nd
  have opt:∀ {o:Option V},Den C h A (optS σ K o)→∃ v,o=some v∧Den C h A (K v σ):=fun {o} d=>by cases o with | none=>exact d.elim | some v=>exact ⟨v,rfl,d⟩
  cases kd with
  | «local»=>obtain ⟨v,e,d⟩:=opt d;exact loc ((congrArg (seenK fr k) hk).trans e) d
  | cell=>obtain ⟨v,e,d⟩:=opt d;exact loc ((congrArg (seenK fr k) hk).trans e) d
  | free=>obtain ⟨v,e,d⟩:=opt d;exact loc ((congrArg (seenK fr k) hk).trans e) d
  | globalImplicit =>
   have hn:W.s.heap.Ns env.globals C.mg:=F.glb▸O.g.keeps H.R.keepB
   have hb:W.s.heap.Ns env.builtins C.mb:=F.bi▸O.b.keeps H.R.keepB
   refine Name_function_global F.kind (h1.elim id fun z=>nomatch z.1) ?_ nd
   have glb:∀ {x},C.GV k x→Den C h A (K (.glb k) σ)→wpAny C.M A (loadGlobal env k) Q E W.s:=fun {x} g d=>g.elim (fun e=>loadGlobal_global hn e ((EK.vk q d).at H.R (.glb (.inl e)))) fun e=>loadGlobal_builtin hn e.1 hb e.2 ((EK.vk q d).at H.R (.glb (.inr e)))
   cases hg:globW k with
   | none=>exact False.elim (show Den C h A (gS σ k K none) from hg▸d)
   | some g =>
    have d:Den C h A (gS σ k K (some g)):=hg▸d
    cases g with
    | val v=>obtain ⟨x,e,r⟩:=O.glob k v hg;exact loadGlobal_global hn e ((EK.vk q d).at H.R (r.up H.R.le))
    | _=>obtain ⟨x,g⟩:=O.glob2 k _ hg (fun I e=>nomatch e);exact glb g d
  | _=>exact d.elim
theorem d_const {c:Const} {kd} (d:Den C h A (constS σ K c)):Den C h A (.ev (.Constant c kd p) fr σ K):=by
 intro W env Q E H q
 cases c with
 | none=>exact wpAny_pure ((EK.vk q d).at H.R .none)
 | bool b=>exact wpAny_pure ((EK.vk q d).at H.R (.bool b))
 | int i=>exact wpAny_Constant_int ((EK.vk q d).tk H.R (.int _ _))
 | str i=>exact wpAny_Constant_str ((EK.vk q d).tk H.R (.str _ _))
 | _=>exact d.elim
theorem short_sm {α β:Type} {l:List α} {k:List β} {n:Nat} (h:short n l=true) (e:k.length=l.length) (hn:n≤cap):Sm k:=Nat.le_trans (Nat.le_of_eq e) (Nat.le_trans (short_le h) hn)
theorem d_tuple {kd:Nat} (d:Den C h A (chkS (short 64 es&&noStar es) (.evs es fr σ (wTup K)))):Den C h A (.ev (.Tuple es kd p) fr σ K):=by
 intro W env Q E H q
 exact chk_el d fun hc d=>an hc fun h1 h2=>Tuple_ (spl_plain h2 (d W env _ E H fun vs xs W₁ σ₁ n r hl d =>
  have z:=short_sm h1 hl (by decide)
  wpAny_newObj_type (new_tup (t:=W₁.s.toks) n.R r z (EK.vk (EK.nx q n) d)) (r.sm z)))
theorem d_list (d:Den C h A (chkS (short 64 es&&noStar es) (.evs es fr σ (wLst K)))):Den C h A (.ev (.List es p) fr σ K):=by
 intro W env Q E H q
 exact chk_el d fun hc d=>an hc fun h1 h2=>List_ (spl_plain h2 (d W env _ E H fun vs xs W₁ σ₁ n r hl d =>
  have z:=short_sm h1 hl (by decide)
  wpAny_newObj_type (new_lst (t:=W₁.s.toks) n.R r z (EK.vk (EK.nx q n) d)) (r.sm z)))
theorem d_listM (O:C.Ok) (d:Den C h A (chkS (short 64 es&&noStar es) (.evs es fr σ (wNew K)))):Den C h A (.ev (.List es p) fr σ K):=by
 intro W env Q E H q
 exact chk_el d fun hc d=>an hc fun h1 h2=>List_ (spl_plain h2 (d W env _ E H fun vs xs W₁ σ₁ n r hl d=>by
  have z:=short_sm h1 hl (by decide)
  have D:=dead_of (Nat.le_refl W₁.s.heap.objs.size)
  have N:=Nx.newO (p:=(W₁.s.heap.objs.size,W₁.s.heap.objs.size)) (t:=W₁.s.toks) n.R (fun a m=>(m.elim id id:a=_)▸⟨D,n.R.low O⟩) (fun I I e=>push_keep e) (.list (n:=0) (Heap.get?_push_size _ rfl) (r.up (.add ..)) z rfl)
  exact wpAny_newObj_type (q _ _ _ _ ⟨n.trans N,.loc (own_new n.R _)⟩ d) (r.sm z)))
theorem d_un {op:UnaryOp} {e:Expr} (d:Den C h A (.ev e fr σ (wUn op K))):Den C h A (.ev (.UnaryOp op e p) fr σ K):=by
 intro W env Q E H q
 rw [arm_eval_UnaryOp]
 exact wpAny_bind (d W env _ E H fun v x W₁ σ₁ va zz=>(by obtain ⟨z,hz,d⟩:=zz;exact wpAny_bind (wpAny_standAt (wpAny_holding (sim_un va.n.R va.r hz (EK.vk (EK.nx q va.n) d))))))
theorem d_bin {op:Operator} {e e':Expr} (d:Den C h A (.ev e fr σ (wBin op e' fr K))):Den C h A (.ev (.BinOp e op e' p) fr σ K):=by
 intro W env Q E H q
 rw [arm_eval_BinOp]
 exact wpAny_bind (d W env _ E H fun v x W₁ σ₁ va d=>wpAny_bind (wpAny_holding (d W₁ env _ E (H.nx0 va.n) fun u y W₂ σ₂ vb zz=>(by obtain ⟨z,hz,d⟩:=zz;exact wpAny_bind (wpAny_standAt (wpAny_operating (sim_bin vb.n.R (va.r.up vb.n.S.le) vb.r hz (EK.vk (EK.nx q (va.n.trans vb.n)) d))))))))
theorem d_ife {t b o:Expr} (d:Den C h A (.cond t fr σ (wIfE b o fr K))):Den C h A (.ev (.IfExp t b o p) fr σ K):=by
 intro W env Q E H q
 rw [arm_eval_IfExp]
 refine wpAny_bind (d W env _ E H fun c W₁ σ₁ n d=>?_)
 cases c with
 | true=>exact d W₁ env _ E (H.nx0 n) (EK.nx q n)
 | false=>exact d W₁ env _ E (H.nx0 n) (EK.nx q n)
theorem d_attrE (O:C.Ok) {o:Expr} (d:Den C h A (chkS (!bareCall o) (.ev o fr σ (wAttr k K)))):Den C h A (.ev (.Attribute o k p) fr σ K):=by
 intro W env Q E H q
 refine chk_el d fun hb d=>?_
 rw [arm_eval_Attribute,attributeBase_of hb]
 exact wpAny_bind (d W env _ E H fun v x W₁ σ₁ va d=>wpAny_bind (wpAny_standAt (wpAny_bind (wpAny_holding (d_attr O va.n.R va.r d fun z y W₂ vb d=>wpAny_bind (wpAny_letTemporaryGo (wpAny_pure (q _ _ _ _ ⟨va.n.trans vb.n,vb.r⟩ d))))))))
theorem d_subE (Rm:Room A n) {o i:Expr} (d:Den C h A (.ev o fr σ (wSub i fr K))):Den C h A (.ev (.Subscript o i p) fr σ K):=by
 intro W env Q E H q
 exact Subscript_ (d W env _ E H fun v x W₁ σ₁ va d=>d W₁ env _ E (H.nx0 va.n) fun u y W₂ σ₂ vb zz=>(by obtain ⟨z,hz,d⟩:=zz;exact (sim_sub Rm vb.n.R (va.r.up vb.n.S.le) vb.r hz (EK.vk (EK.nx q (va.n.trans vb.n)) d)).tail))
theorem d_slice {o:Expr} {lo hi st:Option Expr} {ps:Pos} (d:Den C h A (.ev o fr σ (wSlice lo hi st K))):Den C h A (.ev (.Subscript o (.Slice lo hi st ps) p) fr σ K):=by
 intro W env Q E H q
 refine Subscript_ (d W env _ E H fun v x W₁ σ₁ va d=>?_)
 have d:Den C h A (match optInt lo,optInt hi,optInt st with | some lo,some hi,some st=>.ask (sliceV σ₁ v lo hi st) (wV K σ₁) | _,_,_=>.done False):=d
 cases e1:optInt lo with
 | none=>rw [e1] at d;exact d.elim
 | some lo'=>cases e2:optInt hi with
  | none=>rw [e1,e2] at d;exact d.elim
  | some hi'=>cases e3:optInt st with
   | none=>rw [e1,e2,e3] at d;exact d.elim
   | some st' =>
    rw [e1,e2,e3] at d
    obtain ⟨z,hz,d⟩:=d
    rw [arm_eval_Slice]
    refine wpAny_bind (sim_part va.n.R e1 fun vl W₂ p1 n2=>wpAny_bind (wpAny_holding (sim_part n2.R e2 fun vu W₃ p2 n3=>wpAny_bind (wpAny_holding (sim_part n3.R e3 fun vs W₄ p3 n4=>wpAny_newObj_type ?_)))))
    have N:=Nx.ext n4.R (h':=W₄.s.heap.push { cls:=.type "slice",data:=.fields #[vl,vu,vs] }) (t:=W₄.s.toks) fun I I e=>push_keep e
    have M:=n2.trans (n3.trans (n4.trans N))
    exact (sim_getSlice (W:=W₄.put _ _) N.R (va.r.up M.S.le) hz (Heap.IsSliceOf.new ..) p1 p2 p3 (EK.vk (EK.nx q (va.n.trans M)) d)).tail
end
section
variable {C:Ctx0} {A:Around} {W W₁ W₂:Wd} {r:Rn} {σ σ' σ₁:St} {v:V} {n h i:Nat} {x y:Value} {env:Env} {fr fr':Fr} {k t:Str} {P:Prop} {K:V→St→MS} {Kb:Bool→St→MS} {Kl:List V→St→MS} {e:Expr} {es:List Expr} {p:Pos} {E:Value→Shared→Prop} {D:Addr}
abbrev PRs (C:Ctx0) (r:Rn):List (V×V)→List (Value×Value)→Prop:=F2 fun p x=>Rep C r p.1 x.1∧Rep C r p.2 x.2
theorem d_dict {K:List (V×V)→St→MS} {ks:List (Option Expr)} {vs:List Expr} (d:Den C h A (dictS fr σ K ks vs)):Den C h A (.dict ks vs fr σ K):=by
 intro W env pos Q E H q
 cases ks with
 | nil=>cases vs with
  | nil=>exact evalPairs_nil (q _ _ _ _ (.refl H.R) .nil rfl d)
  | cons=>exact d.elim
 | cons k ks=>cases k with
  | none=>cases vs<;>exact d.elim
  | some k=>cases vs with
   | nil=>exact d.elim
   | cons v vs=>exact evalPairs_cons (d W env _ E H fun a x W₁ σ₁ va d=>wpAny_bind (d W₁ env _ E (H.nx0 va.n) fun b y W₂ σ₂ vb d=>wpAny_bind (wpAny_standAt (wpAny_pure (d W₂ env pos _ E ((H.nx0 va.n).nx0 vb.n) fun ps xs W₃ σ₃ n f hl d =>
     q _ _ _ _ (va.n.trans (vb.n.trans n)) (.cons ⟨va.r.up (vb.n.S.le.trans n.S.le),vb.r.up n.S.le⟩ f) (congrArg (·+1) hl) d)))))
abbrev SK (C:Ctx0) (r:Rn):List (V×V)→List (Str×Value)→Prop:=F2 fun e kv=>e.1=V.str kv.1∧Rep C r e.2 kv.2
theorem store_all {ps:List (V×V)} {xs:List (Value×Value)} (f:PRs C r ps xs):∀ {es:List (V×V)} {kvs:List (Str×Value)} {s:Shared} {Q:Unit→Shared→Prop},allTag 2 ps=true→s.heap.DictAt (PySem.strKind C.prog C.w) D kvs kvs.length→SK C r es kvs→es.length+ps.length≤sizeLine →
  (∀ h' tk kvs',h'.DictAt (PySem.strKind C.prog C.w) D kvs' kvs'.length→SK C r (ps.foldl (fun es p=>dictSetV es p.1 p.2) es) kvs'→Heap.SameBut D s.heap h'→Q () { s with heap:=h',toks:=tk })→wpAny C.M A (storeAll D xs) Q E s:=by
 induction f with
 | nil =>
  intro es kvs s Q _ da f _ q
  unfold storeAll
  rw [List.forIn_nil]
  exact wpAny_pure (q s.heap s.toks kvs da f (Heap.SameBut.refl _ _))
 | @cons p x ps xs a _ ih =>
  intro es kvs s Q ht da f hz q
  obtain ⟨u,b⟩:=p
  obtain ⟨x,y⟩:=x
  refine an ht fun h1 h2=>?_
  cases u with
  | str k =>
   obtain ⟨t,rfl⟩:∃ t,x=.str k t:=Rep.elS (P:=fun x=>∃ t,x=.str k t) a.1 fun t=>⟨t,rfl⟩
   unfold storeAll at ih ⊢
   rw [List.forIn_cons]
   have hl:=dictSet_len es (.str k) b
   refine wpAny_bind (wpAny_bind (key_dictSet (strKind_is _ _ k t) da (f.len▸Nat.le_trans (Nat.le_add_right _ _) hz) fun h' da' hs=>wpAny_pure ?_))
   exact ih (s:={ s with heap:=h',toks:=s.toks+1 }) h2 da' (f2_stored (k:=k) (fun I I=>V.str.inj) a.2 f) (Nat.le_trans (Nat.add_le_add_right hl _) (Nat.le_trans (Nat.le_of_eq (Nat.succ_add _ _)) hz)) fun h2 tk kvs2 da2 f2 hs2=>q h2 tk kvs2 da2 f2 (hs.trans hs2)
  | tup l=>unfold V.tag at h1;dsimp only at h1;split at h1<;>exact nf h1
  | _=>exact nf h1
theorem dictPut_len (es:List (V×V)) (ps:List (V×V)):(ps.foldl (fun es p=>dictSetV es p.1 p.2) es).length≤es.length+ps.length:=by
 induction ps generalizing es with
 | nil=>exact Nat.le_refl _
 | cons p ps ih =>
  have h1:=ih (dictSetV es p.1 p.2)
  have h2:=dictSet_len es p.1 p.2
  show _≤es.length+(ps.length+1)
  exact Nat.le_trans h1 (by fail "a")
theorem drep_str {h':Heap} {kvs:List (Str×Value)} {es:List (V×V)} (da:h'.DictAt (PySem.strKind C.prog C.w) D kvs kvs.length) (f:SK C r es kvs):DRep C r h' D es:=by
 have ex:∃ o,h'.get? D=some o∧o.ExactDict:=(by obtain ⟨o,_,ho,hx,_⟩:=da;exact ⟨o,ho,hx⟩)
 cases f with
 | nil =>
  obtain ⟨o,⟨l⟩,ho,hx,hd,hk,hp,hn⟩:=da
  cases hp
  exact ⟨ex,fun I=>⟨[],⟨o,_,ho,hx,hd,(fun I h=>nomatch h),.nil,.nil⟩,.nil⟩,fun I=>⟨[],⟨o,_,ho,hx,hd,(fun I h=>nomatch h),.nil,.nil⟩,.nil⟩,fun I=>⟨[],⟨o,_,_,ho,hx,hd,rfl,(fun I h=>nomatch h),.nil⟩,.nil,fun I h=>nomatch h⟩⟩
 | @cons a b as bs x f=>exact .of (.head _) ex (fun e=>by rw [x.1] at e;cases e) (fun I=>⟨_,da,.cons x f⟩) fun e=>by rw [x.1] at e;cases e
theorem dict_end (hd:W.s.heap.get? D=none) (hl:sysModules < D) (N:Nx C [D] W W₁ σ₁) (out:Out W₁.r D) {h':Heap} {tk:Nat} {kvs:List (Str×Value)} {es:List (V×V)} (da:h'.DictAt (PySem.strKind C.prog C.w) D kvs kvs.length) (f:SK C W₁.r es kvs) (hs:Heap.SameBut D W₁.s.heap h') (hz:Sm es)
  {Q:Value→Shared→Prop} (q:EK C h A K W Q) (d:Den C h A (K (.loc σ₁.length) (σ₁++[.dict es]))):Q (.ref D) { W₁.s with heap:=h',toks:=tk }:=by
 have N₂:=Nx.put (h':=h') (t:=tk) N.R [D] (fun b o e m=>(hs.2 b fun z=>m (z▸.head _)).trans e) fun a m=>List.mem_singleton.mp m▸out
 have N₃:=Nx.own (p:=(D,D)) N₂.R (fun a m=>(m.elim id id:a=D)▸⟨out,hl⟩) (.dict (drep_str da (f.mono fun I I z=>⟨z.1,z.2.up (.add ..)⟩)) hz rfl)
 exact q _ _ _ _ ⟨((N.trans N₂).trans (N₃.to fun a m=>.inl (by cases m with | head=>exact .head _ | tail _ m=>exact m))).to fun a m=>.inr (List.mem_singleton.mp m▸hd),.loc (p:=(D,D)) (own_new N₂.R _)⟩ d
theorem disp_all:∀ {ks:List (Option Expr)} {vs:List Expr},dispOk ks vs=true→ks.all (·.isSome)=true∧ks.length=vs.length
 | [],[],_=>⟨rfl,rfl⟩
 | some _::ks,_::vs,h=>(by obtain ⟨a,b⟩:=disp_all (ks:=ks) (vs:=vs) h;exact ⟨a,congrArg (·+1) b⟩)
theorem d_dictE (O:C.Ok) {ks:List (Option Expr)} {vs:List Expr} (d:Den C h A (chkS (short 15 ks&&dispOk ks vs) (.dict ks vs fr σ (wDict K)))):Den C h A (.ev (.Dict ks vs p) fr σ K):=by
 intro W env Q E H q
 refine chk_el d fun hc d=>an hc fun h1 h2=>?_
 have hd:=dead_of (Nat.le_refl W.s.heap.objs.size)
 have low:=H.R.low O
 have N:Nx C [] W (W.put (W.s.heap.push emptyDict) W.s.toks) σ:=.ext H.R fun I I e=>push_keep e
 have ge:=Heap.get?_push_size (o:=emptyDict) W.s.heap rfl
 have d0:∀ {h':Heap},h'.get? W.s.heap.objs.size=some emptyDict→h'.DictAt (PySem.strKind C.prog C.w) W.s.heap.objs.size [] 0:=fun e=>⟨_,#[],e,⟨rfl,rfl,rfl⟩,rfl,(fun I he=>nomatch he),.nil,.nil⟩
 obtain ⟨e1,e2⟩:=disp_all h2
 have main:=fun Q E q=>d (W.put (W.s.heap.push emptyDict) W.s.toks) env p Q E (H.nx0 N) q
 cases ks with
 | nil =>
  cases vs with
  | cons=>exact nomatch e2
  | nil =>
   refine fun Γ pp hΓ=>wpAny_Dict_empty (main (fun I s=>Q (.ref W.s.heap.objs.size) s) E (fun ps xs W₁ σ₁ n f hl d=>?_) Γ pp hΓ) Γ pp hΓ
   have kD:=n.S.keep _ _ ge (H.R.dead hd) notNil
   cases ps with
   | nil=>exact dict_end hd low (N.wide.trans n.wide) kD.2 (d0 kD.1) .nil (Heap.SameBut.refl _ _) (Nat.zero_le _) q d
   | cons=>exact nomatch hl
 | cons k ks =>
  refine wpAny_Dict_any e1 e2 (fun e=>nomatch e) (short_le h1) (main _ _ fun ps xs W₁ σ₁ n f hl d=>?_)
  have kD:=n.S.keep _ _ ge (H.R.dead hd) notNil
  cases ps with
  | nil=>exact nomatch hl
  | cons a ps =>
   obtain ⟨hc,d⟩:=d
   refine an hc fun ht hl=>store_all f ht (d0 kD.1) .nil (Nat.le_trans (Nat.le_of_eq (Nat.zero_add _)) (Nat.le_trans (of_decide_eq_true hl) (by decide))) fun h' tk kvs da f hs=>?_
   exact dict_end hd low (N.wide.trans n.wide) kD.2 da f hs (Nat.le_trans (dictPut_len [] _) (Nat.le_trans (Nat.le_of_eq (Nat.zero_add _)) (Nat.le_trans (of_decide_eq_true hl) (by decide)))) q d
end
section
variable {C:Ctx0} {A:Around} {W W₁ W₂:Wd} {σ σ' σ₁:St} {v a:V} {n h i:Nat} {x y:Value} {env:Env} {fr fr':Fr} {P:Prop} {K:V→St→MS} {Kb:Bool→St→MS} {e:Expr} {es:List Expr} {p:Pos} {E:Value→Shared→Prop} {op:BoolOp} {ops:List CmpOp}
theorem d_bools (d:Den C h A (boolsS fr σ op K es)):Den C h A (.bools op es fr σ K):=by
 intro W env pos Q E H q
 cases es with
 | nil=>exact d.elim
 | cons e es=>cases es with
  | nil=>exact d W env Q E H q
  | cons e' es =>
   show wpAny _ _ (do
    let v ← eval e env
    standAt pos
    let t ← holding [v] (truthy v)
    match op,t with
    | .And,false | .Or,true=>pure v
    | _,_=>boolOp pos op (evalEach (e'::es) env)) _ _ _
   refine wpAny_bind (d W env _ E H fun v x W₁ σ₁ va ⟨b,hb,d⟩=>wpAny_bind (wpAny_standAt (wpAny_bind (wpAny_holding (sim_truthy va.n.R va.r hb fun tk=>?_)))))
   have N:=va.n.trans (Nx.tk va.n.R tk)
   have go:Den C h A (.bools op (e'::es) fr σ₁ K)→wpAny C.M A (boolOp pos op (evalEach (e'::es) env)) Q E { W₁.s with toks:=tk }:=fun d=>d (W₁.put W₁.s.heap tk) env pos Q E (H.nx0 N) (EK.nx q N)
   have no':Den C h A (K v σ₁)→wpAny C.M A (pure x) Q E { W₁.s with toks:=tk }:=fun d=>wpAny_pure ((EK.vk (EK.nx q va.n) d).tk va.n.R va.r)
   cases op<;>cases b
   ·exact no' d
   ·exact go d
   ·exact go d
   ·exact no' d
theorem d_conds (d:Den C h A (condsS fr σ op Kb es)):Den C h A (.conds op es fr σ Kb):=by
 intro W env Q E H q
 cases es with
 | nil=>exact d.elim
 | cons e es =>
  rw [arm_allTrue_cons]
  cases es with
  | nil=>exact wpAny_bind (d W env _ E H fun b W₁ σ₁ n d=>by cases op<;>cases b<;>exact wpAny_pure (q _ _ _ n d))
  | cons e' es =>
   refine wpAny_bind (d W env _ E H fun b W₁ σ₁ n d=>?_)
   have go:Den C h A (.conds op (e'::es) fr σ₁ Kb)→wpAny C.M A (allTrue op (e'::es) env) Q E W₁.s:=fun d=>d W₁ env Q E (H.nx0 n) fun b W₂ σ₂ n₂ d=>q b W₂ σ₂ (n.trans n₂) d
   cases op<;>cases b
   ·exact wpAny_pure (q _ _ _ n d)
   ·exact go d
   ·exact go d
   ·exact wpAny_pure (q _ _ _ n d)
theorem cmps_el (d:Den C h A (cmpsS fr σ a Kb ops es)) (k1:∀ {op e},Den C h A (.ev e fr σ (wCmp1 op a Kb))→ops=[op]→es=[e]→P)
  (k2:∀ {op op' e e'} {ops':List CmpOp} {es':List Expr},Den C h A (.ev e fr σ (wCmp2 op a (op'::ops') (e'::es') fr Kb))→ops=op::op'::ops'→es=e::e'::es'→P):P:=by
 cases ops with
 | nil=>exact d.elim
 | cons op ops=>cases es with
  | nil=>exact d.elim
  | cons e es=>cases ops with
   | nil=>cases es with
    | nil=>exact k1 d rfl rfl
    | cons=>exact d.elim
   | cons op' ops=>cases es with
    | nil=>exact d.elim
    | cons e' es=>exact k2 d rfl rfl
theorem d_cmps (Rm:Room A n) (d:Den C h A (cmpsS fr σ a Kb ops es)):Den C h A (.cmps ops es a fr σ Kb):=by
 intro W env pos x H r
 refine cmps_el d (fun {op e} d e1 e2=>?_) (fun {op op' e e' ops es} d e1 e2=>?_)
 all_goals subst e1 e2
 ·have one:∀ {Q:Value→Shared→Prop} {E},(∀ y W₁ σ₁,Nx C [] W W₁ σ₁→(∀ Q E,(∀ b tk,Den C h A (Kb b σ₁)→Q (.bool b) { W₁.s with toks:=tk })→wpAny C.M A (compareOp op x y) Q E W₁.s)→Q y W₁.s)→wpAny C.M A (eval e env) Q E W.s:=fun k =>
   d W env _ _ H fun u y W₁ σ₁ va d=>k y W₁ σ₁ va.n fun Q E q=>cmpS_el d fun c hc d=>sim_cmp Rm va.n.R (r.up va.n.S.le) va.r hc fun t=>q c t d
  refine ⟨fun Q E q=>chain_last (one fun y W₁ σ₁ n k=>k _ _ fun b tk d=>q b _ _ (n.trans (Nx.tk n.R tk)) d),fun Q E q=>?_⟩
  show wpAny _ _ (do
   let rv ← holding [x] (eval e env)
   standAt pos
   let c ← operate [x,rv] (compareOp op x rv)
   holding [c] (truthy c)) _ _ _
  exact wpAny_bind (wpAny_holding (one fun y W₁ σ₁ n k=>wpAny_bind (wpAny_standAt (wpAny_bind (wpAny_operating (k _ _ fun b tk d=>wpAny_holding (wpAny_truthy_bool (q b (W₁.put W₁.s.heap tk) _ (n.trans (Nx.tk n.R tk)) d))))))))
 ·have two:∀ {Q:Value→Shared→Prop} {E},(∀ y W₁ σ₁,Nx C [] W W₁ σ₁→(∀ Q E,(∀ b tk,(b=false→Den C h A (Kb false σ₁))→(b=true→((∀ Q E,(∀ b W' σ',Nx C [] W W' σ'→Den C h A (Kb b σ')→Q (.bool b) W'.s)→wpAny C.M A (compareChain pos y (op'::ops) (evalEach (e'::es) env)) Q E { W₁.s with toks:=tk }) ∧
     (∀ (Q:Bool→Shared→Prop) E,(∀ b W' σ',Nx C [] W W' σ'→Den C h A (Kb b σ')→Q b W'.s)→wpAny C.M A (testChain pos y (op'::ops) (evalEach (e'::es) env)) Q E { W₁.s with toks:=tk })))→Q (.bool b) { W₁.s with toks:=tk })→wpAny C.M A (compareOp op x y) Q E W₁.s)→Q y W₁.s)→wpAny C.M A (eval e env) Q E W.s:=fun k =>
   d W env _ _ H fun u y W₁ σ₁ va d=>k y W₁ σ₁ va.n fun Q E q=>cmpS_el d fun c hc d=>sim_cmp Rm va.n.R (r.up va.n.S.le) va.r hc fun tk=>q c tk (fun z=>by subst z;exact d) fun z=>by
    subst z
    have N:=va.n.trans (Nx.tk va.n.R tk)
    have z:=d (W₁.put W₁.s.heap tk) env pos y (H.nx0 N) va.r
    exact ⟨fun Q E q=>z.1 Q E fun b W' σ' n d=>q b W' σ' (N.trans n) d,fun Q E q=>z.2 Q E fun b W' σ' n d=>q b W' σ' (N.trans n) d⟩
  refine ⟨fun Q E q=>chain_link (two fun y W₁ σ₁ n k=>k _ _ fun b tk f t=>wpAny_truthy_bool ?_),fun Q E q=>?_⟩
  ·cases b with
   | false=>exact q false (W₁.put W₁.s.heap tk) _ (n.trans (Nx.tk n.R tk)) (f rfl)
   | true=>exact (t rfl).1 Q E q
  ·show wpAny _ _ (do
    let rv ← holding [x] (eval e env)
    standAt pos
    let c ← holding [x,rv] (compareOp op x rv)
    release [x,rv] [c]
    if ← holding [c,rv] (truthy c) then testChain pos rv (op'::ops) (evalEach (e'::es) env) else pure false) _ _ _
   refine wpAny_bind (wpAny_holding (two fun y W₁ σ₁ n k=>wpAny_bind (wpAny_standAt (wpAny_bind (wpAny_holding (k _ _ fun b tk f t=>wpAny_bind (wpAny_release' (wpAny_bind (wpAny_holding (wpAny_truthy_bool ?_))))))))))
   cases b with
   | false=>exact wpAny_pure (q false (W₁.put W₁.s.heap tk) _ (n.trans (Nx.tk n.R tk)) (f rfl))
   | true=>exact (t rfl).2 Q E q
theorem d_cmpE {l:Expr} (d:Den C h A (chkS (noSets es) (.ev l fr σ (wCmp ops es fr (wBV K))))):Den C h A (.ev (.Compare l ops es p) fr σ K):=by
 intro W env Q E H q
 refine chk_el d fun hn d=>?_
 rw [arm_eval_Compare,markedEach_of_false _ _ _ (cmp_marks hn)]
 exact wpAny_bind (d W env _ E H fun v x W₁ σ₁ va d=>(d W₁ env p x (H.nx0 va.n) va.r).1 Q E fun b W₂ σ₂ n d=>q _ _ _ _ ⟨va.n.trans n,.bool b⟩ d)
theorem cond_plain (d:Den C h A (.ev e fr σ (wTr Kb))) (he:∀ env,isTrue e env (eval e env)=(do let v ← eval e env;standAt e.pos;holding [v] (truthy v))):Den C h A (.cond e fr σ Kb):=by
 intro W env Q E H q
 exact isTrue_plain (d W env _ E H fun v x W₁ σ₁ va zz=>(by obtain ⟨b,hb,d⟩:=zz;exact sim_truthy va.n.R va.r hb fun tk=>q b (W₁.put W₁.s.heap tk) _ (va.n.trans (Nx.tk va.n.R tk)) d)) (he env)
theorem d_cond (d:Den C h A (condS fr σ Kb e)):Den C h A (.cond e fr σ Kb):=by
 cases e with
 | UnaryOp op x p=>cases op with
  | Not=>exact fun W env Q E H q=>isTrue_not (d W env _ E H fun b W₁ σ₁ n d=>q _ _ _ n d)
  | _=>exact cond_plain d fun I=>rfl
 | BoolOp op vs p=>exact fun W env Q E H q=>(arm_isTrue_BoolOp ..).symm▸d W env Q E H q
 | IfExp t y o p =>
  intro W env Q E H q
  rw [arm_isTrue_IfExp]
  refine wpAny_bind (d W env _ E H fun c W₁ σ₁ n d=>?_)
  cases c with
  | true=>exact d W₁ env _ E (H.nx0 n) fun b W₂ σ₂ n₂ d=>q b W₂ σ₂ (n.trans n₂) d
  | false=>exact d W₁ env _ E (H.nx0 n) fun b W₂ σ₂ n₂ d=>q b W₂ σ₂ (n.trans n₂) d
 | Compare l ops rs p =>
  intro W env Q E H q
  refine chk_el d fun hn d=>?_
  rw [arm_isTrue_Compare,markedEach_of_false _ _ _ (cmp_marks hn)]
  exact wpAny_bind (d W env _ E H fun v x W₁ σ₁ va d=>(d W₁ env p x (H.nx0 va.n) va.r).2 Q E fun b W₂ σ₂ n d=>q _ _ _ (va.n.trans n) d)
 | _=>exact cond_plain d fun I=>rfl
end
section
variable {prog:Program} {w:World} {A:Around} {s:Shared} {E:Value→Shared→Prop}
theorem list_put {l:Addr} {items:Array Value} {k:Int} {t:Tok} {v:Value} {Q:Unit→Shared→Prop} (hl:s.heap.IsList l items)
  (h0:0≤k) (hfit:k < 2 ^ 63) (hn:k < items.size) (hQ:Q () { s with heap:=s.heap.update l (Obj.mapSeq (·.setIfInBounds k.toNat v)) }) :
  wpAny (model prog w) A (setItem (.ref l) (.int k t) v) Q E s:=by
 obtain ⟨o,ho,hc,ne,hd⟩:=id hl
 unfold setItem
 try with_reducible refine wpAny_holding ?_
 refine wpAny_bind (wpAny_sequenceKey hl.typeIs (by decide) ?_)
 refine wpAny_bind (wpAny_callSpecial?_slot (name:=Str.ofString "__setitem__") hl.typeIs slot_list_setitem
  (wpAny_call_entry slot_list_setitem hl.typeIs entry_list_setitem ?_ (args_list_setitem _ _ _)))
 show wpAny _ _ (Builtin.List.listSubscript? (.int k t) >>= _) _ _ s
 refine wpAny_bind (wpAny_listSubscript_int (fitsIndex_of h0 hfit) ?_)
 clear hfit
 obtain ⟨j,rfl⟩:=Int.eq_ofNat_of_zero_le h0
 have hj:j < items.size:=Int.ofNat_lt.mp hn
 show wpAny _ _ ((seqItemAt l j >>= fun r=>pure (r.map (j,·))) >>= _) _ _ s
 refine wpAny_bind (wpAny_bind (wpAny_seqItemAt ho hd (wpAny_pure ?_)))
 rw [Array.getElem?_eq_getElem hj]
 show wpAny _ _ (setSeqItemAt l j v >>= _) _ _ s
 refine wpAny_bind (wpAny_setSeqItemAt ho hd ?_)
 exact wpAny_bind (wpAny_pure (wpAny_pure ⟨.none,rfl,wpAny_pure hQ⟩))
end
section
variable {C:Ctx0} {A:Around} {W W₁ W₂:Wd} {σ σ' σ₁:St} {v u:V} {n h m:Nat} {x y z:Value} {env:Env} {fr fr':Fr} {k:Str} {P:Prop} {K:Fl→Fr→St→MS} {E:Value→Shared→Prop} {p:Pos}
theorem d_setI (Rm:Room A n) (R:Inv C W σ) {Q:Unit→Shared→Prop} (r:Rep C W.r v x) (ri:Rep C W.r u y) {t:V} (rt:Rep C W.r t z) (d:Den C h A (wAsSub2 v t fr K u σ)) (q:∀ W' σ',Nx C [] W W' σ'→Den C h A (K .next fr σ')→Q () W'.s):wpAny C.M A (setItem x y z) Q E W.s:=by
 cases v with
 | loc m =>
  obtain ⟨o,ho,d⟩:=d
  refine r.elO fun p e=>?_
  have X:=R.obs m p _ e ho
  cases o with
  | list l =>
   cases u with
   | int k =>
    obtain ⟨hc,d⟩:=d
    refine an hc fun h0 hl=>X.elL fun xs i a b c he=>ri.elI fun tk=>?_
    have h0:=of_decide_eq_true h0
    have hl:k.toNat < xs.length:=b.len▸of_decide_eq_true hl
    have hk:k < xs.toArray.size:=Int.toNat_of_nonneg h0▸Int.ofNat_lt.mpr hl
    exact list_put (IsL.isList a) h0 (Int.lt_trans hk (b.fit c)) hk (q _ _ (list_turn (t:=W.s.toks) (f:=fun ys=>ys.setIfInBounds k.toNat z) R e he a (List.setIfInBounds_toArray ..) (b.set rt k.toNat) (Nat.le_trans (Nat.le_of_eq List.length_set) c)) d)
   | _=>exact d.elim
  | dict es =>
   obtain ⟨hc,d⟩:=d
   refine an hc fun hk hl=>X.elD fun D hz he=>?_
   have hl:=of_decide_eq_true hl
   exact (dict_ops Rm R ri hk (ne_sys R e) D).set rt (Nat.le_trans hz cap_line) fun h' t hs D'=>q (W.put h' t) _ (.turn R e (fun b o q e'=>(hs.2 b fun z=>q (.inl z)).trans e') fun kf=>.dict (D' kf) (Nat.le_trans (dictSet_len ..) hl) he) d
  | inst=>exact d.elim
 | _=>exact d.elim
theorem storeW_el {e:Expr} {es:List Expr} {l:List V} (h:storeW fr (e::es) l=some fr') (f:∀ x p v vs,e=.Name x p→l=v::vs→canW fr x=true→storeW (fr.set x v) es vs=some fr'→P):P:=by
 cases l with
 | nil=>exact no h
 | cons v l=>cases e with
  | Name x p =>
   have h:(match canW fr x with | true=>storeW (fr.set x v) es l | false=>none)=some fr':=h
   cases hc:canW fr x with
   | true=>rw [hc] at h;exact f x p v l rfl rfl hc h
   | false=>rw [hc] at h;exact no h
  | _=>exact no h
theorem sim_stores {es:List Expr}:∀ {l:List V} {xs:List Value} {fr fr':Fr} {W:Wd} {Q:Unit→Shared→Prop},storeW fr es l=some fr'→Here C fr env σ W→Reps C W.r l xs→(∀ W',Nx C (frX env) W W' σ→FrAt C fr' env W'→fr'.sc=fr.sc→Q () W'.s)→wpAny C.M A (assignInOrder ((assignEach es env).map (·.2)) xs) Q E W.s:=by
 induction es with
 | nil =>
  intro l xs fr fr' W Q h H r q
  cases l with
  | nil=>exact r.el0 (so (show some fr'=some fr from h.symm) (fun q=>wpAny_pure (q W ((Nx.refl H.R).wide) H.F rfl)) q)
  | cons=>exact no h
 | cons e es ih =>
  intro l xs fr fr' W Q h H r q
  refine storeW_el h fun x p v vs e1 e2 hc h2=>?_
  subst e1 e2
  exact r.el1 fun y ys ry rs=>assignInOrder_cons (M:=C.M) (asg_name (sim_store hc H ry fun W₁ n F=>ih h2 ⟨F,n.R⟩ (rs.up n.S.le) fun W₂ n₂ F₂ e=>q W₂ (n.trans n₂) F₂ e))
theorem names_each {es:List Expr}:∀ {l:List V} {fr fr':Fr},storeW fr es l=some fr'→(assignEach es env).length=l.length∧(assignEach es env).findIdx? (·.1)=none:=by
 induction es with
 | nil=>intro l fr fr' h;cases l with | nil=>exact ⟨rfl,rfl⟩ | cons=>exact no h
 | cons e es ih =>
  intro l fr fr' h
  refine storeW_el h fun x p v vs e1 e2 hc h2=>?_
  subst e1 e2
  obtain ⟨h1,h2⟩:=ih h2
  rw [show assignEach (.Name x p::es) env=(false,assign (.Name x p) env)::assignEach es env from rfl]
  exact ⟨congrArg (·+1) h1,List.findIdx?_cons.trans ((congrArg (Option.map _) h2).trans rfl)⟩
theorem d_asg (O:C.Ok) (Rm:Room A n) {t:Expr} (d:Den C h A (asgS fr σ v K t)):Den C h A (.asg t v fr σ K):=by
 intro W env x Q E H r q
 cases t with
 | Name k p =>
  have d:Den C h A (storeS fr σ k v K (canW fr k)):=d
  cases hc:canW fr k with
  | true=>rw [hc] at d;exact asg_name (sim_store hc H r fun W' n F=>q _ _ _ ⟨n,F,rfl,.next⟩ d)
  | false=>rw [hc] at d;exact d.elim
 | Attribute o k p =>
  rw [arm_assign_Attribute]
  refine wpAny_bind (wpAny_holding (d W env _ E H fun a y W₁ σ₁ va d=>wpAny_bind (wpAny_standAt (wpAny_bind (wpAny_holding (d_setA O va.n.R va.r (r.up va.n.S.le) d fun W₂ σ₂ n d=>wpAny_release' ?_))))))
  have N:=va.n.trans n
  exact q _ _ _ ⟨N.wide,(H.nx0 N).F,rfl,.next⟩ d
 | Subscript o i p =>
  have go:Den C h A (.ev o fr σ (wAsSub i v fr K))→wpAny C.M A (assign (.Subscript o i p) env x) Q E W.s:=fun d=>by
   rw [arm_assign_Subscript]
   refine wpAny_bind (wpAny_holding (d W env _ E H fun a y W₁ σ₁ va d=>wpAny_bind (wpAny_holding (d W₁ env _ E (H.nx0 va.n) fun b z W₂ σ₂ vb d=>wpAny_bind (wpAny_standAt (wpAny_bind (wpAny_holding (d_setI Rm vb.n.R (va.r.up vb.n.S.le) vb.r (r.up (va.n.S.le.trans vb.n.S.le)) d fun W₃ σ₃ n d=>wpAny_release' ?_))))))))
   have N:=va.n.trans (vb.n.trans n)
   exact q _ _ _ ⟨N.wide,(H.nx0 N).F,rfl,.next⟩ d
  cases i<;>first | exact d.elim | exact go d
 | Tuple es k p =>
  cases v with
  | tup l =>
   have d:Den C h A (match storeW fr es l with | some fr'=>K .next fr' σ | none=>.done False):=d
   cases hs:storeW fr es l with
   | none=>rw [hs] at d;exact d.elim
   | some fr' =>
    rw [hs] at d
    refine r.elT (P:=fun x=>wpAny C.M A (assign (.Tuple es k p) env x) Q E W.s) fun a o xs e s b c=>?_
    obtain ⟨hn,hs'⟩:=names_each (env:=env) hs
    refine wpAny_assign_Tuple Rm.h (H.R.tup e s) (hn.trans b.len) hs' fun h' hx=>?_
    have N:Nx C [] W (W.put h' W.s.toks) σ:=.ext H.R fun b o e=>hx b o (Nat.ne_of_lt (Heap.lt_size e)) e
    exact sim_stores (W:=W.put h' W.s.toks) hs (H.nx0 N) b fun W' n F e=>q _ _ _ ⟨N.wide.trans n,F,e,.next⟩ d
  | _=>exact d.elim
 | _=>exact d.elim
end
section
variable {C:Ctx0} {A:Around} {W W₁ W₂:Wd} {σ σ' σ₁:St} {v u:V} {n h m:Nat} {x y z:Value} {env:Env} {fr fr':Fr} {k:Str} {P:Prop} {K:V→St→MS} {Kx:Fl→Fr→St→MS} {E:Value→Shared→Prop} {p:Pos} {e:Expr} {s:Stmt} {ss:List Stmt} {sc:Scope}
theorem ev_mono {K':V→St→MS} (d:Den C h A (.ev e fr σ K)) (f:∀ v σ,Den C h A (K v σ)→Den C h A (K' v σ)):Den C h A (.ev e fr σ K'):=fun W env Q E H q=>d W env Q E H fun v x W' σ' a d=>q v x W' σ' a (f v σ' d)
inductive CompSh (C:Ctx0) (h:Nat) (A:Around) (fr:Fr) (σ:St) (elt:Expr) (sc:Scope) (K:V→St→MS):List Comprehension→Prop
 | mk {t px it ifs} (h1:notSet it=true) (h2:compScW sc t=true) (h3:freesW fr sc.names=true) (d:Den C h A (.ev it fr σ (wComp elt t ifs (fr.compW sc.names) K))):CompSh C h A fr σ elt sc K [⟨.Name t px,it,ifs,0⟩]
theorem comp_sh {elt:Expr} {gens:List Comprehension} (d:Den C h A (compS fr σ elt sc K gens)):CompSh C h A fr σ elt sc K gens:=by
 cases gens with
 | nil=>exact d.elim
 | cons c cs=>cases cs with
  | cons=>exact d.elim
  | nil =>
   obtain ⟨tg,it,ifs,ia⟩:=c
   cases tg with
   | Name t px =>
    refine chk_el d fun hc d'=>an hc fun h0 hc=>an hc fun hc h3=>an hc fun h1 h2=>?_
    cases (beq_iff_eq.mp h0:ia=0)
    exact .mk h1 h2 h3 d'
   | _=>exact d.elim
theorem d_comp (hh:A.handled=none) {elt:Expr} {gens:List Comprehension} (d:Den C h A (compS fr σ elt sc K gens)):Den C h A (.ev (.ListComp elt gens sc p) fr σ K):=by
 cases comp_sh d with | mk h1 h2 h3 d'=>exact d_listcomp hh h1 h2 h3 d'
theorem d_callE (O:C.Ok) (Rm:Room A (2 * h+1)) {f:Expr} {args:List Expr} {kws:List Keyword} (d:Den C h A (callES fr σ f args p K kws)):Den C h A (.ev (.Call f args kws p) fr σ K):=by
 cases kws with
 | cons=>exact d.elim
 | nil =>
  have go:(∀ o m p,f≠.Attribute o m p)→Den C h A (chkS (noStar args) (.ev f fr σ (wCall args fr K)))→Den C h A (.ev (.Call f args [] p) fr σ K):=fun hf d=>chk_el d fun hn d=>d_call0 O Rm hf hn d
  cases f with
  | Attribute o m ap=>exact chk_el d fun hc d=>an hc fun h1 h2=>d_meth O Rm h1 h2 d
  | _=>exact go (fun I I I e=>nomatch e) d
theorem d_subs (Rm:Room A n) {o i:Expr} (d:Den C h A (subS fr σ o K i)):Den C h A (.ev (.Subscript o i p) fr σ K):=by
 cases i with
 | Slice=>exact d_slice d
 | _=>exact d_subE Rm d
theorem d_ev (O:C.Ok) (Rm:Room A (2 * h+1)) (d:Den C h A (evS fr σ K e)):Den C h A (.ev e fr σ K):=by
 cases e with
 | Constant=>exact d_const d
 | Name=>exact d_name O d
 | BoolOp op vs p=>exact fun W env Q E H q=>d W env p Q E H q
 | BinOp=>exact d_bin d
 | UnaryOp=>exact d_un d
 | IfExp=>exact d_ife d
 | Dict=>exact d_dictE O d
 | List=>exact d_list d
 | Tuple=>exact d_tuple d
 | Compare=>exact d_cmpE d
 | ListComp=>exact d_comp Rm.h d
 | Call=>exact d_callE O Rm d
 | Attribute=>exact d_attrE O d
 | Subscript=>exact d_subs Rm d
 | _=>exact d.elim
theorem rhs_ev (d:Den C h A (.ev e fr σ K)) (ne:∀ elt g sc p,e≠.ListComp elt g sc p):Den C h A (.rhs e fr σ K):=fun W env H=>⟨fun Q E q=>d W env Q E H q,fun I I I I I I I z=>absurd z (ne _ _ _ _)⟩
theorem glob_sorted:globW "sorted" = some .bi:=by rfl
theorem d_srt (O:C.Ok) (Rm:Room A n) {x:Str} {a:Expr} {qp:Pos} (hx:sBeq x "sorted" = true) (d:Den C h A (chkS (notStar a) (.ev (.Name x qp) fr σ (wSrt a fr K)))):Den C h A (.ev (.Call (.Name x qp) [a] [] p) fr σ K):=by
 intro W env Q E H q
 refine chk_el d fun hn d=>?_
 rw [eval_Call_other (f:=.Name x qp) (fun I I I e=>nomatch e)]
 refine wpAny_bind (d W env _ E H fun g x W₁ σ₁ va d=>?_)
 cases g with
 | glb y =>
  refine chk_el d fun hy d=>name_is hy fun hy=>?_
  subst hy
  have e:=O.bi _ _ glob_sorted va.r.elG
  cases Option.some.inj (e.symm.trans (by decide +kernel:biVal "sorted" = some (.builtin "sorted")))
  refine d_callWith (Kl:=fun l σ=>match l with | [v]=>wSrt1 K v σ | _=>.done False) O (H.nx0 va.n) (show noStar [a]=true from (Bool.and_true _).trans hn) (d_evs (es:=[a]) (ev_mono d fun v σ d=>d_evs (es:=[]) d)) (kept_non fun a e=>nomatch e) fun vs xs W₂ σ₂ nx rx d=>?_
  cases rx with
  | nil=>exact d.elim
  | cons rb rx=>cases rx with
   | cons=>exact d.elim
   | nil=>obtain ⟨l,hl,k,hk,d⟩:=d;exact d_sortedM O Rm.h nx.R rb hl hk (EK.vk (EK.nx q (va.n.trans nx)) d)
 | _=>exact d.elim
theorem d_rhs (O:C.Ok) (Rm:Room A n) (d:Den C h A (rhsS fr σ K e)):Den C h A (.rhs e fr σ K):=by
 cases e with
 | List=>exact rhs_ev (d_listM O d) fun I I I I e=>nomatch e
 | Call f args kws p =>
  refine rhs_ev ?_ fun I I I I e=>nomatch e
  cases f with
  | Name x q=>cases args with
   | nil=>exact d
   | cons a r=>cases r with
    | cons=>exact d
    | nil=>cases kws with
     | cons=>exact d
     | nil=>exact d_bif (q:=.ev (.Call (.Name x q) [a] [] p) fr σ K) d (fun hx d=>d_srt O Rm hx d) id
  | _=>exact d
 | ListComp elt gens sc pos =>
  have c:=comp_sh (show Den C h A (compS fr σ elt sc K gens) from d)
  refine fun W env H=>⟨fun Q E q=>d_comp Rm.h d W env Q E H q,fun elt t px it ifs sc pos e pos' use Q E q=>?_⟩
  cases e
  cases c with | mk h1 h2 h3 d'=>exact d_comp_core Rm.h h1 h2 h3 d' H q
 | _=>exact rhs_ev d fun I I I I e=>nomatch e
theorem swaps_of {t:Option Expr} {line:Nat} (h:notComp e=true):swapsWith e t line env=pure false:=by
 unfold swapsWith
 cases e<;>first | rfl | exact nf h
theorem interactive_of (h:env.scope.kind=.function):interactive env=false:=by
 unfold interactive;rw [h];rfl
theorem assign_open {t value:Expr} {Q:Flow→Shared→Prop} {s:Shared} (hc:notComp value=true) (hs:swappedStores [t] value env=pure none)
  (h:wpAny C.M A (eval value env) (fun v s₁=>wpAny C.M A (assign t env v) (fun I s₂=>Q .next s₂) E s₁) E s) (ht:assignEach [t] env=[(false,assign t env)]):wpAny C.M A (exec (.Assign [t] value p) env) Q E s:=by
 rw [arm_exec_Assign]
 refine wpAny_bind (wpAny_standAt (wpAny_bind (wpAny_of_eq (show swapsWithSole [t] value p.line env=pure false from swaps_of hc) (wpAny_bind (wpAny_mono h (fun v s₁ h₁=>wpAny_bind (wpAny_of_eq hs ?_)) fun I I x=>x)))))
 rw [ht]
 exact wpAny_bind (m:=assign t env v) (wpAny_mono h₁ (fun I s₂ h₂=>wpAny_pure h₂) fun I I x=>x)
theorem swapped_tup {es:List Expr} {kd} {value:Expr} (h:notTupE value=true):swappedStores [.Tuple es kd p] value env=pure none:=by
 cases value<;>first | rfl | exact nf h
end
section
variable {C:Ctx0} {A:Around} {W W₁ W₂:Wd} {σ σ' σ₁:St} {v u:V} {n h m:Nat} {x y z:Value} {env:Env} {fr fr':Fr} {k t:Str} {P:Prop} {K:Fl→Fr→St→MS} {E:Value→Shared→Prop} {p:Pos} {e:Expr} {s:Stmt} {ss:List Stmt} {sc:Scope}
theorem d_asComp {elt it:Expr} {px p' pos:Pos} {ifs:List Expr} {Q:Flow→Shared→Prop} (d:Den C h A (.rhs (.ListComp elt [⟨.Name t px,it,ifs,0⟩] sc p') fr σ (wAsg (.Name k p) fr K))) (H:Here C fr env σ W) (q:∀ fl flow fr' W' σ',Ex C (frX env) env fr W fl flow fr' W' σ'→Den C h A (K fl fr' σ')→Q flow W'.s) :
  wpAny C.M A (exec (.Assign [.Name k p] (.ListComp elt [⟨.Name t px,it,ifs,0⟩] sc p') pos) env) Q E W.s:=by
 obtain ⟨b,hb⟩:∃ b,swapsWith (.ListComp elt [⟨.Name t px,it,ifs,0⟩] sc p') (some (.Name k p)) pos.line env=pure b:=⟨_,rfl⟩
 have d:=d W env H
 cases b with
 | false =>
  rw [exec_Assign_Name _ _ _ _ _ hb]
  refine wpAny_bind (wpAny_standAt (wpAny_bind (d.1 _ E fun v x W₁ σ₁ va d=>?_)))
  exact wpAny_bind (m:=assign (.Name k p) env x) (d W₁ env x _ E (H.nx0 va.n) va.r fun fr' W₂ σ₂ y d=>wpAny_pure (q _ _ _ _ _ ⟨va.n.wide.trans y.n,y.F,y.sc,.next⟩ d))
 | true =>
  rw [exec_Assign_Name_used _ _ _ _ hb]
  refine wpAny_bind (wpAny_standAt (wpAny_bind ?_))
  rw [arm_evalThenUse_ListComp]
  refine wpAny_bind (d.2 elt t px it ifs sc p' rfl _ (some (assign (.Name k p) env)) (fun I s=>wpAny C.M A (pure ()) (fun I s=>wpAny C.M A (pure Flow.next) Q E s) E s) E fun v D L W' σ' x d=>d W' env _ _ E (H.nx0 x.v.n) x.v.r fun fr' W₂ σ₂ y d=>?_)
  have hL:=fr_dead H.F x.dead
  obtain ⟨m,hm⟩:=x.ns
  obtain ⟨o,e⟩:∃ o,W'.s.heap.get? L=some o:=(by obtain ⟨o,_,_,e,_⟩:=hm;exact ⟨o,e⟩)
  have kL:=y.n.S.keep L o e x.out hL
  refine ⟨m,hm.at' fun o' e'=>Option.some.inj (e.symm.trans e')▸kL.1,fun h' hs=>wpAny_pure (wpAny_pure ?_)⟩
  have N:=let_go y.n.R kL.2 hs
  exact q _ .next fr' (W₂.put h' W₂.s.toks) σ₂ ⟨(((x.v.n.wide.trans y.n).to (tl_in (a:=L))).trans (N.to hd_in)).to fun a m=>by (cases m with | head=>exact .inr x.dead | tail _ m=>exact .inl m),(Here.nx ⟨y.F,y.n.R⟩ N fun a m z=>hL (List.mem_singleton.mp z▸m)).F,y.sc,.next⟩ d
theorem nm_el {t:Expr} (h:isNm t=true) (k:∀ x q,t=.Name x q→P):P:=by
 cases t<;>first | exact nf h | exact k _ _ rfl
theorem og_el {g:List Comprehension} (h:oneG g=true) (k:∀ t px it ifs,g=[⟨.Name t px,it,ifs,0⟩]→P):P:=by
 cases g with
 | nil=>exact nf h
 | cons c cs=>cases cs with
  | cons=>exact nf h
  | nil=>exact an h fun h1 h2=>nm_el h1 fun x q e=>k x q c.iter c.ifs (congrArg (fun c=>[c]) (by cases c;cases e;cases (beq_iff_eq.mp h2);rfl))
theorem lc_el (h:lcOk e=true) (k:notComp e=true→P) (k':∀ elt t px it ifs sc pos,e=.ListComp elt [⟨.Name t px,it,ifs,0⟩] sc pos→P):P:=by
 cases e with
 | ListComp elt gens sc pos=>exact og_el h fun t px it ifs e=>k' elt t px it ifs sc pos (e▸rfl)
 | _=>exact k h
theorem as_el {t:Expr} (h:asOk t e=true) (k:∀ x q,t=.Name x q→P) (k':notComp e=true→swappedStores [t] e env=pure none→assignEach [t] env=[(false,assign t env)]→P):P:=by
 cases t with
 | Name=>exact k _ _ rfl
 | Attribute=>exact k' h rfl rfl
 | Subscript=>exact k' h rfl rfl
 | Tuple=>exact an h fun h1 h2=>k' h1 (swapped_tup h2) rfl
 | _=>exact nf h
theorem d_as {t:Expr} (d:Den C h A (chkS (asOk t e&&lcOk e) (.rhs e fr σ (wAsg t fr K)))):Den C h A (.ex (.Assign [t] e p) fr σ K):=by
 intro W env Q E H q
 refine chk_el d fun hc d=>an hc fun h1 h2=>?_
 have go:notComp e=true→swappedStores [t] e env=pure none→assignEach [t] env=[(false,assign t env)]→wpAny C.M A (exec (.Assign [t] e p) env) Q E W.s:=fun hc hs ht =>
  assign_open hc hs ((d W env H).1 _ E fun v x W₁ σ₁ va d=>d W₁ env x _ E (H.nx0 va.n) va.r fun fr' W₂ σ₂ y d=>q _ _ _ _ _ ⟨va.n.wide.trans y.n,y.F,y.sc,.next⟩ d) ht
 exact as_el h1 (fun x pk e1=>lc_el h2 (fun nc=>go nc (e1▸rfl) (e1▸rfl)) fun elt t px it ifs sc pos e2=>by subst e1 e2;exact d_asComp d H q) go
theorem d_exs (d:Den C h A (exsS fr σ K ss)):Den C h A (.exs ss fr σ K):=by
 intro W env Q E H q
 cases ss with
 | nil=>exact wpAny_execs_nil (q _ _ _ _ _ ⟨(Nx.refl H.R).wide,H.F,rfl,.next⟩ d)
 | cons s ss =>
  refine wpAny_execs_cons (d W env _ E H fun fl flow fr' W₁ σ₁ x d=>?_)
  cases x.r with
  | next=>exact d W₁ env Q E ⟨x.F,x.n.R⟩ fun fl flow fr'' W₂ σ₂ y=>q fl flow fr'' W₂ σ₂ ⟨x.n.trans y.n,y.F,y.sc.trans x.sc,y.r⟩
  | cont=>exact q _ _ _ _ _ x d
  | ret r=>exact q _ _ _ _ _ x d
theorem d_if {t:Expr} {b o:List Stmt} (d:Den C h A (.cond t fr σ (wIf b o fr K))):Den C h A (.ex (.If t b o p) fr σ K):=by
 intro W env Q E H q
 rw [arm_exec_If]
 refine wpAny_bind (wpAny_standAt (wpAny_bind (d W env _ E H fun c W₁ σ₁ n d=>?_)))
 cases c with
 | true=>exact d W₁ env Q E (H.nx0 n) fun fl flow fr' W₂ σ₂ y=>q fl flow fr' W₂ σ₂ ⟨n.wide.trans y.n,y.F,y.sc,y.r⟩
 | false=>exact d W₁ env Q E (H.nx0 n) fun fl flow fr' W₂ σ₂ y=>q fl flow fr' W₂ σ₂ ⟨n.wide.trans y.n,y.F,y.sc,y.r⟩
theorem d_ret {o:Option Expr} (d:Den C h A (retS fr σ K o)):Den C h A (.ex (.Return o p) fr σ K):=by
 cases o with
 | none=>exact d.elim
 | some e=>exact fun W env Q E H q=>wpAny_Return_some (d W env _ E H fun v x W₁ σ₁ va d=>q _ _ _ _ _ ⟨va.n.wide,(H.nx0 va.n).F,rfl,.ret va.r⟩ d)
theorem d_fors {t it:Expr} {body el:List Stmt} (d:Den C h A (forHS fr σ it body K t el)):Den C h A (.ex (.For t it body el p) fr σ K):=by
 cases t with
 | Name=>cases el with
  | nil=>exact chk_el d fun hc d=>an hc fun h1 h2=>d_for h1 h2 d
  | cons=>exact d.elim
 | _=>exact d.elim
theorem d_whs {t:Expr} {body el:List Stmt} (d:Den C h A (whHS fr σ t body K el)):Den C h A (.ex (.While t body el p) fr σ K):=by
 cases el with
 | nil=>exact d_while d
 | cons=>exact d.elim
theorem d_ass {ts:List Expr} (d:Den C h A (asHS fr σ e K ts)):Den C h A (.ex (.Assign ts e p) fr σ K):=by
 cases ts with
 | nil=>exact d.elim
 | cons t ts=>cases ts with
  | nil=>exact d_as d
  | cons=>exact d.elim
theorem d_expr (d:Den C h A (chkS (notComp e) (.ev e fr σ (wExp K fr)))):Den C h A (.ex (.Expr e p) fr σ K) :=
 chk_el d fun hc d W env Q E H q=>wpAny_Expr_any (d W env _ E H fun v x W₁ σ₁ va d=>q _ _ _ _ _ ⟨va.n.wide,(H.nx0 va.n).F,rfl,.next⟩ d) (interactive_of H.F.kind) (swaps_of hc)
theorem d_cont (d:Den C h A (K .cont fr σ)):Den C h A (.ex (.Continue p) fr σ K):=fun W env Q E H q=>wpAny_bind (wpAny_standAt (wpAny_pure (q _ _ _ _ _ ⟨(Nx.refl H.R).wide,H.F,rfl,.cont⟩ d)))
theorem d_ex (d:Den C h A (exS fr σ K s)):Den C h A (.ex s fr σ K):=by
 cases s with
 | Expr e p=>exact d_expr d
 | Continue p=>exact d_cont d
 | Return e p=>exact d_ret d
 | If=>exact d_if d
 | For=>exact d_fors d
 | While=>exact d_whs d
 | Assign=>exact d_ass d
 | _=>exact d.elim
end
end Mine
namespace Mine
open PySem
noncomputable def Sem (h:Nat) (p:MS):Prop:=∀ C A,Ctx0.Ok C→Room A (2 * h+1)→Den C h A p
noncomputable def Does (h:Nat) (r:FnRec) (args:List V) (σ:St) (Q:V×St→Prop):Prop:=Sem h (.call r args σ (wQ Q))
noncomputable def Is (h:Nat) (r:FnRec) (args:List V) (σ:St) (q:V×St):Prop:=Does h r args σ fun p=>p=q
inductive AskP (G:MS→Prop) {α:Type} (K:α→MS):Option α→Prop
 | mk {x:Option α} (a:α) (h:x=some a) (p:G (K a)):AskP G K x
 | r {a:α} (z:G (K a)):AskP G K (some a)
inductive ChkP (G:MS→Prop) (p:MS):Bool→Prop
 | mk {b:Bool} (h:b=true) (k:G p):ChkP G p b
 | r (z:G p):ChkP G p true
inductive SelP (hh:Nat) (G:MS→Prop) (p q:MS):Bool→Prop
 | t {b:Bool} (h:b=true) (k:G p):SelP hh G p q b
 | f {b:Bool} (h:b=false) (k:G q):SelP hh G p q b
 | s {b:Bool} (h:Sem hh (.sel b p q)):SelP hh G p q b
@[irreducible] def Stop (h:Nat) (S:MS):Prop:=Sem h S
@[irreducible] def Fin (P:Prop):Prop:=P
theorem stop {h:Nat} {S:MS} (e:Sem h S):Stop h S:=by unfold Stop;exact e
theorem fin {P:Prop} (h:P):Fin P:=by unfold Fin;exact h
noncomputable def step (h:Nat) (G:MS→Prop):MS→Prop
 | .ev e fr σ K=>G (evS fr σ K e)
 | .cond e fr σ K=>G (condS fr σ K e)
 | .evs es fr σ K=>G (evsS fr σ K es)
 | .bools op es fr σ K=>G (boolsS fr σ op K es)
 | .conds op es fr σ K=>G (condsS fr σ op K es)
 | .cmps ops es a fr σ K=>G (cmpsS fr σ a K ops es)
 | .dict ks vs fr σ K=>G (dictS fr σ K ks vs)
 | .ifs cs fr σ K=>G (ifsS fr σ K cs)
 | .rhs e fr σ K=>G (rhsS fr σ K e)
 | .asg t v fr σ K=>G (asgS fr σ v K t)
 | .ex s fr σ K=>G (exS fr σ K s)
 | .exs ss fr σ K=>G (exsS fr σ K ss)
 | .ask x K=>AskP G K x
 | .chk b p=>ChkP G p b
 | .sel b p q=>SelP h G p q b
 | .call r args σ K=>Stop h (.call r args σ K)
 | .forS t body src d all l fr σ K=>Stop h (.forS t body src d all l fr σ K)
 | .comp elt t is fr src d all l σ K=>Stop h (.comp elt t is fr src d all l σ K)
 | .whl t body fr σ K=>G (.cond t fr σ (wWh t body fr K))
 | .done P=>Fin P
noncomputable def Go (h:Nat):Nat→MS→Prop
 | 0=>Sem h
 | n+1=>step h (Go h n)
section
variable {hh:Nat}
theorem stopped {S:MS} (h:Stop hh S):Sem hh S:=by unfold Stop at h;exact h
theorem fined {P:Prop} (h:Fin P):P:=by unfold Fin at h;exact h
theorem step_sound {G:MS→Prop} (g:∀ S,G S→Sem hh S) (S:MS) (h:step hh G S):Sem hh S:=by
 cases S with
 | ev=>exact fun C A O Rm=>d_ev O Rm (g _ h C A O Rm)
 | cond=>exact fun C A O Rm=>d_cond (g _ h C A O Rm)
 | evs=>exact fun C A O Rm=>d_evs (g _ h C A O Rm)
 | bools=>exact fun C A O Rm=>d_bools (g _ h C A O Rm)
 | conds=>exact fun C A O Rm=>d_conds (g _ h C A O Rm)
 | cmps=>exact fun C A O Rm=>d_cmps Rm (g _ h C A O Rm)
 | dict=>exact fun C A O Rm=>d_dict (g _ h C A O Rm)
 | ifs=>exact fun C A O Rm=>d_ifs (g _ h C A O Rm)
 | rhs=>exact fun C A O Rm=>d_rhs O Rm (g _ h C A O Rm)
 | asg=>exact fun C A O Rm=>d_asg O Rm (g _ h C A O Rm)
 | ex=>exact fun C A O Rm=>d_ex (g _ h C A O Rm)
 | exs=>exact fun C A O Rm=>d_exs (g _ h C A O Rm)
 | ask x K=>cases h with | r p=>exact fun C A O Rm=>⟨_,rfl,g _ p C A O Rm⟩ | mk a e p=>exact fun C A O Rm=>⟨a,e,g _ p C A O Rm⟩
 | chk b p=>cases h with | r k=>exact fun C A O Rm=>⟨rfl,g _ k C A O Rm⟩ | mk e k=>exact fun C A O Rm=>⟨e,g _ k C A O Rm⟩
 | sel b p q=>cases h with | t e h=>subst e;exact fun C A O Rm=>g _ h C A O Rm | f e h=>subst e;exact fun C A O Rm=>g _ h C A O Rm | s h=>exact h
 | call=>exact stopped h
 | forS=>exact stopped h
 | comp=>exact stopped h
 | whl=>exact fun C A O Rm=>d_whl (g _ h C A O Rm)
 | done P=>exact fun I I I I=>fined h
theorem go_sound:∀ (n:Nat) (S:MS),Go hh n S→Sem hh S
 | 0,_,h=>h
 | n+1,S,h=>step_sound (go_sound n) S h
theorem go {S:MS} (h:Go hh 9999 S):Sem hh S:=go_sound _ _ h
theorem SelP.split {G:MS→Prop} {b:Bool} {p q:MS} (h1:b=true→G p) (h2:b=false→G q):SelP hh G p q b:=by
 cases b;exact .f rfl (h2 rfl);exact .t rfl (h1 rfl)
theorem sel_join {G:MS→Prop} {c:Bool} {e1 e2:Expr} {fr:Fr} {σ:St} {K:V→St→MS} (Q:V×St→Prop) (h1:c=true→Sem hh (.ev e1 fr σ (wQ Q))) (h2:c=false→Sem hh (.ev e2 fr σ (wQ Q))) (k:∀ q,Q q→Sem hh (K q.1 q.2)):SelP hh G (.ev e1 fr σ K) (.ev e2 fr σ K) c:=by
 cases c
 ·exact .s fun C A O Rm=>ev_mono (h2 rfl C A O Rm) fun v σ d=>k (v,σ) d C A O Rm
 ·exact .s fun C A O Rm=>ev_mono (h1 rfl C A O Rm) fun v σ d=>k (v,σ) d C A O Rm
theorem Does.go {h' r args σ} {Q:V×St→Prop} {K:V→St→MS} (h:Does h' r args σ Q) (k:∀ q,Q q→Sem hh (K q.1 q.2)) (e:h'≤hh:=by fail "h"):Sem hh (.call r args σ K):=fun C A O Rm W f xs A' R F a i rm q =>
 h C A O (Rm.less (Nat.succ_le_succ (Nat.mul_le_mul_left 2 e))) W f xs A' R F a i (rm.less (Nat.mul_le_mul_left 2 e)) fun v x W' σ' va d=>q v x W' σ' va (k (v,σ') d C A O Rm)
theorem Does.mono {r args σ} {Q R:V×St→Prop} (h:Does hh r args σ Q) (k:∀ q,Q q→R q):Does hh r args σ R:=h.go (fun q d I I I I=>k q d) (Nat.le_refl _)
theorem Does.le {h' r args σ} {Q:V×St→Prop} (h:Does h' r args σ Q) (e:h'≤hh:=by fail "h"):Does hh r args σ Q:=h.go (fun q d I I I I=>d) e
theorem Is.go {h' r args σ v σ'} {K:V→St→MS} (h:Is h' r args σ (v,σ')) (k:Sem hh (K v σ')) (e:h'≤hh:=by fail "h"):Sem hh (.call r args σ K):=Does.go h (fun q e=>by subst e;exact k) e
theorem does_is {r args σ q} (h:Does hh r args σ fun p=>p=q):Is hh r args σ q:=h
theorem for_n {t body src d all fr σ K} (h:Sem hh (K .next fr σ)):Sem hh (.forS t body src d all [] fr σ K):=fun C A O Rm=>d_for_n Rm.h (h C A O Rm)
theorem for_c {t body src d all x l fr σ K} (h:Sem hh (.exs body (fr.set t x) σ (wForN t body src d all l K))):Sem hh (.forS t body src d all (x::l) fr σ K):=fun C A O Rm=>d_for_c Rm.h (h C A O Rm)
theorem comp_n {elt t ifs fr src d all σ K} (h:Sem hh (K [] σ)):Sem hh (.comp elt t ifs fr src d all [] σ K):=fun C A O Rm=>d_comp_n Rm.h (h C A O Rm)
theorem comp_c {elt t ifs fr src d all x l σ K} (h:Sem hh (.ifs ifs (fr.set t x) σ (wCo elt t ifs fr x src d all l K))):Sem hh (.comp elt t ifs fr src d all (x::l) σ K):=fun C A O Rm=>d_comp_c Rm.h (h C A O Rm)
noncomputable def enterS (r:FnRec) (args:List V) (σ:St) (Q:V×St→Prop):MS :=
 match decide (args.length≤r.params.length∧r.params.length≤args.length+r.dflt.length) with
 | true=>.exs r.body (frameW r args) σ (wEnd Q)
 | false=>.done False
theorem enter {r args σ} {Q:V×St→Prop} (h:Sem hh (enterS r args σ Q)):Does (hh+1) r args σ Q:=fun C A O Rm=>by
 unfold enterS at h
 by_cases e:args.length≤r.params.length∧r.params.length≤args.length+r.dflt.length
 ·rw [decide_eq_true e] at h;exact d_call O e fun A Rm=>h C A O Rm
 ·rw [decide_eq_false e] at h;exact (h C A O (Rm.less (Nat.le_succ_of_le (Nat.le_succ _)))).elim
theorem exs_mono {ss fr σ} {K K':Fl→Fr→St→MS} (h:Sem hh (.exs ss fr σ K)) (f:∀ fl fr σ,∀ C A,Ctx0.Ok C→Room A (2 * hh+1)→Den C hh A (K fl fr σ)→Den C hh A (K' fl fr σ)):Sem hh (.exs ss fr σ K'):=fun C A O Rm W env Q E H q=>h C A O Rm W env Q E H fun fl flow fr' W' σ' x d=>q fl flow fr' W' σ' x (f _ _ _ C A O Rm d)
theorem ifs_mono {cs fr σ} {K K':Bool→St→MS} (h:Sem hh (.ifs cs fr σ K)) (f:∀ b σ,∀ C A,Ctx0.Ok C→Room A (2 * hh+1)→Den C hh A (K b σ)→Den C hh A (K' b σ)):Sem hh (.ifs cs fr σ K'):=fun C A O Rm W env Q E H q=>h C A O Rm W env Q E H fun b W' σ' x d=>q b W' σ' x (f _ _ C A O Rm d)
end
end Mine
namespace Mine
open PySem PySem.W PySem.Calls PyProof.Rows PySem.SeqAt PySem.Spec
noncomputable def isI (i:Int) (x:Value):Bool:=match x with | .int j _=>i==j | _=>false
noncomputable def isS (i:Str) (x:Value):Bool:=match x with | .str j _=>i==j | _=>false
noncomputable def asTp (o:Option Obj):Option (Array Value):=match o with | some ⟨.type "tuple",_,.seq xs _,_⟩=>some xs | _=>none
noncomputable def asRf (x:Value):Option Addr:=match x with | .ref a=>some a | _=>none
noncomputable def isT (K:Frag) (n:Nat) (f:List Value→Bool) (x:Value):Bool:=onB (asRf x) fun a=>onB (asTp (K.lookup a)) fun xs=>decide (n≤cap)&&f xs.toList
noncomputable def valOk (K:Frag) (v:V):Value→Bool:=V.rec (motive_1:=fun I=>Value→Bool) (motive_2:=fun I=>List Value→Bool) (fun I=>false) (fun I I=>false) isI isS (fun l=>isT K l.length) (fun I I I=>false) (fun I I=>false) (fun I I=>false) (fun I I=>false) List.isEmpty (fun I I f g xs=>isC xs fun x xs=>f x&&g xs) v
noncomputable def valsOk (K:Frag) (l:List V):List Value→Bool:=V.rec_1 (motive_1:=fun I=>Value→Bool) (motive_2:=fun I=>List Value→Bool) (fun I=>false) (fun I I=>false) isI isS (fun l=>isT K l.length) (fun I I I=>false) (fun I I=>false) (fun I I=>false) (fun I I=>false) List.isEmpty (fun I I f g xs=>isC xs fun x xs=>f x&&g xs) l
section
variable {C:Ctx0} {P:Prop}
theorem asTp_el {o:Option Obj} {xs:Array Value} (e:asTp o=some xs) (k:∀ d n sl,o=some ⟨.type "tuple",d,.seq xs n,sl⟩→P):P:=by
 unfold asTp at e
 split at e
 ·cases e;exact k _ _ _ rfl
 ·exact no e
theorem asRf_el {x:Value} {a:Addr} (e:asRf x=some a) (k:x=.ref a→P):P:=by cases x<;>first | exact no e | exact k (congrArg Value.ref (Option.some.inj e))
theorem tp_el {f:Array Value→Bool} {x:Value} (X:C.K.In C.h₀) (e:(onB (asRf x) fun a=>onB (asTp (C.K.lookup a)) f)=true) (k:∀ a xs,x=.ref a→(∃ o,C.h₀.get? a=some o∧SqO "tuple" xs.toList o)→f xs=true→P):P :=
 onB_el e fun a ha e=>onB_el e fun xs ho e=>asTp_el ho fun d n sl ho=>asRf_el ha fun ha=>k a xs ha ⟨_,X _ _ ho,rfl,n,rfl⟩ e
theorem valOk_rep (X:C.K.In C.h₀) {v:V}:∀ {x:Value},valOk C.K v x=true→Rep C C.rn v x :=
 V.rec (motive_1:=fun v=>∀ {x:Value},valOk C.K v x=true→Rep C C.rn v x) (motive_2:=fun l=>∀ {xs:List Value},valsOk C.K l xs=true→Reps C C.rn l xs)
  (fun e=>nf e) (fun I I e=>nf e) (fun i x e=>by cases x with | int j t=>exact eq_of_beq e▸.int _ t | _=>exact nf e) (fun i x e=>by cases x with | str j t=>exact eq_of_beq e▸.str _ t | _=>exact nf e)
  (fun l ih x e=>tp_el X e fun a xs ha zz e=>(by obtain ⟨o,h1,h2⟩:=zz;exact an e fun e1 e2=>ha▸.tup h1 h2 (ih e2) (of_decide_eq_true e1:l.length≤cap)))
  (fun I I I e=>nf e) (fun I I e=>nf e) (fun I I e=>nf e) (fun I I e=>nf e)
  (fun {xs} e=>by cases xs with | nil=>exact .nil | cons=>exact nf e)
  (fun v l i j xs e=>by cases xs with
   | nil=>exact nf e
   | cons x xs=>exact an e fun e1 e2=>.cons (i e1) (j e2)) v
theorem valsOk_reps (X:C.K.In C.h₀) {l:List V} {xs:List Value} (e:valsOk C.K l xs=true):Reps C C.rn l xs:=by
 induction l generalizing xs with
 | nil=>cases xs with | nil=>exact .nil | cons=>exact nf e
 | cons v l ih=>cases xs with
  | nil=>exact nf e
  | cons x xs=>exact an e fun e1 e2=>.cons (valOk_rep X e1) (ih e2)
end
noncomputable def isLC:Option NameKind→Bool | some .local=>true | some .cell=>true | _=>false
noncomputable def notFree:NameKind→Bool | .free=>false | _=>true
noncomputable def recGood (r:FnRec):Bool :=
 decide r.params.Nodup&&(decide (r.dflt.length≤r.params.length)&&(r.params.all (fun x=>isLC (r.sc.lookup x))&&(r.sc.all (fun p=>notFree p.2)&&(decide ((r.sc.filter fun p=>p.2==.cell).map (·.1)).Nodup&&r.sc.all fun p=>!(p.1 == "__debug__")&&!(p.1 == "__classdict__")))))
noncomputable def dfltOk (K:Frag) (l:List V):Value→Bool
 | .none=>l.isEmpty
 | x=>onB (asRf x) fun T=>onB (asTp (K.lookup T)) fun xs=>valsOk K l xs.toList
noncomputable def fnFlags (K:Frag) (dfl:List V) (fd:FuncData):Bool :=
 !fd.scope.isCoroutine&&(!fd.scope.isGenerator&&(codeIn K fd.code fd.qualname&&(kFun fd.scope.kind&&(fd.globals==mainGlobals&&(fd.builtins==builtinsNs&&(fd.closure.isEmpty&&(fd.params.posonlyargs.isEmpty&&(fd.params.kwonlyargs.isEmpty &&
 (fd.params.vararg.isNone&&(fd.params.kwarg.isNone&&dfltOk K dfl fd.defaults))))))))))
noncomputable def fnView (K:Frag) (dfl:List V) (f:Addr):Option (List Stmt×List (Str×NameKind)×List Str×Bool):=match K.lookup f with
 | some ⟨_,_,.func fd,_⟩=>match fd.body with
  | .stmts b=>some (b,fd.scope.names,fd.params.args.map (·.arg),fnFlags K dfl fd)
  | _=>none
 | _=>none
noncomputable def refIn:Option (Option Value)→Option Addr
 | some (some (.ref f))=>some f
 | _=>none
theorem refIn_some {x:Option (Option Value)} {f:Addr} (h:refIn x=some f):x=some (some (.ref f)):=by
 unfold refIn at h
 split at h
 ·exact congrArg (fun a=>some (some (Value.ref a))) (Option.some.inj h)
 ·exact no h
structure FnGood (K:Frag) (f:Addr) (r:FnRec):Prop where
 view:fnView K r.dflt f=some (r.body,r.sc,r.params,true)
 good:recGood r=true
 keep:keepIn K (.ref f)=true
theorem view_el {K:Frag} {dfl:List V} {f:Addr} {b sc ps t} {P:Prop} (e:fnView K dfl f=some (b,sc,ps,t)) (k:∀ c d fd sl,K.lookup f=some ⟨c,d,.func fd,sl⟩→fd.body=.stmts b→fd.scope.names=sc→fd.params.args.map (·.arg)=ps→fnFlags K dfl fd=t→P):P:=by
 unfold fnView at e
 split at e
 ·rename_i ho
  split at e
  ·rename_i hb
   cases e
   exact k _ _ _ _ ho hb rfl rfl rfl
  ·exact no e
 ·exact no e
theorem nt_el {b:Bool} {P:Prop} (h:(!b)=true) (k:b=false→P):P:=k ((Bool.not_eq_true' b).mp h)
section
variable {C:Ctx0} {f:Addr} {r:FnRec}
theorem fnOb_of (X:C.K.In C.h₀) (G:FnGood C.K f r):∃ o fd dv,FnOb C f r o fd dv:=by
 refine view_el G.view fun c d fd sl ho e1 e2 e3 e4=>?_
 refine an e4 fun a1 e=>an e fun a2 e=>an e fun a3 e=>an e fun a4 e=>an e fun a5 e=>an e fun a6 e=>an e fun a7 e=>an e fun a8 e=>an e fun a9 e=>an e fun a10 e=>an e fun a11 a12=>?_
 obtain ⟨dv,h1,h2⟩:∃ dv,Reps C C.rn r.dflt dv∧((fd.defaults=.none∧dv=[])∨∃ T,fd.defaults=.ref T∧C.h₀.IsTuple T dv.toArray):=by
  cases hd:fd.defaults with
  | none=>rw [hd] at a12;exact ⟨[],List.isEmpty_iff.mp a12▸.nil,.inl ⟨rfl,rfl⟩⟩
  | ref T =>
   rw [hd] at a12
   exact tp_el X (x:=.ref T) a12 fun a xs ha zz e=>(by obtain ⟨o,h1,h2⟩:=zz;exact ⟨xs.toList,valsOk_reps X e,.inr ⟨T,rfl,o,Value.ref.inj ha▸h1,h2⟩⟩)
  | _=>rw [hd] at a12;exact nf a12
 exact ⟨_,fd,dv,X _ _ ho,rfl,nt_el a1 id,nt_el a2 id,e1,codeRec_of X a3,by cases h:fd.scope.kind with | function=>rfl | _=>rw [h] at a4;exact nf a4,e2,eq_of_beq a5,eq_of_beq a6,List.isEmpty_iff.mp a7,List.isEmpty_iff.mp a8,e3,List.isEmpty_iff.mp a9,Option.isNone_iff_eq_none.mp a10,Option.isNone_iff_eq_none.mp a11,h1,h2⟩
theorem fnAt_of (X:C.K.In C.h₀) (G:FnGood C.K f r):FnAt C f r :=
 an G.good fun g1 e=>an e fun g2 e=>an e fun g3 e=>an e fun g4 e=>an e fun g5 g6=>⟨fnOb_of X G,of_decide_eq_true g1,of_decide_eq_true g2,fun x m=>by
  have z:=List.all_eq_true.mp g3 x m
  cases h:r.sc.lookup x with
  | none=>rw [h] at z;exact nf z
  | some k=>rw [h] at z;cases k with | «local»=>exact .inl rfl | cell=>exact .inr rfl | _=>exact nf z,
  fun x e=>nf (List.all_eq_true.mp g4 _ (mem_of_lookup e)),of_decide_eq_true g5,fun x k e z=>an (List.all_eq_true.mp g6 _ (mem_of_lookup e)) fun z1 z2=>z.elim (fun z=>nt_el z1 fun y=>nf (y.symm.trans z)) fun z=>nt_el z2 fun y=>nf (y.symm.trans z)⟩
theorem fnIn_of (X:C.K.In C.h₀) (G:FnGood C.K f r):FnIn C f r:=⟨fnAt_of X G,G.keep⟩
end
noncomputable def AllP {α:Type} (Q:α→Prop):List α→Prop
 | []=>True
 | a::l=>Q a∧AllP Q l
theorem AllP.mem {α:Type} {Q:α→Prop}:∀ {l:List α},AllP Q l→∀ a∈l,Q a
 | _::_,h,_,m=>by cases m with | head=>exact h.1 | tail _ m=>exact h.2.mem _ m
noncomputable def ra (K:Frag) (s:Str):Addr:=(refIn (nsIn K mainGlobals s)).getD 0
noncomputable def rm (K:Frag) (D:Addr) (s:Str):Addr:=(refIn (findIn K (.ref D) s)).getD 0
noncomputable def valIn (K:Frag) (v:V):Option (Option Value)→Bool | some (some x)=>valOk K v x | _=>false
noncomputable def ValGood (K:Frag) (p:String×V):Prop:=valIn K p.2 (nsIn K mainGlobals p.1)=true
structure DefGood (K:Frag) (p:String×Nat):Prop where
 g:refIn (nsIn K mainGlobals p.1)=some (ra K p.1)
 f:FnGood K (ra K p.1) (rc p.2)
structure MethGood (K:Frag) (p:String×String×Nat):Prop where
 g:refIn (nsIn K mainGlobals p.1)=some (ra K p.1)
 m:refIn (findIn K (.ref (ra K p.1)) p.2.1)=some (rm K (ra K p.1) p.2.1)
 i:isFn K (.ref (rm K (ra K p.1) p.2.1))=true
 f:FnGood K (rm K (ra K p.1) p.2.1) (mrc p.2.2 p.2.1)
structure ClsGood (K:Frag) (p:String×List String):Prop where
 g:refIn (nsIn K mainGlobals p.1)=some (ra K p.1)
 k:(keepIn K (.ref (ra K p.1))&&(makesIn K (ra K p.1)&&(plainGet K (ra K p.1) "" && (hasDictIn K (ra K p.1)&&((findIn K (.ref (ra K p.1)) "__setattr__" == some (some (.builtin "object.__setattr__")))&&(plainOver K (ra K p.1)&&p.2.all fun x=>findIn K (.ref (ra K p.1)) x==some none))))))=true
noncomputable def dataFree:Value→Bool
 | .builtin i=>(withoutEnding? i "#data").isNone
 | _=>true
structure BiGood (K:Frag) (s:String):Prop where
 n:nsIn K mainGlobals s=some none
 b:bootBuiltins s=biVal s
 v:(biVal s).isSome=true
 ne:Str.ofString s ≠ "__name__"
noncomputable def dataIn:Option Obj→Bool | some ⟨_,_,.dict es _,_⟩=>es.toList.all fun e=>dataFree e.val | _=>false
noncomputable def nameIn:Option (Option Value)→Bool | some (some _)=>true | _=>false
structure BaseK (K:Frag):Prop where
 vals:AllP (ValGood K) valTab
 fns:AllP (DefGood K) fnTab
 meths:AllP (MethGood K) methTab
 clss:AllP (ClsGood K) attrTab
 bis:AllP (BiGood K) biTab
 data:dataIn (K.lookup mainGlobals)=true
 name:nameIn (nsIn K mainGlobals "__name__")=true
theorem boot_data:(Manifest.builtinsNames.all fun y=>dataFree (bootValue y.2 y.1))=true:=by decide +kernel
theorem boot_free {x:Str} {v:Value} (h:bootBuiltins x=some v):dataFree v=true:=by
 unfold bootBuiltins at h
 obtain ⟨y,hy,e⟩:=List.mem_map.mp (List.mem_reverse.mp (mem_of_lookup h))
 have e:bootValue y.2 y.1=v:=congrArg Prod.snd e
 exact e▸List.all_eq_true.mp boot_data y hy
theorem lookW_el {α:Type} {x:Str} {v:α} {P:Prop}:∀ {l:List (String×α)},lookW x l=some v→(∀ s,x=Str.ofString s→(s,v)∈l→P)→P
 | [],h,_=>no h
 | p::l,h,k=>by
  have h:(bif sBeq x (Str.ofString p.1) then some p.2 else lookW x l)=some v:=h
  cases e:sBeq x (Str.ofString p.1) with
  | true=>rw [e] at h;exact name_is e fun e=>k p.1 e (Option.some.inj h▸.head _)
  | false=>rw [e] at h;exact lookW_el (l:=l) h fun s e m=>k s e (.tail _ m)
theorem glob_el {x:Str} {g:GK} {P:Prop} (h:globW x=some g) (k1:∀ s v,x=Str.ofString s→(s,v)∈valTab→g=.val v→P) (k2:∀ s i,x=Str.ofString s→(s,i)∈fnTab→g=.fn (rc i)→P) (k3:∀ s i,x=Str.ofString s→(s,i)∈clsTab→g=.cls→P) (k4:∀ s,x=Str.ofString s→s∈biTab→g=.bi→P):P:=by
 unfold globW at h
 cases e1:lookW x valTab with
 | some v=>rw [e1] at h;exact lookW_el e1 fun s e m=>k1 s v e m (Option.some.inj h).symm
 | none =>
  rw [e1] at h
  cases e2:lookW x fnTab with
  | some i=>rw [e2] at h;exact lookW_el e2 fun s e m=>k2 s i e m (Option.some.inj h).symm
  | none =>
   rw [e2] at h
   cases e3:lookW x clsTab with
   | some i=>rw [e3] at h;exact lookW_el e3 fun s e m=>k3 s i e m (Option.some.inj h).symm
   | none =>
    rw [e3] at h
    cases e4:biTab.any (fun k=>sBeq x (Str.ofString k)) with
    | true=>rw [e4] at h;obtain ⟨s,m,e⟩:=List.any_eq_true.mp e4;exact name_is e fun e=>k4 s e m (Option.some.inj h).symm
    | false=>rw [e4] at h;exact no h
theorem meth_el {c m:Str} {r:FnRec} {P:Prop}:∀ {l:List (String×String×Nat)},methL c m l=some r→(∀ p∈l,c=Str.ofString p.1→m=Str.ofString p.2.1→r=mrc p.2.2 p.2.1→P)→P
 | [],h,_=>no h
 | p::l,h,k=>by
  have h:(bif sBeq c (Str.ofString p.1)&&sBeq m (Str.ofString p.2.1) then some (mrc p.2.2 p.2.1) else methL c m l)=some r:=h
  cases e:sBeq c (Str.ofString p.1)&&sBeq m (Str.ofString p.2.1) with
  | true=>rw [e] at h;exact an e fun e1 e2=>name_is e1 fun e1=>name_is e2 fun e2=>k p (.head _) e1 e2 (Option.some.inj h).symm
  | false=>rw [e] at h;exact meth_el (l:=l) h fun p m=>k p (.tail _ m)
theorem tabs_ok:((clsTab.all fun p=>attrTab.any fun q=>q.1==p.1)&&methTab.all fun p=>clsNm (Str.ofString p.1))=true:=by decide +kernel
section
variable {C:Ctx0}
theorem gv_is {x:Str} {f val:Value} (h:C.mg x=some f) (g:C.GV x val):val=f:=g.elim (fun g=>Option.some.inj (g.symm.trans h)) fun g=>no (g.1.symm.trans h)
theorem base_ok (B:BaseK C.K) (X:C.K.In C.h₀) (hg:C.h₀.Ns mainGlobals C.mg) (hb:C.h₀.Ns builtinsNs C.mb) (hn:C.h₀.NoLimit) (hbi:∀ x:Str,x ≠ "__name__" → C.mb x=bootBuiltins x):C.Ok:=by
 have mgr:∀ {x:Str} {f:Addr},refIn (nsIn C.K mainGlobals x)=some f→C.mg x=some (.ref f):=fun h=>mg_of X hg (refIn_some h)
 have clv:∀ s i,(s,i)∈clsTab→∃ l,(s,l)∈attrTab:=fun s i m=>an tabs_ok fun h I=>(by obtain ⟨q,m,e⟩:=List.any_eq_true.mp (List.all_eq_true.mp h _ m);exact ⟨q.2,(show q.1=s from eq_of_beq e)▸m⟩)
 have biv:∀ s∈biTab,C.mg (Str.ofString s)=none∧C.mb (Str.ofString s)=biVal (Str.ofString s):=fun s m=>let G:=B.bis.mem s m;⟨mg_none_of X hg G.n,(hbi _ G.ne).trans G.b⟩
 refine ⟨hg,hb,hn,X,fun x v h=>?_,fun x g h hv=>?_,fun c D h hD=>?_,fun x r val h hx=>?_,fun c D m r h hD=>?_,fun x val h hx=>?_,fun x val h hx=>?_,fun y i hy=>?_⟩
 ·refine glob_el h (fun s v e m z=>?_) (fun I I I I z=>nomatch z) (fun I I I I z=>nomatch z) fun I I I z=>nomatch z
  cases z
  subst e
  have G:valIn C.K v (nsIn C.K mainGlobals s)=true:=B.vals.mem _ m
  cases e:nsIn C.K mainGlobals s with
  | none=>rw [e] at G;exact nf G
  | some o=>cases o with
   | none=>rw [e] at G;exact nf G
   | some x=>rw [e] at G;exact ⟨x,mg_of X hg e,valOk_rep X G⟩
 ·refine glob_el h (fun s v e m z=>absurd z (hv v)) (fun s i e m z=>⟨_,.inl (e▸mgr (B.fns.mem _ m).g)⟩) (fun s i e m z=>(by obtain ⟨l,m⟩:=clv s i m;exact ⟨_,.inl (e▸mgr (B.clss.mem _ m).g)⟩)) fun s e m z=>?_
  obtain ⟨v,hv⟩:=Option.isSome_iff_exists.mp (B.bis.mem s m).v
  exact ⟨v,.inr (e▸⟨(biv s m).1,(biv s m).2.trans hv⟩)⟩
 ·obtain ⟨p,m,e⟩:=List.any_eq_true.mp h
  refine name_is e fun e=>?_
  subst e
  have G:=B.clss.mem p m
  cases gv_is (mgr G.g) hD
  refine an G.k fun I h=>an h fun I h=>an h fun h3 h=>an h fun h4 h=>an h fun h5 h=>an h fun h6 h7=>⟨fun I=>h3,h4,eq_of_beq h5,h6,fun x hx=>?_⟩
  obtain ⟨q,m',hx⟩:=List.any_eq_true.mp hx
  refine an hx fun e1 hx=>name_is e1 fun e1=>?_
  obtain ⟨y,my,e2⟩:=List.any_eq_true.mp hx
  refine name_is e2 fun e2=>?_
  have G':=B.clss.mem q m'
  have ea:ra C.K (Str.ofString p.1)=ra C.K (Str.ofString q.1):=congrArg _ e1
  refine an G'.k fun I h=>an h fun I h=>an h fun I h=>an h fun I h=>an h fun I h=>an h fun I h=>?_
  exact e2▸ea▸eq_of_beq (List.all_eq_true.mp h y my)
 ·refine glob_el h (fun I I I I z=>nomatch z) (fun s i e m z=>?_) (fun I I I I z=>nomatch z) fun I I I z=>nomatch z
  cases z
  subst e
  have G:=B.fns.mem _ m
  exact ⟨_,gv_is (mgr G.g) hx,fnIn_of X G.f⟩
 ·refine meth_el h fun p mp e1 e2 e3=>?_
  subst e1 e2 e3
  have G:=B.meths.mem p mp
  cases gv_is (mgr G.g) hD
  exact ⟨an tabs_ok fun I h=>List.all_eq_true.mp h p mp,_,refIn_some G.m,G.i,fnIn_of X G.f⟩
 ·refine glob_el h (fun I I I I z=>nomatch z) (fun I I I I z=>nomatch z) (fun s i e m z=>?_) fun I I I z=>nomatch z
  subst e
  obtain ⟨l,m⟩:=clv s i m
  have G:=B.clss.mem _ m
  exact an G.k fun h1 h=>an h fun h2 I=>⟨_,gv_is (mgr G.g) hx,h1,h2⟩
 ·refine glob_el h (fun I I I I z=>nomatch z) (fun I I I I z=>nomatch z) (fun I I I I z=>nomatch z) fun s e m z=>?_
  subst e
  exact hx.elim (fun hx=>no ((biv s m).1.symm.trans hx)) fun hx=>(biv s m).2.symm.trans hx.2
 ·rcases hy with hy | ⟨hy,hy2⟩
  ·obtain ⟨o,es,ep,ho,hda,_,hf⟩:=hg
   have hd:=B.data
   unfold dataIn at hd
   split at hd
   ·rename_i q
    cases Option.some.inj (ho.symm.trans (X _ _ q))
    cases hda
    refine mp (show (es.find? fun e=>e.key.isStr y).map (·.val)=some _ from (hf y).trans hy) fun e he hv=>?_
    have:=List.all_eq_true.mp hd e (Array.mem_toList_iff.mpr (Array.mem_of_find?_eq_some he))
    rw [hv] at this
    exact this
   ·exact nf hd
  ·have hne:y ≠ "__name__" := fun e=>by
    have N:=B.name
    cases z:nsIn C.K mainGlobals "__name__" with
    | none=>rw [z] at N;exact nf N
    | some o=>cases o with
     | none=>rw [z] at N;exact nf N
     | some v=>exact no (hy.symm.trans (e▸mg_of X hg z))
   exact boot_free ((hbi y hne).symm.trans hy2)
end
end Mine
set_option maxHeartbeats 0
set_option maxHeartbeats 0
namespace Mine
open MineH PySem PySem.W PySem.Calls PyProof.Rows PySem.SeqAt PySem.Spec
theorem allP_map {α β:Type} {Q:α→Prop} (f g:α→β) (h:∀ a,f a=g a→Q a):∀ {l:List α},l.map f=l.map g→AllP Q l
 | [],_=>trivial
 | _::_,e=>⟨h _ (List.cons.inj e).1,allP_map f g h (List.cons.inj e).2⟩
theorem good_of {K:Frag} {f:Addr} {r:FnRec} (e:(fnView K r.dflt f,recGood r,keepIn K (.ref f))=(some (r.body,r.sc,r.params,true),true,true)):FnGood K f r:=⟨congrArg (·.1) e,congrArg (·.2.1) e,congrArg (·.2.2) e⟩
theorem base_k (P:Params):BaseK (Kf P) where
 vals:=allP_map (fun (p:String×V)=>valIn (Kf P) p.2 (nsIn (Kf P) mainGlobals p.1)) (fun _=>true) (fun _ e=>e) (by kernel_rfl)
 fns:=allP_map (fun (p:String×Nat)=>(refIn (nsIn (Kf P) mainGlobals p.1),(fnView (Kf P) (rc p.2).dflt (ra (Kf P) p.1),recGood (rc p.2),keepIn (Kf P) (.ref (ra (Kf P) p.1)))))
  (fun p=>(some (ra (Kf P) p.1),(some ((rc p.2).body,(rc p.2).sc,(rc p.2).params,true),true,true))) (fun _ e=>⟨congrArg (·.1) e,good_of (congrArg (·.2) e)⟩) (by kernel_rfl)
 meths:=allP_map (fun (p:String×String×Nat)=>(refIn (nsIn (Kf P) mainGlobals p.1),refIn (findIn (Kf P) (.ref (ra (Kf P) p.1)) p.2.1),isFn (Kf P) (.ref (rm (Kf P) (ra (Kf P) p.1) p.2.1)),(fnView (Kf P) (mrc p.2.2 p.2.1).dflt (rm (Kf P) (ra (Kf P) p.1) p.2.1),recGood (mrc p.2.2 p.2.1),keepIn (Kf P) (.ref (rm (Kf P) (ra (Kf P) p.1) p.2.1)))))
  (fun p=>(some (ra (Kf P) p.1),some (rm (Kf P) (ra (Kf P) p.1) p.2.1),true,(some ((mrc p.2.2 p.2.1).body,(mrc p.2.2 p.2.1).sc,(mrc p.2.2 p.2.1).params,true),true,true))) (fun _ e=>⟨congrArg (·.1) e,congrArg (·.2.1) e,congrArg (·.2.2.1) e,good_of (congrArg (·.2.2.2) e)⟩) (by kernel_rfl)
 clss:=allP_map (fun (p:String×List String)=>(refIn (nsIn (Kf P) mainGlobals p.1),_)) (fun p=>(some (ra (Kf P) p.1),true)) (fun _ e=>⟨congrArg (·.1) e,congrArg (·.2) e⟩) (by kernel_rfl)
 bis:=allP_map (fun (s:String)=>(nsIn (Kf P) mainGlobals s,bootBuiltins s,(biVal s).isSome,decide (Str.ofString s = "__name__"))) (fun s=>(some none,biVal s,true,false)) (fun _ e=>⟨congrArg (·.1) e,congrArg (·.2.1) e,congrArg (·.2.2.1) e,of_decide_eq_false (congrArg (·.2.2.2) e)⟩) (by kernel_rfl)
 data:=by kernel_rfl
 name:=by kernel_rfl
end Mine
set_option maxHeartbeats 1000000
namespace Mine
open PySem
theorem idx_nat (k n:Nat) (h:k < n) (hz:n≤cap):idx? (k:Int) n=some k:=by
 unfold idx? cap at *
 have h1:decide ((k:Int) < -(2 ^ 63:Int))=false:=decide_eq_false (by fail "a")
 have h2:decide ((k:Int) ≥ 2 ^ 63)=false:=decide_eq_false (by fail "a")
 rw [h1,h2]
 simp only [Bool.or_self,Bool.false_eq_true,if_false]
 have e:(if (k:Int) < 0 then (k:Int)+(n:Int) else (k:Int))=(k:Int):=if_neg (by fail "a")
 unfold seqIndex?
 simp only [e]
 rw [if_pos (by simp;fail "a")]
 rfl
section
variable {σ:St}
theorem sub_tup {l:List V} {t:Nat} {v:V} (h:l[t]?=some v) (hz:l.length≤cap):subV σ (.tup l) (.int (t:Int))=some v:=by
 show (idx? (t:Int) l.length).bind _=_
 rw [idx_nat t l.length (List.getElem?_eq_some_iff.mp h).1 hz];exact h
theorem sub_lst {l:List V} {t:Nat} {v:V} (ht:l[t]?=some v) (hz:l.length≤cap):subV σ (.lst l) (.int (t:Int))=some v:=by
 show (if (0:Int)≤t then (idx? (t:Int) l.length).bind _ else (none:Option V))=_
 rw [if_pos (Int.natCast_nonneg t),idx_nat t l.length (List.getElem?_eq_some_iff.mp ht).1 hz];exact ht
theorem sub_loc {l:List V} {r t:Nat} {v:V} (h:σ[r]?=some (.list l)) (ht:l[t]?=some v) (hz:l.length≤cap):subV σ (.loc r) (.int (t:Int))=some v:=by
 show (σ[r]?).bind _=_
 rw [h];exact sub_lst (σ:=σ) ht hz
theorem sub_dict {es:List (V×V)} {r:Nat} {k v:V} (h:σ[r]?=some (.dict es)) (hk:kOk es k=true) (hv:dictGetV es k=some v):subV σ (.loc r) k=some v:=by
 show (σ[r]?).bind _=_
 rw [h];show (if _ then _ else _)=_;rw [if_pos hk];exact hv
theorem pure_eq {l k:List V} (h1:(V.tup l).pure=true) (h2:(V.tup k).pure=true):eqV σ (.tup l) (.tup k)=some ((V.tup l).eqb (.tup k)):=by
 have e:sameV (.tup l) (.tup k)=some ((V.tup l).eqb (.tup k)):=by show (if ((V.tup l).pure&&(V.tup k).pure)=true then _ else _)=_;rw [h1,h2];rfl
 unfold eqV;rw [e]
theorem truth_loc {n:Nat} {l:List V} (h:σ[n]?=some (.list l)):truthV σ (.loc n)=some (!l.isEmpty):=by
 show ((σ[n]?).bind asL).bind _=_
 rw [h];rfl
theorem bin_mod_int (a b:Int) (h:b≠0):binV σ .Mod (.int a) (.int b)=some (.int (a.fmod b)):=(if_neg h:(if b=0 then none else some (V.int (a.fmod b)))=_)
theorem loop_lst (l:List V):loopOf σ (.lst l)=some l:=(Eq.refl _).trans (Eq.refl _)
theorem loop_tup (l:List V):loopOf σ (.tup l)=some l:=(Eq.refl _).trans (Eq.refl _)
theorem isD_lst (l:List V):isD σ (.lst l)=false:=(Eq.refl _).trans (Eq.refl _)
theorem isD_tup (l:List V):isD σ (.tup l)=false:=(Eq.refl _).trans (Eq.refl _)
theorem same_lst (l:List V):sameItems σ (.lst l) false l=true:=by
 unfold sameItems;rw [isD_lst,loop_lst];simp [(V.eqbs_iff l l).mpr rfl]
theorem same_tup (l:List V):sameItems σ (.tup l) false l=true:=by
 unfold sameItems;rw [isD_tup,loop_tup];simp [(V.eqbs_iff l l).mpr rfl]
theorem loop_loc {k:Nat} {l:List V} (h:σ[k]?=some (.list l)):loopOf σ (.loc k)=some l:=by
 show (σ[k]?).bind loopO=_
 rw [h];rfl
theorem isD_loc {k:Nat} {l:List V} (h:σ[k]?=some (.list l)):isD σ (.loc k)=false:=by
 show Option.casesOn (motive:=fun I=>Bool) (σ[k]?) false isDO=_
 rw [h];rfl
theorem same_loc {k:Nat} {l:List V} (h:σ[k]?=some (.list l)):sameItems σ (.loc k) false l=true:=by
 unfold sameItems;rw [isD_loc h,loop_loc h];simp [(V.eqbs_iff l l).mpr rfl]
theorem loop_dict {k:Nat} {es:List (V×V)} (h:σ[k]?=some (.dict es)) (hk:loopKeys es=true):loopOf σ (.loc k)=some (es.map (·.1)):=by
 show (σ[k]?).bind loopO=_
 rw [h];exact if_pos hk
theorem isD_dict {k:Nat} {es:List (V×V)} (h:σ[k]?=some (.dict es)):isD σ (.loc k)=true:=by
 show Option.casesOn (motive:=fun I=>Bool) (σ[k]?) false isDO=_
 rw [h];rfl
theorem same_dict {k:Nat} {es:List (V×V)} (h:σ[k]?=some (.dict es)) (hk:loopKeys es=true):sameItems σ (.loc k) true (es.map (·.1))=true:=by
 unfold sameItems;rw [isD_dict h,loop_dict h hk];simp [(V.eqbs_iff _ _).mpr rfl]
end
set_option genInjectivity false in
structure Prp where
 name:Str
 kind:Nat
 flag:Nat
set_option genCtorIdx true in
inductive Row where
 | key (s:Str) | bool (v f:Nat) | str (s:Str) (f:Nat) | num (n:Int) (f:Nat) | union (l:List Nat)
 | obj (ps:List Prp) (s d:Option Nat) (f:Nat) | ref (d:Nat) | tpl
noncomputable def vints (l:List Nat):List V:=l.map fun (i:Nat)=>V.int (i:Int)
noncomputable def encP (p:Prp):V:=.tup [.str p.name,.int p.kind,.int p.flag,.int 0]
noncomputable def encO:Option Nat→V
 | none=>.tup []
 | some k=>.tup [.int k,.int 0]
noncomputable def Row.enc:Row→V
 | .key s=>.tup [.int 1,.str s]
 | .bool v f=>.tup [.int 2,.int v,.int f]
 | .str s f=>.tup [.int 3,.str s,.int f]
 | .num n f=>.tup [.int 4,.int n,.int f]
 | .union l=>.tup [.int 6,.tup (vints l)]
 | .obj ps s d f=>.tup [.int 8,.tup (ps.map encP),.tup [],.tup [],encO s,encO d,.int f]
 | .ref d=>.tup [.int 9,.int d,.tup []]
 | .tpl=>.tup [.int 18,.tup [.str "a",.str ""],.tup [.int 6]]
noncomputable def Row.kind:Row→Nat
 | .key _=>1 | .bool ..=>2 | .str ..=>3 | .num ..=>4 | .union _=>6 | .obj ..=>8 | .ref _=>9 | .tpl=>18
noncomputable def vN (v:V):Nat:=((asI v).getD 0).toNat
noncomputable def vS (v:V):Str:=(asS v).getD ⟨#[]⟩
noncomputable def vL (v:V):List V:=(asT v).getD []
noncomputable def decP (v:V):Prp:=⟨vS ((vL v).getD 0 v),vN ((vL v).getD 1 v),vN ((vL v).getD 2 v)⟩
noncomputable def decR (v:V):List V→Row
 | k::a::l=>bif vN k==1 then .key (vS a) else bif vN k==2 then .bool (vN a) (vN (l.getD 0 v)) else bif vN k==3 then .str (vS a) (vN (l.getD 0 v)) else bif vN k==4 then .num ((asI a).getD 0) (vN (l.getD 0 v)) else bif vN k==6 then .union ((vL a).map vN)
   else bif vN k==8 then .obj ((vL a).map decP) ((vL (l.getD 2 v)).head?.map vN) ((vL (l.getD 3 v)).head?.map vN) (vN (l.getD 4 v)) else bif vN k==9 then .ref (vN a) else .tpl
 | _=>.tpl
theorem vints_dec:∀ l:List Nat,(vints l).map vN=l
 | []=>rfl
 | a::l=>congrArg (a::·) (vints_dec l)
theorem encPs_dec:∀ l:List Prp,(l.map encP).map decP=l
 | []=>rfl
 | a::l=>congrArg (a::·) (encPs_dec l)
theorem encO_dec (o:Option Nat):(vL (encO o)).head?.map vN=o:=by cases o<;>rfl
theorem enc_dec (r:Row):decR .none (vL r.enc)=r:=by
 cases r with
 | union l=>exact congrArg Row.union (vints_dec l)
 | obj ps s d f=>exact congr (congr (congrArg (fun a b c=>Row.obj a b c f) (encPs_dec ps)) (encO_dec s)) (encO_dec d)
 | _=>rfl
theorem enc_inj {r q:Row} (h:r.enc=q.enc):r=q:=(enc_dec r).symm.trans ((congrArg (fun v=>decR .none (vL v)) h).trans (enc_dec q))
noncomputable instance:DecidableEq Row:=fun a b=>decidable_of_iff (a.enc.eqb b.enc=true) ⟨fun h=>enc_inj ((V.eqb_iff _ _).mp h),fun h=>(V.eqb_iff _ _).mpr (congrArg _ h)⟩
theorem vints_pure (l:List Nat) (n:Nat):(vints l).all (fun v=>v.pureN n)=true:=by
 unfold vints
 rw [List.all_map]
 exact List.all_eq_true.mpr fun x I=>by cases n<;>rfl
theorem enc_pure (r:Row):r.enc.pureN 6=true:=by
 cases r with
 | union l=>show (List.all [V.int 6,V.tup (vints l)] fun v=>v.pureN 5)=true;simp only [List.all_cons,List.all_nil,Bool.and_true];exact vints_pure l 4
 | obj ps s d f =>
  have h1:(V.tup (ps.map encP)).pureN 5=true:=by
   show (ps.map encP).all (fun v=>v.pureN 4)=true
   rw [List.all_map]
   exact List.all_eq_true.mpr fun x I=>rfl
  have h2:∀ o,(encO o).pureN 5=true:=fun o=>by cases o<;>rfl
  show (List.all [V.int 8,.tup (ps.map encP),.tup [],.tup [],encO s,encO d,.int f] fun v=>v.pureN 5)=true
  simp only [List.all_cons,List.all_nil,h1,h2]
  rfl
 | _=>rfl
theorem enc_tup (r:Row):∃ l,r.enc=.tup l:=by cases r<;>exact ⟨_,rfl⟩
theorem enc_tag (r:Row):r.enc.tag=3:=by
 obtain ⟨l,e⟩:=enc_tup r
 have:=enc_pure r
 rw [e] at this ⊢
 show (if (V.tup l).pure then 3 else 0)=3
 exact if_pos this
theorem enc_eqb (r q:Row):r.enc.eqb q.enc=decide (r=q):=by
 cases h:r.enc.eqb q.enc with
 | true=>exact (decide_eq_true (enc_inj ((V.eqb_iff _ _).mp h))).symm
 | false =>
  refine (decide_eq_false fun e=>?_).symm
  subst e
  rw [(V.eqb_iff _ _).mpr rfl] at h;cases h
noncomputable def idxFrom:Nat→List Row→List (V×V)
 | _,[]=>[]
 | k,r::l=>(r.enc,.int (k:Int))::idxFrom (k+1) l
noncomputable abbrev idxOf (T:List Row):List (V×V):=idxFrom 0 T
theorem idx_c (k:Nat) (r:Row) (l:List Row):idxFrom k (r::l)=(r.enc,.int (k:Int))::idxFrom (k+1) l:=rfl
theorem idx_kOk (r:Row):∀ (k:Nat) (T:List Row),kOk (idxFrom k T) r.enc=true:=by
 intro k T
 have h:∀ k,(idxFrom k T).all (fun e=>e.1.tag==r.enc.tag)=true:=by
  induction T with
  | nil=>intro k;rfl
  | cons q T ih=>intro k;rw [idxFrom,List.all_cons,ih,enc_tag,enc_tag];rfl
 unfold kOk
 rw [h k,enc_tag]
 rfl
theorem idx_get (r:Row):∀ (k:Nat) (T:List Row),dictGetV (idxFrom k T) r.enc=if r∈T then some (.int ((k+T.idxOf r:Nat):Int)) else none
 | k,[]=>rfl
 | k,q::T=>by
  have ih:=idx_get r (k+1) T
  unfold dictGetV at ih ⊢
  simp only [idx_c,List.find?_cons,enc_eqb]
  by_cases e:q=r
  ·subst e;simp [List.idxOf_cons]
  ·rw [decide_eq_false e]
   simp only [ih]
   have hb:(q==r)=false:=by simpa using e
   by_cases hm:r∈T
   ·rw [if_pos hm,if_pos (List.mem_cons_of_mem _ hm),List.idxOf_cons,hb]
    simp only [cond_false,Bool.false_eq_true,if_false]
    congr 3;fail "a"
   ·rw [if_neg hm,if_neg (by simp [hm,Ne.symm e])]
theorem idx_any (r:Row):∀ (k:Nat) (T:List Row),((idxFrom k T).any fun e=>e.1.eqb r.enc)=decide (r∈T)
 | k,[]=>rfl
 | k,q::T=>by
  simp only [idx_c,List.any_cons,idx_any r (k+1) T,enc_eqb]
  by_cases e:q=r
  ·subst e;simp
  ·rw [decide_eq_false e];simp [Ne.symm e]
theorem idx_append (r:Row):∀ (k:Nat) (T:List Row),idxFrom k (T++[r])=idxFrom k T++[(r.enc,.int ((k+T.length:Nat):Int))]
 | k,[]=>rfl
 | k,q::T=>by
  simp only [List.cons_append,idx_c,idx_append r (k+1) T,List.length_cons]
  congr 5;fail "a"
theorem idx_length:∀ (k:Nat) (T:List Row),(idxFrom k T).length=T.length
 | _,[]=>rfl
 | k,q::T=>by rw [idx_c,List.length_cons,idx_length (k+1) T];rfl
theorem idx_set (r:Row) (T:List Row) (h:r∉T):dictSetV (idxOf T) r.enc (.int (T.length:Int))=idxOf (T++[r]):=by
 unfold dictSetV
 rw [idx_any,decide_eq_false h]
 show _=idxFrom 0 (T++[r])
 rw [idx_append]
 simp
noncomputable def tabFs (τ:Nat):List (Str×V):=[("rows",.loc (τ+1)),("index",.loc (τ+2)),("decls",.loc (τ+3)),("bounds",.loc (τ+4)),("defaults",.loc (τ+5)),("names",.loc (τ+6)),("origins",.loc (τ+7)),("renamed",.loc (τ+8)),("shaping",.int 0),("putting",.int 0)]
section
variable {σ:St}
theorem len_lst (l:List V):lenV σ (.lst l)=some l.length:=(Eq.refl _).trans (Eq.refl _)
theorem len_loc {k:Nat} {l:List V} (h:σ[k]?=some (.list l)):lenV σ (.loc k)=some l.length:=by unfold lenV;simp only [h]
theorem in_dict {k:Nat} {es:List (V×V)} {a:V} (h:σ[k]?=some (.dict es)) (hp:a.pure=true) (hk:kOk es a=true):inV σ a (.loc k)=some (es.any (·.1.eqb a)):=by
 unfold inV
 rw [if_pos hp]
 show (σ[k]?).bind _=_
 rw [h]
 exact if_pos hk
end
noncomputable def hostFs (τ:Nat):List (Str×V):=[("tab",.loc τ),("deep",.int 0),("most_rounds",.int 200),("most_deep",.int 40),("lib",.none)]
noncomputable def lid:Nat:=900000
theorem lid_cap:lid < cap:=by unfold lid cap;fail "a"
noncomputable def first:List Row:=[.key "any",.key "unknown",.key "never",.key "void",.key "undefined",.key "null",.key "string",.key "number",.bool 0 0,.bool 1 0,.key "object",.obj [] none none 0,.union [8,9],.key "error",.bool 0 1,.bool 1 1]
structure Tab (σ:St) (τ:Nat) (T:List Row) (b:Nat):Prop where
 inst:σ[τ]?=some (.inst "TypeTable" (tabFs τ))
 rows:σ[τ+1]?=some (.list (T.map Row.enc))
 index:σ[τ+2]?=some (.dict (idxOf T))
 nd:T.Nodup
 sz:T.length+b≤lid
 pre:first <+: T
structure Fix (τ:Nat) (σ σ':St):Prop where
 low:∀ k,k < σ.length→k≠τ+1→k≠τ+2→σ'[k]?=σ[k]?
 len:σ.length≤σ'.length
theorem Fix.refl (τ:Nat) (σ:St):Fix τ σ σ:=⟨fun I I I I=>rfl,Nat.le_refl _⟩
theorem Fix.trans {τ:Nat} {a b c:St} (x:Fix τ a b) (y:Fix τ b c):Fix τ a c :=
 ⟨fun k h h1 h2=>(y.low k (Nat.lt_of_lt_of_le h x.len) h1 h2).trans (x.low k h h1 h2),Nat.le_trans x.len y.len⟩
theorem Fix.at {τ:Nat} {σ σ':St} (x:Fix τ σ σ') {k:Nat} {o:Ob} (h:σ[k]?=some o) (h1:k≠τ+1) (h2:k≠τ+2):σ'[k]?=some o :=
 (x.low k (List.getElem?_eq_some_iff.mp h).1 h1 h2).trans h
theorem Tab.less {σ τ T b c} (x:Tab σ τ T b) (h:c≤b):Tab σ τ T c:=⟨x.inst,x.rows,x.index,x.nd,Nat.le_trans (Nat.add_le_add_left h _) x.sz,x.pre⟩
theorem Tab.cap_len {σ τ T b} (x:Tab σ τ T b):(T.map Row.enc).length≤cap:=by
 rw [List.length_map];exact Nat.le_trans (Nat.le_add_right _ b) (Nat.le_trans x.sz (Nat.le_of_lt lid_cap))
theorem Tab.row {σ τ T b} {t:Nat} {r:Row} (x:Tab σ τ T b) (h:T[t]?=some r):subV σ (.loc (τ+1)) (.int (t:Int))=some r.enc :=
 sub_loc x.rows (by rw [List.getElem?_map,h];rfl) x.cap_len
theorem Tab.first {σ τ T b} (x:Tab σ τ T b) {t:Nat} (h:t < 16):T[t]?=Mine.first[t]?:=by
 obtain ⟨X,e⟩:=x.pre
 rw [← e,List.getElem?_append_left (by show t < 16;exact h)]
noncomputable def Row.fresh:Row→Bool
 | .bool _ f | .str _ f | .num _ f | .obj _ _ _ f=>f==1
 | _=>false
noncomputable def Row.reg:Row→Row
 | .bool v _=>.bool v 0
 | .str s _=>.str s 0
 | .num n _=>.num n 0
 | .obj p s d _=>.obj p s d 0
 | r=>r
noncomputable def Row.whole:Row→Int
 | .str ..=>6
 | .tpl=>6
 | .num ..=>7
 | _=>-1
noncomputable def twin (T:List Row) (r:Row):Int:=if r.fresh then (if r.reg∈T then ((T.idxOf r.reg:Nat):Int) else -1) else -1
noncomputable def atomic (T:List Row) (t:Nat):Prop:=t≠2∧∃ r,T[t]?=some r∧r.kind≠6
structure KIs (T:List Row) (t:Nat) (S:List Nat):Prop where
 at_:(t=2∧S=[])∨S=[t]∨(T[t]?=some (.union S)∧t≠2∧2≤S.length)
 atoms:∀ x∈S,atomic T x
 sorted:S.Pairwise (· < ·)
theorem pre_at {T T':List Row} (h:T <+: T') {t:Nat} {r:Row} (e:T[t]?=some r):T'[t]?=some r:=by
 obtain ⟨X,rfl⟩:=h
 rw [List.getElem?_append_left (List.getElem?_eq_some_iff.mp e).1];exact e
theorem atomic.mono {T T':List Row} (h:T <+: T') {t:Nat} (x:atomic T t):atomic T' t:=(by obtain ⟨a,r,e,k⟩:=x;exact ⟨a,r,pre_at h e,k⟩)
theorem KIs.mono {T T':List Row} (h:T <+: T') {t S} (x:KIs T t S):KIs T' t S :=
 ⟨x.at_.imp id (fun y=>y.imp id fun z=>⟨pre_at h z.1,z.2⟩),fun a ha=>(x.atoms a ha).mono h,x.sorted⟩
inductive Ex2 {α β:Type} (P:α→β→Prop):Prop | mk (a:α) (b:β) (h:P a b)
inductive Ex3 {α β γ:Type} (P:α→β→γ→Prop):Prop | mk (a:α) (b:β) (c:γ) (h:P a b c)
inductive Ex4 {α β γ δ:Type} (P:α→β→γ→δ→Prop):Prop | mk (a:α) (b:β) (c:γ) (d:δ) (h:P a b c d)
inductive C3 (p1 p2 p3:Prop):Prop | mk (h1:p1) (h2:p2) (h3:p3)
inductive C4 (p1 p2 p3 p4:Prop):Prop | mk (h1:p1) (h2:p2) (h3:p3) (h4:p4)
inductive C5 (p1 p2 p3 p4 p5:Prop):Prop | mk (h1:p1) (h2:p2) (h3:p3) (h4:p4) (h5:p5)
inductive C6 (p1 p2 p3 p4 p5 p6:Prop):Prop | mk (h1:p1) (h2:p2) (h3:p3) (h4:p4) (h5:p5) (h6:p6)
inductive C7 (p1 p2 p3 p4 p5 p6 p7:Prop):Prop | mk (h1:p1) (h2:p2) (h3:p3) (h4:p4) (h5:p5) (h6:p6) (h7:p7)
inductive C8 (p1 p2 p3 p4 p5 p6 p7 p8:Prop):Prop | mk (h1:p1) (h2:p2) (h3:p3) (h4:p4) (h5:p5) (h6:p6) (h7:p7) (h8:p8)
inductive C9 (p1 p2 p3 p4 p5 p6 p7 p8 p9:Prop):Prop | mk (h1:p1) (h2:p2) (h3:p3) (h4:p4) (h5:p5) (h6:p6) (h7:p7) (h8:p8) (h9:p9)
inductive C11 (p1 p2 p3 p4 p5 p6 p7 p8 p9 p10 p11:Prop):Prop | mk (h1:p1) (h2:p2) (h3:p3) (h4:p4) (h5:p5) (h6:p6) (h7:p7) (h8:p8) (h9:p9) (h10:p10) (h11:p11)
inductive TPost (τ:Nat) (σ:St) (T:List Row) (b:Nat) (P:V→List Row→Prop) (q:V×St):Prop
 | mk (T':List Row) (h1:T <+: T') (h2:Tab q.2 τ T' b) (h3:Fix τ σ q.2) (h4:P q.1 T')
noncomputable def updL (f:Str→Option V):List (Str×V)→Str→Option V
 | []=>f
 | p::r=>upd (updL f r) p.1 p.2
theorem upd_self {f:Str→Option V} {x:Str} {v:V} (h:f x=some v):upd f x v=f:=by
 funext y
 rw [upd_eq]
 split
 ·rename_i e;rw [e,h]
 ·rfl
theorem pin {f:Str→Option V} {x:Str} {v:V} (h:f x=some v):∃ g,f=upd g x v:=⟨f,(upd_self h).symm⟩
noncomputable def Has (f:Str→Option V) (L:List (Str×V)):Prop:=L.map (fun p=>f p.1)=L.map fun p=>some p.2
theorem updL_self {f:Str→Option V}:∀ {L:List (Str×V)},Has f L→updL f L=f
 | [],_=>rfl
 | p::r,h=>by
  have h:=List.cons.inj h
  show upd (updL f r) p.1 p.2=f
  rw [updL_self h.2]
  exact upd_self h.1
structure Lp (sc:List (Str×NameKind)) (up:Str→Option V) (src:V) (d:Bool) (all:List V) (L:List (Str×V)) (Inv:(Str→Option V)→St→Prop) (fr:Fr) (σ:St):Prop where
 f:fr=⟨sc,fr.vars,up⟩
 v:Has fr.vars L
 s:sameItems σ src d all=true
 i:Inv fr.vars σ
theorem lp {sc up src d all L Inv fr σ} (s:sameItems σ src d all=true) (i:Inv fr.vars σ) (f:fr=⟨sc,fr.vars,up⟩:=by rfl) (v:Has fr.vars L:=by rfl):Lp sc up src d all L Inv fr σ:=⟨f,v,s,i⟩
noncomputable def wLp (K:Fl→Fr→St→MS) (P:Fr→St→Prop) (fl:Fl) (fr:Fr) (σ:St):MS:=match fl with
 | .ret v=>K (.ret v) fr σ
 | .next=>.done (P fr σ)
 | .cont=>.done (P fr σ)
section
variable {hh:Nat}
theorem lp_go {body:List Stmt} {t src d all l K P fr σ} (ih:∀ fr σ,P fr σ→sameItems σ src d all=true∧Sem hh (.forS t body src d all l fr σ K)) (h:Sem hh (.exs body fr σ (wLp K P))):Sem hh (.exs body fr σ (wForN t body src d all l K)):=exs_mono h fun fl fr σ C A O Rm d=>by
 cases fl with
 | ret v=>exact d
 | next=>exact ⟨(ih fr σ d).1,(ih fr σ d).2 C A O Rm⟩
 | cont=>exact ⟨(ih fr σ d).1,(ih fr σ d).2 C A O Rm⟩
theorem for_map {ι:Type} {enc:ι→V} {t body src d all sc up K} (L:List (Str×V)) (Inv:List ι→(Str→Option V)→St→Prop)
  (step:∀ a r vs σ,Inv (a::r) (updL vs L) σ→Sem hh (.exs body ⟨sc,upd (updL vs L) t (enc a),up⟩ σ (wLp K (Lp sc up src d all L (Inv r)))))
  (fin:∀ vs σ,Inv [] (updL vs L) σ→Sem hh (K .next ⟨sc,updL vs L,up⟩ σ)) (l:List ι) (vars σ) (h:Has vars L) (i:Inv l vars σ):Sem hh (.forS t body src d all (l.map enc) ⟨sc,vars,up⟩ σ K):=by
 induction l generalizing vars σ with
 | nil=>rw [← updL_self h] at i ⊢;exact for_n (fin _ _ i)
 | cons x l ih =>
  rw [← updL_self h] at i ⊢
  exact for_c (lp_go (fun fr σ hq=>⟨hq.s,by rw [hq.f];exact ih _ _ hq.v hq.i⟩) (step x l vars σ i))
theorem for_rule {t body src d all sc up K} (L:List (Str×V)) (Inv:List V→(Str→Option V)→St→Prop)
  (step:∀ x rest vs σ,Inv (x::rest) (updL vs L) σ→Sem hh (.exs body ⟨sc,upd (updL vs L) t x,up⟩ σ (wLp K (Lp sc up src d all L (Inv rest)))))
  (fin:∀ vs σ,Inv [] (updL vs L) σ→Sem hh (K .next ⟨sc,updL vs L,up⟩ σ)) (l vars σ) (h:Has vars L) (i:Inv l vars σ):Sem hh (.forS t body src d all l ⟨sc,vars,up⟩ σ K) :=
 List.map_id l▸for_map (enc:=id) L Inv step fin l vars σ h i
noncomputable def wCr2 (src:V) (d:Bool) (all:List V) (P:List V→St→Prop) (done:List V) (v:V) (σ:St):MS:=.done (sameItems σ src d all=true∧P (done++[v]) σ)
noncomputable def wCr (elt:Expr) (fr:Fr) (src:V) (d:Bool) (all:List V) (P:List V→St→Prop) (done:List V) (b:Bool) (σ:St):MS :=
 .sel b (.ev elt fr σ (wCr2 src d all P done)) (.done (sameItems σ src d all=true∧P done σ))
theorem comp_rl' {ι:Type} {enc:ι→V} {elt t ifs src d all fr} (Inv:List ι→List V→St→Prop)
  (step:∀ x r done σ,Inv (x::r) done σ→Sem hh (.ifs ifs (fr.set t (enc x)) σ (wCr elt (fr.set t (enc x)) src d all (Inv r) done))) :
  ∀ l done σ (K:List V→St→MS),(∀ k σ,Inv [] (done++k) σ→Sem hh (K k σ))→Inv l done σ→Sem hh (.comp elt t ifs fr src d all (l.map enc) σ K)
 | [],done,σ,K,fin,i=>comp_n (fin [] σ ((List.append_nil done).symm▸i))
 | x::l,done,σ,K,fin,i=>comp_c (ifs_mono (step x l done σ i) fun b σ C A O Rm d=>by
  cases b with
  | false=>exact ⟨d.1,comp_rl' Inv step l done σ K fin d.2 C A O Rm⟩
  | true=>exact ev_mono d fun v σ d=>⟨d.1,comp_rl' Inv step l _ _ _ (fun k σ h=>fin _ _ (List.append_assoc done [v] k▸h)) d.2 C A O Rm⟩)
theorem comp_rl {ι:Type} {enc:ι→V} {elt t ifs src d all fr K σ} {l:List ι} (Inv:List ι→List V→St→Prop)
  (step:∀ x r done σ,Inv (x::r) done σ→Sem hh (.ifs ifs (fr.set t (enc x)) σ (wCr elt (fr.set t (enc x)) src d all (Inv r) done)))
  (i:Inv l [] σ) (fin:∀ k σ,Inv [] k σ→Sem hh (K k σ)):Sem hh (.comp elt t ifs fr src d all (l.map enc) σ K):=comp_rl' Inv step l [] σ K fin i
theorem enterQ {r args σ} {Q:V×St→Prop} (h:∀ Q':V×St→Prop,(∀ q,Q q→Q' q)→Sem hh (enterS r args σ Q')):Does (hh+1) r args σ Q:=enter (h Q fun I h=>h)
theorem fin_of {Q Q':V×St→Prop} {q:V×St} (h:∀ q,Q q→Q' q) (k:Q q):Fin (Q' q):=fin (h q k)
theorem for_mapP {ι:Type} {enc:ι→V} {t body src d all K} (sc:List (Str×NameKind)) (up:Str→Option V) (L:List (Str×V)) (Inv:List ι→(Str→Option V)→St→Prop)
  (step:∀ P:List ι→Fr→St→Prop,(∀ {r fr σ},sameItems σ src d all=true→Inv r fr.vars σ→fr=⟨sc,fr.vars,up⟩→Has fr.vars L→P r fr σ)→∀ a r vs σ,Inv (a::r) (updL vs L) σ→Sem hh (.exs body ⟨sc,upd (updL vs L) t (enc a),up⟩ σ (wLp K (P r))))
  (fin:∀ vs σ,Inv [] (updL vs L) σ→Sem hh (K .next ⟨sc,updL vs L,up⟩ σ)) (l:List ι) (vars σ) (h:Has vars L) (i:Inv l vars σ):Sem hh (.forS t body src d all (l.map enc) ⟨sc,vars,up⟩ σ K) :=
 for_map L Inv (step (fun r=>Lp sc up src d all L (Inv r)) fun s i f v=>⟨f,v,s,i⟩) fin l vars σ h i
noncomputable def wCs2 (P:List V→St→Prop) (done:List V) (v:V) (σ:St):MS:=.done (P (done++[v]) σ)
noncomputable def wCs (elt:Expr) (fr:Fr) (P:List V→St→Prop) (done:List V) (b:Bool) (σ:St):MS:=.sel b (.ev elt fr σ (wCs2 P done)) (.done (P done σ))
theorem comp_rlP {ι:Type} {enc:ι→V} {elt t ifs src d all fr K σ} {l:List ι} (Inv:List ι→List V→St→Prop)
  (step:∀ P:List ι→List V→St→Prop,(∀ {r done σ},sameItems σ src d all=true→Inv r done σ→P r done σ)→∀ x r done σ,Inv (x::r) done σ→Sem hh (.ifs ifs (fr.set t (enc x)) σ (wCs elt (fr.set t (enc x)) (P r) done)))
  (i:Inv l [] σ) (fin:∀ k σ,Inv [] k σ→Sem hh (K k σ)):Sem hh (.comp elt t ifs fr src d all (l.map enc) σ K) :=
 comp_rl Inv (fun x r done σ i=>ifs_mono (step (fun r done σ=>sameItems σ src d all=true∧Inv r done σ) (fun s i=>⟨s,i⟩) x r done σ i) fun b σ C A O Rm d=>by cases b<;>exact d) i fin
noncomputable def wPx {α:Type} (b:α) (σ:St) (b':α) (σ':St):MS:=.done ((b',σ')=(b,σ))
theorem comp_map {elt t ifs src d all fr σ} (f:V→V) (p:V→Bool) (hs:sameItems σ src d all=true):∀ {l} {K:List V→St→MS},(∀ x∈l,Sem hh (.ifs ifs (fr.set t x) σ (wPx (p x) σ))) →
  (∀ x∈l,p x=true→Sem hh (.ev elt (fr.set t x) σ (wPx (f x) σ)))→Sem hh (K ((l.filter p).map f) σ)→Sem hh (.comp elt t ifs fr src d all l σ K)
 | [],K,_,_,k=>comp_n k
 | x::l,K,h1,h2,k=>by
  refine comp_c (ifs_mono (h1 x (.head _)) fun b σ' C A O Rm e=>?_)
  cases (show (b,σ')=(p x,σ) from e)
  cases hp:p x with
  | false=>exact ⟨hs,comp_map f p hs (l:=l) (fun y hy=>h1 y (.tail _ hy)) (fun y hy=>h2 y (.tail _ hy)) (List.filter_cons_of_neg (p:=p) (hp▸Bool.false_ne_true)▸k) C A O Rm⟩
  | true =>
   refine ev_mono (h2 x (.head _) hp C A O Rm) fun v σ' e=>?_
   cases (show (v,σ')=(f x,σ) from e)
   exact ⟨hs,comp_map f p hs (l:=l) (K:=fun l σ=>K (f x::l) σ) (fun y hy=>h1 y (.tail _ hy)) (fun y hy=>h2 y (.tail _ hy)) (by rw [List.filter_cons_of_pos (p:=p) hp] at k;exact k) C A O Rm⟩
theorem comp_all {elt t src d all fr σ l} {K:List V→St→MS} (f:V→V) (hs:sameItems σ src d all=true) (h:∀ x∈l,Sem hh (.ev elt (fr.set t x) σ (wPx (f x) σ))) (k:Sem hh (K (l.map f) σ)):Sem hh (.comp elt t [] fr src d all l σ K) :=
 comp_map f (fun I=>true) hs (fun I I C A O Rm=>d_ifs rfl) (fun x hx I=>h x hx) (by rw [List.filter_eq_self.mpr fun I I=>rfl];exact k)
end
theorem and_t {a b:Bool} (h:a=true) (k:b=true):(a&&b)=true:=by rw [h,k];rfl
theorem kindW_l {α:Type} {fs:List (Str×α)} {x:Str} {v:α} (h:fs.lookup x=some v):kindW fs x=some v:=(kindW_eq x fs).trans h
theorem sortSrc_d {σ:St} {k:Nat} {es:List (V×V)} (h:σ[k]?=some (.dict es)):sortSrc σ (.loc k)=some (es.map (·.1)):=by unfold sortSrc;simp only [h]
theorem listOf_l {σ:St} {k:Nat} {l:List V} (h:σ[k]?=some (.list l)):listOf σ (.loc k)=some l:=by
 show (σ[k]?).bind _=_
 rw [h];rfl
theorem not_t {a:Bool} (h:a=false):(!a)=true:=by rw [h];rfl
theorem not_f {a:Bool} (h:a=true):(!a)=false:=by rw [h];rfl
section
variable {hh h':Nat} {r:FnRec} {args:List V} {σ σ₀:St} {K:V→St→MS} {Q:V×St→Prop}
theorem goS {S:MS} (h:Go hh 9999 S):Stop hh S:=stop (go h)
theorem Does.goG (h:Does h' r args σ Q) (k:∀ q,Q q→Go hh 9999 (K q.1 q.2)) (e:h'≤hh:=by fail "h"):Stop hh (.call r args σ K):=stop (Does.go h (fun q d=>Mine.go (k q d)) e)
theorem Does.goC (h:Does h' r args σ Q) (k:∀ v s,Q (v,s)→Go hh 9999 (K v s)) (e:h'≤hh:=by fail "h"):Stop hh (.call r args σ K):=Does.goG h (fun q d=>k q.1 q.2 d) e
theorem Does.goP (h:Does h' r args σ Q) (k:∀ R:V→St→Prop,(∀ {v s},Go hh 9999 (K v s)→R v s)→∀ v s,Q (v,s)→R v s) (e:h'≤hh:=by fail "h"):Stop hh (.call r args σ K):=Does.goG h (fun q d=>k (fun v s=>Go hh 9999 (K v s)) id q.1 q.2 d) e
theorem isG {v σ'} (h:Is h' r args σ (v,σ')) (k:Go hh 9999 (K v σ')) (e:h'≤hh:=by fail "h"):Stop hh (.call r args σ K):=stop (Is.go h (Mine.go k) e)
theorem for_nG {t body src d all fr σ K} (h:Go hh 9999 (K .next fr σ)):Stop hh (.forS t body src d all [] fr σ K):=stop (for_n (go h))
theorem for_cG {t body src d all x l fr σ K} (h:Go hh 9999 (.exs body (fr.set t x) σ (wForN t body src d all l K))):Stop hh (.forS t body src d all (x::l) fr σ K):=stop (for_c (go h))
theorem comp_nG {elt t ifs fr src d all σ K} (h:Go hh 9999 (K [] σ)):Stop hh (.comp elt t ifs fr src d all [] σ K):=stop (comp_n (go h))
theorem comp_cG {elt t ifs fr src d all x l σ K} (h:Go hh 9999 (.ifs ifs (fr.set t x) σ (wCo elt t ifs fr x src d all l K))):Stop hh (.comp elt t ifs fr src d all (x::l) σ K):=stop (comp_c (go h))
theorem enterG {r args σ} {Q:V×St→Prop} (h:∀ Q':V×St→Prop,(∀ q,Q q→Q' q)→Go hh 9999 (enterS r args σ Q')):Does (hh+1) r args σ Q:=enterQ fun Q' k=>go (h Q' k)
theorem enterH {r args σ} {Q:V×St→Prop} (h:Go hh 9999 (enterS r args σ Q)):Does (hh+1) r args σ Q:=enter (go h)
theorem for_mapR {ι:Type} {enc:ι→V} {t body src d all K} (sc:List (Str×NameKind)) (up:Str→Option V) (L:List (Str×V)) (Inv:List ι→(Str→Option V)→St→Prop)
  (step:∀ P:List ι→Fr→St→Prop,(∀ {r fr σ},sameItems σ src d all=true→Inv r fr.vars σ→fr=⟨sc,fr.vars,up⟩→Has fr.vars L→P r fr σ)→∀ R:ι→List ι→(Str→Option V)→St→Prop,(∀ {a r vs σ},Go hh 9999 (.exs body ⟨sc,upd (updL vs L) t (enc a),up⟩ σ (wLp K (P r)))→R a r vs σ)→∀ a r vs σ,Inv (a::r) (updL vs L) σ→R a r vs σ)
  (fin:∀ R:(Str→Option V)→St→Prop,(∀ {vs σ},Go hh 9999 (K .next ⟨sc,updL vs L,up⟩ σ)→R vs σ)→∀ vs σ,Inv [] (updL vs L) σ→R vs σ) (l:List ι) (vars σ) (h:Has vars L) (i:Inv l vars σ):Stop hh (.forS t body src d all (l.map enc) ⟨sc,vars,up⟩ σ K) :=
 stop (for_mapP sc up L Inv (fun P hP=>step P hP _ go) (fin _ go) l vars σ h i)
theorem comp_rlR {ι:Type} {enc:ι→V} {elt t ifs src d all fr K σ} {l:List ι} (Inv:List ι→List V→St→Prop)
  (step:∀ P:List ι→List V→St→Prop,(∀ {r done σ},sameItems σ src d all=true→Inv r done σ→P r done σ)→∀ R:ι→List ι→List V→St→Prop,(∀ {x r done σ},Go hh 9999 (.ifs ifs (fr.set t (enc x)) σ (wCs elt (fr.set t (enc x)) (P r) done))→R x r done σ)→∀ x r done σ,Inv (x::r) done σ→R x r done σ)
  (i:Inv l [] σ) (fin:∀ R:List V→St→Prop,(∀ {k σ},Go hh 9999 (K k σ)→R k σ)→∀ k σ,Inv [] k σ→R k σ):Stop hh (.comp elt t ifs fr src d all (l.map enc) σ K) :=
 stop (comp_rlP Inv (fun P hP=>step P hP _ go) i (fin _ go))
theorem for_mapO {ι:Type} {enc:ι→V} {t body src d all sc up K} (L:List (Str×V)) (Inv:List ι→(Str→Option V)→St→Prop)
  (step:∀ R:ι→List ι→(Str→Option V)→St→Prop,(∀ {a r vs σ},Go hh 9999 (.exs body ⟨sc,upd (updL vs L) t (enc a),up⟩ σ (wLp K (Lp sc up src d all L (Inv r))))→R a r vs σ)→∀ a r vs σ,Inv (a::r) (updL vs L) σ→R a r vs σ)
  (fin:∀ R:(Str→Option V)→St→Prop,(∀ {vs σ},Go hh 9999 (K .next ⟨sc,updL vs L,up⟩ σ)→R vs σ)→∀ vs σ,Inv [] (updL vs L) σ→R vs σ) (l:List ι) (vars σ) (h:Has vars L) (i:Inv l vars σ):Stop hh (.forS t body src d all (l.map enc) ⟨sc,vars,up⟩ σ K) :=
 stop (for_map L Inv (step _ go) (fin _ go) l vars σ h i)
theorem for_ruleO {t body src d all sc up K} (L:List (Str×V)) (Inv:List V→(Str→Option V)→St→Prop)
  (step:∀ R:V→List V→(Str→Option V)→St→Prop,(∀ {x r vs σ},Go hh 9999 (.exs body ⟨sc,upd (updL vs L) t x,up⟩ σ (wLp K (Lp sc up src d all L (Inv r))))→R x r vs σ)→∀ x r vs σ,Inv (x::r) (updL vs L) σ→R x r vs σ)
  (fin:∀ R:(Str→Option V)→St→Prop,(∀ {vs σ},Go hh 9999 (K .next ⟨sc,updL vs L,up⟩ σ)→R vs σ)→∀ vs σ,Inv [] (updL vs L) σ→R vs σ) (l vars σ) (h:Has vars L) (i:Inv l vars σ):Stop hh (.forS t body src d all l ⟨sc,vars,up⟩ σ K) :=
 stop (for_rule L Inv (step _ go) (fin _ go) l vars σ h i)
theorem comp_rlO {ι:Type} {enc:ι→V} {elt t ifs src d all fr K σ} {l:List ι} (Inv:List ι→List V→St→Prop)
  (step:∀ R:ι→List ι→List V→St→Prop,(∀ {x r done σ},Go hh 9999 (.ifs ifs (fr.set t (enc x)) σ (wCr elt (fr.set t (enc x)) src d all (Inv r) done))→R x r done σ)→∀ x r done σ,Inv (x::r) done σ→R x r done σ)
  (i:Inv l [] σ) (fin:∀ R:List V→St→Prop,(∀ {k σ},Go hh 9999 (K k σ)→R k σ)→∀ k σ,Inv [] k σ→R k σ):Stop hh (.comp elt t ifs fr src d all (l.map enc) σ K):=stop (comp_rl Inv (step _ go) i (fin _ go))
theorem sel_joinR {G:MS→Prop} {c:Bool} {e1 e2:Expr} {fr:Fr} {K:V→St→MS} (Q:V×St→Prop) (h1:c=true→Go hh 9999 (.ev e1 fr σ (wQ Q))) (h2:c=false→Go hh 9999 (.ev e2 fr σ (wQ Q))) (k:∀ R:V→St→Prop,(∀ {v s},Go hh 9999 (K v s)→R v s)→∀ v s,Q (v,s)→R v s):SelP hh G (.ev e1 fr σ K) (.ev e2 fr σ K) c:=sel_join Q (fun e=>go (h1 e)) (fun e=>go (h2 e)) fun q=>k _ go q.1 q.2
theorem comp_mapG {elt t ifs src d all fr σ l} {K:List V→St→MS} (f:V→V) (p:V→Bool) (hs:sameItems σ src d all=true) (h1:∀ x∈l,Go hh 9999 (.ifs ifs (fr.set t x) σ (wPx (p x) σ))) (h2:∀ x∈l,p x=true→Go hh 9999 (.ev elt (fr.set t x) σ (wPx (f x) σ))) (k:Go hh 9999 (K ((l.filter p).map f) σ)):Stop hh (.comp elt t ifs fr src d all l σ K) :=
 stop (comp_map f p hs (fun x h=>go (h1 x h)) (fun x h e=>go (h2 x h e)) (go k))
theorem comp_allG {elt t src d all fr σ l} {K:List V→St→MS} (f:V→V) (hs:sameItems σ src d all=true) (h:∀ x∈l,Go hh 9999 (.ev elt (fr.set t x) σ (wPx (f x) σ))) (k:Go hh 9999 (K (l.map f) σ)):Stop hh (.comp elt t [] fr src d all l σ K) :=
 stop (comp_all f hs (fun x q=>go (h x q)) (go k))
end
section
variable {n τ b:Nat} {σ:St} {T:List Row} {fr:Fr}
theorem set_other {i k:Nat} {o p:Ob} (h:σ[k]?=some o) (hk:k≠i):(σ.set i p)[k]?=some o:=by rw [List.getElem?_set_ne (Ne.symm hk)];exact h
theorem set_self {i:Nat} {o p:Ob} (h:σ[i]?=some o):(σ.set i p)[i]?=some p:=List.getElem?_set_self (List.getElem?_eq_some_iff.mp h).1
theorem put_spec {r:Row} {v:V} (hv:v=r.enc) (h:Tab σ τ T (b+1)):Does 1 (mrc 46 "put") [.loc τ,v] σ (TPost τ σ T b fun v T'=>∃ t:Nat,v=.int t∧T'[t]?=some r):=by
 subst hv
 have hlen:(T.map Row.enc).length=T.length:=List.length_map _
 have hsz:T.length < cap:=by have:=h.sz;have e:=lid_cap;fail "a"
 refine enterH ?_
 have h1:=h.inst
 have h2:=h.rows
 have h3:=h.index
 have hin:inV σ r.enc (.loc (τ+2))=some (decide (r∈T)):=by rw [in_dict h.index (enc_pure r) (idx_kOk r 0 T),idx_any]
 fail "r"
 refine SelP.split (fun hm=>?_) (fun hm=>?_)
 ·have hm:=of_decide_eq_true hm
  have hs:subV σ (.loc (τ+2)) r.enc=some (.int (T.idxOf r:Nat)):=sub_dict h3 (idx_kOk r 0 T) (by rw [idx_get,if_pos hm,Nat.zero_add])
  fail "r"
  refine ⟨T,List.prefix_refl _,h.less (Nat.le_succ _),Fix.refl _ _,_,rfl,?_⟩
  rw [List.getElem?_eq_getElem (List.idxOf_lt_length_of_mem hm),List.getElem_idxOf]
 ·have hm:=of_decide_eq_false hm
  have hl:=len_loc h2
  have s0:∀ p,(σ.set (τ+1) p)[τ]?=some (.inst "TypeTable" (tabFs τ)):=fun p=>set_other h1 (by fail "a")
  have s2:∀ p,(σ.set (τ+1) p)[τ+2]?=some (.dict (idxOf T)):=fun p=>set_other h3 (by fail "a")
  have c1:decide ((T.map Row.enc).length < cap)=true:=decide_eq_true (by rw [hlen];exact hsz)
  have c2:decide ((idxOf T).length < cap)=true:=decide_eq_true (by rw [idx_length];exact hsz)
  have c3:=idx_kOk r 0 T
  fail "r"
  rw [hlen,idx_set r T hm]
  refine ⟨T++[r],List.prefix_append _ _,⟨?_,?_,?_,?_,?_,h.pre.trans (List.prefix_append _ _)⟩,⟨fun k hk k1 k2=>?_,by simp⟩,_,rfl,by simp⟩
  ·exact set_other (s0 _) (by fail "a")
  ·rw [List.map_append];exact set_other (set_self h2) (by fail "a")
  ·exact set_self (s2 (.list (T.map Row.enc++[r.enc])))
  ·rw [List.nodup_append];exact ⟨h.nd,by simp,fun a ha b hb=>by simp at hb;subst hb;exact fun e=>hm (e▸ha)⟩
  ·have:=h.sz;simp;fail "a"
  ·dsimp only
   rw [List.getElem?_set_ne (Ne.symm k2),List.getElem?_set_ne (Ne.symm k1)]
theorem kind_of_eq {t:Nat} {r:Row} (h:Tab σ τ T b) (ht:T[t]?=some r):Is 1 (rc 48) [.loc τ,.int t] σ (.int (r.kind:Int),σ):=by
 apply does_is
 have h1:=h.inst
 have h2:=h.row ht
 refine enterH ?_
 have hs:subV σ r.enc (.int 0)=some (.int (r.kind:Int)):=by cases r<;>rfl
 fail "r"
theorem parts_of_eq {t:Nat} {S:List Nat} (h:Tab σ τ T b) (k:KIs T t S):Is 1 (rc 56) [.loc τ,.int t] σ (.tup (vints S),σ):=by
 apply does_is
 have h1:=h.inst
 refine enterH ?_
 rcases k.at_ with ⟨rfl,rfl⟩ | rfl | ⟨e,e2,_⟩
 ·fail "r"
 ·obtain ⟨e2,r,e,hk⟩:=k.atoms t (.head _)
  have h2:=h.row e
  have hs:subV σ r.enc (.int 0)=some (.int (r.kind:Int)):=by cases r<;>rfl
  have c1:((t:Int)==2)=false:=by simpa using (by fail "a" : ¬ (t:Int)=2)
  have c2:((r.kind:Int)==6)=false:=by simpa using (by fail "a" : ¬ (r.kind:Int)=6)
  fail "r"
 ·have h2:=h.row e
  have c1:((t:Int)==2)=false:=by simpa using (by fail "a" : ¬ (t:Int)=2)
  have hs:subV σ (Row.union S).enc (.int 0)=some (.int 6):=rfl
  have hs2:subV σ (Row.union S).enc (.int 1)=some (.tup (vints S)):=rfl
  fail "r"
theorem row_kind (r:Row):subV σ r.enc (.int 0)=some (.int (r.kind:Int)):=by cases r<;>rfl
theorem whole_eq {r:Row}:Is 1 (rc 57) [r.enc] σ (.int r.whole,σ):=by
 apply does_is
 refine enterH ?_
 have hs:=row_kind (σ:=σ) r
 cases r<;>(unfold Row.kind at hs;fail "r";try rfl)
theorem bin_add_tup (x y:List V) (h:x.length+y.length < 100):binV σ .Add (.tup x) (.tup y)=some (.tup (x++y)):=by
 have:x.length+y.length≤cap:=by unfold cap;fail "a"
 show (if _ then _ else _)=_
 rw [if_pos this]
theorem in_ints {a:Int} {l:List V} (h:V.pures l=true):inV σ (.int a) (.tup l)=some (l.any (·.eqb (.int a))):=by
 show (if V.pures l then _ else _)=_
 rw [if_pos h]
noncomputable def Row.marked:Row→Bool
 | .bool .. | .str .. | .num .. | .obj ..=>true
 | _=>false
noncomputable def Row.lit:Row→Bool
 | .bool .. | .str .. | .num ..=>true
 | _=>false
noncomputable def Row.flag:Row→Nat
 | .bool _ f | .str _ f | .num _ f | .obj _ _ _ f=>f
 | _=>0
noncomputable def Row.trunk:Row→List V
 | .bool v _=>[.int 2,.int v]
 | .str s _=>[.int 3,.str s]
 | .num n _=>[.int 4,.int n]
 | .obj ps s d _=>[.int 8,.tup (ps.map encP),.tup [],.tup [],encO s,encO d]
 | _=>[]
theorem is_marked (r:Row):inV σ (.int (r.kind:Int)) (.tup [.int 2,.int 3,.int 4,.int 5,.int 8])=some r.marked:=by cases r<;>rfl
theorem is_lit (r:Row):inV σ (.int (r.kind:Int)) (.tup [.int 2,.int 3,.int 4,.int 5])=some r.lit:=by cases r<;>rfl
theorem row_last {r:Row} (h:r.marked=true):subV σ r.enc (.int (-1))=some (.int (r.flag:Int)):=by cases r<;>first | rfl | cases h
theorem slice16 (a b c d e f g:V):sliceV σ (.tup [a,b,c,d,e,f,g]) (some 1) (some 6) none=some (.tup [b,c,d,e,f]):=by kernel_rfl
theorem row_cut {r:Row} (h:r.marked=true):sliceV σ r.enc none (some (-1)) none=some (.tup r.trunk):=by cases r<;>first | (cases h;done) | kernel_rfl
theorem row_join {r:Row} (h:r.marked=true):binV σ .Add (.tup r.trunk) (.tup [.int 0])=some r.reg.enc:=by cases r<;>first | (cases h;done) | exact bin_add_tup _ _ (Nat.le_of_ble_eq_true rfl)
theorem row_fresh (r:Row):r.fresh=(r.marked&&r.flag==1):=by cases r<;>rfl
theorem beq_one (f:Nat):((f:Int)==1)=(f==1):=by
 rw [Bool.eq_iff_iff];simp;fail "a"
theorem fresh_eq {t:Nat} {r:Row} (h:Tab σ τ T b) (ht:T[t]?=some r):Is 1 (rc 66) [.loc τ,.int t] σ (.bool r.fresh,σ):=by
 apply does_is
 have h1:=h.inst
 have h2:=h.row ht
 have hs:=row_kind (σ:=σ) r
 have hm:=is_marked (σ:=σ) r
 rw [row_fresh]
 fail "r"
 refine SelP.split (fun e=>?_) (fun e=>?_)<;>rw [e]
 ·have hl:=row_last (σ:=σ) e
  fail "r"
  rw [beq_one];rfl
 ·fail "r"
theorem twin_eq {t:Nat} {r:Row} (h:Tab σ τ T b) (ht:T[t]?=some r):Is 1 (rc 58) [.loc τ,.int t] σ (.int (twin T r),σ):=by
 apply does_is
 have h1:=h.inst
 have h2:=h.row ht
 have h3:=h.index
 have hs:=row_kind (σ:=σ) r
 have hm:=is_marked (σ:=σ) r
 unfold twin
 rw [row_fresh]
 fail "r"
 refine SelP.split (fun e=>?_) (fun e=>?_)<;>rw [e]
 ·have hl:=row_last (σ:=σ) e
  have hc:=row_cut (σ:=σ) e
  have ha:=row_join (σ:=σ) e
  have hk:=idx_kOk r.reg 0 T
  fail "r"
  rw [beq_one]
  refine SelP.split (fun e=>?_) (fun e=>?_)<;>rw [e]
  ·fail "r"
   rw [idx_get,Nat.zero_add]
   by_cases hm:r.reg∈T
   ·rw [if_pos hm,if_pos (by rfl),if_pos hm];rfl
   ·rw [if_neg hm,if_pos (by rfl),if_neg hm];rfl
  ·fail "r"
 ·fail "r"
noncomputable def gotD (M:List Nat):List (V×V):=M.map fun (m:Nat)=>(V.int (m:Int),V.int 1)
noncomputable def ins (M:List Nat) (m:Nat):List Nat:=if m∈M then M else M++[m]
theorem got_kOk (M:List Nat) (i:Int):kOk (gotD M) (.int i)=true:=by
 unfold kOk gotD
 rw [List.all_map]
 exact Bool.and_eq_true_iff.mpr ⟨rfl,List.all_eq_true.mpr fun x I=>rfl⟩
theorem got_any (M:List Nat) (i:Int):(gotD M).any (fun e=>e.1.eqb (.int i))=decide (∃ m∈M,(m:Int)=i):=by
 rw [Bool.eq_iff_iff,List.any_eq_true,decide_eq_true_iff]
 unfold gotD
 constructor
 ·rintro ⟨e,he,h⟩
  obtain ⟨m,hm,rfl⟩:=List.mem_map.mp he
  exact ⟨m,hm,by have:=(V.eqb_iff _ _).mp h;simpa using this⟩
 ·rintro ⟨m,hm,h⟩
  exact ⟨_,List.mem_map.mpr ⟨m,hm,rfl⟩,(V.eqb_iff _ _).mpr (by rw [h])⟩
theorem got_set (M:List Nat) (m:Nat):dictSetV (gotD M) (.int (m:Int)) (.int 1)=gotD (ins M m):=by
 unfold dictSetV ins
 rw [got_any]
 by_cases h:m∈M
 ·rw [if_pos h,if_pos (decide_eq_true ⟨m,h,rfl⟩)]
  unfold gotD
  rw [List.map_map]
  refine List.map_congr_left fun x hx=>?_
  simp only [Function.comp]
  split<;>rfl
 ·rw [if_neg h,if_neg (by simp;intro x hx e;exact h (by rwa [show x=m by fail "a"] at hx))]
  unfold gotD;simp
theorem got_loop (M:List Nat):loopKeys (gotD M)=true:=by
 unfold loopKeys gotD
 rw [List.all_map,List.all_map]
 exact Bool.or_eq_true_iff.mpr (.inr (List.all_eq_true.mpr fun x I=>rfl))
theorem got_keys (M:List Nat):(gotD M).map (·.1)=vints M:=by unfold gotD vints;rw [List.map_map];rfl
theorem ins_len (M:List Nat) (m:Nat):(ins M m).length≤M.length+1:=by unfold ins;split<;>simp
theorem mem_ins {M:List Nat} {m x:Nat}:x∈ins M m↔x∈M∨x=m:=by
 unfold ins;split
 ·constructor
  ·exact .inl
  ·rintro (h | rfl)<;>assumption
 ·simp
theorem ins_nodup {M:List Nat} {m:Nat} (h:M.Nodup):(ins M m).Nodup:=by
 unfold ins;split
 ·exact h
 ·rename_i q
  rw [List.nodup_append]
  exact ⟨h,by simp,fun a ha b hb=>by simp at hb;subst hb;exact fun e=>q (e▸ha)⟩
theorem in_got {k:Nat} {M:List Nat} (hk:σ[k]?=some (.dict (gotD M))) (i:Int):inV σ (.int i) (.loc k)=some (decide (∃ m∈M,(m:Int)=i)):=by
 rw [in_dict hk rfl (got_kOk M i),got_any]
theorem join_bools_eq {k:Nat} {M:List Nat} (hk:σ[k]?=some (.dict (gotD M))) (h8:8∉M) (h14:14∉M):Is 1 (rc 59) [.loc k] σ (.none,σ):=by
 apply does_is
 have c1:inV σ (.int 8) (.loc k)=some false:=by rw [in_got hk,decide_eq_false];rintro ⟨m,hm,e⟩;exact h8 (by rwa [show m=8 by fail "a"] at hm)
 have c2:inV σ (.int 14) (.loc k)=some false:=by rw [in_got hk,decide_eq_false];rintro ⟨m,hm,e⟩;exact h14 (by rwa [show m=14 by fail "a"] at hm)
 refine enterH ?_
 fail "r"
noncomputable def stays (T:List Row) (M:List Nat) (r:Row):Bool:=decide ((¬ ∃ m∈M,(m:Int)=twin T r)∧¬ ∃ m∈M,(m:Int)=r.whole)
theorem stays_eq {t k:Nat} {r:Row} {M:List Nat} (h:Tab σ τ T b) (ht:T[t]?=some r) (hk:σ[k]?=some (.dict (gotD M))) :
  Is 2 (rc 60) [.loc τ,.loc k,.int t] σ (.bool (stays T M r),σ):=by
 apply does_is
 have h1:=h.inst
 have h2:=h.row ht
 have e1:=twin_eq h ht
 have e2:=whole_eq (σ:=σ) (r:=r)
 have c:=in_got hk
 refine enterH ?_
 fail "r"
 refine SelP.split (fun hx=>?_) (fun hx=>?_)
 ·fail "r"
  unfold stays;rw [decide_eq_false];exact fun q=>q.1 (of_decide_eq_true hx)
 ·fail "r"
  unfold stays
  have hx:=of_decide_eq_false hx
  congr 2
  rw [Bool.eq_iff_iff]
  simp only [Bool.not_eq_true',decide_eq_false_iff_not,decide_eq_true_iff]
  exact ⟨fun q=>⟨hx,q⟩,fun q=>q.2⟩
theorem top_eq {k:Nat} {M:List Nat} (hk:σ[k]?=some (.dict (gotD M))):Is 1 (rc 61) [.loc k] σ (.int (if 0∈M then 0 else if 13∈M then 13 else if 1∈M then 1 else -1),σ):=by
 apply does_is
 have c:∀ i:Nat,inV σ (.int (i:Int)) (.loc k)=some (decide (i∈M)):=fun i=>by
  rw [in_got hk];congr 1;rw [Bool.eq_iff_iff];simp only [decide_eq_true_iff]
  exact ⟨fun zz=>(by obtain ⟨m,hm,e⟩:=zz;exact by rwa [show m=i by fail "a"] at hm),fun h=>⟨i,h,rfl⟩⟩
 have c0:=c 0
 have c1:=c 1
 have c13:=c 13
 simp only [Int.natCast_zero,Int.natCast_one,Int.cast_ofNat_Int] at c0 c1 c13
 refine enterH ?_
 fail "r"
 by_cases h0:0∈M
 ·rw [decide_eq_true h0,if_pos h0];fail "r"
 ·rw [decide_eq_false h0,if_neg h0];fail "r"
  by_cases h1:13∈M
  ·rw [decide_eq_true h1,if_pos h1];fail "r"
  ·rw [decide_eq_false h1,if_neg h1];fail "r"
   by_cases h2:1∈M
   ·rw [decide_eq_true h2,if_pos h2];fail "r"
   ·rw [decide_eq_false h2,if_neg h2];fail "r"
noncomputable def pv (v:V) (l:List Nat):Prop:=v=.lst (vints l)∨v=.tup (vints l)
theorem vints_cons (x:Nat) (l:List Nat):vints (x::l)=.int (x:Int)::vints l:=rfl
theorem vints_nil:vints []=[]:=rfl
noncomputable def insAll (M:List Nat) (S:List Nat):List Nat:=S.foldl ins M
theorem mem_insAll {S:List Nat}:∀ {M:List Nat} {x:Nat},x∈insAll M S↔x∈M∨x∈S:=by
 induction S with
 | nil=>intro M x;simp [insAll]
 | cons s S ih =>
  intro M x
  show x∈insAll (ins M s) S↔_
  rw [ih,mem_ins,List.mem_cons,or_assoc]
theorem insAll_nodup {S:List Nat}:∀ {M:List Nat},M.Nodup→(insAll M S).Nodup:=by
 induction S with
 | nil=>intro M h;exact h
 | cons s S ih=>intro M h;exact ih (ins_nodup h)
end
structure Ext (σ σ':St):Prop where
 low:∀ k,k < σ.length→σ'[k]?=σ[k]?
 len:σ.length≤σ'.length
theorem Ext.refl (σ:St):Ext σ σ:=⟨fun I I=>rfl,Nat.le_refl _⟩
theorem Ext.at {σ σ':St} (x:Ext σ σ') {k:Nat} {o:Ob} (h:σ[k]?=some o):σ'[k]?=some o:=(x.low k (List.getElem?_eq_some_iff.mp h).1).trans h
theorem Ext.trans {a b c:St} (x:Ext a b) (y:Ext b c):Ext a c:=⟨fun k h=>(y.low k (Nat.lt_of_lt_of_le h x.len)).trans (x.low k h),Nat.le_trans x.len y.len⟩
theorem Ext.fix {σ σ':St} (x:Ext σ σ') (τ:Nat):Fix τ σ σ':=⟨fun k h I I=>x.low k h,x.len⟩
theorem Ext.push (σ:St) (o:Ob):Ext σ (σ++[o]):=⟨fun k h=>List.getElem?_append_left h,by simp⟩
theorem Ext.set {σ σ':St} (x:Ext σ σ') {k:Nat} (hk:σ.length≤k) (o:Ob):Ext σ (σ'.set k o) :=
 ⟨fun i h=>by rw [List.getElem?_set_ne (by fail "a")];exact x.low i h,by simp;exact x.len⟩
theorem Tab.ext {σ σ' τ T b} (h:Tab σ τ T b) (x:Ext σ σ'):Tab σ' τ T b:=⟨x.at h.inst,x.at h.rows,x.at h.index,h.nd,h.sz,h.pre⟩
theorem push_at (σ:St) (o:Ob):(σ++[o])[σ.length]?=some o:=by simp
noncomputable def sortN (M:List Nat):List Nat:=insSort (fun a b=>decide (a < b)) M
theorem ins_map (a:Nat):∀ l:List Nat,insSort.ins (fun a b=>decide (a < b)) (a:Int) (l.map fun (m:Nat)=>(m:Int))=(insSort.ins (fun a b=>decide (a < b)) a l).map fun (m:Nat)=>(m:Int)
 | []=>rfl
 | b::l=>by
  simp only [List.map_cons,ins_c,ins_map a l,Int.ofNat_lt]
  split<;>rfl
theorem insSort_map:∀ l:List Nat,insSort (fun a b=>decide (a < b)) (l.map fun (m:Nat)=>(m:Int))=(sortN l).map fun (m:Nat)=>(m:Int)
 | []=>rfl
 | a::l=>by
  show insSort.ins _ (a:Int) (insSort _ (l.map _))=(insSort.ins _ a (insSort _ l)).map _
  rw [insSort_map l,← ins_map];rfl
theorem allInts_vints:∀ M:List Nat,allInts (vints M)=some (M.map fun (m:Nat)=>(m:Int))
 | []=>rfl
 | a::l=>by rw [vints_cons];show (allInts (vints l)).map _=_;rw [allInts_vints l];rfl
theorem sortV_vints {M:List Nat} (h:M.length < 64):sortV (vints M)=some (vints (sortN M)):=by
 unfold sortV
 rw [if_neg (by unfold vints;simp;fail "a"),allInts_vints]
 simp only [insSort_map,vints,List.map_map]
 rfl
theorem sortN_perm (l:List Nat):(sortN l).Perm l:=insSort_perm _ l
theorem sortN_le (l:List Nat):(sortN l).Pairwise (·≤·):=(insSort_sorted (ord_of (f:=id) fun I I h=>h) l).imp fun h=>Nat.not_lt.mp (of_decide_eq_false h)
theorem sortN_lt {l:List Nat} (h:l.Nodup):(sortN l).Pairwise (· < ·):=by
 have h1:=sortN_le l
 have h2:(sortN l).Nodup:=(sortN_perm l).nodup_iff.mpr h
 exact List.Pairwise.imp₂ (fun a b x y=>Nat.lt_of_le_of_ne x y) h1 h2
theorem mem_sortN {l:List Nat} {x:Nat}:x∈sortN l↔x∈l:=(sortN_perm l).mem_iff
section
variable {n τ b:Nat} {σ σ':St} {T:List Row}
theorem pv_loop {v:V} {l:List Nat} (h:pv v l) (σ:St):loopD σ v=some (false,vints l)∧sameItems σ v false (vints l)=true:=by
 rcases h with rfl | rfl
 ·exact ⟨rfl,same_lst _⟩
 ·exact ⟨rfl,same_tup _⟩
noncomputable def stayB (T:List Row) (M:List Nat) (x:Nat):Bool:=match T[x]? with | some r=>stays T M r | none=>false
theorem stayB_iff {T:List Row} {M:List Nat} {x:Nat}:stayB T M x=true↔∃ r,T[x]?=some r∧stays T M r=true:=by
 unfold stayB
 cases T[x]? with
 | none=>simp
 | some r=>simp
theorem vints_filter (p:V→Bool) (q:Nat→Bool) (h:∀ x:Nat,p (.int (x:Int))=q x):∀ l:List Nat,(vints l).filter p=vints (l.filter q)
 | []=>rfl
 | a::l=>by
  rw [vints_cons]
  cases hq:q a with
  | true=>rw [List.filter_cons_of_pos (by rw [h,hq]),List.filter_cons_of_pos hq,vints_filter p q h l,vints_cons]
  | false=>rw [List.filter_cons_of_neg (by rw [h,hq];decide),List.filter_cons_of_neg (by rw [hq];decide),vints_filter p q h l]
theorem mem_vints {l:List Nat} {v:V}:v∈vints l↔∃ x∈l,v=.int (x:Nat):=by
 unfold vints
 rw [List.mem_map]
 exact ⟨fun zz=>(by obtain ⟨x,hx,e⟩:=zz;exact ⟨x,hx,e.symm⟩),fun zz=>(by obtain ⟨x,hx,e⟩:=zz;exact ⟨x,hx,e.symm⟩)⟩
noncomputable def gath (ts:List Nat) (S:Nat→List Nat):List Nat:=insAll [] (ts.flatMap S)
theorem mem_gath {ts:List Nat} {S:Nat→List Nat} {x:Nat}:x∈gath ts S↔∃ t∈ts,x∈S t:=by
 unfold gath;rw [mem_insAll];simp
theorem got_small {M:List Nat} (h:M.length < 64):decide ((gotD M).length < cap)=true:=decide_eq_true (by unfold gotD cap;rw [List.length_map];fail "a")
theorem union_spec {pvv:V} {ts:List Nat} {S:Nat→List Nat} (h:Tab σ τ T (b+1)) (hp:pv pvv ts) (hS:∀ t∈ts,KIs T t (S t)) (hl:(ts.flatMap S).length < 64) (h8:∀ t∈ts,8∉S t∧14∉S t) :
  Does 3 (rc 62) [.loc τ,pvv] σ (TPost τ σ T b fun v T'=>∃ u Z,v=.int (u:Nat)∧KIs T' u Z ∧
   ((0∈gath ts S∧Z=[0])∨(0∉gath ts S∧13∈gath ts S∧Z=[13])∨(0∉gath ts S∧13∉gath ts S∧1∈gath ts S∧Z=[1]) ∨
    (0∉gath ts S∧13∉gath ts S∧1∉gath ts S∧∀ x,x∈Z↔x∈gath ts S∧∃ r,T[x]?=some r∧stays T (gath ts S) r=true))):=by
 refine enterH ?_
 have l1:=(pv_loop hp (σ++[.dict []])).1
 fail "r"
 refine for_ruleO [("tab",.loc τ),("got",.loc σ.length)]
  (fun rest I σ'=>∃ tsr M,rest=vints tsr∧(∀ t∈tsr,t∈ts)∧Ext σ σ'∧σ'[σ.length]?=some (.dict (gotD M))∧insAll M (tsr.flatMap S)=gath ts S∧M.length+(tsr.flatMap S).length < 64) ?_ ?_ _ _ _ rfl ?_
 ·rintro R hR x rest vars σ' ⟨tsr,M,hr,hsub,hx,hg,hM,hz⟩
  cases tsr with
  | nil=>cases hr
  | cons t tsr =>
  cases hr
  have e:=parts_of_eq (h.ext hx) (hS t (hsub t (.head _)))
  fail "r"
  refine for_mapO [("tab",.loc τ),("got",.loc σ.length)] (fun sr I σ'=>∃ M,C4 (Ext σ σ') (σ'[σ.length]?=some (.dict (gotD M))) (insAll M (sr++tsr.flatMap S)=gath ts S) (M.length+(sr++tsr.flatMap S).length < 64)) ?_ ?_ _ _ _ rfl ?_
  ·rintro R hR m sr vars σ' ⟨M,hx,hg,hM,hz⟩
   have c1:kOk (gotD M) (.int (m:Int))=true:=got_kOk M m
   have c2:=got_small (show M.length < 64 by fail "a")
   fail "r"
   refine lp (same_tup _) ⟨ins M m,hx.set (Nat.le_refl _) _,got_set M m▸set_self hg,hM,?_⟩
   have:=ins_len M m
   simp only [List.cons_append,List.length_cons] at hz
   fail "a"
  ·rintro R hR vars σ' ⟨M,hx,hg,hM,hz⟩
   fail "r"
   exact lp (pv_loop hp σ').2 ⟨tsr,M,rfl,fun t ht=>hsub t (.tail _ ht),hx,hg,hM,hz⟩
  ·exact ⟨M,hx,hg,by simpa using hM,by simpa using hz⟩
 ·rintro R hR vars σ' ⟨tsr,M,hr,_,hx,hg,hM,hz⟩
  cases tsr with
  | cons _ _=>cases hr
  | nil =>
  have hM:M=gath ts S:=hM
  subst hM
  have hz:(gath ts S).length < 64:=by simpa using hz
  have e1:=top_eq hg
  have e2:=join_bools_eq hg (fun q=>by obtain ⟨t,ht,q⟩:=mem_gath.mp q;exact (h8 t ht).1 q) (fun q=>by obtain ⟨t,ht,q⟩:=mem_gath.mp q;exact (h8 t ht).2 q)
  have hT:=h.ext hx
  have first_:∀ (t:Nat) (r:Row),t < 16→first[t]?=some r→r.kind≠6→t≠2→KIs T t [t]:=fun t r h1 h2 h3 h4=>⟨.inr (.inl rfl),fun x hx=>by simp at hx;subst hx;exact ⟨h4,r,(h.first h1).trans h2,h3⟩,by simp⟩
  have fin:∀ (t:Nat) (r:Row),t < 16→first[t]?=some r→r.kind≠6→t≠2→((0∈gath ts S∧t=0)∨(0∉gath ts S∧13∈gath ts S∧t=13)∨(0∉gath ts S∧13∉gath ts S∧1∈gath ts S∧t=1))→TPost τ σ T b (fun v T'=>∃ u Z,v=.int (u:Nat)∧KIs T' u Z ∧
   ((0∈gath ts S∧Z=[0])∨(0∉gath ts S∧13∈gath ts S∧Z=[13])∨(0∉gath ts S∧13∉gath ts S∧1∈gath ts S∧Z=[1]) ∨
    (0∉gath ts S∧13∉gath ts S∧1∉gath ts S∧∀ x,x∈Z↔x∈gath ts S∧∃ r,T[x]?=some r∧stays T (gath ts S) r=true))) (V.int (t:Int),σ'):=fun t r h1 h2 h3 h4 h5 =>
   ⟨T,List.prefix_refl _,hT.less (Nat.le_succ _),hx.fix τ,t,[t],rfl,first_ t r h1 h2 h3 h4,h5.imp (fun q=>⟨q.1,by rw [q.2]⟩) fun q=>q.imp (fun q=>⟨q.1,q.2.1,by rw [q.2.2]⟩) fun q=>.inl ⟨q.1,q.2.1,q.2.2.1,by rw [q.2.2.2]⟩⟩
  by_cases c0:0∈gath ts S
  ·have e3:(if 0∈gath ts S then (0:Int) else if 13∈gath ts S then 13 else if 1∈gath ts S then 1 else -1)=0:=if_pos c0
   rw [e3] at e1
   fail "r"
   exact fin 0 _ (by decide) rfl (by decide) (by decide) (.inl ⟨c0,rfl⟩)
  by_cases c13:13∈gath ts S
  ·have e3:(if 0∈gath ts S then (0:Int) else if 13∈gath ts S then 13 else if 1∈gath ts S then 1 else -1)=13:=by rw [if_neg c0,if_pos c13]
   rw [e3] at e1
   fail "r"
   exact fin 13 _ (by decide) rfl (by decide) (by decide) (.inr (.inl ⟨c0,c13,rfl⟩))
  by_cases c1:1∈gath ts S
  ·have e3:(if 0∈gath ts S then (0:Int) else if 13∈gath ts S then 13 else if 1∈gath ts S then 1 else -1)=1:=by rw [if_neg c0,if_neg c13,if_pos c1]
   rw [e3] at e1
   fail "r"
   exact fin 1 _ (by decide) rfl (by decide) (by decide) (.inr (.inr ⟨c0,c13,c1,rfl⟩))
  have e3:(if 0∈gath ts S then (0:Int) else if 13∈gath ts S then 13 else if 1∈gath ts S then 1 else -1)=-1:=by rw [if_neg c0,if_neg c13,if_neg c1]
  rw [e3] at e1
  have e4:sortSrc σ' (.loc σ.length)=some (vints (gath ts S)):=by unfold sortSrc;simp only [hg,got_keys]
  have e5:=sortV_vints hz
  fail "r"
  have hMr:∀ x∈gath ts S,atomic T x:=fun x hx=>by
   obtain ⟨t,ht,q⟩:=mem_gath.mp hx
   exact (hS t ht).atoms x q
  have hnd:(sortN (gath ts S)).Pairwise (· < ·):=sortN_lt (insAll_nodup List.nodup_nil)
  refine comp_mapG id (fun v=>match v with | .int i=>stayB T (gath ts S) i.toNat | _=>false) (same_lst _) (fun x hx=>?_) (fun x hx I=>?_) ?_
  ·obtain ⟨y,hy,rfl⟩:=mem_vints.mp hx
   obtain ⟨_,r,er,_⟩:=hMr y (mem_sortN.mp hy)
   have e6:=stays_eq hT er hg
   have e7:stayB T (gath ts S) y=stays T (gath ts S) r:=by unfold stayB;rw [er]
   fail "r"
   show (stays T (gath ts S) r,σ')=(stayB T (gath ts S) y,σ')
   rw [e7]
  ·fail "r"
  rw [List.map_id,vints_filter _ (stayB T (gath ts S)) (fun x=>rfl)]
  have hZ:∀ x,x∈(sortN (gath ts S)).filter (stayB T (gath ts S))↔x∈gath ts S∧∃ r,T[x]?=some r∧stays T (gath ts S) r=true:=fun x=>by rw [List.mem_filter,mem_sortN,stayB_iff]
  have hZs:((sortN (gath ts S)).filter (stayB T (gath ts S))).Pairwise (· < ·):=List.Pairwise.filter _ hnd
  have hZl:((sortN (gath ts S)).filter (stayB T (gath ts S))).length < 64:=Nat.lt_of_le_of_lt (List.length_filter_le _ _) (by rw [(sortN_perm _).length_eq];exact hz)
  generalize (sortN (gath ts S)).filter (stayB T (gath ts S))=Z at hZ hZs hZl
  have hZa:∀ x∈Z,atomic T x:=fun x hx=>hMr x ((hZ x).mp hx).1
  match Z,hZ,hZs,hZl,hZa with
  | [],hZ,hZs,hZl,hZa =>
   rw [vints_nil]
   fail "r"
   exact ⟨T,List.prefix_refl _,hT.less (Nat.le_succ _),hx.fix τ,2,[],rfl,⟨.inl ⟨rfl,rfl⟩,(fun I h=>nomatch h),.nil⟩,.inr (.inr (.inr ⟨c0,c13,c1,hZ⟩))⟩
  | [x],hZ,hZs,hZl,hZa =>
   rw [vints_cons,vints_nil]
   have e6:subV σ' (.lst [V.int (x:Int)]) (.int 0)=some (.int (x:Int)):=rfl
   fail "r"
   exact ⟨T,List.prefix_refl _,hT.less (Nat.le_succ _),hx.fix τ,x,[x],rfl,⟨.inr (.inl rfl),hZa,hZs⟩,.inr (.inr (.inr ⟨c0,c13,c1,hZ⟩))⟩
  | x::y::l,hZ,hZs,hZl,hZa =>
   have e8:((vints (x::y::l)).length:Int)=((x::y::l).length:Nat):=by unfold vints;rw [List.length_map]
   have e6:(((vints (x::y::l)).length:Int)==1)=false:=by rw [e8];simp only [List.length_cons];rw [Bool.eq_false_iff];intro q;have:=eq_of_beq q;fail "a"
   have e7:decide (400 < ((vints (x::y::l)).length:Int))=false:=by rw [e8];exact decide_eq_false (by fail "a")
   have e9:(vints (x::y::l)).isEmpty=false:=rfl
   have e10:tupV σ' (.lst (vints (x::y::l)))=some (vints (x::y::l)):=rfl
   have h1:=hT.inst
   clear e8
   generalize hvl:vints (x::y::l)=vl at e6 e7 e9 e10
   fail "r"
   refine Does.goP (put_spec (r:=.union (x::y::l)) (by rw [← hvl];rfl) hT) ?_
   rintro R hR v σ2 ⟨T',hp',hT',hf',t,rfl,ht'⟩
   fail "r"
   refine ⟨T',hp',hT',(hx.fix τ).trans hf',t,x::y::l,rfl,⟨.inr (.inr ⟨ht',?_,by simp⟩),fun z hz=>(hZa z hz).mono hp',hZs⟩,.inr (.inr (.inr ⟨c0,c13,c1,hZ⟩))⟩
   rintro rfl
   have:=(hT'.first (t:=2) (by decide)).symm.trans ht'
   cases this
 ·exact ⟨ts,[],rfl,fun t ht=>ht,Ext.push _ _,push_at _ _,rfl,by simpa using hl⟩
end
section
variable {hh h':Nat} {r:FnRec} {args:List V} {σ σ₀:St} {K:V→St→MS} {τ b:Nat} {T:List Row} {X:V}
theorem Does.goV (h:Does h' r args σ (TPost τ σ₀ T b fun v _=>v=X)) (k:∀ T' s,T <+: T'→Tab s τ T' b→Fix τ σ₀ s→Go hh 9999 (K X s)) (e:h'≤hh:=by fail "h"):Stop hh (.call r args σ K):=Does.goP h (fun R hR v s ⟨T',a,b,c,d⟩=>rwl (show v=X from d) (hR (k T' s a b c))) e
theorem Does.goI {F:List Row→Nat→Prop} (h:Does h' r args σ (TPost τ σ₀ T b fun v T'=>∃ u:Nat,v=.int u∧F T' u)) (k:∀ T' u s,T <+: T'→Tab s τ T' b→Fix τ σ₀ s→F T' u→Go hh 9999 (K (.int u) s)) (e:h'≤hh:=by fail "h"):Stop hh (.call r args σ K):=Does.goP h (fun R hR v s ⟨T',a,b,c,u,d,f⟩=>rwl (show v=.int u from d) (hR (k T' u s a b c f))) e
theorem Does.goX (h:Does h' r args σ fun q=>Ext σ₀ q.2∧q.1=X) (k:∀ s,Ext σ₀ s→Go hh 9999 (K X s)) (e:h'≤hh:=by fail "h"):Stop hh (.call r args σ K):=Does.goP h (fun R hR v s ⟨a,d⟩=>rwl (show v=X from d) (hR (k s a))) e
end
noncomputable def Calm (T:List Row) (S:List Nat):Prop:=∀ x∈S,∀ r,T[x]?=some r→(∀ y∈S,(y:Int)≠r.whole)∧(r.fresh=true→∀ y∈S,T[y]?≠some r.reg)
theorem nodup_at {T:List Row} (h:T.Nodup) {i j:Nat} {r:Row} (hi:T[i]?=some r) (hj:T[j]?=some r):i=j:=by
 obtain ⟨h1,e1⟩:=List.getElem?_eq_some_iff.mp hi
 obtain ⟨h2,e2⟩:=List.getElem?_eq_some_iff.mp hj
 exact (List.getElem_inj h).mp (e1.trans e2.symm)
theorem idxOf_at {T:List Row} {r:Row} (h:r∈T):T[T.idxOf r]?=some r:=by
 rw [List.getElem?_eq_getElem (List.idxOf_lt_length_of_mem h),List.getElem_idxOf]
theorem calm_stays {T:List Row} {S M:List Nat} (c:Calm T S) (hM:∀ x,x∈M↔x∈S) {x:Nat} {r:Row} (hx:x∈S) (hr:T[x]?=some r):stays T M r=true:=by
 unfold stays
 obtain ⟨c1,c2⟩:=c x hx r hr
 refine decide_eq_true ⟨?_,?_⟩
 ·rintro ⟨m,hm,e⟩
  unfold twin at e
  cases hf:r.fresh with
  | false=>rw [hf] at e;exact absurd (show (m:Int)=-1 from e) (by fail "a")
  | true =>
   rw [hf] at e
   simp only [if_true] at e
   split at e
   ·rename_i hin
    have:m=T.idxOf r.reg:=by fail "a"
    subst this
    exact c2 hf _ ((hM _).mp hm) (idxOf_at hin)
   ·fail "a"
 ·rintro ⟨m,hm,e⟩
  exact c1 m ((hM m).mp hm) e
theorem sorted_ext:∀ {l k:List Nat},l.Pairwise (· < ·)→k.Pairwise (· < ·)→(∀ x,x∈l↔x∈k)→l=k
 | [],[],_,_,_=>rfl
 | [],b::k,_,_,h=>absurd ((h b).mpr (.head _)) (by simp)
 | a::l,[],_,_,h=>absurd ((h a).mp (.head _)) (by simp)
 | a::l,b::k,h1,h2,h=>by
  obtain ⟨p1,q1⟩:=List.pairwise_cons.mp h1
  obtain ⟨p2,q2⟩:=List.pairwise_cons.mp h2
  have e:a=b:=by
   rcases List.mem_cons.mp ((h a).mp (.head _)) with e | ha
   ·exact e
   ·rcases List.mem_cons.mp ((h b).mpr (.head _)) with e | hb
    ·exact e.symm
    ·have:=p1 b hb;have:=p2 a ha;fail "a"
  subst e
  have:∀ x,x∈l↔x∈k:=fun x=>by
   constructor
   ·intro hx
    rcases List.mem_cons.mp ((h x).mp (.tail _ hx)) with e | q
    ·have:=p1 x hx;fail "a"
    ·exact q
   ·intro hx
    rcases List.mem_cons.mp ((h x).mpr (.tail _ hx)) with e | q
    ·have:=p2 x hx;fail "a"
    ·exact q
  rw [sorted_ext q1 q2 this]
noncomputable def topped (Z:List Nat):List Nat:=if 0∈Z then [0] else if 13∈Z then [13] else if 1∈Z then [1] else Z
section
variable {n τ b:Nat} {σ σ':St} {T:List Row}
theorem union_calm {pvv:V} {ts:List Nat} {S:Nat→List Nat} {Z:List Nat} (h:Tab σ τ T (b+1)) (hp:pv pvv ts) (hS:∀ t∈ts,KIs T t (S t)) (hl:(ts.flatMap S).length < 64) (hZ:∀ x,x∈Z↔∃ t∈ts,x∈S t) (hs:Z.Pairwise (· < ·)) (hc:Calm T Z) (h8:8∉Z∧14∉Z) :
  Does 3 (rc 62) [.loc τ,pvv] σ (TPost τ σ T b fun v T'=>∃ u,v=.int (u:Nat)∧KIs T' u (topped Z)):=by
 have hg:∀ x,x∈gath ts S↔x∈Z:=fun x=>mem_gath.trans (hZ x).symm
 refine Does.mono (union_spec h hp hS hl fun t ht=>⟨fun q=>h8.1 ((hZ 8).mpr ⟨t,ht,q⟩),fun q=>h8.2 ((hZ 14).mpr ⟨t,ht,q⟩)⟩) ?_
 rintro ⟨v,σ2⟩ ⟨T',p1,p2,p3,u,Z',rfl,k,q⟩
 refine ⟨T',p1,p2,p3,u,rfl,?_⟩
 simp only [hg] at q
 unfold topped
 rcases q with ⟨q1,q2⟩ | ⟨q0,q1,q2⟩ | ⟨q0,q00,q1,q2⟩ | ⟨q0,q00,q1,q2⟩
 ·rw [if_pos q1,← q2];exact k
 ·rw [if_neg q0,if_pos q1,← q2];exact k
 ·rw [if_neg q0,if_neg q00,if_pos q1,← q2];exact k
 ·rw [if_neg q0,if_neg q00,if_neg q1]
  have:Z'=Z:=sorted_ext k.sorted hs fun x=>(q2 x).trans ⟨fun y=>y.1,fun hx=>⟨hx,by
   obtain ⟨t,ht,hx'⟩:=(hZ x).mp hx
   obtain ⟨_,r,hr,_⟩:=(hS t ht).atoms x hx'
   exact ⟨r,hr,calm_stays hc hg hx hr⟩⟩⟩
  rw [← this];exact k
theorem kis_uniq {t:Nat} {S S':List Nat} (a:KIs T t S) (b:KIs T t S'):S=S':=by
 have no:∀ {S},KIs T t S→T[t]?=some (.union S')→t≠2→S=[t]→False:=fun k e I hs=>by
  obtain ⟨_,r,hr,hk⟩:=k.atoms t (by rw [hs];exact .head _)
  rw [e] at hr;cases hr;exact hk rfl
 have no':∀ {S},KIs T t S'→T[t]?=some (.union S)→t≠2→S'=[t]→False:=fun k e I hs=>by
  obtain ⟨_,r,hr,hk⟩:=k.atoms t (by rw [hs];exact .head _)
  rw [e] at hr;cases hr;exact hk rfl
 rcases a.at_ with ⟨a1,a2⟩ | a1 | ⟨a1,a2,a3⟩<;>rcases b.at_ with ⟨b1,b2⟩ | b1 | ⟨b1,b2,b3⟩
 ·rw [a2,b2]
 ·exact absurd a1 (b.atoms t (by rw [b1];exact .head _)).1
 ·exact absurd a1 b2
 ·exact absurd b1 (a.atoms t (by rw [a1];exact .head _)).1
 ·rw [a1,b1]
 ·exact (no a b1 b2 a1).elim
 ·exact absurd b1 a2
 ·exact (no' b a1 a2 b1).elim
 ·rw [a1] at b1;cases b1;rfl
theorem undef_is (h:Tab σ τ T b):KIs T 4 [4]:=⟨.inr (.inl rfl),fun x hx=>by simp at hx;subst hx;exact ⟨by decide,.key "undefined",(h.first (t:=4) (by decide)).trans rfl,by decide⟩,by simp⟩
noncomputable abbrev Row.unit:=Row.lit
noncomputable def unitB (T:List Row) (t:Nat):Bool:=decide (t=4∨t=5)||(match T[t]? with | some r=>r.unit | none=>false)
theorem is_literal_eq {t:Nat} {r:Row} (h:Tab σ τ T b) (ht:T[t]?=some r):Is 1 (rc 64) [.loc τ,.int t] σ (.bool r.unit,σ):=by
 apply does_is
 have h1:=h.inst
 have h2:=h.row ht
 have hm:=is_lit (σ:=σ) r
 have hs:=row_kind (σ:=σ) r
 fail "r"
theorem ibeq (a k:Nat):((a:Int)==(k:Int))=decide (a=k):=by rw [Bool.eq_iff_iff,decide_eq_true_iff,beq_iff_eq];fail "a"
theorem is_unit_eq {t:Nat} {r:Row} (h:Tab σ τ T b) (ht:T[t]?=some r):Is 2 (rc 65) [.loc τ,.int t] σ (.bool (unitB T t),σ):=by
 apply does_is
 have e:=is_literal_eq h ht
 by_cases h4:t=4
 ·subst h4;fail "r"
 by_cases h5:t=5
 ·subst h5;fail "r"
 have c4:((t:Int)==4)=false:=(ibeq t 4).trans (decide_eq_false h4)
 have c5:((t:Int)==5)=false:=(ibeq t 5).trans (decide_eq_false h5)
 fail "r"
 unfold unitB
 rw [ht,decide_eq_false (by fail "a")];rfl
theorem bools_map {α:Type} (f:α→Bool):∀ l:List α,allBools (l.map fun x=>V.bool (f x))=some (l.map f)
 | []=>rfl
 | a::l=>congrArg (Option.map (f a::·)) (bools_map f l)
theorem vints_map (f:V→V) (g:Nat→V) (h:∀ x:Nat,f (.int (x:Int))=g x) (l:List Nat):(vints l).map f=l.map g:=by
 unfold vints;rw [List.map_map];exact List.map_congr_left fun x I=>h x
noncomputable def onId (d:V) (g:Nat→V):V→V | .int i=>g i.toNat | _=>d
theorem filter_all (l:List V):l.filter (fun I=>true)=l:=List.filter_eq_self.mpr fun I I=>rfl
theorem all_units_eq {t:Nat} {S:List Nat} (h:Tab σ τ T b) (k:KIs T t S):Is 3 (rc 70) [.loc τ,.int t] σ (.bool (!S.isEmpty&&S.all (unitB T)),σ):=by
 apply does_is
 have e:=parts_of_eq h k
 refine enterH ?_
 have hl:decide (0 < ((vints S).length:Int))=!S.isEmpty:=by
  cases S with
  | nil=>rfl
  | cons a l=>exact decide_eq_true (by unfold vints;simp)
 cases hS:S.isEmpty with
 | true =>
  rw [hS] at hl
  simp only [Bool.not_true] at hl
  fail "r"
  exact congrArg (fun b=>(V.bool b,σ)) hl
 | false =>
  rw [hS] at hl
  simp only [Bool.not_false] at hl
  fail "r"
  refine comp_allG (onId .none fun x=>.bool (unitB T x)) (same_tup _) (fun x hx=>?_) ?_
  ·obtain ⟨y,hy,rfl⟩:=mem_vints.mp hx
   obtain ⟨_,r,er,_⟩:=k.atoms y hy
   have e7:=is_unit_eq h er
   fail "r"
  rw [vints_map _ (fun x=>V.bool (unitB T x)) (fun x=>rfl)]
  have e8:bools σ (.lst (S.map fun x=>V.bool (unitB T x)))=some (S.map (unitB T)):=by
   show (some _).bind allBools=_
   exact bools_map _ _
  fail "r"
  rw [List.all_map]
  rfl
end
theorem sub_length {α:Type} [DecidableEq α]:∀ {l k:List α},l.Nodup→(∀ x∈l,x∈k)→l.length≤k.length
 | [],_,_,_=>Nat.zero_le _
 | a::l,k,h,hs=>by
  obtain ⟨h1,h2⟩:=List.nodup_cons.mp h
  have ha:=hs a (.head _)
  have:=sub_length (l:=l) (k:=k.erase a) h2 fun x hx=>(List.mem_erase_of_ne (fun e:x=a=>h1 (by rw [← e];exact hx))).mpr (hs x (.tail _ hx))
  rw [List.length_erase_of_mem ha] at this
  have:=List.length_pos_of_mem ha
  simp only [List.length_cons];fail "a"
noncomputable def KR (T:List Row) (t:Nat) (rs:List Row):Prop:=∃ S,KIs T t S∧(∀ x∈S,∃ r∈rs,T[x]?=some r)∧∀ r∈rs,∃ x∈S,T[x]?=some r
theorem KR.mono {T T':List Row} (h:T <+: T') {t rs} (k:KR T t rs):KR T' t rs:=by
 obtain ⟨S,k1,k2,k3⟩:=k
 exact ⟨S,k1.mono h,fun x hx=>(by obtain ⟨r,a,b⟩:=k2 x hx;exact ⟨r,a,pre_at h b⟩),fun r hr=>(by obtain ⟨x,a,b⟩:=k3 r hr;exact ⟨x,a,pre_at h b⟩)⟩
theorem kis_len {T:List Row} (nd:T.Nodup) {t:Nat} {S:List Nat} {rs:List Row} (k:KIs T t S) (h:∀ x∈S,∃ r∈rs,T[x]?=some r):S.length≤rs.length:=by
 have key:∀ {S:List Nat},S.Pairwise (· < ·)→(∀ x∈S,∃ r∈rs,T[x]?=some r)→(S.map fun x=>(T[x]?).getD .tpl).Nodup∧∀ r∈S.map (fun x=>(T[x]?).getD .tpl),r∈rs:=by
  intro S hs h
  constructor
  ·rw [List.Nodup,List.pairwise_map]
   refine List.Pairwise.imp_of_mem (fun {a b} ha hb hab e=>?_) hs
   obtain ⟨r,_,hr⟩:=h a ha
   obtain ⟨q,_,hq⟩:=h b hb
   rw [hr,hq] at e
   simp only [Option.getD_some] at e
   subst e
   have:=nodup_at nd hr hq
   fail "a"
  ·intro r hr
   obtain ⟨x,hx,rfl⟩:=List.mem_map.mp hr
   obtain ⟨r,h1,h2⟩:=h x hx
   rw [h2];exact h1
 obtain ⟨a,b⟩:=key k.sorted h
 have:=sub_length a b
 rwa [List.length_map] at this
noncomputable def CalmRows (rs:List Row):Prop:=∀ r∈rs,∀ q∈rs,(r.whole=6→q≠.key "string")∧(r.whole=7→q≠.key "number")∧(r.fresh=true→q≠r.reg)
theorem whole_cases (r:Row):r.whole=6∨r.whole=7∨r.whole=-1:=by cases r<;>first | exact .inl rfl | exact .inr (.inl rfl) | exact .inr (.inr rfl)
section
variable {n τ b:Nat} {σ σ':St} {T:List Row}
theorem calm_of (h:Tab σ τ T b) {S:List Nat} {rs:List Row} (hs:∀ x∈S,∃ r∈rs,T[x]?=some r) (c:CalmRows rs):Calm T S:=by
 intro x hx r hr
 obtain ⟨r',h1,h2⟩:=hs x hx
 rw [hr] at h2;cases h2
 refine ⟨fun y hy e=>?_,fun hf y hy e=>?_⟩
 ·obtain ⟨q,h3,h4⟩:=hs y hy
  obtain ⟨c1,c2,_⟩:=c r h1 q h3
  rcases whole_cases r with w | w | w
  ·have:y=6:=by fail "a"
   subst this
   have:=(h.first (t:=6) (by decide)).symm.trans h4
   exact c1 w (Option.some.inj this).symm
  ·have:y=7:=by fail "a"
   subst this
   have:=(h.first (t:=7) (by decide)).symm.trans h4
   exact c2 w (Option.some.inj this).symm
  ·fail "a"
 ·obtain ⟨q,h3,h4⟩:=hs y hy
  rw [h4] at e
  exact (c r h1 q h3).2.2 hf (Option.some.inj e)
theorem row_id (h:Tab σ τ T b) {i:Nat} (hi:i < 16) {r:Row} (hr:first[i]?=some r) {x:Nat} (hx:T[x]?=some r):x=i:=nodup_at h.nd hx ((h.first hi).trans hr)
noncomputable def toppedR (rs:List Row):List Row:=if Row.key "any" ∈ rs then [.key "any"] else if Row.key "error" ∈ rs then [.key "error"] else if Row.key "unknown" ∈ rs then [.key "unknown"] else rs
theorem KR.ids (h:Tab σ τ T b) {t:Nat} {rs:List Row} (k:KR T t rs) {S:List Nat} (kS:KIs T t S):(∀ x∈S,∃ r∈rs,T[x]?=some r)∧∀ r∈rs,∃ x∈S,T[x]?=some r:=by
 obtain ⟨S',k1,k2,k3⟩:=k
 have:=kis_uniq kS k1
 subst this
 exact ⟨k2,k3⟩
theorem union_kr {pvv:V} {ts:List Nat} {rsOf:Nat→List Row} (h:Tab σ τ T (b+1)) (hp:pv pvv ts) (hS:∀ t∈ts,KR T t (rsOf t)) (hl:(ts.flatMap rsOf).length < 64) (hc:CalmRows (ts.flatMap rsOf)) (h8:Row.bool 0 0∉ts.flatMap rsOf∧Row.bool 0 1∉ts.flatMap rsOf) :
  Does 3 (rc 62) [.loc τ,pvv] σ (TPost τ σ T b fun v T'=>∃ u,v=.int (u:Nat)∧KR T' u (toppedR (ts.flatMap rsOf))):=by
 classical
 let S:Nat→List Nat:=fun t=>if ht:t∈ts then (hS t ht).choose else []
 have hSs:∀ t∈ts,KIs T t (S t)∧(∀ x∈S t,∃ r∈rsOf t,T[x]?=some r)∧∀ r∈rsOf t,∃ x∈S t,T[x]?=some r:=fun t ht=>by
  show KIs T t (dite _ _ _)∧(∀ x∈dite _ _ _,_)∧_
  simp only [S,dif_pos ht]
  exact (hS t ht).choose_spec
 have hlen:∀ l:List Nat,(∀ t∈l,t∈ts)→(l.flatMap S).length≤(l.flatMap rsOf).length:=by
  intro l
  induction l with
  | nil=>intro _;exact Nat.le_refl _
  | cons a l ih =>
   intro hl
   have h1:=ih fun t ht=>hl t (.tail _ ht)
   have h2:=kis_len h.nd (hSs a (hl a (.head _))).1 (hSs a (hl a (.head _))).2.1
   simp only [List.flatMap_cons,List.length_append]
   fail "a"
 have hZ:∀ x,x∈sortN (gath ts S)↔∃ t∈ts,x∈S t:=fun x=>mem_sortN.trans mem_gath
 have hrow:∀ x∈sortN (gath ts S),∃ r∈ts.flatMap rsOf,T[x]?=some r:=fun x hx=>by
  obtain ⟨t,ht,hx⟩:=(hZ x).mp hx
  obtain ⟨r,h1,h2⟩:=(hSs t ht).2.1 x hx
  exact ⟨r,List.mem_flatMap.mpr ⟨t,ht,h1⟩,h2⟩
 have hrow2:∀ r∈ts.flatMap rsOf,∃ x∈sortN (gath ts S),T[x]?=some r:=fun r hr=>by
  obtain ⟨t,ht,hr⟩:=List.mem_flatMap.mp hr
  obtain ⟨x,h1,h2⟩:=(hSs t ht).2.2 r hr
  exact ⟨x,(hZ x).mpr ⟨t,ht,h1⟩,h2⟩
 have no:∀ (i:Nat) (r:Row),i < 16→first[i]?=some r→r∉ts.flatMap rsOf→i∉sortN (gath ts S):=fun i r h1 h2 h3 h4=>by
  obtain ⟨q,h5,h6⟩:=hrow i h4
  rw [h.first h1,h2] at h6
  cases h6;exact h3 h5
 have yes:∀ (i:Nat) (r:Row),i < 16→first[i]?=some r→r∈ts.flatMap rsOf→i∈sortN (gath ts S):=fun i r h1 h2 h3=>by
  obtain ⟨x,h4,h5⟩:=hrow2 r h3
  have:=row_id h h1 h2 h5
  subst this;exact h4
 refine Does.mono (union_calm h hp (fun t ht=>(hSs t ht).1) (Nat.lt_of_le_of_lt (hlen ts fun I h=>h) hl) hZ (sortN_lt (insAll_nodup List.nodup_nil)) (calm_of h hrow hc) ⟨no 8 _ (by decide) rfl h8.1,no 14 _ (by decide) rfl h8.2⟩) ?_
 rintro ⟨v,σ2⟩ ⟨T',p1,p2,p3,u,rfl,k⟩
 refine ⟨T',p1,p2,p3,u,rfl,?_⟩
 have one:∀ (i:Nat) (r:Row),i < 16→first[i]?=some r→KIs T' u [i]→KR T' u [r]:=fun i r h1 h2 k=>⟨[i],k,fun x hx=>by simp at hx;subst hx;exact ⟨r,.head _,(p2.first h1).trans h2⟩,fun q hq=>by simp at hq;subst hq;exact ⟨i,.head _,(p2.first h1).trans h2⟩⟩
 unfold topped at k
 unfold toppedR
 by_cases c0:Row.key "any" ∈ ts.flatMap rsOf
 ·rw [if_pos c0]
  rw [if_pos (yes 0 _ (by decide) rfl c0)] at k
  exact one 0 _ (by decide) rfl k
 rw [if_neg c0]
 rw [if_neg (no 0 _ (by decide) rfl c0)] at k
 by_cases c1:Row.key "error" ∈ ts.flatMap rsOf
 ·rw [if_pos c1]
  rw [if_pos (yes 13 _ (by decide) rfl c1)] at k
  exact one 13 _ (by decide) rfl k
 rw [if_neg c1]
 rw [if_neg (no 13 _ (by decide) rfl c1)] at k
 by_cases c2:Row.key "unknown" ∈ ts.flatMap rsOf
 ·rw [if_pos c2]
  rw [if_pos (yes 1 _ (by decide) rfl c2)] at k
  exact one 1 _ (by decide) rfl k
 rw [if_neg c2]
 rw [if_neg (no 1 _ (by decide) rfl c2)] at k
 exact ⟨_,k,fun x hx=>(by obtain ⟨r,a,b⟩:=hrow x hx;exact ⟨r,a,pre_at p1 b⟩),fun r hr=>(by obtain ⟨x,a,b⟩:=hrow2 r hr;exact ⟨x,a,pre_at p1 b⟩)⟩
end
theorem KR.congr {T:List Row} {t:Nat} {rs qs:List Row} (k:KR T t rs) (h:∀ r,r∈rs↔r∈qs):KR T t qs:=by
 obtain ⟨S,k1,k2,k3⟩:=k
 exact ⟨S,k1,fun x hx=>(by obtain ⟨r,a,b⟩:=k2 x hx;exact ⟨r,(h r).mp a,b⟩),fun r hr=>k3 r ((h r).mpr hr)⟩
theorem KR.same {T:List Row} {t:Nat} {rs qs:List Row} (k:KR T t rs) (k':KR T t qs):∀ r,r∈rs↔r∈qs:=by
 obtain ⟨S,k1,k2,k3⟩:=k
 obtain ⟨S',q1,q2,q3⟩:=k'
 have:=kis_uniq k1 q1
 subst this
 intro r
 constructor
 ·intro hr
  obtain ⟨x,hx,e⟩:=k3 r hr
  obtain ⟨q,hq,e'⟩:=q2 x hx
  rw [e] at e';cases e';exact hq
 ·intro hr
  obtain ⟨x,hx,e⟩:=q3 r hr
  obtain ⟨q,hq,e'⟩:=k2 x hx
  rw [e] at e';cases e';exact hq
theorem topped_congr {rs qs:List Row} (h:∀ r,r∈rs↔r∈qs):∀ r,r∈toppedR rs↔r∈toppedR qs:=by
 intro r
 unfold toppedR
 simp only [h]
 split
 ·rfl
 split
 ·rfl
 split
 ·rfl
 ·exact h r
theorem CalmRows.congr {rs qs:List Row} (c:CalmRows rs) (h:∀ r,r∈rs↔r∈qs):CalmRows qs:=fun r hr q hq=>c r ((h r).mpr hr) q ((h q).mpr hq)
noncomputable def firstOf (ps:List (Nat×List Row)) (t:Nat):List Row:=(ps.lookup t).getD []
theorem firstOf_mem:∀ {ps:List (Nat×List Row)} {t:Nat},t∈ps.map (·.1)→(t,firstOf ps t)∈ps
 | (a,l)::ps,t,h=>by
  unfold firstOf
  rw [List.lookup_cons]
  cases e:t==a with
  | true=>rw [eq_of_beq e];exact .head _
  | false =>
   rw [List.map_cons,List.mem_cons] at h
   have:=firstOf_mem (ps:=ps) (t:=t) (h.resolve_left (fun q=>by rw [q] at e;simp at e))
   exact .tail _ this
section
variable {n τ b:Nat} {σ σ':St} {T:List Row}
theorem union_krp {pvv:V} {ps:List (Nat×List Row)} (h:Tab σ τ T (b+1)) (hp:pv pvv (ps.map (·.1))) (hS:∀ p∈ps,KR T p.1 p.2) (hl:∀ p∈ps,p.2.length≤7) (hl2:ps.length≤9) (hc:CalmRows (ps.flatMap (·.2))) (h8:Row.bool 0 0∉ps.flatMap (·.2)∧Row.bool 0 1∉ps.flatMap (·.2)) :
  Does 3 (rc 62) [.loc τ,pvv] σ (TPost τ σ T b fun v T'=>∃ u,v=.int (u:Nat)∧KR T' u (toppedR (ps.flatMap (·.2)))):=by
 have hf:∀ t∈ps.map (·.1),(t,firstOf ps t)∈ps:=fun t ht=>firstOf_mem ht
 have hm:∀ r,r∈(ps.map (·.1)).flatMap (firstOf ps)↔r∈ps.flatMap (·.2):=by
  intro r
  rw [List.mem_flatMap,List.mem_flatMap]
  constructor
  ·rintro ⟨t,ht,hr⟩;exact ⟨_,hf t ht,hr⟩
  ·rintro ⟨p,hp,hr⟩
   have h1:p.1∈ps.map (·.1):=List.mem_map_of_mem hp
   exact ⟨p.1,h1,((hS p hp).same (show KR T p.1 (firstOf ps p.1) from hS (p.1,firstOf ps p.1) (hf _ h1)) r).mp hr⟩
 have hlen:∀ l:List Nat,(∀ t∈l,t∈ps.map (·.1))→(l.flatMap (firstOf ps)).length≤7 * l.length:=by
  intro l
  induction l with
  | nil=>intro _;exact Nat.le_refl _
  | cons a l ih =>
   intro hl'
   have h1:=ih fun t ht=>hl' t (.tail _ ht)
   have h2:=hl _ (hf a (hl' a (.head _)))
   simp only [List.flatMap_cons,List.length_append,List.length_cons] at h2 ⊢
   fail "a"
 have hl3:=hlen _ (fun t ht=>ht)
 rw [List.length_map] at hl3
 refine Does.mono (union_kr (rsOf:=firstOf ps) h hp (fun t ht=>hS _ (hf t ht)) (by fail "a") (hc.congr fun r=>(hm r).symm) ⟨fun q=>h8.1 ((hm _).mp q),fun q=>h8.2 ((hm _).mp q)⟩) ?_
 rintro ⟨v,σ2⟩ ⟨T',p1,p2,p3,u,rfl,k⟩
 exact ⟨T',p1,p2,p3,u,rfl,k.congr (topped_congr hm)⟩
theorem undef_kr (h:Tab σ τ T b):KR T 4 [.key "undefined"] :=
 ⟨[4],undef_is h,fun x hx=>by simp at hx;subst hx;exact ⟨_,.head _,(h.first (t:=4) (by decide)).trans rfl⟩,fun r hr=>by simp at hr;subst hr;exact ⟨4,.head _,(h.first (t:=4) (by decide)).trans rfl⟩⟩
theorem add_undef_kr {t:Nat} {rs:List Row} (h:Tab σ τ T (b+1)) (k:KR T t rs) (hl:rs.length≤7) (hc:CalmRows (rs++[.key "undefined"])) (h8:Row.bool 0 0∉rs∧Row.bool 0 1∉rs) :
  Does 4 (rc 63) [.loc τ,.int t] σ (TPost τ σ T b fun v T'=>∃ u,v=.int (u:Nat)∧KR T' u (toppedR (rs++[.key "undefined"]))):=by
 refine enterH ?_
 fail "r"
 refine Does.goG (union_krp (ps:=[(t,rs),(4,[.key "undefined"])]) h (.inr rfl) ?_ ?_ (by simp) ?_ ?_) ?_
 ·intro p hp
  simp only [List.mem_cons,List.not_mem_nil,or_false] at hp
  rcases hp with rfl | rfl
  ·exact k
  ·exact undef_kr h
 ·intro p hp
  simp only [List.mem_cons,List.not_mem_nil,or_false] at hp
  rcases hp with rfl | rfl
  ·exact hl
  ·decide
 ·simpa using hc
 ·simpa using h8
 ·rintro ⟨v,σ2⟩ hq
  fail "r"
  simpa using hq
noncomputable def Row.plain (r:Row):Row:=if r.fresh then r.reg else r
theorem regular_one_spec {t:Nat} {r:Row} (h:Tab σ τ T (b+1)) (ht:T[t]?=some r):Does 2 (rc 67) [.loc τ,.int t] σ (TPost τ σ T b fun v T'=>∃ u:Nat,v=.int u∧T'[u]?=some r.plain):=by
 have e1:=fresh_eq h ht
 have h1:=h.inst
 have h2:=h.row ht
 cases hf:r.fresh with
 | false =>
  rw [hf] at e1
  fail "r"
  exact ⟨T,List.prefix_refl _,h.less (Nat.le_succ _),Fix.refl _ _,t,rfl,by unfold Row.plain;rw [hf];exact ht⟩
 | true =>
  rw [hf] at e1
  have hm:r.marked=true:=by rw [row_fresh,Bool.and_eq_true] at hf;exact hf.1
  have hc:=row_cut (σ:=σ) hm
  have ha:=row_join (σ:=σ) hm
  fail "r"
  refine Does.goI (put_spec (r:=r.reg) rfl h) fun T' u σ2 p1 p2 p3 p4=>?_
  fail "r"
  exact ⟨T',p1,p2,p3,u,rfl,by unfold Row.plain;rw [hf];exact p4⟩
end
theorem plain_kind (r:Row):r.plain.kind=r.kind:=by unfold Row.plain;split<;>cases r<;>rfl
theorem plain_never {r:Row} (h:r.plain=.key "never"):r=.key "never" := by
 unfold Row.plain at h;split at h
 ·cases r<;>first | exact h | cases h
 ·exact h
theorem kr_one {T:List Row} (nd:T.Nodup) (h2:T[2]?=some (.key "never")) {u:Nat} {r:Row} (h:T[u]?=some r) (hk:r.kind≠6) (hn:r≠.key "never"):KR T u [r] :=
 ⟨[u],⟨.inr (.inl rfl),fun x hx=>by
  simp at hx;subst hx
  exact ⟨fun e=>by subst e;rw [h] at h2;cases h2;exact hn rfl,r,h,hk⟩,by simp⟩,fun x hx=>by simp at hx;subst hx;exact ⟨r,.head _,h⟩,fun q hq=>by simp at hq;subst hq;exact ⟨u,.head _,h⟩⟩
section
variable {n τ b:Nat} {σ σ':St} {T:List Row}
theorem Tab.never (h:Tab σ τ T b):T[2]?=some (.key "never"):=(h.first (t:=2) (by decide)).trans rfl
theorem regular_kr {t:Nat} {rs:List Row} (h:Tab σ τ T (b+8)) (k:KR T t rs) (hl:rs.length≤7) (hc:CalmRows (rs.map Row.plain)) (h8:Row.bool 0 0∉rs.map Row.plain∧Row.bool 0 1∉rs.map Row.plain) (ht:toppedR (rs.map Row.plain)=rs.map Row.plain) :
  Does 4 (rc 68) [.loc τ,.int t] σ (TPost τ σ T b fun v T'=>∃ u,v=.int (u:Nat)∧KR T' u (rs.map Row.plain)):=by
 obtain ⟨S,k1,k2,k3⟩:=k
 have hSl:=Nat.le_trans (kis_len h.nd k1 k2) hl
 have single:∀ r:Row,T[t]?=some r→r.kind≠6→(∀ T' u,T <+: T'→(T':List Row).Nodup→T'[u]?=some r.plain→KR T' u (rs.map Row.plain))→Does 4 (rc 68) [.loc τ,.int t] σ (TPost τ σ T b fun v T'=>∃ u,v=.int (u:Nat)∧KR T' u (rs.map Row.plain)):=by
  intro r hr hk fin
  have e1:=kind_of_eq h hr
  have c:((r.kind:Int)==6)=false:=by rw [Bool.eq_false_iff];intro q;have:=eq_of_beq q;fail "a"
  refine enterH ?_
  fail "r"
  refine Does.goI (regular_one_spec (h.less (c:=b+1) (by fail "a")) hr) fun T' u σ2 p1 p2 p3 p4=>?_
  fail "r"
  exact ⟨T',p1,p2,p3,u,rfl,fin T' u p1 p2.nd p4⟩
 rcases k1.at_ with ⟨rfl,rfl⟩ | rfl | ⟨e,e2,e3⟩
 ·have hrs:rs=[]:=by
   cases rs with
   | nil=>rfl
   | cons r l=>obtain ⟨x,hx,_⟩:=k3 r (.head _);cases hx
  subst hrs
  refine single _ h.never (by decide) fun T' u hp nd hu=>?_
  have:u=2:=nodup_at nd hu (pre_at hp h.never)
  subst this
  exact ⟨[],⟨.inl ⟨rfl,rfl⟩,(fun I q=>nomatch q),.nil⟩,(fun I q=>nomatch q),(fun I q=>nomatch q)⟩
 ·obtain ⟨ht2,r,hr,hk⟩:=k1.atoms t (.head _)
  have all:∀ q∈rs,q=r:=fun q hq=>by
   obtain ⟨x,hx,e⟩:=k3 q hq
   simp at hx;subst hx
   rw [hr] at e;exact (Option.some.inj e).symm
  have hin:r∈rs:=by
   obtain ⟨q,hq,e⟩:=k2 t (.head _)
   rw [hr] at e;cases e;exact hq
  have hn:r.plain≠.key "never" := fun q=>ht2 (nodup_at h.nd hr ((h.never).trans (by rw [plain_never q])))
  refine single r hr hk fun T' u hp nd hu=>?_
  refine (kr_one nd (pre_at hp h.never) hu (by rw [plain_kind];exact hk) hn).congr fun q=>?_
  rw [List.mem_singleton,List.mem_map]
  exact ⟨fun e=>⟨r,hin,e.symm⟩,fun zz=>(by obtain ⟨q',hq',e⟩:=zz;exact by rw [← e,all q' hq'])⟩
 ·have e1:=kind_of_eq h e
  have e4:=parts_of_eq h k1
  refine enterH ?_
  have c:(Row.union S).kind=6:=rfl
  fail "r"
  refine comp_rlO (fun sr done σ'=>Ex3 fun pre us T'=>C8 (done=vints us) (S=pre++sr) (T <+: T') (Tab σ' τ T' (b+1+sr.length)) (Fix τ σ σ') (us.length+sr.length≤7) (∀ u∈us,∃ r∈rs,T'[u]?=some r.plain∧r.kind≠6∧r.plain≠.key "never") (∀ x∈pre,∃ r,T[x]?=some r∧∃ u∈us,T'[u]?=some r.plain)) ?_ ?_ ?_
  ·rintro R hR y sr done σ' ⟨pre,us,T',rfl,hS,p1,p2,p3,p4,p5,p6⟩
   have hyS:y∈S:=by rw [hS];simp
   obtain ⟨r,hr1,hr2⟩:=k2 y hyS
   obtain ⟨hy2,r',hr3,hrk⟩:=k1.atoms y hyS
   rw [hr2] at hr3;cases hr3
   have hn:r.plain≠.key "never" := fun q=>hy2 (nodup_at h.nd hr2 ((h.never).trans (by rw [plain_never q])))
   fail "r"
   refine Does.goI (regular_one_spec (b:=b+1+sr.length) (p2.less (by simp;fail "a")) (pre_at p1 hr2)) fun T2 u σ2 q1 q2 q3 q4=>?_
   fail "r"
   refine ⟨same_tup _,pre++[y],us++[u],T2,by simp [vints],by rw [hS];simp,p1.trans q1,q2,p3.trans q3,by simp at p4 ⊢;fail "a",fun u' hu'=>?_,fun x hx=>?_⟩
   ·rcases List.mem_append.mp hu' with hu' | hu'
    ·obtain ⟨r0,a1,a2,a3⟩:=p5 u' hu';exact ⟨r0,a1,pre_at q1 a2,a3⟩
    ·simp at hu';subst hu';exact ⟨r,hr1,q4,hrk,hn⟩
   ·rcases List.mem_append.mp hx with hx | hx
    ·obtain ⟨r0,a1,u',a2,a3⟩:=p6 x hx;exact ⟨r0,a1,u',by simp [a2],pre_at q1 a3⟩
    ·simp at hx;subst hx;exact ⟨r,hr2,u,by simp,q4⟩
  ·exact ⟨[],[],T,rfl,rfl,List.prefix_refl _,h.less (by fail "a"),Fix.refl _ _,by simpa using hSl,(fun I q=>nomatch q),(fun I q=>nomatch q)⟩
  ·rintro R hR vs σ2 ⟨pre,us,T',hd,hS,p1,p2,p3,p4,p5,p6⟩
   have hd:vs=vints us:=hd
   subst hd
   have hpre:pre=S:=by rw [hS];simp
   subst hpre
   fail "r"
   let ps:List (Nat×List Row):=us.map fun u=>(u,[(T'[u]?).getD .tpl])
   have hmap:ps.map (·.1)=us:=by show (us.map fun u=>(u,[(T'[u]?).getD .tpl])).map (·.1)=us;rw [List.map_map];exact List.map_id us
   have hflat:∀ r,r∈ps.flatMap (·.2)↔∃ u∈us,(T'[u]?).getD .tpl=r:=fun r=>by
    rw [List.mem_flatMap]
    constructor
    ·rintro ⟨p,hp,hr⟩;obtain ⟨u,hu,rfl⟩:=List.mem_map.mp hp;exact ⟨u,hu,(by simpa using hr:r=_).symm⟩
    ·rintro ⟨u,hu,rfl⟩;exact ⟨_,List.mem_map.mpr ⟨u,hu,rfl⟩,by simp⟩
   have hrows:∀ r,r∈ps.flatMap (·.2)↔r∈rs.map Row.plain:=fun r=>by
    rw [hflat,List.mem_map]
    constructor
    ·rintro ⟨u,hu,e⟩
     obtain ⟨r0,a1,a2,_⟩:=p5 u hu
     rw [a2] at e;exact ⟨r0,a1,e⟩
    ·rintro ⟨r0,a1,rfl⟩
     obtain ⟨x,hx,e⟩:=k3 r0 a1
     obtain ⟨r1,b1,u,hu,b2⟩:=p6 x hx
     rw [e] at b1;cases b1
     exact ⟨u,hu,by rw [b2];rfl⟩
   refine Does.goG (union_krp (ps:=ps) (p2.less (c:=b+1) (by simp)) (by rw [hmap];exact .inl rfl) ?_ ?_ ?_ ?_ ?_) ?_
   ·intro p hp
    obtain ⟨u,hu,rfl⟩:=List.mem_map.mp hp
    obtain ⟨r0,a1,a2,a3,a4⟩:=p5 u hu
    dsimp only
    rw [a2]
    exact kr_one p2.nd p2.never a2 (show r0.plain.kind≠6 by rw [plain_kind];exact a3) a4
   ·intro p hp
    obtain ⟨u,hu,rfl⟩:=List.mem_map.mp hp
    simp
   ·simp [ps];simp at p4;fail "a"
   ·exact hc.congr fun r=>(hrows r).symm
   ·exact ⟨fun q=>h8.1 ((hrows _).mp q),fun q=>h8.2 ((hrows _).mp q)⟩
   ·rintro ⟨v,σ3⟩ ⟨T2,q1,q2,q3,u,rfl,q4⟩
    fail "r"
    refine ⟨T2,p1.trans q1,q2,p3.trans q3,u,rfl,q4.congr fun r=>?_⟩
    rw [topped_congr hrows,ht]
end
noncomputable def nfz (rs:List Row):Prop:=Row.bool 0 0∉rs∧Row.bool 0 1∉rs
theorem plain_fresh (r:Row):r.plain.fresh=false:=by cases h:r.fresh with
 | false=>exact (congrArg Row.fresh (if_neg (by rw [h];exact Bool.false_ne_true))).trans h
 | true=>exact (congrArg Row.fresh (if_pos h)).trans (by cases r<;>first | rfl | exact nf h)
theorem calm_one {r:Row} (h:r.fresh=false):CalmRows [r]:=by
 intro a ha q hq
 simp at ha hq
 subst ha;subst hq
 refine ⟨fun h e=>?_,fun h e=>?_,fun hf=>by rw [h] at hf;cases hf⟩<;>(subst e;cases h)
theorem topped_one (r:Row):toppedR [r]=[r]:=by
 unfold toppedR
 simp only [List.mem_singleton]
 split
 ·rename_i e;rw [e]
 split
 ·rename_i e;rw [e]
 split
 ·rename_i e;rw [e]
 ·rfl
section
variable {n τ b:Nat} {σ σ':St} {T:List Row}
theorem vints_pures (l:List Nat):V.pures (vints l)=true:=vints_pure l 6
theorem vints_any (l:List Nat) (i:Int):(vints l).any (·.eqb (.int i))=decide (∃ m∈l,(m:Int)=i):=by
 rw [Bool.eq_iff_iff,List.any_eq_true,decide_eq_true_iff]
 constructor
 ·rintro ⟨v,hv,e⟩
  obtain ⟨x,hx,rfl⟩:=mem_vints.mp hv
  exact ⟨x,hx,by simpa using (V.eqb_iff _ _).mp e⟩
 ·rintro ⟨m,hm,e⟩
  exact ⟨_,mem_vints.mpr ⟨m,hm,rfl⟩,(V.eqb_iff _ _).mpr (by rw [e])⟩
theorem in_vtup (l:List Nat) (i:Int):inV σ (.int i) (.tup (vints l))=some (decide (∃ m∈l,(m:Int)=i)):=by
 rw [in_ints (vints_pures l),vints_any]
theorem value_holds_eq {r:Row} {v:V} (hk:r.kind≠5):Is 1 (rc 71) [.loc τ,r.enc,v] σ (.bool false,σ):=by
 apply does_is
 have hs:=row_kind (σ:=σ) r
 have c:((r.kind:Int)==5)=false:=(ibeq r.kind 5).trans (decide_eq_false hk)
 fail "r"
noncomputable def fitB (r:Row) (qs:List Row):Bool:=decide (r∈qs∨(r.whole=6∧Row.key "string" ∈ qs)∨(r.whole=7∧Row.key "number" ∈ qs))
theorem kind_ne5 (r:Row):r.kind≠5:=by cases r<;>simp [Row.kind]
theorem kr_kis {t:Nat} {rs:List Row} (k:KR T t rs):∃ S,KIs T t S:=(by obtain ⟨S,k,_⟩:=k;exact ⟨S,k⟩)
theorem kr_atom (h:Tab σ τ T b) {t:Nat} {r:Row} (k:KR T t [r]) (hk:r.kind≠6):T[t]?=some r∧KIs T t [t]:=by
 obtain ⟨S,k1,k2,k3⟩:=k
 have hl:=kis_len h.nd k1 k2
 rcases k1.at_ with ⟨e1,e2⟩ | e1 | ⟨e1,e2,e3⟩
 ·subst e2;obtain ⟨x,hx,_⟩:=k3 r (.head _);cases hx
 ·subst e1
  obtain ⟨q,hq,e⟩:=k2 t (.head _)
  simp at hq;subst hq
  exact ⟨e,k1⟩
 ·simp at hl;fail "a"
theorem units_fit_spec {s t:Nat} {r:Row} {rs:List Row} (h:Tab σ τ T (b+16)) (hs:T[s]?=some r) (hk:r.kind≠6) (hs2:s≠2) (k:KR T t rs) (hl:rs.length≤7) (hc:CalmRows (rs.map Row.plain)) (h8:nfz (rs.map Row.plain)) (h8r:nfz [r.plain])
  (ht:t=0∨(t≠0∧t≠1∧t≠13∧toppedR (rs.map Row.plain)=rs.map Row.plain)) (hv:Row.key "void" ∉ rs.map Row.plain) :
  Does 5 (rc 72) [.loc τ,.int s,.int t] σ (TPost τ σ T b fun v T'=>v=.bool (decide (t=0)||fitB r.plain (rs.map Row.plain))):=by
 have c0:((t:Int)==0)=decide (t=0):=ibeq t 0
 have c1:((t:Int)==1)=decide (t=1):=ibeq t 1
 have c13:((t:Int)==13)=decide (t=13):=ibeq t 13
 refine enterH ?_
 rcases ht with rfl | ⟨t0,t1,t13,htop⟩
 ·have d0:decide ((0:Nat)=0)=true:=rfl
  fail "r"
  exact ⟨T,List.prefix_refl _,h.less (by fail "a"),Fix.refl _ _,rfl⟩
 have d0:decide (t=0)=false:=decide_eq_false t0
 have d1:decide (t=1)=false:=decide_eq_false t1
 have d13:decide (t=13)=false:=decide_eq_false t13
 fail "r"
 refine Does.goI (regular_kr (b:=b+8) h k hl hc h8 htop) fun T2 u σ2 p1 p2 p3 k2=>?_
 obtain ⟨S,kS⟩:=kr_kis k2
 have e1:=parts_of_eq p2 kS
 have hr1:KR T2 s [r]:=(kr_one h.nd h.never hs hk (fun e=>hs2 (nodup_at h.nd hs (h.never.trans (by rw [e]))))).mono p1
 have e0:[r].map Row.plain=[r.plain]:=rfl
 fail "r"
 refine Does.goI (regular_kr p2 hr1 (by simp) (by rw [e0];exact calm_one (plain_fresh r)) (by rw [e0];exact h8r) (by rw [e0];exact topped_one _)) fun T3 w σ3 q1 q2 q3 k3=>?_
 obtain ⟨hw,kw⟩:=kr_atom q2 k3 (by rw [plain_kind];exact hk)
 have e2:Is 1 (rc 56) _ σ3 (.tup [.int (w:Int)],σ3):=parts_of_eq q2 kw
 have h1:=q2.inst
 have h2:=q2.row hw
 have e3:=whole_eq (σ:=σ3) (r:=r.plain)
 have e4:=fun v=>value_holds_eq (σ:=σ3) (τ:=τ) (v:=v) (kind_ne5 r.plain)
 have e5:=fun i=>in_vtup (σ:=σ3) S i
 have e6:vints [w]=[.int (w:Int)]:=rfl
 have e7:∀ l,sameItems σ3 (.tup l) false l=true:=fun l=>same_tup l
 obtain ⟨kk1,kk2⟩:=(k2.mono q1).ids q2 (kS.mono q1)
 have m1:(∃ m∈S,(m:Int)=(w:Int))↔r.plain∈rs.map Row.plain:=by
  constructor
  ·rintro ⟨m,hm,e⟩
   have:m=w:=by fail "a"
   subst this
   obtain ⟨q,hq,e'⟩:=kk1 m hm
   rw [hw] at e';cases e';exact hq
  ·intro hq
   obtain ⟨x,hx,e⟩:=kk2 _ hq
   exact ⟨x,hx,by rw [nodup_at q2.nd e hw]⟩
 have mi:∀ (i:Nat) (q:Row),i < 16→first[i]?=some q→((∃ m∈S,(m:Int)=(i:Int))↔q∈rs.map Row.plain):=fun i q hi hq=>by
  constructor
  ·rintro ⟨m,hm,e⟩
   have:m=i:=by fail "a"
   subst this
   obtain ⟨q',hq',e'⟩:=kk1 m hm
   rw [q2.first hi,hq] at e';cases e';exact hq'
  ·intro hq'
   obtain ⟨x,hx,e⟩:=kk2 _ hq'
   exact ⟨x,hx,by rw [row_id q2 hi hq e]⟩
 have m3:(decide (∃ m∈S,(m:Int)=3))=false:=decide_eq_false (fun q=>hv ((mi 3 _ (by decide) rfl).mp q))
 have m2:(∃ m∈S,(m:Int)=r.plain.whole)↔(r.plain.whole=6∧Row.key "string" ∈ rs.map Row.plain)∨(r.plain.whole=7∧Row.key "number" ∈ rs.map Row.plain):=by
  rcases whole_cases r.plain with w | w | w
  ·rw [w];simp only [true_and]
   have:=mi 6 _ (by decide) rfl
   rw [show ((6:Nat):Int)=6 from rfl] at this
   rw [this];simp
  ·rw [w];simp only [true_and]
   have:=mi 7 _ (by decide) rfl
   rw [show ((7:Nat):Int)=7 from rfl] at this
   rw [this];simp
  ·rw [w];constructor
   ·rintro ⟨m,_,e⟩;fail "a"
   ·rintro (⟨e,_⟩ | ⟨e,_⟩)<;>fail "a"
 have fin:TPost τ σ T b (fun v T'=>v=.bool (decide (t=0)||fitB r.plain (rs.map Row.plain))) (.bool (fitB r.plain (rs.map Row.plain)),σ3) :=
  ⟨T3,p1.trans q1,q2,p3.trans q3,by rw [d0];rfl⟩
 by_cases f1:r.plain∈rs.map Row.plain
 ·have g1:decide (∃ m∈S,(m:Int)=(w:Int))=true:=decide_eq_true (m1.mpr f1)
  have g2:fitB r.plain (rs.map Row.plain)=true:=decide_eq_true (.inl f1)
  rw [g2] at fin ⊢
  clear kk1 kk2 m1 mi m2 f1 g2 e4
  fail "r"
  exact fin
 have g1:decide (∃ m∈S,(m:Int)=(w:Int))=false:=decide_eq_false (fun q=>f1 (m1.mp q))
 by_cases f2:(r.plain.whole=6∧Row.key "string" ∈ rs.map Row.plain)∨(r.plain.whole=7∧Row.key "number" ∈ rs.map Row.plain)
 ·have g3:decide (∃ m∈S,(m:Int)=r.plain.whole)=true:=decide_eq_true (m2.mpr f2)
  have g2:fitB r.plain (rs.map Row.plain)=true:=decide_eq_true (.inr f2)
  rw [g2] at fin ⊢
  clear kk1 kk2 m1 mi m2 f1 f2 g2 e4
  fail "r"
  exact fin
 have g3:decide (∃ m∈S,(m:Int)=r.plain.whole)=false:=decide_eq_false (fun q=>f2 (m2.mp q))
 have g2:fitB r.plain (rs.map Row.plain)=false:=decide_eq_false (fun q=>q.elim f1 f2)
 rw [g2] at fin ⊢
 clear kk1 kk2 m1 mi m2 f1 f2 g2
 have c4:((w:Int)==4)=decide (w=4):=ibeq w 4
 by_cases f4:w=4
 ·have g4:decide (w=4)=true:=decide_eq_true f4
  clear f4
  fail "r"
  exact fin
 ·have g4:decide (w=4)=false:=decide_eq_false f4
  clear f4
  fail "r"
  exact fin
end
structure Host (σ:St) (η τ:Nat):Prop where
 at_:σ[η]?=some (.inst "RefHost" (hostFs τ))
theorem Host.fix {σ σ':St} {η τ:Nat} {T b} (h:Host σ η τ) (t:Tab σ τ T b) (x:Fix τ σ σ'):Host σ' η τ:=by
 refine ⟨x.at h.at_ ?_ ?_⟩
 ·rintro rfl;have:=h.at_;rw [t.rows] at this;cases this
 ·rintro rfl;have:=h.at_;rw [t.index] at this;cases this
section
variable {n τ b η:Nat} {σ σ':St} {T:List Row} {v:V}
theorem force_eq:Is 1 (mrc 84 "force") [.loc η,v] σ (v,σ):=by
 apply does_is;refine enterH ?_;fail "r"
theorem bound_eq:Is 1 (mrc 84 "bound") [.loc η,v] σ (v,σ):=by
 apply does_is;refine enterH ?_;fail "r"
structure DeclAt (σ:St) (τ d u:Nat):Prop where
 ex:∃ D dl fs,σ[τ+3]?=some (.list D)∧D.length≤lid∧D[d]?=some (.loc dl)∧σ[dl]?=some (.inst "Decl" fs)∧fs.lookup (Str.ofString "body")=some (.int (u:Nat))∧fs.lookup (Str.ofString "bases")=some (.tup [])
noncomputable def ShapeAt (σ:St) (τ:Nat) (T:List Row) (t u:Nat):Prop:=(t=u∧∃ ps s d f,T[t]?=some (.obj ps s d f))∨(∃ d,T[t]?=some (.ref d)∧DeclAt σ τ d u∧∃ ps s d f,T[u]?=some (.obj ps s d f))
theorem DeclAt.fix {d u:Nat} (x:DeclAt σ τ d u) (t:Tab σ τ T b) (f:Fix τ σ σ'):DeclAt σ' τ d u:=by
 obtain ⟨D,dl,fs,h1,h2,h3,h4,h5,h6⟩:=x.ex
 refine ⟨D,dl,fs,f.at h1 (by fail "a") (by fail "a"),h2,h3,f.at h4 ?_ ?_,h5,h6⟩
 ·rintro rfl;rw [t.rows] at h4;cases h4
 ·rintro rfl;rw [t.index] at h4;cases h4
theorem ShapeAt.fix {t u:Nat} {T':List Row} (x:ShapeAt σ τ T t u) (h:Tab σ τ T b) (f:Fix τ σ σ') (p:T <+: T'):ShapeAt σ' τ T' t u:=by
 rcases x with ⟨a,ps,s,d,g,e⟩ | ⟨d,a,c,ps,s,d',g,e⟩
 ·exact .inl ⟨a,ps,s,d,g,pre_at p e⟩
 ·exact .inr ⟨d,pre_at p a,c.fix h f,ps,s,d',g,pre_at p e⟩
theorem plain_shape_eq {t u:Nat} (h:Tab σ τ T b) (x:ShapeAt σ τ T t u):Is 3 (rc 79) [.loc τ,.int t] σ (.int (u:Nat),σ):=by
 apply does_is
 have h1:=h.inst
 refine enterH ?_
 fail "r"
 refine for_ruleO [("tab",.loc τ)] (fun rest vars σ'=>σ'=σ∧((vars "t" = some (.int (t:Nat))∧2≤rest.length)∨(vars "t" = some (.int (u:Nat))∧(∃ ps s d f,T[u]?=some (.obj ps s d f))∧1≤rest.length))) ?_ ?_ _ _ _ rfl ?_
 ·rintro R hR y rest vars σ' ⟨rfl,hv⟩
  have neg:∀ w:Nat,decide ((w:Int) < 0)=false:=fun w=>decide_eq_false (by fail "a")
  rcases hv with ⟨v2,hl⟩ | ⟨v2,⟨ps,s,d,f,e⟩,hl⟩
  ·have v2:vars "t" = some (.int (t:Nat)):=v2
   obtain ⟨vars,rfl⟩:=pin v2
   rcases x with ⟨rfl,ps,s,d,f,e⟩ | ⟨d,a,c,ps,s,d',f,e⟩
   ·have h2:=h.row e
    have n1:=neg t
    fail "r"
   ·have h2:=h.row a
    have n1:=neg t
    obtain ⟨D,dl,fs,c1,c2,c3,c4,c5,c6⟩:=c.ex
    have c7:subV σ' (.loc (τ+3)) (.int (d:Nat))=some (.loc dl):=sub_loc c1 c3 (Nat.le_trans c2 (Nat.le_of_lt lid_cap))
    fail "r"
    refine lp (by kernel_rfl) ⟨rfl,.inr ⟨rfl,⟨ps,s,d',f,e⟩,by simp at hl;fail "a"⟩⟩
  ·have v2:vars "t" = some (.int (u:Nat)):=v2
   obtain ⟨vars,rfl⟩:=pin v2
   have h2:=h.row e
   have n1:=neg u
   fail "r"
 ·rintro R hR vars σ' ⟨_,hv⟩
  rcases hv with ⟨_,hv⟩ | ⟨_,_,hv⟩<;>(simp at hv)
 ·exact ⟨rfl,.inl ⟨rfl,by simp⟩⟩
end
section
variable {n τ b η:Nat} {σ σ':St} {T:List Row} {v:V}
theorem host_shape_eq {t u:Nat} (h:Tab σ τ T b) (H:Host σ η τ) (x:ShapeAt σ τ T t u):Is 4 (mrc 85 "shape") [.loc η,.int t] σ (.int (u:Nat),σ):=by
 apply does_is
 have h0:=H.at_
 have e:=plain_shape_eq h x
 refine enterH ?_
 fail "r"
noncomputable def findP (ps:List Prp) (nm:Str):V:=match ps.find? (fun p=>p.name==nm) with | some p=>encP p | none=>.none
theorem find_prop_eq {ps:List Prp} {s d:Option Nat} {f:Nat} {nm:Str}:Is 1 (rc 89) [(Row.obj ps s d f).enc,.str nm] σ (findP ps nm,σ):=by
 apply does_is
 have h1:subV σ (Row.obj ps s d f).enc (.int 1)=some (.tup (ps.map encP)):=rfl
 fail "r"
 refine for_ruleO [("name",.str nm)] (fun rest I σ'=>σ'=σ∧∃ qs:List Prp,rest=qs.map encP∧findP qs nm=findP ps nm) ?_ ?_ _ _ _ rfl ?_
 ·rintro R hR y rest vars σ' ⟨rfl,qs,hr,hf⟩
  cases qs with
  | nil=>cases hr
  | cons q qs =>
  cases hr
  by_cases e:q.name=nm
  ·have e':(q.name==nm)=true:=beq_iff_eq.mpr e
   have g:findP (q::qs) nm=encP q:=by simp only [findP,List.find?_cons,e']
   fail "r"
   rw [← hf,g]
  ·have e':(q.name==nm)=false:=beq_eq_false_iff_ne.mpr e
   have g:findP (q::qs) nm=findP qs nm:=by simp only [findP,List.find?_cons,e']
   fail "r"
   exact lp (same_tup _) ⟨rfl,qs,rfl,by rw [← hf,g]⟩
 ·rintro R hR vars σ' ⟨rfl,qs,hr,hf⟩
  cases qs with
  | cons _ _=>cases hr
  | nil =>
  fail "r"
  rw [← hf];rfl
 ·exact ⟨rfl,ps,rfl,rfl⟩
theorem prop_row_eq {t u:Nat} {ps:List Prp} {s d:Option Nat} {f:Nat} {nm:Str} (h:Tab σ τ T b) (H:Host σ η τ) (x:ShapeAt σ τ T t u) (hu:T[u]?=some (.obj ps s d f)):Is 5 (rc 93) [.loc η,.int t,.str nm] σ (findP ps nm,σ):=by
 apply does_is
 have h0:=H.at_
 have h1:=h.inst
 have e1:=fun v=>force_eq (η:=η) (σ:=σ) (v:=v)
 have e2:=host_shape_eq h H x
 have e3:=find_prop_eq (σ:=σ) (ps:=ps) (s:=s) (d:=d) (f:=f) (nm:=nm)
 have h2:=h.row hu
 have fin:∀ p,findP ps nm=p→(p=.none∨∃ q:Prp,q.name=nm∧p=encP q):=fun p e=>by
  subst e;unfold findP
  cases hq:ps.find? (fun p=>p.name==nm) with
  | none=>exact .inl rfl
  | some q=>exact .inr ⟨q,by simpa using List.find?_some hq,rfl⟩
 have key:∀ r:Row,T[t]?=some r→(r.kind=8∨r.kind=9)→Does 5 (rc 93) [.loc η,.int t,.str nm] σ fun q=>q=(findP ps nm,σ):=by
  intro r hr hk
  have h3:=h.row hr
  have hs:=row_kind (σ:=σ) r
  have c11:((r.kind:Int)==11)=false:=by rw [Bool.eq_false_iff];intro q;have:=eq_of_beq q;fail "a"
  have c12:((r.kind:Int)==12)=false:=by rw [Bool.eq_false_iff];intro q;have:=eq_of_beq q;fail "a"
  rcases fin _ rfl with e | ⟨q,hq,e⟩
  ·rw [e] at e3 ⊢
   have i1:cmpV σ .Is .none .none=some true:=rfl
   fail "r"
  ·rw [e] at e3 ⊢
   have i1:cmpV σ .Is (encP q) .none=some false:=rfl
   have i2:subV σ (encP q) (.int 1)=some (.int (q.kind:Nat)):=rfl
   have i3:subV σ (encP q) (.int 2)=some (.int (q.flag:Nat)):=rfl
   have i4:subV σ (encP q) (.int 3)=some (.int 0):=rfl
   fail "r"
   rw [← hq];rfl
 rcases x with ⟨rfl,ps',s',d',f',e⟩ | ⟨d',a,c,_⟩
 ·exact key _ e (.inl rfl)
 ·exact key _ a (.inr rfl)
theorem eq_encO (o:Option Nat):eqV σ (encO o) (.tup [])=some o.isNone:=by cases o<;>rfl
theorem index_of_eq {t u:Nat} {ps:List Prp} {s d:Option Nat} {f:Nat} {num:Bool} (h:Tab σ τ T b) (H:Host σ η τ) (x:ShapeAt σ τ T t u) (hu:T[u]?=some (.obj ps s d f)):Is 5 (rc 100) [.loc η,.int t,.int (if num then 1 else 0)] σ (encO (if num then d else s),σ):=by
 apply does_is
 have h0:=H.at_
 have h1:=h.inst
 have e1:=fun v=>force_eq (η:=η) (σ:=σ) (v:=v)
 have e2:=host_shape_eq h H x
 have h2:=h.row hu
 have key:∀ r:Row,T[t]?=some r→(r.kind=8∨r.kind=9)→Does 5 (rc 100) [.loc η,.int t,.int (if num then 1 else 0)] σ fun q=>q=(encO (if num then d else s),σ):=by
  intro r hr hk
  have h3:=h.row hr
  have hs:=row_kind (σ:=σ) r
  have c6:((r.kind:Int)==6)=false:=by rw [Bool.eq_false_iff];intro q;have:=eq_of_beq q;fail "a"
  have c11:((r.kind:Int)==11)=false:=by rw [Bool.eq_false_iff];intro q;have:=eq_of_beq q;fail "a"
  have c12:((r.kind:Int)==12)=false:=by rw [Bool.eq_false_iff];intro q;have:=eq_of_beq q;fail "a"
  have i5:subV σ (Row.obj ps s d f).enc (.int 5)=some (encO d):=rfl
  have i4:subV σ (Row.obj ps s d f).enc (.int 4)=some (encO s):=rfl
  have cell:∀ (o:Option Nat),encO o=.tup []∨∃ k:Nat,encO o=.tup [.int k,.int 0]∧o=some k:=fun o=>by cases o with | none=>exact .inl rfl | some k=>exact .inr ⟨k,rfl,rfl⟩
  have q1:∀ k:Nat,eqV σ (.tup [.int k,.int 0]) (.tup [])=some false:=fun k=>eq_encO (some k)
  have q2:eqV σ (.tup []) (.tup [])=some true:=eq_encO none
  have q3:∀ k:Nat,subV σ (.tup [.int k,.int 0]) (.int 0)=some (.int k):=fun k=>rfl
  have q4:∀ k:Nat,subV σ (.tup [.int k,.int 0]) (.int 1)=some (.int 0):=fun k=>rfl
  cases num with
  | false =>
   simp only [Bool.false_eq_true,if_false]
   rcases cell s with e | ⟨k,e,-⟩<;>rw [e] at i4 ⊢<;>fail "r"
  | true =>
   simp only [if_true]
   rcases cell d with e | ⟨k,e,-⟩<;>rw [e] at i5 ⊢<;>fail "r"
 rcases x with ⟨rfl,ps',s',d',f',e⟩ | ⟨d',a,c,_⟩
 ·exact key _ e (.inl rfl)
 ·exact key _ a (.inr rfl)
noncomputable def isNum (nm:Str):Bool:=nm == "0"
theorem dig_0:Is 1 (rc 90) [.str "0"] σ (.bool true,σ):=does_is (by fail "r";refine comp_cG (x:=.str "0") (l:=[]) ?_;fail "r")
theorem num_0:Is 2 (rc 92) [.str "0"] σ (.bool true,σ):=does_is (by have d:=dig_0 (σ:=σ);fail "r")
end
section
variable {n τ b η:Nat} {σ σ':St} {T:List Row} {v:V}
theorem dig_k:Is 1 (rc 90) [.str "k"] σ (.bool false,σ):=does_is (by fail "r";refine comp_cG (x:=.str "k") (l:=[]) ?_;fail "r")
theorem num_k:Is 2 (rc 92) [.str "k"] σ (.bool false,σ):=does_is (by have d:=dig_k (σ:=σ);fail "r")
theorem dig_p:Is 1 (rc 90) [.str "p"] σ (.bool false,σ):=does_is (by fail "r";refine comp_cG (x:=.str "p") (l:=[]) ?_;fail "r")
theorem num_p:Is 2 (rc 92) [.str "p"] σ (.bool false,σ):=does_is (by have d:=dig_p (σ:=σ);fail "r")
theorem dig_q:Is 1 (rc 90) [.str "q"] σ (.bool false,σ):=does_is (by fail "r";refine comp_cG (x:=.str "q") (l:=[]) ?_;fail "r")
theorem num_q:Is 2 (rc 92) [.str "q"] σ (.bool false,σ):=does_is (by have d:=dig_q (σ:=σ);fail "r")
theorem final_parts_spec {t:Nat} {r:Row} (h:Tab σ τ T b) (H:Host σ η τ) (ht:T[t]?=some r) (hk:r.kind=8∨r.kind=9) :
  Does 2 (rc 78) [.loc η,.int t] σ fun q=>∃ k,q.1=.loc k∧Ext σ q.2∧σ.length≤k∧q.2[k]?=some (.list [.int (t:Nat)]):=by
 have hsg:∀ σ',Ext σ σ'→σ'[η]?=some (.inst "RefHost" (hostFs τ)):=fun σ' x=>x.at H.at_
 have c6:((r.kind:Int)==6)=false:=(ibeq r.kind 6).trans (decide_eq_false (by fail "a"))
 have c11:∀ σ',inV σ' (.int (r.kind:Int)) (.tup [.int 11,.int 12])=some false:=fun σ'=>by rcases hk with e | e<;>rw [e]<;>rfl
 have ceq:∀ σ',eqV σ' (.tup [.int (t:Nat)]) (.tup [.int (t:Nat)])=some true:=fun σ'=>(pure_eq rfl rfl).trans (congrArg some ((V.eqb_iff _ _).mpr rfl))
 have e1:=fun σ v=>force_eq (η:=η) (σ:=σ) (v:=v)
 have e2:=fun σ v=>bound_eq (η:=η) (σ:=σ) (v:=v)
 have h0:=H.at_
 have gl:[V.int (t:Int)].getLast?=some (.int (t:Int)):=rfl
 fail "r"
 have hx3:Ext σ (σ++[Ob.list []]++[Ob.dict []]++[Ob.list [V.int (t:Int)]]):=((Ext.push _ _).trans (Ext.push _ _)).trans (Ext.push _ _)
 have f0:(σ++[Ob.list []]++[Ob.dict []]++[Ob.list [V.int (t:Int)]])[σ.length]?=some (.list []):=((Ext.push _ _).trans (Ext.push _ _)).at (push_at σ _)
 have f1:(σ++[Ob.list []]++[Ob.dict []]++[Ob.list [V.int (t:Int)]])[(σ++[Ob.list []]).length]?=some (.dict []):=(Ext.push _ _).at (push_at _ _)
 have f2:(σ++[Ob.list []]++[Ob.dict []]++[Ob.list [V.int (t:Int)]])[(σ++[Ob.list []]++[Ob.dict []]).length]?=some (.list [V.int (t:Int)]):=push_at _ _
 have k1:(σ++[Ob.list []]).length=σ.length+1:=by rw [List.length_append];rfl
 have k2:(σ++[Ob.list []]++[Ob.dict []]).length=σ.length+2:=by rw [List.length_append,k1];rfl
 generalize σ++[Ob.list []]++[Ob.dict []]++[Ob.list [V.int (t:Int)]]=s3 at *
 generalize (σ++[Ob.list []]++[Ob.dict []]).length=n2 at *
 generalize (σ++[Ob.list []]).length=n1 at *
 have g3:=hsg _ hx3
 fail "r"
 have hx4:Ext σ (s3.set n2 (.list [V.int (t:Int)].dropLast)):=hx3.set (by fail "a") _
 have g41:(s3.set n2 (.list [V.int (t:Int)].dropLast))[n1]?=some (.dict []):=set_other f1 (by fail "a")
 have g40:(s3.set n2 (.list [V.int (t:Int)].dropLast))[σ.length]?=some (.list []):=set_other f0 (by fail "a")
 have g42:(s3.set n2 (.list [V.int (t:Int)].dropLast))[n2]?=some (.list []):=set_self f2
 generalize s3.set n2 (.list [V.int (t:Int)].dropLast)=s4 at *
 have i4:inV s4 (.int (t:Int)) (.loc n1)=some false:=by rw [in_dict g41 rfl rfl];rfl
 fail "r"
 have hx5:=hx4.set (k:=n1) (by fail "a") (.dict (dictSetV [] (.int (t:Int)) (.int 1)))
 have g50:(s4.set n1 (.dict (dictSetV [] (.int (t:Int)) (.int 1))))[σ.length]?=some (.list []):=set_other g40 (by fail "a")
 have g52:(s4.set n1 (.dict (dictSetV [] (.int (t:Int)) (.int 1))))[n2]?=some (.list []):=set_other g42 (by fail "a")
 generalize s4.set n1 (.dict (dictSetV [] (.int (t:Int)) (.int 1)))=s5 at *
 have g5:=hsg _ hx5
 have g5t:=hx5.at h.inst
 have g5r:=(h.ext hx5).row ht
 have hK:=row_kind (σ:=s5) r
 have ce:=ceq s5
 fail "r"
 have t6:truthV (s5.set σ.length (.list ([]++[V.int (t:Int)]))) (.loc n2)=some false:=truth_loc (set_other g52 (by fail "a"))
 fail "r"
 exact ⟨_,rfl,hx5.set (Nat.le_refl _) _,Nat.le_refl _,set_self g50⟩
end
structure Nice (rs:List Row):Prop where
 len:rs.length≤6
 calm:CalmRows rs
 calmu:CalmRows (rs++[.key "undefined"])
 nfz:nfz rs
 any:Row.key "any" ∈ rs→rs=[.key "any"]
 err:Row.key "error" ∉ rs
 unk:Row.key "unknown" ∉ rs
theorem Nice.top {rs:List Row} (h:Nice rs):toppedR rs=rs:=by
 unfold toppedR
 split
 ·rename_i q;rw [h.any q]
 rw [if_neg h.err,if_neg h.unk]
noncomputable def optR (flag:Nat) (rs:List Row):List Row:=if flag=1 then toppedR (rs++[.key "undefined"]) else rs
noncomputable def RdOK (T:List Row) (ps:List Prp) (s d:Option Nat) (nm:Str) (res:Option (List Row)):Prop :=
 match ps.find? (fun p=>p.name==nm) with
 | some p=>∃ rs,KR T p.kind rs∧Nice rs∧p.flag≤1∧res=some (optR p.flag rs)
 | none=>match (if isNum nm=true∧d≠none then d else s) with
  | none=>res=none
  | some k=>∃ rs,KR T k rs∧Nice rs∧res=some rs
set_option tactic.hygienic true in
theorem RdOK.mono {T T':List Row} (h:T <+: T') {ps s d nm res} (x:RdOK T ps s d nm res):RdOK T' ps s d nm res:=by
 unfold RdOK at *
 split
 ·rename_i p hp;rw [hp] at x;obtain ⟨rs,a,b⟩:=x;exact ⟨rs,a.mono h,b⟩
 ·rename_i hp;rw [hp] at x
  dsimp only at x ⊢
  split
  ·rename_i hd;rw [hd] at x;exact x
  ·rename_i k hd;rw [hd] at x;obtain ⟨rs,a,b⟩:=x;exact ⟨rs,a.mono h,b⟩
noncomputable def numOK (nm:Str):Prop:=∀ σ,Is 2 (rc 92) [.str nm] σ (.bool (isNum nm),σ)
noncomputable def IdR (v:V) (T:List Row) (res:Option (List Row)):Prop:=match res with | none=>v=.int (-1) | some rs=>∃ u,v=.int (u:Nat)∧KR T u rs
section
variable {n τ b η:Nat} {σ σ':St} {T:List Row} {v:V}
theorem hidden_spec {x:V} (hx:x=.none∨∃ p:Prp,p.flag≤1∧x=encP p):Does 1 (rc 77) [.lst [x]] σ fun q=>q.1=.bool false∧Ext σ q.2:=by
 have f1:(σ++[Ob.dict []])[σ.length]?=some (.dict []):=push_at _ _
 have hx2:Ext σ ((σ++[Ob.dict []]).set σ.length (.dict (dictSetV [] (.int 0) (.int 1)))):=(Ext.push _ _).set (Nat.le_refl _) _
 have l2:lenV ((σ++[Ob.dict []]).set σ.length (.dict (dictSetV [] (.int 0) (.int 1)))) (.loc σ.length)=some 1:=by unfold lenV;simp only [set_self f1];rfl
 rcases hx with rfl | ⟨⟨pn,pk,pf⟩,hp,rfl⟩
 ·fail "r"
  exact ⟨rfl,hx2⟩
 ·have:pf=0∨pf=1:=by dsimp only at hp;fail "a"
  rcases this with rfl | rfl<;>(fail "r";exact ⟨rfl,hx2⟩)
theorem read_type_spec {p:Prp} {rs:List Row} (h:Tab σ τ T (b+1)) (k:KR T p.kind rs) (N:Nice rs) (hf:p.flag≤1):Does 5 (rc 94) [.loc τ,encP p] σ (TPost τ σ T b fun v T'=>∃ u,v=.int (u:Nat)∧KR T' u (optR p.flag rs)):=by
 obtain ⟨pn,pk,pf⟩:=p
 have:pf=0∨pf=1:=by dsimp only at hf;fail "a"
 rcases this with rfl | rfl
 ·fail "r"
  exact ⟨T,List.prefix_refl _,h.less (Nat.le_succ _),Fix.refl _ _,pk,rfl,k⟩
 ·fail "r"
  refine Does.goC (add_undef_kr h k (Nat.le_succ_of_le N.len) N.calmu N.nfz) fun v σ2 hq=>?_
  fail "r"
  exact hq
theorem index_read_eq {t u:Nat} {ps:List Prp} {s d:Option Nat} {f:Nat} {nm:Str} (h:Tab σ τ T b) (H:Host σ η τ) (x:ShapeAt σ τ T t u) (hu:T[u]?=some (.obj ps s d f)) (hn:numOK nm) :
  Is 5 (rc 97) [.loc η,.int t,.str nm] σ (match (if isNum nm=true∧d≠none then d else s) with | none=>.int (-1) | some k=>.int (k:Nat),σ):=by
 apply does_is
 have h0:=H.at_
 have h1:=h.inst
 have e1:=fun v=>force_eq (η:=η) (σ:=σ) (v:=v)
 have e2:=host_shape_eq h H x
 have e3:=hn σ
 have h2:=h.row hu
 have key:∀ r:Row,T[t]?=some r→(r.kind=8∨r.kind=9)→Does 5 (rc 97) [.loc η,.int t,.str nm] σ fun q=>q=(match (if isNum nm=true∧d≠none then d else s) with | none=>.int (-1) | some k=>.int (k:Nat),σ):=by
  intro r hr hk
  have h3:=h.row hr
  have hs:=row_kind (σ:=σ) r
  have c11:((r.kind:Int)==11)=false:=(ibeq r.kind 11).trans (decide_eq_false (by fail "a"))
  have c12:((r.kind:Int)==12)=false:=(ibeq r.kind 12).trans (decide_eq_false (by fail "a"))
  have i5:subV σ (Row.obj ps s d f).enc (.int 5)=some (encO d):=rfl
  have i4:subV σ (Row.obj ps s d f).enc (.int 4)=some (encO s):=rfl
  have q1:∀ k:Nat,eqV σ (.tup [.int k,.int 0]) (.tup [])=some false:=fun k=>eq_encO (some k)
  have q2:eqV σ (.tup []) (.tup [])=some true:=eq_encO none
  have q5:∀ k:Nat,cmpV σ .NotEq (.tup [.int k,.int 0]) (.tup [])=some true:=fun k=>rfl
  have q6:cmpV σ .NotEq (.tup []) (.tup [])=some false:=rfl
  have q3:∀ k:Nat,subV σ (.tup [.int k,.int 0]) (.int 0)=some (.int k):=fun k=>rfl
  cases hi:isNum nm with
  | false =>
   rw [hi] at e3
   cases s with
   | none=>rw [show encO none=V.tup [] from rfl] at i4;fail "r"
   | some k=>rw [show encO (some k)=V.tup [.int k,.int 0] from rfl] at i4;fail "r"
  | true =>
   rw [hi] at e3
   cases d with
   | none =>
    rw [show encO none=V.tup [] from rfl] at i5
    cases s with
    | none=>rw [show encO none=V.tup [] from rfl] at i4;fail "r"
    | some k=>rw [show encO (some k)=V.tup [.int k,.int 0] from rfl] at i4;fail "r"
   | some k=>rw [show encO (some k)=V.tup [.int k,.int 0] from rfl] at i5;fail "r"
 rcases x with ⟨rfl,ps',s',d',f',e⟩ | ⟨d',a,c,_⟩
 ·exact key _ e (.inl rfl)
 ·exact key _ a (.inr rfl)
theorem obj_ne {t u:Nat} (h:Tab σ τ T b) (x:ShapeAt σ τ T t u):t≠0∧t≠13∧t≠1∧t≠10∧t≠2∧∃ r,T[t]?=some r∧(r.kind=8∨r.kind=9):=by
 have:∃ r,T[t]?=some r∧(r.kind=8∨r.kind=9):=by
  rcases x with ⟨rfl,ps',s',d',f',e⟩ | ⟨d',a,c,_⟩
  ·exact ⟨_,e,.inl rfl⟩
  ·exact ⟨_,a,.inr rfl⟩
 obtain ⟨r,hr,hk⟩:=this
 have no:∀ (i:Nat) (q:Row),i < 16→first[i]?=some q→q.kind=1→t≠i:=fun i q h1 h2 h3 e=>by
  subst e;rw [h.first h1,h2] at hr;cases hr;fail "a"
 exact ⟨no 0 _ (by decide) rfl rfl,no 13 _ (by decide) rfl rfl,no 1 _ (by decide) rfl rfl,no 10 _ (by decide) rfl rfl,no 2 _ (by decide) rfl rfl,r,hr,hk⟩
theorem part_type_spec {t u:Nat} {ps:List Prp} {s d:Option Nat} {f:Nat} {nm:Str} {res:Option (List Row)} (h:Tab σ τ T (b+1)) (H:Host σ η τ) (x:ShapeAt σ τ T t u) (hu:T[u]?=some (.obj ps s d f)) (hn:numOK nm) (hr:RdOK T ps s d nm res) :
  Does 6 (rc 98) [.loc η,.int t,findP ps nm,.str nm] σ (TPost τ σ T b fun v T'=>IdR v T' res):=by
 have h0:=H.at_
 obtain ⟨t0,t13,_⟩:=obj_ne h x
 have c0:((t:Int)==0)=false:=(ibeq t 0).trans (decide_eq_false (by fail "a"))
 have c13:((t:Int)==13)=false:=(ibeq t 13).trans (decide_eq_false (by fail "a"))
 have e1:=index_read_eq h H x hu hn
 refine enterH ?_
 unfold RdOK at hr
 unfold findP
 cases hp:ps.find? (fun p=>p.name==nm) with
 | some p =>
  rw [hp] at hr
  obtain ⟨rs,k,N,hf,rfl⟩:=hr
  have i1:cmpV σ .Is (encP p) .none=some false:=rfl
  clear e1
  fail "r"
  refine Does.goC (read_type_spec h k N hf) fun v σ2 hq=>?_
  fail "r"
  exact hq
 | none =>
  rw [hp] at hr
  dsimp only at hr
  have i1:cmpV σ .Is .none .none=some true:=rfl
  cases hd:(if isNum nm=true∧d≠none then d else s) with
  | none =>
   rw [hd] at hr e1
   dsimp only at hr
   subst hr
   clear hd hp
   fail "r"
   exact ⟨T,List.prefix_refl _,h.less (Nat.le_succ _),Fix.refl _ _,rfl⟩
  | some k =>
   rw [hd] at hr e1
   obtain ⟨rs,a,N,rfl⟩:=hr
   clear hd hp
   fail "r"
   exact ⟨T,List.prefix_refl _,h.less (Nat.le_succ _),Fix.refl _ _,k,rfl,a⟩
end
theorem nice_opt {rs:List Row} {f:Nat} (N:Nice rs):toppedR (optR f rs)=optR f rs∧CalmRows (optR f rs)∧(optR f rs).length≤7∧nfz (optR f rs):=by
 unfold optR
 split
 ·by_cases ha:Row.key "any" ∈ rs
  ·have e:toppedR (rs++[.key "undefined"])=[.key "any"]:=by unfold toppedR;rw [if_pos (by simp [ha])]
   rw [e]
   exact ⟨topped_one _,calm_one rfl,by simp,by unfold nfz;simp⟩
  ·have hn:∀ s:Str,(s = "any" ∨ s = "error" ∨ s = "unknown")→Row.key s∉rs++[.key "undefined"]:=by
    intro s hs hm
    rw [List.mem_append,List.mem_singleton] at hm
    rcases hm with hm | hm
    ·rcases hs with rfl | rfl | rfl
     ·exact ha hm
     ·exact N.err hm
     ·exact N.unk hm
    ·rcases hs with rfl | rfl | rfl<;>exact absurd (Row.key.inj hm) (by decide)
   have e:toppedR (rs++[.key "undefined"])=rs++[.key "undefined"]:=by
    unfold toppedR
    rw [if_neg (hn _ (.inl rfl)),if_neg (hn _ (.inr (.inl rfl))),if_neg (hn _ (.inr (.inr rfl)))]
   rw [e]
   have:=N.len
   exact ⟨e,N.calmu,by simp;fail "a",⟨by simp [N.nfz.1],by simp [N.nfz.2]⟩⟩
 ·exact ⟨N.top,N.calm,Nat.le_succ_of_le N.len,N.nfz⟩
theorem rd_nice {T:List Row} {ps s d nm rs} (x:RdOK T ps s d nm (some rs)):toppedR rs=rs∧CalmRows rs∧rs.length≤7∧nfz rs:=by
 unfold RdOK at x
 split at x
 ·obtain ⟨q,_,N,_,e⟩:=x
  cases e;exact nice_opt N
 ·split at x
  ·cases x
  ·obtain ⟨q,_,N,e⟩:=x
   cases e;exact nice_opt (f:=0) N
section
variable {n τ b η:Nat} {σ σ':St} {T:List Row} {v:V}
theorem in_lst1 (a c:Int):inV σ (.int a) (.lst [.int c])=some (c==a):=by
 unfold inV
 rw [if_pos (show (V.int a).pure=true from rfl)]
 show (if V.pures [V.int c]=true then some ([V.int c].any (·.eqb (.int a))) else none)=_
 rw [if_pos (show V.pures [V.int c]=true from rfl)]
 exact congrArg some (Bool.or_false _)
theorem loop_rng1:loopOf σ (.rng 1)=some [.int 0]:=rfl
theorem isD_rng (i:Int):isD σ (.rng i)=false:=rfl
theorem same_rng1:sameItems σ (.rng 1) false [.int 0]=true:=by
 unfold sameItems;rw [isD_rng,loop_rng1];simp [(V.eqbs_iff _ _).mpr rfl]
theorem prop_type_spec {t u:Nat} {ps:List Prp} {s d:Option Nat} {f:Nat} {nm:Str} {res:Option (List Row)} (h:Tab σ τ T (b+2)) (H:Host σ η τ) (x:ShapeAt σ τ T t u) (hu:T[u]?=some (.obj ps s d f)) (hn:numOK nm) (hr:RdOK T ps s d nm res) :
  Does 7 (rc 99) [.loc η,.int t,.str nm] σ (TPost τ σ T b fun v T'=>IdR v T' res):=by
 obtain ⟨t0,t13,_,_,_,r,htr,hk⟩:=obj_ne h x
 refine enterH ?_
 fail "r"
 refine Does.goP (final_parts_spec h H htr hk) ?_
 rintro R hR v σ1 ⟨k,rfl,hx1,hk1,hl1⟩
 dsimp only at hx1 hl1
 have hT1:=h.ext hx1
 have H1:Host σ1 η τ:=⟨hx1.at H.at_⟩
 have x1:ShapeAt σ1 τ T t u:=x.fix h (hx1.fix τ) (List.prefix_refl _)
 have h0:=H1.at_
 have h1:=hT1.inst
 have e1:=fun v=>force_eq (η:=η) (σ:=σ1) (v:=v)
 have e2:=fun v=>bound_eq (η:=η) (σ:=σ1) (v:=v)
 have e3:=prop_row_eq (nm:=nm) hT1 H1 x1 hu
 have l1:=loop_loc hl1
 have l2:=isD_loc hl1
 have l3:=same_loc hl1
 have c1:inV σ1 (.int (t:Nat)) (.tup [.int 0,.int 13])=some false:=by
  rw [in_ints (by rfl)]
  congr 1
  rw [Bool.eq_false_iff]
  intro q
  obtain ⟨y,hy,e⟩:=List.any_eq_true.mp q
  have e:=(V.eqb_iff _ _).mp e
  subst e
  simp at hy
  fail "a"
 have r4:=fun σ=>same_rng1 (σ:=σ)
 have s1:subV σ1 (.lst [.int (t:Nat)]) (.int 0)=some (.int (t:Nat)):=rfl
 have s2:subV σ1 (.lst [findP ps nm]) (.int 0)=some (findP ps nm):=rfl
 have r1:loopD σ1 (.rng ([V.int (t:Int)].length:Nat))=some (false,[.int 0]):=rfl
 fail "r"
 refine Does.goP (part_type_spec (b:=b+1) hT1 H1 x1 hu hn hr) ?_
 rintro R hR v σ2 ⟨T2,p1,p2,p3,hv⟩
 dsimp only at p2 p3 hv
 have H2:=H1.fix hT1 p3
 have g0:=H2.at_
 have i1:=fun a c=>in_lst1 (σ:=σ2) a c
 have fx2:Fix τ σ σ2:=(hx1.fix τ).trans p3
 cases res with
 | none =>
  have hv:v=.int (-1):=hv
  subst hv
  fail "r"
  exact ⟨T2,p1,p2.less (Nat.le_succ _),fx2,rfl⟩
 | some rs =>
  obtain ⟨w,rfl,kw⟩:=hv
  obtain ⟨n1,n2,n3,n4⟩:=rd_nice (hr.mono p1)
  have c2:((w:Int)==-1)=false:=by rw [Bool.eq_false_iff];intro q;have:=eq_of_beq q;fail "a"
  have hfp:findP ps nm=.none∨∃ p:Prp,p.flag≤1∧findP ps nm=encP p:=by
   unfold RdOK at hr
   unfold findP
   split at hr
   ·rename_i p hp;obtain ⟨_,_,_,hf,_⟩:=hr;(try rw [hp]);exact .inr ⟨p,hf,rfl⟩
   ·rename_i hp;(try rw [hp]);exact .inl rfl
  fail "r"
  refine Does.goP (hidden_spec hfp) ?_
  rintro R hR v σ3 ⟨hv3,hx3⟩
  dsimp only at hv3 hx3
  subst hv3
  have hT3:=p2.ext hx3
  have g3:=hx3.at g0
  fail "r"
  refine Does.goI (union_krp (ps:=[(w,rs)]) hT3 (.inl rfl) (by intro p hp;simp at hp;subst hp;exact kw) (by intro p hp;simp at hp;subst hp;exact n3) (by simp) (by simpa using n2) (by simpa [nfz] using n4)) fun T4 z σ4 q1 q2 q3 kz=>?_
  fail "r"
  refine ⟨T4,p1.trans q1,q2,fx2.trans ((hx3.fix τ).trans q3),z,rfl,?_⟩
  have:([(w,rs)]:List (Nat×List Row)).flatMap (·.2)=rs:=by simp
  rw [this,n1] at kz
  exact kz
end
noncomputable def okName (nm:Str):Prop:=nm = "0" ∨ nm = "k" ∨ nm = "p" ∨ nm = "q"
theorem okName.num {nm:Str} (h:okName nm):numOK nm:=by
 intro σ
 rcases h with rfl | rfl | rfl | rfl
 ·exact num_0
 ·exact num_k
 ·exact num_p
 ·exact num_q
structure ObjAt (σ:St) (τ:Nat) (T:List Row) (t:Nat) (rd:Str→Option (List Row)):Prop where
 ex:∃ u ps s d f,ShapeAt σ τ T t u∧T[u]?=some (.obj ps s d f)∧ps≠[]∧∀ nm,okName nm→RdOK T ps s d nm (rd nm)
theorem ObjAt.fix {σ σ':St} {τ b t:Nat} {T T':List Row} {rd} (x:ObjAt σ τ T t rd) (h:Tab σ τ T b) (f:Fix τ σ σ') (p:T <+: T'):ObjAt σ' τ T' t rd:=by
 obtain ⟨u,ps,s,d,g,a,b',c,e⟩:=x.ex
 exact ⟨u,ps,s,d,g,a.fix h f p,pre_at p b',c,fun nm hn=>(e nm hn).mono p⟩
theorem kr_inj {T:List Row} (nd:T.Nodup) {a b:Nat} {rs:List Row} (x:KR T a rs) (y:KR T b rs):a=b:=by
 obtain ⟨S,k1,k2,k3⟩:=x
 obtain ⟨S',q1,q2,q3⟩:=y
 have e:S=S':=by
  refine sorted_ext k1.sorted q1.sorted fun x=>⟨fun hx=>?_,fun hx=>?_⟩
  ·obtain ⟨r,h1,h2⟩:=k2 x hx
   obtain ⟨y,h3,h4⟩:=q3 r h1
   rw [nodup_at nd h2 h4];exact h3
  ·obtain ⟨r,h1,h2⟩:=q2 x hx
   obtain ⟨y,h3,h4⟩:=k3 r h1
   rw [nodup_at nd h2 h4];exact h3
 subst e
 rcases k1.at_ with ⟨a1,a2⟩ | a1 | ⟨a1,a2,a3⟩<;>rcases q1.at_ with ⟨b1,b2⟩ | b1 | ⟨b1,b2,b3⟩
 ·rw [a1,b1]
 ·rw [a2] at b1;cases b1
 ·rw [a2] at b3;simp at b3
 ·rw [b2] at a1;cases a1
 ·rw [a1] at b1;simpa using b1
 ·rw [a1] at b3;simp at b3
 ·rw [b2] at a3;simp at a3
 ·rw [b1] at a3;simp at a3
 ·exact nodup_at nd a1 b1
section
variable {n τ b η:Nat} {σ σ':St} {T:List Row} {v:V}
theorem shaped_in (k:Nat):inV σ (.int (k:Int)) (.tup [.int 8,.int 9])=some (decide (k=8∨k=9)):=by
 rw [in_ints (by rfl)]
 congr 1
 rw [Bool.eq_iff_iff,decide_eq_true_iff,List.any_eq_true]
 constructor
 ·rintro ⟨x,hx,e⟩
  have e:=(V.eqb_iff _ _).mp e
  subst e
  simp at hx;fail "a"
 ·intro h
  refine ⟨.int k,?_,(V.eqb_iff _ _).mpr rfl⟩
  rcases h with e | e<;>simp [e]
theorem takers_in (t:Nat):inV σ (.int (t:Int)) (.tup [.int 0,.int 1,.int 13,.int 10])=some (decide (t=0∨t=1∨t=13∨t=10)):=by
 rw [in_ints (by rfl)]
 congr 1
 rw [Bool.eq_iff_iff,decide_eq_true_iff,List.any_eq_true]
 constructor
 ·rintro ⟨x,hx,e⟩
  have e:=(V.eqb_iff _ _).mp e
  subst e
  simp at hx;fail "a"
 ·intro h
  refine ⟨.int t,?_,(V.eqb_iff _ _).mpr rfl⟩
  rcases h with e | e | e | e<;>simp [e]
theorem takes_all_one {t:Nat} (h:t=0∨t=1∨t=13∨t=10):Is 5 (rc 108) [.loc η,.int t] σ (.bool true,σ):=by
 apply does_is
 have c1:decide (t=0∨t=1∨t=13∨t=10)=true:=decide_eq_true h
 have c2:=takers_in (σ:=σ) t
 rw [c1] at c2
 refine enterH ?_
 fail "r"
theorem takes_all_plain {t:Nat} {r:Row} (h:Tab σ τ T b) (H:Host σ η τ) (ht:¬ (t=0∨t=1∨t=13∨t=10)) (hr:T[t]?=some r) (hk:r.kind≠8∧r.kind≠9):Is 5 (rc 108) [.loc η,.int t] σ (.bool false,σ):=by
 apply does_is
 have h0:=H.at_
 have h1:=h.inst
 have h2:=h.row hr
 have c1:decide (t=0∨t=1∨t=13∨t=10)=false:=decide_eq_false ht
 have c2:=takers_in (σ:=σ) t
 rw [c1] at c2
 have hs:=row_kind (σ:=σ) r
 have c7:((r.kind:Int)==7)=false:=by rw [Bool.eq_false_iff];intro q;have:=eq_of_beq q;have:r.kind=7:=(by fail "a");cases r<;>cases this
 have c8:=shaped_in (σ:=σ) r.kind
 rw [decide_eq_false (by fail "a")] at c8
 refine enterH ?_
 fail "r"
theorem takes_all_shape {t u:Nat} {ps:List Prp} {s d:Option Nat} {f:Nat} (h:Tab σ τ T b) (H:Host σ η τ) (x:ShapeAt σ τ T t u) (hu:T[u]?=some (.obj ps s d f)):Is 5 (rc 108) [.loc η,.int t] σ (.bool (ps.isEmpty&&s.isNone&&d.isNone),σ):=by
 apply does_is
 obtain ⟨t0,t13,t1,t10,_,r,hr,hk⟩:=obj_ne h x
 have h0:=H.at_
 have h1:=h.inst
 have h2:=h.row hr
 have h3:=h.row hu
 have e2:=host_shape_eq h H x
 have c1:decide (t=0∨t=1∨t=13∨t=10)=false:=decide_eq_false (by fail "a")
 have c2:=takers_in (σ:=σ) t
 rw [c1] at c2
 have hs:=row_kind (σ:=σ) r
 have c7:((r.kind:Int)==7)=false:=by rw [Bool.eq_false_iff];intro q;have:=eq_of_beq q;fail "a"
 have c8:=shaped_in (σ:=σ) r.kind
 rw [decide_eq_true hk] at c8
 have c9:sliceV σ (Row.obj ps s d f).enc (some 1) (some 6) none=some (.tup [.tup (ps.map encP),.tup [],.tup [],encO s,encO d]):=slice16 _ _ _ _ _ _ _
 have c10:eqV σ (.tup [.tup (ps.map encP),.tup [],.tup [],encO s,encO d]) (.tup [.tup [],.tup [],.tup [],.tup [],.tup []])=some (ps.isEmpty&&s.isNone&&d.isNone):=by
  have hp:(V.tup (ps.map encP)).pureN 5=true:=by
   show (ps.map encP).all (fun v=>v.pureN 4)=true
   rw [List.all_map]
   exact List.all_eq_true.mpr fun x I=>rfl
  have ho:∀ o,(encO o).pureN 5=true:=fun o=>by cases o<;>rfl
  rw [pure_eq (by show (List.all [V.tup (ps.map encP),.tup [],.tup [],encO s,encO d] fun v=>v.pureN 5)=true;simp only [List.all_cons,List.all_nil,hp,ho];rfl) (by rfl)]
  congr 1
  cases ps<;>cases s<;>cases d<;>rfl
 refine enterH ?_
 fail "r"
theorem knows_eq {t:Nat} {rd:Str→Option (List Row)} {nm:Str} (h:Tab σ τ T b) (H:Host σ η τ) (x:ObjAt σ τ T t rd) (hn:okName nm):Is 6 (rc 109) [.loc η,.int t,.str nm] σ (.bool (rd nm).isSome,σ):=by
 apply does_is
 obtain ⟨u,ps,s,d,f,a,hu,_,hr⟩:=x.ex
 have hr:=hr nm hn
 have e1:=prop_row_eq (nm:=nm) h H a hu
 have e2:=index_of_eq (num:=false) h H a hu
 have e3:=index_of_eq (num:=true) h H a hu
 simp only [Bool.false_eq_true,if_false,if_true] at e2 e3
 have e4:=hn.num σ
 have q5:∀ k:Nat,cmpV σ .NotEq (.tup [.int k,.int 0]) (.tup [])=some true:=fun k=>rfl
 have q6:cmpV σ .NotEq (.tup []) (.tup [])=some false:=rfl
 unfold RdOK at hr
 unfold findP at e1
 refine enterH ?_
 cases hp:ps.find? (fun p=>p.name==nm) with
 | some p =>
  rw [hp] at hr e1
  obtain ⟨rs,_,_,_,e⟩:=hr
  rw [e]
  have i1:cmpV σ .IsNot (encP p) .none=some true:=rfl
  clear e hp
  fail "r"
 | none =>
  rw [hp] at hr e1
  have i1:cmpV σ .IsNot .none .none=some false:=rfl
  dsimp only at hr e1
  clear hp
  cases s with
  | some k =>
   have hs:(rd nm).isSome=true:=by
    split at hr
    ·rename_i hd;split at hd
     ·rename_i q;exact absurd hd q.2
     ·cases hd
    ·obtain ⟨rs,_,_,e⟩:=hr;rw [e];rfl
   rw [hs]
   rw [show encO (some k)=V.tup [.int k,.int 0] from rfl] at e2
   clear hr hs
   fail "r"
  | none =>
   rw [show encO none=V.tup [] from rfl] at e2
   cases hi:isNum nm with
   | false =>
    rw [hi] at e4 hr
    have hs:(rd nm).isSome=false:=by
     simp only [Bool.false_eq_true,false_and,if_false] at hr
     rw [hr];rfl
    rw [hs]
    clear hr hs hi
    fail "r"
   | true =>
    rw [hi] at e4 hr
    cases d with
    | none =>
     rw [show encO none=V.tup [] from rfl] at e3
     have hs:(rd nm).isSome=false:=by simp at hr;rw [hr];rfl
     rw [hs]
     clear hr hs hi
     fail "r"
    | some k =>
     rw [show encO (some k)=V.tup [.int k,.int 0] from rfl] at e3
     have hs:(rd nm).isSome=true:=by
      simp at hr;obtain ⟨rs,_,_,e⟩:=hr;rw [e];rfl
     rw [hs]
     clear hr hs hi
     fail "r"
end
noncomputable def Row.unitR (r:Row):Bool:=r.unit||decide (r=.key "undefined")||decide (r=.key "null")
noncomputable def tagR (rs:List Row):Bool:=!rs.isEmpty&&(rs.all (fun r=>decide (r=.tpl))||rs.all Row.unitR)
section
variable {n τ b η:Nat} {σ σ':St} {T:List Row} {v:V}
theorem unit_row (h:Tab σ τ T b) {x:Nat} {r:Row} (hx:T[x]?=some r):unitB T x=r.unitR:=by
 unfold unitB Row.unitR
 rw [hx]
 have i4:x=4↔r=.key "undefined" := ⟨fun e=>by subst e;rw [h.first (by decide)] at hx;exact (Option.some.inj hx).symm,fun e=>row_id h (by decide) rfl (by rw [hx,e])⟩
 have i5:x=5↔r=.key "null" := ⟨fun e=>by subst e;rw [h.first (by decide)] at hx;exact (Option.some.inj hx).symm,fun e=>row_id h (by decide) rfl (by rw [hx,e])⟩
 dsimp only
 rw [Bool.eq_iff_iff]
 simp only [Bool.or_eq_true,decide_eq_true_iff,i4,i5]
 constructor
 ·rintro ((a | a) | a)
  ·exact .inl (.inr a)
  ·exact .inr a
  ·exact .inl (.inl a)
 ·rintro ((a | a) | a)
  ·exact .inr a
  ·exact .inl (.inl a)
  ·exact .inl (.inr a)
theorem tag_units (h:Tab σ τ T b) {t:Nat} {rs:List Row} {S:List Nat} (k:KIs T t S) (k2:∀ x∈S,∃ r∈rs,T[x]?=some r) (k3:∀ r∈rs,∃ x∈S,T[x]?=some r) (ht:T[t]?≠some .tpl):(!S.isEmpty&&S.all (unitB T))=tagR rs:=by
 unfold tagR
 have he:S.isEmpty=rs.isEmpty:=by
  cases S with
  | nil=>cases rs with
   | nil=>rfl
   | cons r rs=>obtain ⟨x,hx,_⟩:=k3 r (.head _);cases hx
  | cons x S=>cases rs with
   | nil=>obtain ⟨r,hr,_⟩:=k2 x (.head _);cases hr
   | cons r rs=>rfl
 have ha:S.all (unitB T)=rs.all Row.unitR:=by
  rw [Bool.eq_iff_iff,List.all_eq_true,List.all_eq_true]
  constructor
  ·intro q r hr
   obtain ⟨x,hx,e⟩:=k3 r hr
   rw [← unit_row h e];exact q x hx
  ·intro q x hx
   obtain ⟨r,hr,e⟩:=k2 x hx
   rw [unit_row h e];exact q r hr
 rw [he,ha]
 cases hr:rs.isEmpty with
 | true=>rfl
 | false =>
  have:rs.all (fun r=>decide (r=.tpl))=false:=by
   rw [Bool.eq_false_iff]
   intro q
   rw [List.all_eq_true] at q
   have hS:∀ x∈S,T[x]?=some .tpl:=fun x hx=>by
    obtain ⟨r,hr,e⟩:=k2 x hx
    rw [e,of_decide_eq_true (q r hr)]
   rcases k.at_ with ⟨_,e⟩ | e | ⟨_,_,e⟩
   ·rw [e] at he;rw [hr] at he;cases he
   ·exact ht (hS t (by rw [e];exact .head _))
   ·match S,e,k.sorted,hS with
    | a::c::S,_,hs,hS =>
     have:=nodup_at h.nd (hS a (.head _)) (hS c (.tail _ (.head _)))
     have:=(List.pairwise_cons.mp hs).1 c (.head _)
     fail "a"
  rw [this];rfl
theorem is_tag_eq {t:Nat} {rs:List Row} (h:Tab σ τ T b) (H:Host σ η τ) (k:KR T t rs):Is 4 (rc 110) [.loc η,.int t] σ (.bool (tagR rs),σ):=by
 apply does_is
 obtain ⟨S,k1,k2,k3⟩:=k
 have ⟨r,hr⟩:∃ r,T[t]?=some r:=by
  rcases k1.at_ with ⟨e,_⟩ | e | ⟨e,_,_⟩
  ·exact ⟨_,e▸h.never⟩
  ·obtain ⟨_,r,hr,_⟩:=k1.atoms t (by rw [e];exact .head _);exact ⟨r,hr⟩
  ·exact ⟨_,e⟩
 have h0:=H.at_
 have h1:=h.inst
 have h2:=h.row hr
 have hs:=row_kind (σ:=σ) r
 by_cases e:r=.tpl
 ·subst e
  have hS:S=[t]:=by
   rcases k1.at_ with ⟨e,_⟩ | e | ⟨e,_,_⟩
   ·rw [e,h.never] at hr;cases hr
   ·exact e
   ·rw [hr] at e;cases e
  have ht:tagR rs=true:=by
   unfold tagR
   have q:∀ r∈rs,r=.tpl:=fun r hr'=>by
    obtain ⟨x,hx,e⟩:=k3 r hr'
    rw [hS] at hx;simp at hx;subst hx
    rw [hr] at e;exact (Option.some.inj e).symm
   obtain ⟨r,hr',_⟩:=k2 t (by rw [hS];exact .head _)
   rw [show rs.isEmpty=false by cases rs<;>simp_all,show rs.all (fun r=>decide (r=.tpl))=true from List.all_eq_true.mpr fun r hr=>decide_eq_true (q r hr)]
   rfl
  rw [ht]
  have s2:subV σ Row.tpl.enc (.int 2)=some (.tup [.int 6]):=rfl
  have h6:subV σ (.loc (τ+1)) (.int 6)=some (Row.key "string").enc:=h.row (t:=6) ((h.first (t:=6) (by decide)).trans rfl)
  have s0:subV σ (Row.key "string").enc (.int 0)=some (.int 1):=rfl
  have s3:subV σ Row.tpl.enc (.int 0)=some (.int 18):=rfl
  have bl:bools σ (.lst [.bool true])=some [true]:=rfl
  clear hs
  refine enterH ?_
  fail "r"
 ·have c:((r.kind:Int)==18)=false:=by rw [Bool.eq_false_iff];intro q;have:=eq_of_beq q;have:r.kind=18:=(by fail "a");cases r<;>first | exact e rfl | cases this
  have e1:=all_units_eq h k1
  rw [tag_units h k1 k2 k3 (by rw [hr];exact fun q=>e (Option.some.inj q))] at e1
  clear k1 k2 k3 e
  refine enterH ?_
  fail "r"
end
noncomputable def sameR (rs qs:List Row):Bool:=rs.all (fun r=>decide (r∈qs))&&qs.all (fun r=>decide (r∈rs))
theorem sameR_iff {rs qs:List Row}:sameR rs qs=true↔∀ r,r∈rs↔r∈qs:=by
 unfold sameR
 simp only [Bool.and_eq_true,List.all_eq_true,decide_eq_true_iff]
 exact ⟨fun h r=>⟨h.1 r,h.2 r⟩,fun h=>⟨fun r hr=>(h r).mp hr,fun r hr=>(h r).mpr hr⟩⟩
noncomputable def apartL (l:List (List Row)):Bool:=l.any (fun a=>l.any fun c=>!sameR a c)&&l.any tagR
noncomputable def apartR (l:List (Option (List Row))):Bool:=apartL (l.filterMap id)
theorem Tab.set {σ τ T b} (h:Tab σ τ T b) {k:Nat} {o:Ob} (hk:τ+2 < k):Tab (σ.set k o) τ T b :=
 ⟨set_other h.inst (by fail "a"),set_other h.rows (by fail "a"),set_other h.index (by fail "a"),h.nd,h.sz,h.pre⟩
theorem Fix.set {τ:Nat} {σ σ':St} (x:Fix τ σ σ') {k:Nat} {o:Ob} (hk:σ.length≤k):Fix τ σ (σ'.set k o) :=
 ⟨fun i h h1 h2=>by rw [List.getElem?_set_ne (by fail "a")];exact x.low i h h1 h2,by rw [List.length_set];exact x.len⟩
theorem Tab.top {σ τ T b} (h:Tab σ τ T b):τ+2 < σ.length:=(List.getElem?_eq_some_iff.mp h.index).1
theorem two_nodup {M:List Nat} (h:M.Nodup):decide (1 < M.length)=M.any (fun a=>M.any fun c=>a != c):=by
 rw [Bool.eq_iff_iff,decide_eq_true_iff,List.any_eq_true]
 match M,h with
 | [],_=>simp
 | [x],_=>simp
 | x::y::M,h =>
  refine ⟨fun I=>⟨x,.head _,List.any_eq_true.mpr ⟨y,.tail _ (.head _),?_⟩⟩,fun I=>by simp⟩
  have:x≠y:=by simp at h;exact h.1.1
  simpa using this
section
variable {n τ b η:Nat} {σ σ':St} {T:List Row} {v:V}
theorem read_spec {t:Nat} {rd:Str→Option (List Row)} {nm:Str} (h:Tab σ τ T (b+2)) (H:Host σ η τ) (x:ObjAt σ τ T t rd) (hn:okName nm) :
  Does 7 (rc 99) [.loc η,.int t,.str nm] σ (TPost τ σ T b fun v T'=>IdR v T' (rd nm)):=by
 obtain ⟨u,ps,s,d,f,a,hu,_,hr⟩:=x.ex
 exact prop_type_spec h H a hu hn.num (hr nm hn)
theorem same_id {T:List Row} (nd:T.Nodup) {a c:Nat} {rs qs:List Row} (x:KR T a rs) (y:KR T c qs):sameR rs qs=(a==c):=by
 rw [Bool.eq_iff_iff,sameR_iff,beq_iff_eq]
 constructor
 ·intro q
  exact kr_inj nd (x.congr q) y
 ·intro e;subst e;exact x.same y
noncomputable def onInt (d:Bool) (f:Nat→Bool):V→Bool | .int i=>f i.toNat | _=>d
theorem apart_ids {T:List Row} (nd:T.Nodup) {M:List Nat} {L:List (List Row)} {tg:Nat→Bool} (h1:∀ m∈M,∃ rs∈L,KR T m rs) (h2:∀ rs∈L,∃ m∈M,KR T m rs) (ht:∀ m∈M,∀ rs,KR T m rs→tg m=tagR rs) :
  (M.any (fun a=>M.any fun c=>a != c)&&M.any tg)=apartL L:=by
 unfold apartL
 congr 1
 ·rw [Bool.eq_iff_iff]
  simp only [List.any_eq_true]
  constructor
  ·rintro ⟨a,ha,c,hc,q⟩
   obtain ⟨rs,hr,k⟩:=h1 a ha
   obtain ⟨qs,hq,k'⟩:=h1 c hc
   exact ⟨rs,hr,qs,hq,by rw [same_id nd k k'];exact q⟩
  ·rintro ⟨rs,hr,qs,hq,q⟩
   obtain ⟨a,ha,k⟩:=h2 rs hr
   obtain ⟨c,hc,k'⟩:=h2 qs hq
   rw [same_id nd k k'] at q
   exact ⟨a,ha,c,hc,q⟩
 ·rw [Bool.eq_iff_iff]
  simp only [List.any_eq_true]
  constructor
  ·rintro ⟨a,ha,q⟩
   obtain ⟨rs,hr,k⟩:=h1 a ha
   exact ⟨rs,hr,by rw [← ht a ha rs k];exact q⟩
  ·rintro ⟨rs,hr,q⟩
   obtain ⟨a,ha,k⟩:=h2 rs hr
   exact ⟨a,ha,by rw [ht a ha rs k];exact q⟩
theorem all_same {rs qs:List Row} (h:∀ r,r∈rs↔r∈qs) (p:Row→Bool):rs.all p=qs.all p:=Bool.eq_iff_iff.mpr (List.all_eq_true.trans (Iff.trans ⟨fun k r m=>k r ((h r).mpr m),fun k r m=>k r ((h r).mp m)⟩ List.all_eq_true.symm))
theorem tag_same {rs qs:List Row} (h:∀ r,r∈rs↔r∈qs):tagR rs=tagR qs:=by
 have e:∀ l:List Row,tagR l=(!(l.all fun I=>false)&&(l.all (fun r=>decide (r=.tpl))||l.all Row.unitR)):=fun l=>by cases l<;>rfl
 rw [e,e,all_same h,all_same h,all_same h]
theorem tells_spec {ts:List Nat} {rd:Nat→Str→Option (List Row)} {nm:Str} (h:Tab σ τ T (b+2 * ts.length)) (H:Host σ η τ) (x:∀ t∈ts,ObjAt σ τ T t (rd t)) (hn:okName nm) (hl:ts.length≤8) :
  Does 8 (rc 111) [.loc η,.lst (vints ts),.str nm] σ (TPost τ σ T b fun v T'=>v=.bool (apartR (ts.map fun t=>rd t nm))):=by
 have htop:=h.top
 refine enterH ?_
 fail "r"
 have H1:Host (σ++[Ob.dict []]) η τ:=⟨(Ext.push _ _).at H.at_⟩
 refine for_mapO [("host",.loc η),("name",.str nm),("kinds",.loc σ.length)] (fun tsr I σ'=>Ex3 fun pre M T'=>C9 (ts=pre++tsr) (Fix τ σ σ') (T <+: T') (Tab σ' τ T' (b+2 * tsr.length)) (σ'[σ.length]?=some (.dict (gotD M))) (M.Nodup) (M.length+tsr.length≤8) (∀ m∈M,∃ rs∈(pre.map fun t=>rd t nm).filterMap id,KR T' m rs) (∀ rs∈(pre.map fun t=>rd t nm).filterMap id,∃ m∈M,KR T' m rs)) ?_ ?_ _ _ _ rfl ?_
 ·rintro R hR t tsr vars σ' ⟨pre,M,T',hts,hx,p1,p2,hg,hM,hz,k1,k2⟩
  have H':=H.fix h hx
  have xt:=(x t (by rw [hts];simp)).fix h hx p1
  have ln:b+2 * (t::tsr).length=b+2 * tsr.length+2:=by first | exact (Nat.add_assoc _ _ _).symm | (simp only [List.length_cons];fail "a")
  rw [ln] at p2
  have hts:id (ts=(pre++[t])++tsr):=by rw [hts];simp
  fail "r"
  refine Does.goP (read_spec p2 H' xt hn) ?_
  rintro R hR v σ2 ⟨T2,q1,q2,q3,q4⟩
  dsimp only at q2 q3 q4
  have hg2:=q3.at hg (by fail "a") (by fail "a")
  have fx:=hx.trans q3
  have hpre:(pre++[t]).map (fun t=>rd t nm)=(pre.map fun t=>rd t nm)++[rd t nm]:=by simp
  cases hq:rd t nm with
  | none =>
   rw [hq] at q4
   have q4:v=.int (-1):=q4
   subst q4
   have c0:decide ((-1:Int) ≥ 0)=false:=by decide
   fail "r"
   refine lp (same_lst _) ⟨pre++[t],M,T2,hts,fx,p1.trans q1,q2,hg2,hM,by simp at hz;fail "a",fun m hm=>?_,fun rs hr=>?_⟩
   ·obtain ⟨rs,a,b⟩:=k1 m hm;exact ⟨rs,by rw [hpre,hq];simpa using a,b.mono q1⟩
   ·rw [hpre,hq] at hr
    obtain ⟨m,a,b⟩:=k2 rs (by simpa using hr);exact ⟨m,a,b.mono q1⟩
  | some rs =>
   rw [hq] at q4
   obtain ⟨u,rfl,ku⟩:=q4
   have c0:decide ((u:Int) ≥ 0)=true:=decide_eq_true (by fail "a")
   have c1:kOk (gotD M) (.int (u:Int))=true:=got_kOk M u
   have c2:=got_small (show M.length < 64 by fail "a")
   fail "r"
   refine lp (same_lst _) ⟨pre++[t],ins M u,T2,hts,fx.set (Nat.le_refl _),p1.trans q1,q2.set htop,got_set M u▸set_self hg2,ins_nodup hM,?_,fun m hm=>?_,fun rs' hr=>?_⟩
   ·have:=ins_len M u;simp at hz;fail "a"
   ·rw [hpre,hq]
    rcases mem_ins.mp hm with hm | rfl
    ·obtain ⟨rs,a,b⟩:=k1 m hm;exact ⟨rs,by simp at a ⊢;exact .inl a,b.mono q1⟩
    ·exact ⟨rs,by simp,ku⟩
   ·rw [hpre,hq,List.filterMap_append,List.mem_append] at hr
    rcases hr with hr | hr
    ·obtain ⟨m,a,b⟩:=k2 rs' hr;exact ⟨m,mem_ins.mpr (.inl a),b.mono q1⟩
    ·simp at hr;subst hr;exact ⟨u,mem_ins.mpr (.inr rfl),ku⟩
 ·rintro R hR vars σ' ⟨pre,M,T',hts,hx,p1,p2,hg,hM,hz,k1,k2⟩
  rw [List.append_nil] at hts
  subst pre
  have H':=H.fix h hx
  have l1:loopD σ' (.loc σ.length)=some (true,vints M):=got_keys M▸loopD_d hg (got_loop M)
  have l3:=same_dict hg (got_loop M)
  rw [got_keys] at l3
  have tgx:∃ tg:Nat→Bool,∀ m∈M,∀ rs,KR T' m rs→tg m=tagR rs:=by
   classical
   refine ⟨fun m=>if hm:∃ rs,KR T' m rs then tagR hm.choose else false,fun m I rs k=>?_⟩
   have hm:∃ rs,KR T' m rs:=⟨rs,k⟩
   dsimp only
   rw [dif_pos hm]
   exact tag_same (sameR_iff.mp ((same_id p2.nd hm.choose_spec k).trans (beq_self_eq_true m)))
  obtain ⟨tg,htg⟩:=tgx
  have e1:∀ m∈M,Is 4 (rc 110) [.loc η,.int (m:Nat)] σ' (.bool (tg m),σ'):=fun m hm=>by
   obtain ⟨rs,_,k⟩:=k1 m hm
   rw [htg m hm rs k];exact is_tag_eq p2 H' k
  have e2:=fun v=>force_eq (η:=η) (σ:=σ') (v:=v)
  have ln:lenV σ' (.loc σ.length)=some M.length:=by unfold lenV;simp only [hg,got_loop];simp [gotD]
  have h0:=H'.at_
  fail "r"
  refine comp_mapG id (onInt false tg) l3 ?_ ?_ ?_
  ·intro z hz'
   obtain ⟨m,hm,rfl⟩:=mem_vints.mp hz'
   have e3:=e1 m hm
   fail "r"
  ·intro z hz' _
   obtain ⟨m,hm,rfl⟩:=mem_vints.mp hz'
   fail "r"
  ·rw [List.map_id]
   have e5:=vints_filter (onInt false tg) tg (fun x=>rfl) M
   rw [e5]
   have fin:TPost τ σ T b (fun v T'=>v=.bool (apartR (ts.map fun t=>rd t nm))) (.bool (apartR (ts.map fun t=>rd t nm)),σ'):=⟨T',p1,p2.less (by fail "a"),hx,rfl⟩
   have key:=apart_ids p2.nd k1 k2 htg
   have c1:decide ((1:Int) < (M.length:Int))=M.any (fun a=>M.any fun c=>a != c):=by
    rw [← two_nodup hM];congr 1;rw [eq_iff_iff];fail "a"
   have c2:decide ((0:Int) < ((vints (M.filter tg)).length:Int))=M.any tg:=by
    rw [Bool.eq_iff_iff,decide_eq_true_iff,List.any_eq_true]
    have:(vints (M.filter tg)).length=(M.filter tg).length:=by simp [vints]
    rw [this]
    constructor
    ·intro q
     obtain ⟨x,hx⟩:=List.exists_mem_of_length_pos (l:=M.filter tg) (by fail "a")
     exact ⟨x,(List.mem_filter.mp hx).1,(List.mem_filter.mp hx).2⟩
    ·rintro ⟨x,hx,q⟩
     have:=List.length_pos_of_mem (List.mem_filter.mpr ⟨hx,q⟩)
     fail "a"
   have fin2:TPost τ σ T b (fun v T'=>v=.bool (apartR (ts.map fun t=>rd t nm))) (.bool (M.any (fun a=>M.any fun c=>a != c)&&M.any tg),σ'):=by
    rw [key];exact fin
   clear key fin k1 k2 htg e1
   generalize (M.any fun a=>M.any fun c=>a != c)=A at *
   generalize M.any tg=B at *
   cases A<;>cases B<;>(fail "r";first | (rw [show decide ((M.length:Int) > 1)=_ from c1];exact fin2) | (rw [show decide (((vints (M.filter tg)).length:Int) > 0)=_ from c2];exact fin2))
 ·exact ⟨[],[],T,rfl,(Ext.push _ _).fix τ,List.prefix_refl _,h.ext (Ext.push _ _),push_at _ _,.nil,by simpa using hl,(fun I q=>nomatch q),(fun I q=>nomatch q)⟩
end
structure FitOK (G:List Row):Prop where
 len:G.length≤7
 calm:CalmRows (G.map Row.plain)
 nfz:nfz (G.map Row.plain)
 tops:G=[.key "any"]∨(Row.key "any" ∉ G∧Row.key "unknown" ∉ G∧Row.key "error" ∉ G)
 void:Row.key "void" ∉ G
noncomputable def fitG (G:List Row) (r:Row):Bool:=decide (Row.key "any" ∈ G)||fitB r.plain (G.map Row.plain)
noncomputable def letsR (g:Option (List Row)) (K:List Row):Bool:=match g with | none=>false | some G=>K.any (fitG G)
theorem plain_key {r:Row} {s:Str} (h:r.plain=.key s):r=.key s:=by
 unfold Row.plain at h
 split at h
 ·cases r<;>first | exact h | cases h
 ·exact h
theorem plain_key_mem {G:List Row} {s:Str}:Row.key s∈G.map Row.plain↔Row.key s∈G:=by
 rw [List.mem_map]
 constructor
 ·rintro ⟨r,hr,e⟩;rw [plain_key e] at hr;exact hr
 ·intro h;exact ⟨_,h,rfl⟩
section
variable {n τ b η:Nat} {σ σ':St} {T:List Row} {v:V}
theorem kr_first (h:Tab σ τ T b) {u:Nat} {G:List Row} (k:KR T u G) {i:Nat} (hi:i < 16) {r:Row} (hr:first[i]?=some r) (hk:r.kind≠6) (hn:i≠2) (he:u=i):r∈G:=by
 obtain ⟨S,k1,k2,_⟩:=k
 subst he
 have ht:T[u]?=some r:=(h.first hi).trans hr
 rcases k1.at_ with ⟨e,_⟩ | e | ⟨e,_,_⟩
 ·exact absurd e hn
 ·obtain ⟨q,hq,e'⟩:=k2 u (by rw [e];exact .head _)
  rw [ht] at e';cases e';exact hq
 ·rw [ht] at e;cases e;exact absurd rfl hk
theorem fits_spec {s u:Nat} {r:Row} {G:List Row} (h:Tab σ τ T (b+16)) (H:Host σ η τ) (hs:T[s]?=some r) (hk:r.kind≠6) (hs2:s≠2) (hr:nfz [r.plain]) (k:KR T u G) (F:FitOK G) :
  Does 6 (mrc 85 "fits") [.loc η,.int s,.int u] σ (TPost τ σ T b fun v T'=>v=.bool (fitG G r)):=by
 have h0:=H.at_
 refine enterH ?_
 fail "r"
 have ht:u=0∨(u≠0∧u≠1∧u≠13∧toppedR (G.map Row.plain)=G.map Row.plain):=by
  rcases F.tops with e | ⟨e1,e2,e3⟩
  ·left
   have:=kr_atom h (r:=.key "any") (by rw [← e];exact k) (by decide)
   exact row_id h (by decide) rfl this.1
  ·right
   refine ⟨fun e=>e1 (kr_first h k (by decide) rfl (by decide) (by decide) e),fun e=>e2 (kr_first h k (by decide) rfl (by decide) (by decide) e),fun e=>e3 (kr_first h k (by decide) rfl (by decide) (by decide) e),?_⟩
   unfold toppedR
   rw [if_neg (fun q=>e1 (plain_key_mem.mp q)),if_neg (fun q=>e3 (plain_key_mem.mp q)),if_neg (fun q=>e2 (plain_key_mem.mp q))]
 have hd:decide (u=0)=decide (Row.key "any" ∈ G):=by
  congr 1
  rw [eq_iff_iff]
  constructor
  ·exact fun e=>kr_first h k (by decide) rfl (by decide) (by decide) e
  ·intro q
   rcases F.tops with e | ⟨e1,_,_⟩
   ·have:=kr_atom h (r:=.key "any") (by rw [← e];exact k) (by decide)
    exact row_id h (by decide) rfl this.1
   ·exact absurd q e1
 refine Does.goP (units_fit_spec h hs hk hs2 k F.len F.calm F.nfz hr ht (fun q=>F.void (plain_key_mem.mp q))) ?_
 rintro R hR v σ2 ⟨T2,p1,p2,p3,hv⟩
 dsimp only at p2 p3 hv
 rw [hd] at hv
 clear hd ht
 subst hv
 fail "r"
 exact ⟨T2,p1,p2,p3,rfl⟩
theorem lets_spec {t:Nat} {rd:Str→Option (List Row)} {p:Prp} {rs:List Row} (h:Tab σ τ T (b+40)) (H:Host σ η τ) (x:ObjAt σ τ T t rd) (hn:okName p.name) (k:KR T p.kind rs) (hl:rs.length≤2) (hr:∀ r∈rs,nfz [r.plain]) (hG:∀ G,rd p.name=some G→FitOK G) :
  Does 8 (rc 112) [.loc η,.int t,encP p] σ (TPost τ σ T b fun v T'=>v=.bool (letsR (rd p.name) rs)):=by
 have i0:subV σ (encP p) (.int 0)=some (.str p.name):=rfl
 have i1:∀ σ,subV σ (encP p) (.int 1)=some (.int (p.kind:Nat)):=fun I=>rfl
 refine enterH ?_
 fail "r"
 refine Does.goP (read_spec (b:=b+38) h H x hn) ?_
 rintro R hR v σ1 ⟨T1,p1,p2,p3,p4⟩
 dsimp only at p2 p3 p4
 have H1:=H.fix h p3
 have h0:=H1.at_
 obtain ⟨S,kS⟩:=kr_kis (k.mono p1)
 have kk:=(k.mono p1).ids p2 kS
 have e1:=parts_of_eq p2 kS
 have e2:=fun v=>force_eq (η:=η) (σ:=σ1) (v:=v)
 have hSl:=Nat.le_trans (kis_len p2.nd kS kk.1) hl
 cases hq:rd p.name with
 | none =>
  rw [hq] at p4
  have p4:v=.int (-1):=p4
  subst p4
  have c0:decide ((-1:Int) ≥ 0)=false:=by decide
  fail "r"
  exact ⟨T1,p1,p2.less (by fail "a"),p3,by rw [hq];rfl⟩
 | some G =>
  rw [hq] at p4
  obtain ⟨u,rfl,ku⟩:=p4
  have c0:decide ((u:Int) ≥ 0)=true:=decide_eq_true (by fail "a")
  have F:=hG G hq
  fail "r"
  refine comp_rlO (fun sr done σ'=>Ex2 fun pre T'=>C5 (S=pre++sr) (T1 <+: T') (Tab σ' τ T' (b+16 * sr.length)) (Fix τ σ σ') (∃ bs:List Bool,done=bs.map V.bool∧bs.any id=pre.any fun x=>match T1[x]? with | some r=>fitG G r | none=>false)) ?_ ?_ ?_
  ·rintro R hR y sr done σ' ⟨pre,T',hS,q1,q2,q3,bs,rfl,q4⟩
   have hyS:y∈S:=by rw [hS];simp
   obtain ⟨r,hr1,hr2⟩:=kk.1 y hyS
   obtain ⟨hy2,r',hr3,hrk⟩:=kS.atoms y hyS
   rw [hr2] at hr3;cases hr3
   have H2:=H.fix h q3
   have h0:=H2.at_
   have hS:id (S=(pre++[y])++sr):=by rw [hS];simp
   have ln:b+16 * (y::sr).length=b+16 * sr.length+16:=by first | exact (Nat.add_assoc _ _ _).symm | (simp only [List.length_cons];fail "a")
   rw [ln] at q2
   have nn:=hr r hr1
   clear kk
   fail "r"
   refine Does.goV (fits_spec q2 H2 (pre_at q1 hr2) hrk hy2 nn (ku.mono q1) F) fun T2 σ2 s1 s2 s3=>?_
   refine fin ⟨same_tup _,pre++[y],T2,hS,q1.trans s1,s2,q3.trans s3,bs++[fitG G r],by simp,?_⟩
   rw [List.any_append,q4,List.any_append]
   simp [hr2]
  ·refine ⟨[],T1,rfl,List.prefix_refl _,p2.less ?_,p3,[],rfl,rfl⟩
   have:16 * S.length≤16 * 2:=Nat.mul_le_mul_left _ hSl
   fail "a"
  ·rintro R hR vs σ2 ⟨pre,T',hS,q1,q2,q3,bs,hb,q4⟩
   rw [List.append_nil] at hS
   subst pre
   have hb:vs=bs.map V.bool:=hb
   subst hb
   have bb:bools σ2 (.lst (bs.map V.bool))=some bs:=by
    have:=bools_map id bs
    rw [List.map_id] at this
    exact this
   have fin:letsR (some G) rs=bs.any id:=by
    rw [q4]
    unfold letsR
    rw [Bool.eq_iff_iff]
    simp only [List.any_eq_true]
    constructor
    ·rintro ⟨r,hr1,q⟩
     obtain ⟨x,hx,e⟩:=kk.2 r hr1
     exact ⟨x,hx,by rw [e];exact q⟩
    ·rintro ⟨x,hx,q⟩
     obtain ⟨r,hr1,e⟩:=kk.1 x hx
     rw [e] at q
     exact ⟨r,hr1,q⟩
   clear kk q4
   fail "r"
   exact ⟨T',p1.trans q1,q2.less (by fail "a"),q3,by rw [hq,fin]⟩
end
structure LitOK (T:List Row) (ps:List Prp) (K:Str→List Row):Prop where
 all:∀ p∈ps,okName p.name∧KR T p.kind (K p.name)∧(K p.name).length≤2∧∀ r∈K p.name,nfz [r.plain]
theorem LitOK.mono {T T':List Row} {ps K} (h:T <+: T') (x:LitOK T ps K):LitOK T' ps K:=⟨fun p hp=>(by obtain ⟨a,b,c⟩:=x.all p hp;exact ⟨a,b.mono h,c⟩)⟩
noncomputable def RdF (ts:List Nat) (rd:Nat→Str→Option (List Row)):Prop:=∀ t∈ts,∀ nm,okName nm→∀ G,rd t nm=some G→FitOK G
noncomputable def stepR (rd:Nat→Str→Option (List Row)) (K:Str→List Row) (ts:List Nat) (nm:Str) (left:List Nat):List Nat :=
 if apartR (ts.map fun t=>rd t nm) then (if (left.filter fun t=>letsR (rd t nm) (K nm)).isEmpty then left else left.filter fun t=>letsR (rd t nm) (K nm)) else left
noncomputable def toldR (rd:Nat→Str→Option (List Row)) (K:Str→List Row) (ts:List Nat) (names:List Str):List Nat:=names.foldl (fun left nm=>stepR rd K ts nm left) ts
theorem step_sub {rd K ts nm} {left:List Nat}:∀ x∈stepR rd K ts nm left,x∈left:=by
 intro x hx
 unfold stepR at hx
 split at hx
 ·split at hx
  ·exact hx
  ·exact (List.mem_filter.mp hx).1
 ·exact hx
theorem step_len {rd K ts nm} {left:List Nat}:(stepR rd K ts nm left).length≤left.length:=by
 unfold stepR
 split
 ·split
  ·exact Nat.le_refl _
  ·exact List.length_filter_le _ _
 ·exact Nat.le_refl _
section
variable {n τ b η:Nat} {σ σ':St} {T:List Row} {v:V}
theorem told_spec {s f:Nat} {ps:List Prp} {ts:List Nat} {rd:Nat→Str→Option (List Row)} {K:Str→List Row} (h:Tab σ τ T (b+200 * ps.length)) (H:Host σ η τ) (hs:T[s]?=some (.obj ps none none f)) (x:∀ t∈ts,ObjAt σ τ T t (rd t)) (hl:ts.length≤4) (L:LitOK T ps K) (F:RdF ts rd) :
  Does 9 (rc 113) [.loc η,.int s,.lst (vints ts)] σ (TPost τ σ T b fun v T'=>v=.lst (vints (toldR rd K ts (ps.map (·.name))))):=by
 have h0:=H.at_
 have h1:=h.inst
 have h2:=h.row hs
 have i1:subV σ (Row.obj ps none none f).enc (.int 1)=some (.tup (ps.map encP)):=rfl
 refine enterG fun Q' hQ=>?_
 fail "r"
 refine for_mapR (rc 113).sc (fun I=>none) [("host",.loc η),("parts",.lst (vints ts))] (fun pr vars σ'=>Ex3 fun pre left T'=>C8 (ps=pre++pr) (vars (Str.ofString "left")=some (.lst (vints left))) (Fix τ σ σ') (T <+: T') (Tab σ' τ T' (b+200 * pr.length)) (left.length≤4) (∀ t∈left,t∈ts) ((pr.map (·.name)).foldl (fun left nm=>stepR rd K ts nm left) left=toldR rd K ts (ps.map (·.name)))) ?_ ?_ _ _ _ rfl ?_
 ·rintro P hP R hR p pr vars σ' ⟨pre,left,T',hps,v3,hx,p1,p2,p3,p4,p5⟩
  have v3:vars "left" = some (.lst (vints left)):=v3
  obtain ⟨vars,rfl⟩:=pin v3
  obtain ⟨okp,kp,lq,np⟩:=L.all p (by rw [hps];simp)
  have hps:id (ps=(pre++[p])++pr):=by rw [hps];simp
  have H':=H.fix h hx
  have j0:∀ σ,subV σ (encP p) (.int 0)=some (.str p.name):=fun I=>rfl
  have ln:b+200 * (p::pr).length=(b+200 * pr.length+160)+40:=by first | exact (Nat.add_assoc _ _ _).symm | (simp only [List.length_cons];fail "a")
  rw [ln] at p2
  have x':∀ t∈ts,ObjAt σ' τ T' t (rd t):=fun t ht=>(x t ht).fix h hx p1
  rw [List.map_cons,List.foldl_cons] at p5
  have p5:id ((pr.map (·.name)).foldl (fun left nm=>stepR rd K ts nm left) (stepR rd K ts p.name left)=toldR rd K ts (ps.map (·.name))):=p5
  clear i1
  fail "r"
  refine Does.goV (tells_spec (b:=b+200 * pr.length+160) (p2.less (by fail "a")) H' x' okp (by fail "a")) fun T1 σ1 q1 q2 q3=>?_
  have H1:=H'.fix p2 q3
  cases ha:apartR (ts.map fun t=>rd t p.name) with
  | false =>
   fail "r"
   refine hP (same_tup _) ⟨pre++[p],left,T1,hps,rfl,hx.trans q3,p1.trans q1,q2.less (by fail "a"),p3,p4,?_⟩ rfl rfl
   have p5:_=_:=p5
   unfold stepR at p5
   rw [ha,if_neg (by decide)] at p5
   exact p5
  | true =>
   have l1:=loop_lst (σ:=σ1) (vints left)
   fail "r"
   refine comp_rlR (fun sr done σ2=>Ex2 fun pre T2=>C5 (left=pre++sr) (T1 <+: T2) (Tab σ2 τ T2 (b+200 * pr.length+40 * sr.length)) (Fix τ σ' σ2) (done=vints (pre.filter fun t=>letsR (rd t p.name) (K p.name)))) ?_ ?_ ?_
   ·rintro P hC R hR y sr done σ2 ⟨pre',T2,hS,s1,s2,s3,rfl⟩
    have hyS:y∈ts:=p4 y (by rw [hS];simp)
    have hS:id (left=(pre'++[y])++sr):=by rw [hS];simp
    have H2:=H'.fix p2 s3
    have ln:b+200 * pr.length+40 * (y::sr).length=b+200 * pr.length+40 * sr.length+40:=by first | exact (Nat.add_assoc _ _ _).symm | (simp only [List.length_cons];fail "a")
    rw [ln] at s2
    have xy:=(x' y hyS).fix p2 s3 (q1.trans s1)
    have G:=F y hyS p.name okp
    have kp2:=kp.mono (p1.trans (q1.trans s1))
    clear p5 ha
    fail "r"
    refine Does.goV (lets_spec s2 H2 xy okp kp2 lq np G) fun T3 σ3 r1 r2 r3=>?_
    cases hb:letsR (rd y p.name) (K p.name) with
    | true =>
     fail "r"
     exact hC (same_lst _) ⟨pre'++[y],T3,hS,s1.trans r1,r2,s3.trans r3,by rw [List.filter_append];simp [hb,vints]⟩
    | false =>
     fail "r"
     exact hC (same_lst _) ⟨pre'++[y],T3,hS,s1.trans r1,r2,s3.trans r3,by rw [List.filter_append];simp [hb,vints]⟩
   ·refine ⟨[],T1,rfl,List.prefix_refl _,q2.less (by fail "a"),q3,rfl⟩
   ·rintro R hR vs σ2 ⟨pre',T2,hS,s1,s2,s3,hd⟩
    rw [List.append_nil] at hS
    subst pre'
    have hd:vs=vints (left.filter fun t=>letsR (rd t p.name) (K p.name)):=hd
    subst hd
    have p5:_=_:=p5
    have e:stepR rd K ts p.name left=if (left.filter fun t=>letsR (rd t p.name) (K p.name)).isEmpty then left else left.filter fun t=>letsR (rd t p.name) (K p.name):=by
     unfold stepR;rw [if_pos ha]
    cases he:(left.filter fun t=>letsR (rd t p.name) (K p.name)).isEmpty with
    | true =>
     rw [he,if_pos rfl] at e
     have he':(vints (left.filter fun t=>letsR (rd t p.name) (K p.name))).isEmpty=true:=by
      rw [List.isEmpty_iff.mp he];rfl
     rw [e] at p5
     have p5:id (_=_):=p5
     clear e ha he L F x
     fail "r"
     exact hP (same_tup _) ⟨pre++[p],left,T2,hps,rfl,hx.trans s3,p1.trans (q1.trans s1),s2.less (by fail "a"),p3,p4,p5⟩ rfl rfl
    | false =>
     rw [he,if_neg (by decide)] at e
     have he':(vints (left.filter fun t=>letsR (rd t p.name) (K p.name))).isEmpty=false:=by
      cases hf:left.filter fun t=>letsR (rd t p.name) (K p.name) with
      | nil=>rw [hf] at he;cases he
      | cons=>rfl
     rw [e] at p5
     have p5:id (_=_):=p5
     clear e ha he L F x
     fail "r"
     refine hP (same_tup _) ⟨pre++[p],left.filter fun t=>letsR (rd t p.name) (K p.name),T2,hps,rfl,hx.trans s3,p1.trans (q1.trans s1),s2.less (by fail "a"),?_,?_,p5⟩ rfl rfl
     ·exact Nat.le_trans (List.length_filter_le _ _) p3
     ·exact fun t ht=>p4 t (List.mem_filter.mp ht).1
 ·rintro R hR vars σ' ⟨pre,left,T',hps,v3,hx,p1,p2,p3,p4,p5⟩
  have v3:vars "left" = some (.lst (vints left)):=v3
  obtain ⟨vars,rfl⟩:=pin v3
  have p5:left=_:=p5
  clear hps i1
  fail "r"
  exact ⟨T',p1,p2.less (by fail "a"),hx,by rw [p5]⟩
 ·exact ⟨[],ts,T,rfl,rfl,Fix.refl _ _,List.prefix_refl _,h,hl,fun I q=>q,rfl⟩
end
noncomputable def takeB (x:Nat):Bool:=decide (x=0∨x=1∨x=13∨x=10∨x=11)
noncomputable def shapedB (T:List Row) (x:Nat):Bool:=match T[x]? with | some r=>decide (r.kind=8∨r.kind=9) | none=>false
noncomputable def PartOK (σ:St) (τ:Nat) (T:List Row) (rd:Nat→Str→Option (List Row)) (x:Nat):Prop :=
 takeB x=true∨(takeB x=false∧∃ r,T[x]?=some r∧r.kind≠8∧r.kind≠9)∨ObjAt σ τ T x (rd x)
noncomputable def checkedR (T:List Row) (rd:Nat→Str→Option (List Row)) (K:Str→List Row) (S:List Nat) (names:List Str):List Nat :=
 if S.any takeB then [] else if 1 < (S.filter (shapedB T)).length then toldR rd K (S.filter (shapedB T)) names else S.filter (shapedB T)
section
variable {n τ b η:Nat} {σ σ':St} {T:List Row} {v:V}
theorem ObjAt.take {x:Nat} {rd} (h:Tab σ τ T b) (o:ObjAt σ τ T x rd):takeB x=false:=by
 obtain ⟨u,ps,s,d,f,a,hu,hps,_⟩:=o.ex
 obtain ⟨t0,t13,t1,t10,_,r,htr,hk⟩:=obj_ne h a
 refine decide_eq_false ?_
 rintro (e | e | e | e | e)
 ·exact t0 e
 ·exact t1 e
 ·exact t13 e
 ·exact t10 e
 ·subst e
  have h11:T[11]?=some (.obj [] none none 0):=(h.first (t:=11) (by decide)).trans rfl
  rcases a with ⟨rfl,_⟩ | ⟨d',e,_⟩
  ·rw [h11] at hu;cases hu;exact hps rfl
  ·rw [h11] at e;cases e
theorem takes_all_eq {x:Nat} {rd:Nat→Str→Option (List Row)} (h:Tab σ τ T b) (H:Host σ η τ) (p:PartOK σ τ T rd x):Is 5 (rc 108) [.loc η,.int x] σ (.bool (takeB x),σ):=by
 rcases p with p | ⟨p,r,e,k⟩ | p
 ·rw [p]
  by_cases e:x=11
  ·subst e
   have h11:T[11]?=some (.obj [] none none 0):=(h.first (t:=11) (by decide)).trans rfl
   exact takes_all_shape h H (.inl ⟨rfl,_,_,_,_,h11⟩) h11
  ·have:=of_decide_eq_true p
   exact takes_all_one (by fail "a")
 ·rw [p]
  have:=of_decide_eq_false p
  exact takes_all_plain h H (by fail "a") e k
 ·rw [p.take h]
  obtain ⟨u,ps,s,d,f,a,hu,hps,_⟩:=p.ex
  have:=takes_all_shape h H a hu
  rw [show (ps.isEmpty&&s.isNone&&d.isNone)=false by cases ps<;>simp_all] at this
  exact this
theorem shaped_eq {x:Nat} {r:Row} (hx:T[x]?=some r):inV σ (.int (r.kind:Int)) (.tup [.int 8,.int 9,.int 11,.int 12,.int 7])=some (shapedB T x):=by
 unfold shapedB
 rw [hx]
 cases r<;>rfl
theorem checked_spec {s t f:Nat} {ps:List Prp} {S:List Nat} {rd:Nat→Str→Option (List Row)} {K:Str→List Row} (h:Tab σ τ T (b+200 * ps.length)) (H:Host σ η τ) (hs:T[s]?=some (.obj ps none none f)) (k:KIs T t S) (x:∀ x∈S,PartOK σ τ T rd x) (hl:S.any takeB=false→(S.filter (shapedB T)).length≤4) (L:LitOK T ps K) (F:RdF (S.filter (shapedB T)) rd) :
  Does 10 (rc 114) [.loc η,.int s,.int t] σ (TPost τ σ T b fun v T'=>v=.lst (vints (checkedR T rd K S (ps.map (·.name))))):=by
 have h0:=H.at_
 have h1:=h.inst
 have e1:=parts_of_eq h k
 have fin:∀ l,checkedR T rd K S (ps.map (·.name))=l→TPost τ σ T b (fun v T'=>v=.lst (vints (checkedR T rd K S (ps.map (·.name))))) (.lst (vints l),σ):=fun l e=>⟨T,List.prefix_refl _,h.less (by fail "a"),Fix.refl _ _,by rw [e]⟩
 refine enterH ?_
 fail "r"
 refine comp_mapG id (onInt false takeB) (same_tup _) ?_ ?_ ?_
 ·intro z hz
  obtain ⟨m,hm,rfl⟩:=mem_vints.mp hz
  have e2:=takes_all_eq h H (x m hm)
  clear fin
  fail "r"
 ·intro z hz _
  obtain ⟨m,hm,rfl⟩:=mem_vints.mp hz
  clear fin
  fail "r"
 rw [List.map_id,vints_filter (onInt false takeB) takeB (fun x=>rfl) S]
 have ln:(vints (S.filter takeB)).length=(S.filter takeB).length:=by simp [vints]
 cases hb:S.any takeB with
 | true =>
  have c1:decide (((vints (S.filter takeB)).length:Int) > 0)=true:=by
   refine decide_eq_true ?_
   rw [ln]
   obtain ⟨y,hy,q⟩:=List.any_eq_true.mp hb
   have:=List.length_pos_of_mem (List.mem_filter.mpr ⟨hy,q⟩)
   fail "a"
  have fin:=fin [] (by unfold checkedR;rw [if_pos hb])
  clear hb ln
  fail "r"
  exact fin
 | false =>
  have hno:∀ y∈S,takeB y=false:=fun y hy=>by
   cases q:takeB y with
   | false=>rfl
   | true=>rw [List.any_eq_true.mpr ⟨y,hy,q⟩] at hb;cases hb
  have hf:S.filter takeB=[]:=List.filter_eq_nil_iff.mpr fun y hy=>by rw [hno y hy];simp
  have fin:=fun l e=>fin l (by unfold checkedR;rw [hb];exact e)
  rw [if_neg (by decide)] at fin
  rw [hf]
  have b1:binV σ .Add (.tup [.int 8,.int 9]) (.tup [.int 11,.int 12])=some (.tup [.int 8,.int 9,.int 11,.int 12]):=rfl
  have b2:binV σ .Add (.tup [.int 8,.int 9,.int 11,.int 12]) (.tup [.int 7])=some (.tup [.int 8,.int 9,.int 11,.int 12,.int 7]):=rfl
  have v0:vints []=[]:=rfl
  have d0:decide ((0:Int) > 0)=false:=by decide
  have st:∀ y∈S,PartOK σ τ T rd y:=x
  have hl':=hl hb
  have key:Does 9 (rc 113) [.loc η,.int s,.lst (vints (S.filter (shapedB T)))] σ (TPost τ σ T b fun v T'=>v=.lst (vints (toldR rd K (S.filter (shapedB T)) (ps.map (·.name))))):=by
   refine told_spec h H hs (fun t ht=>?_) hl' L F
   obtain ⟨hS,hsh⟩:=List.mem_filter.mp ht
   rcases x t hS with p | ⟨_,r,e,k8,k9⟩ | p
   ·rw [hno t hS] at p;cases p
   ·unfold shapedB at hsh;rw [e] at hsh
    have:=of_decide_eq_true hsh
    fail "a"
   ·exact p
  have rows_:∀ y∈S,∃ r,T[y]?=some r:=fun y hy=>(by obtain ⟨_,r,e,_⟩:=k.atoms y hy;exact ⟨r,e⟩)
  clear hb ln hf hl hl' F L
  fail "r"
  refine comp_mapG id (onInt false (shapedB T)) (same_tup _) ?_ ?_ ?_
  ·intro z hz
   obtain ⟨m,hm,rfl⟩:=mem_vints.mp hz
   obtain ⟨r,hr⟩:=rows_ m hm
   have e2:=h.row hr
   have e3:=row_kind (σ:=σ) r
   have e4:=shaped_eq (σ:=σ) hr
   clear fin key rows_ st x
   fail "r"
  ·intro z hz _
   obtain ⟨m,hm,rfl⟩:=mem_vints.mp hz
   clear fin key rows_ st x
   fail "r"
  rw [List.map_id,vints_filter (onInt false (shapedB T)) (shapedB T) (fun x=>rfl) S]
  have ln:(vints (S.filter (shapedB T))).length=(S.filter (shapedB T)).length:=by simp [vints]
  by_cases hc:1 < (S.filter (shapedB T)).length
  ·have c1:decide (((vints (S.filter (shapedB T))).length:Int) > 1)=true:=decide_eq_true (by rw [ln];fail "a")
   have e0:checkedR T rd K S (ps.map (·.name))=toldR rd K (S.filter (shapedB T)) (ps.map (·.name)):=by
    unfold checkedR
    rw [if_neg (by rw [List.any_eq_true];rintro ⟨y,hy,q⟩;rw [hno y hy] at q;cases q),if_pos hc]
   rw [e0]
   clear fin ln hc e0 rows_ st x
   fail "r"
   refine Does.goC key fun v σ2 hq=>?_
   fail "r"
   exact hq
  ·have c1:decide (((vints (S.filter (shapedB T))).length:Int) > 1)=false:=decide_eq_false (by rw [ln];fail "a")
   have fin:=fin (S.filter (shapedB T)) (if_neg hc)
   clear key ln hc rows_ st x
   fail "r"
   exact fin
end
noncomputable def frB (T:List Row) (S:List Nat):Bool:=S.any fun x=>match T[x]? with | some r=>decide (r.kind=8)&&r.fresh | none=>false
section
variable {τ b η:Nat} {σ σ':St} {T:List Row} {v:V}
theorem in_lists (k:Nat) (h:k≠11∧k≠12):inV σ (.int (k:Int)) (.tup [.int 11,.int 12])=some false:=by
 rw [in_ints (by rfl)]
 congr 1
 rw [Bool.eq_false_iff]
 intro q
 obtain ⟨x,hx,e⟩:=List.any_eq_true.mp q
 have e:=(V.eqb_iff _ _).mp e
 subst e
 simp at hx;fail "a"
theorem row_lists (r:Row):r.kind≠11∧r.kind≠12:=by cases r<;>simp [Row.kind]
theorem excess_spec {kk s t l:Nat} {S:List Nat} {res:Str} (h:Tab σ τ T b) (H:Host σ η τ) (k:KIs T s S) (hk:∀ x∈S,∀ r,T[x]?=some r→r.kind=8→r.fresh=true→x=l)
  (X:frB T S=true→Does kk (rc 116) [.loc η,.int l,.int t] σ (TPost τ σ T b fun v T'=>v=.str res)) (h10:10≤kk:=by fail "h") :
  Does (kk+1) (rc 119) [.loc η,.int s,.int t] σ (TPost τ σ T b fun v T'=>v=.str (if frB T S=true then res else "")):=by
 have e1:=parts_of_eq h k
 have e2:=fun σ v=>force_eq (η:=η) (σ:=σ) (v:=v)
 have h0:=H.at_
 refine enterH ?_
 fail "r"
 refine for_mapO [("host",.loc η),("t",.int (t:Nat))] (fun sr I σ'=>Ex2 fun pre T'=>C5 (id (S=pre++sr)) (Fix τ σ σ') (T <+: T') (Tab σ' τ T' b) ((frB T pre=false∧σ'=σ)∨(frB T pre=true∧res = ""))) ?_ ?_ _ _ _ rfl ?_
 ·rintro R hR y sr vars σ' ⟨pre,T',hS,hx,p1,p2,p3⟩
  have hS':S=pre++y::sr:=hS
  have hyS:y∈S:=by rw [hS'];simp
  obtain ⟨_,r,hr1,_⟩:=k.atoms y hyS
  have hS2:id (S=(pre++[y])++sr):=by show S=_;rw [hS'];simp
  have H':=H.fix h hx
  have hr2:=pre_at p1 hr1
  have g0:=H'.at_
  have g1:=p2.inst
  have g2:=p2.row hr2
  have g3:=row_kind (σ:=σ') r
  have g4:=fresh_eq p2 hr2
  have g5:=in_lists (σ:=σ') r.kind (row_lists r)
  have ckind:((r.kind:Int)==8)=decide (r.kind=8):=ibeq r.kind 8
  have hfr:frB T (pre++[y])=(frB T pre||(decide (r.kind=8)&&r.fresh)):=by
   unfold frB;rw [List.any_append];simp [hr1]
  by_cases hc:r.kind=8∧r.fresh=true
  ·obtain ⟨c8,cf⟩:=hc
   have hl:=hk y hyS r hr1 c8 cf
   subst hl
   have hpre:frB T pre=false:=by
    cases q:frB T pre with
    | false=>rfl
    | true =>
     obtain ⟨x,hx',q⟩:=List.any_eq_true.mp q
     have hxS:x∈S:=by rw [hS'];simp [hx']
     obtain ⟨_,rx,hrx,_⟩:=k.atoms x hxS
     rw [hrx] at q
     simp only [Bool.and_eq_true,decide_eq_true_iff] at q
     have:=hk x hxS rx hrx q.1 q.2
     subst this
     have hs:=k.sorted
     rw [hS',List.pairwise_append] at hs
     have:=hs.2.2 x hx' x (.head _)
     fail "a"
   have hσ:σ'=σ:=by
    rcases p3 with ⟨_,e⟩ | ⟨e,_⟩
    ·exact e
    ·rw [hpre] at e;cases e
   subst hσ
   have hfS:frB T S=true:=List.any_eq_true.mpr ⟨y,hyS,by rw [hr1];simp [c8,cf]⟩
   have c8':decide (r.kind=8)=true:=decide_eq_true c8
   rw [hpre,c8',cf] at hfr
   have X:=X hfS
   clear c8 hk p3 hpre e1
   fail "r"
   refine Does.goV X fun T2 σ2 q1 q2 q3=>?_
   by_cases hres:res = ""
   ·subst hres
    have hc:(Str.ofString "" == (Str.ofString ""))=true:=by rfl
    clear X
    fail "r"
    exact lp (same_tup _) ⟨pre++[y],T2,hS2,q3,q1,q2,.inr ⟨hfr,rfl⟩⟩
   ·have hc:(res==(Str.ofString ""))=false:=by simpa using hres
    clear X hres
    fail "r"
    refine ⟨T2,q1,q2,q3,?_⟩
    rw [if_pos hfS]
  ·have hfr2:frB T (pre++[y])=frB T pre:=by
    rw [hfr]
    have:(decide (r.kind=8)&&r.fresh)=false:=by
     rw [Bool.eq_false_iff];intro q;simp only [Bool.and_eq_true,decide_eq_true_iff] at q;exact hc q
    rw [this,Bool.or_false]
   have p3:id ((frB T (pre++[y])=false∧σ'=σ)∨(frB T (pre++[y])=true∧res = "")):=by rw [hfr2];exact p3
   have fin:((frB T (pre++[y])=false∧σ'=σ)∨(frB T (pre++[y])=true∧res = ""))→True:=fun I=>trivial
   have hc0:(Str.ofString "" == (Str.ofString ""))=true:=by rfl
   clear hfr hfr2 fin X hk e1
   by_cases c8:r.kind=8
   ·have c8':decide (r.kind=8)=true:=decide_eq_true c8
    have cf:r.fresh=false:=by
     cases q:r.fresh with
     | false=>rfl
     | true=>exact absurd ⟨c8,q⟩ hc
    clear hc c8
    fail "r"
    exact lp (same_tup _) ⟨pre++[y],T',hS2,hx,p1,p2,p3⟩
   ·have c8':decide (r.kind=8)=false:=decide_eq_false c8
    clear hc c8
    fail "r"
    exact lp (same_tup _) ⟨pre++[y],T',hS2,hx,p1,p2,p3⟩
 ·rintro R hR vars σ' ⟨pre,T',hS,hx,p1,p2,p3⟩
  have hS:S=pre:=by have hS:S=pre++[]:=hS;rw [hS,List.append_nil]
  subst hS
  have e:(if frB T S=true then res else "") = "" := by
   rcases p3 with ⟨q,_⟩ | ⟨_,q⟩
   ·rw [if_neg (by rw [q];decide)]
   ·rw [q,ite_self]
  clear p3 X
  fail "r"
  exact ⟨T',p1,p2,hx,by rw [e]⟩
 ·exact ⟨[],T,rfl,Fix.refl _ _,List.prefix_refl _,h,.inl ⟨rfl,rfl⟩⟩
end
structure UnOK (T:List Row) (S:List Nat) (rows:List Row):Prop where
 all:(Row.key "any" ∈ rows∧S=[0])∨(Row.key "any" ∉ rows∧(∀ x∈S,∃ r∈rows,T[x]?=some r)∧∀ r∈rows,r.kind=8→r.fresh=false→∃ x∈S,T[x]?=some r)
noncomputable def rowsAt (ts:List Nat) (rd:Nat→Str→Option (List Row)) (nm:Str):List Row:=ts.flatMap fun t=>(rd t nm).getD []
noncomputable def withinR (inner:Str→Str):List Str→Str
 | [] => ""
 | nm::l=>if inner nm = "" then withinR inner l else inner nm
theorem within_c (f:Str→Str) (nm:Str) (l:List Str):withinR f (nm::l)=if f nm = "" then withinR f l else f nm:=rfl
theorem FitOK.nfz' {G:List Row} (F:FitOK G):Mine.nfz G:=by
 refine ⟨fun q=>F.nfz.1 (List.mem_map.mpr ⟨_,q,rfl⟩),fun q=>F.nfz.1 (List.mem_map.mpr ⟨_,q,rfl⟩)⟩
theorem FitOK.err {G:List Row} (F:FitOK G):Row.key "error" ∉ G∧Row.key "unknown" ∉ G:=by
 rcases F.tops with e | ⟨_,a,b⟩
 ·rw [e];exact ⟨fun q=>absurd (Row.key.inj (List.mem_singleton.mp q)) (by decide),fun q=>absurd (Row.key.inj (List.mem_singleton.mp q)) (by decide)⟩
 ·exact ⟨b,a⟩
noncomputable def onInt2 (f:Int→Bool):V→Bool | .int i=>f i | _=>false
section
variable {n m τ b η:Nat} {σ σ':St} {T:List Row} {v:V}
theorem mem_rowsAt {ts:List Nat} {rd:Nat→Str→Option (List Row)} {nm:Str} {r:Row}:r∈rowsAt ts rd nm↔∃ t∈ts,∃ G,rd t nm=some G∧r∈G:=by
 unfold rowsAt
 rw [List.mem_flatMap]
 constructor
 ·rintro ⟨t,ht,h⟩
  cases hq:rd t nm with
  | none=>rw [hq] at h;cases h
  | some G=>rw [hq] at h;exact ⟨t,ht,G,hq,h⟩
 ·rintro ⟨t,ht,G,e,h⟩
  exact ⟨t,ht,by rw [e];exact h⟩
theorem un_spec {us:List Nat} {rows:List Row} {pvv:V} (h:Tab σ τ T (b+1)) (hp:pv pvv us) (hl:us.length≤8) (h1:∀ u∈us,∃ G,KR T u G∧FitOK G∧∀ r∈G,r∈rows) (h2:∀ r∈rows,∃ u∈us,∃ G,KR T u G∧r∈G) :
  Does 3 (rc 62) [.loc τ,pvv] σ (TPost τ σ T b fun v T'=>∃ u S,v=.int (u:Nat)∧KIs T' u S∧UnOK T' S rows):=by
 have hSf:∃ Sf:Nat→List Nat,∀ u∈us,KIs T u (Sf u):=by
  classical
  refine ⟨fun u=>if hu:∃ S,KIs T u S then hu.choose else [],fun u hu=>?_⟩
  obtain ⟨G,k,_⟩:=h1 u hu
  have hu:∃ S,KIs T u S:=kr_kis k
  dsimp only
  rw [dif_pos hu]
  exact hu.choose_spec
 obtain ⟨Sf,hSf⟩:=hSf
 have hlen:∀ u∈us,(Sf u).length≤7:=fun u hu=>by
  obtain ⟨G,k,F,_⟩:=h1 u hu
  exact Nat.le_trans (kis_len h.nd (hSf u hu) (k.ids h (hSf u hu)).1) F.len
 have hsum:(us.flatMap Sf).length < 64:=by
  have:∀ l:List Nat,(∀ u∈l,(Sf u).length≤7)→(l.flatMap Sf).length≤7 * l.length:=by
   intro l
   induction l with
   | nil=>intro _;simp
   | cons a l ih =>
    intro q
    have a1:=q a (.head _)
    have a2:=ih fun u hu=>q u (.tail _ hu)
    simp only [List.flatMap_cons,List.length_append,List.length_cons]
    fail "a"
  have:=this us hlen
  fail "a"
 have hmem:∀ x,x∈gath us Sf→∃ r∈rows,T[x]?=some r:=fun x hx=>by
  obtain ⟨u,hu,hxu⟩:=mem_gath.mp hx
  obtain ⟨G,k,F,q⟩:=h1 u hu
  obtain ⟨r,hr,e⟩:=(k.ids h (hSf u hu)).1 x hxu
  exact ⟨r,q r hr,e⟩
 have hmem2:∀ r∈rows,∃ x∈gath us Sf,T[x]?=some r:=fun r hr=>by
  obtain ⟨u,hu,G,k,hrG⟩:=h2 r hr
  obtain ⟨x,hx,e⟩:=(k.ids h (hSf u hu)).2 r hrG
  exact ⟨x,mem_gath.mpr ⟨u,hu,hx⟩,e⟩
 have hn:∀ (i:Nat) (r:Row),i < 16→first[i]?=some r→(∃ u∈us,i∈Sf u)→∃ u∈us,∃ G,FitOK G∧r∈G:=fun i r hi hr ⟨u,hu,hx⟩=>by
  obtain ⟨G,k,F,_⟩:=h1 u hu
  obtain ⟨q,hq,e⟩:=(k.ids h (hSf u hu)).1 i hx
  rw [h.first hi,hr] at e;cases e
  exact ⟨u,hu,G,F,hq⟩
 refine Does.mono (union_spec h hp hSf hsum fun u hu=>⟨fun q=>?_,fun q=>?_⟩) ?_
 ·obtain ⟨_,_,G,F,q⟩:=hn 8 _ (by decide) rfl ⟨u,hu,q⟩;exact F.nfz'.1 q
 ·obtain ⟨_,_,G,F,q⟩:=hn 14 _ (by decide) rfl ⟨u,hu,q⟩;exact F.nfz'.2 q
 rintro ⟨v,σ2⟩ ⟨T2,p1,p2,p3,u,Z,rfl,kZ,hZ⟩
 refine ⟨T2,p1,p2,p3,u,Z,rfl,kZ,⟨?_⟩⟩
 rcases hZ with ⟨a,e⟩ | ⟨_,a,_⟩ | ⟨_,_,a,_⟩ | ⟨a0,a13,a1,hZ⟩
 ·left
  refine ⟨?_,e⟩
  obtain ⟨r,hr,e⟩:=hmem 0 a
  rw [h.first (by decide)] at e;cases e;exact hr
 ·obtain ⟨_,_,G,F,q⟩:=hn 13 _ (by decide) rfl (mem_gath.mp a);exact absurd q F.err.1
 ·obtain ⟨_,_,G,F,q⟩:=hn 1 _ (by decide) rfl (mem_gath.mp a);exact absurd q F.err.2
 ·right
  refine ⟨fun q=>?_,fun x hx=>?_,fun r hr h8 hf=>?_⟩
  ·obtain ⟨x,hx,e⟩:=hmem2 _ q
   have:=row_id h (i:=0) (by decide) rfl e
   subst this;exact a0 hx
  ·obtain ⟨r,hr,e⟩:=hmem x ((hZ x).mp hx).1
   exact ⟨r,hr,pre_at p1 e⟩
  ·obtain ⟨x,hx,e⟩:=hmem2 r hr
   refine ⟨x,(hZ x).mpr ⟨hx,r,e,?_⟩,pre_at p1 e⟩
   unfold stays
   refine decide_eq_true ⟨?_,?_⟩
   ·rintro ⟨m,_,q⟩
    unfold twin at q
    rw [hf] at q
    simp at q
   ·rintro ⟨m,_,q⟩
    have:r.whole=-1:=by cases r<;>first | rfl | (simp [Row.kind] at h8)
    fail "a"
theorem within_spec {kk s f B:Nat} {ps:List Prp} {ts:List Nat} {rd:Nat→Str→Option (List Row)} {inner:Str→Str} (h:Tab σ τ T (b+(B+20) * ps.length)) (H:Host σ η τ) (hs:T[s]?=some (.obj ps none none f)) (x:∀ t∈ts,ObjAt σ τ T t (rd t)) (hl:ts.length≤4) (ok:∀ p∈ps,okName p.name) (F:RdF ts rd)
  (X:∀ p∈ps,∀ b' σ' T' u S,T <+: T'→Tab σ' τ T' (b'+B)→Fix τ σ σ'→KIs T' u S→UnOK T' S (rowsAt ts rd p.name)→Does kk (rc 119) [.loc η,.int p.kind,.int (u:Nat)] σ' (TPost τ σ' T' b' fun v T''=>v=.str (inner p.name))) (h10:10≤kk:=by fail "h") :
  Does (kk+1) (rc 115) [.loc η,.int s,.lst (vints ts)] σ (TPost τ σ T b fun v T'=>v=.str (withinR inner (ps.map (·.name)))):=by
 have h0:=H.at_
 have h1:=h.inst
 have h2:=h.row hs
 have i1:subV σ (Row.obj ps none none f).enc (.int 1)=some (.tup (ps.map encP)):=rfl
 refine enterH ?_
 fail "r"
 refine for_mapO [("host",.loc η),("parts",.lst (vints ts))] (fun pr I σ'=>Ex2 fun pre T'=>C5 (id (ps=pre++pr)) (Fix τ σ σ') (T <+: T') (Tab σ' τ T' (b+(B+20) * pr.length)) (id (withinR inner (pr.map (·.name))=withinR inner (ps.map (·.name))))) ?_ ?_ _ _ _ rfl ?_
 ·rintro R hR p pr vars σ' ⟨pre,T',hps,hx,p1,p2,p3⟩
  have hps':ps=pre++p::pr:=hps
  have hp:p∈ps:=by rw [hps'];simp
  have okp:=ok p hp
  have hps:id (ps=(pre++[p])++pr):=by show ps=_;rw [hps'];simp
  clear hps'
  have H':=H.fix h hx
  have j0:∀ σ,subV σ (encP p) (.int 0)=some (.str p.name):=fun I=>rfl
  have j1:∀ σ,subV σ (encP p) (.int 1)=some (.int (p.kind:Nat)):=fun I=>rfl
  have ln:b+(B+20) * (p::pr).length=(b+(B+20) * pr.length+B)+20:=by simp only [List.length_cons,Nat.mul_add,Nat.mul_one];fail "a"
  rw [ln] at p2
  have Xp:=X p hp
  clear X i1
  fail "r"
  refine comp_rlO (fun sr done σ2=>Ex4 fun (pre':List Nat) (T2:List Row) (ws:List Int) (us:List Nat)=>C9 (id (ts=pre'++sr)) (T' <+: T2) (Tab σ2 τ T2 (b+(B+20) * pr.length+B+4+2 * sr.length)) (Fix τ σ' σ2) (done=ws.map V.int) (id ((ws.map V.int).filter (onInt2 fun i=>decide (i ≥ 0))=vints us)) (us.length≤pre'.length) (∀ u∈us,∃ t∈pre',∃ G,rd t p.name=some G∧KR T2 u G) (∀ t∈pre',∀ G,rd t p.name=some G→∃ u∈us,KR T2 u G)) ?_ ?_ ?_
  ·rintro R hR y sr done σ2 ⟨pre',T2,ws,us,hS,s1,s2,s3,rfl,hw,hul,k1,k2⟩
   have hS':ts=pre'++y::sr:=hS
   have hyS:y∈ts:=by rw [hS'];simp
   have hS:id (ts=(pre'++[y])++sr):=by show ts=_;rw [hS'];simp
   clear hS'
   have H2:=H'.fix p2 s3
   have xy:=(x y hyS).fix h (hx.trans s3) (p1.trans s1)
   have ln:b+(B+20) * pr.length+B+4+2 * (y::sr).length=b+(B+20) * pr.length+B+4+2 * sr.length+2:=by first | exact (Nat.add_assoc _ _ _).symm | (simp only [List.length_cons];fail "a")
   rw [ln] at s2
   have hw:(ws.map V.int).filter (onInt2 fun i=>decide (i ≥ 0))=vints us:=hw
   have hw:id ((ws.map V.int).filter (onInt2 fun i=>decide (i ≥ 0))=vints us):=hw
   fail "r"
   refine Does.goP (read_spec s2 H2 xy okp) ?_
   rintro R hR v σ3 ⟨T3,r1,r2,r3,r4⟩
   try dsimp only at r2 r3 r4
   have hw:(ws.map V.int).filter (onInt2 fun i=>decide (i ≥ 0))=vints us:=hw
   cases hq:rd y p.name with
   | none =>
    rw [hq] at r4
    have r4:v=.int (-1):=r4
    subst r4
    refine hR ?_
    refine fin ⟨same_lst _,pre'++[y],T3,ws++[-1],us,hS,s1.trans r1,r2,s3.trans r3,by simp,?_,by simp;fail "a",fun u hu=>?_,fun t ht G e=>?_⟩
    ·show _=_
     rw [List.map_append,List.filter_append,hw]
     exact List.append_nil _
    ·obtain ⟨t,ht,G,e,k⟩:=k1 u hu
     exact ⟨t,by simp [ht],G,e,k.mono r1⟩
    ·rcases List.mem_append.mp ht with ht | ht
     ·obtain ⟨u,hu,k⟩:=k2 t ht G e;exact ⟨u,hu,k.mono r1⟩
     ·simp at ht;subst ht;rw [hq] at e;cases e
   | some G =>
    rw [hq] at r4
    obtain ⟨u,rfl,ku⟩:=r4
    refine hR ?_
    refine fin ⟨same_lst _,pre'++[y],T3,ws++[(u:Int)],us++[u],hS,s1.trans r1,r2,s3.trans r3,by simp,?_,by simp;fail "a",fun u' hu=>?_,fun t ht G' e=>?_⟩
    ·show _=_
     rw [List.map_append,List.filter_append,hw]
     have:decide ((u:Int) ≥ 0)=true:=decide_eq_true (by fail "a")
     have e:onInt2 (fun i=>decide (i ≥ 0)) (.int (u:Int))=true:=this
     simp [vints,e]
    ·rcases List.mem_append.mp hu with hu | hu
     ·obtain ⟨t,ht,G,e,k⟩:=k1 u' hu
      exact ⟨t,by simp [ht],G,e,k.mono r1⟩
     ·simp at hu;subst hu;exact ⟨y,by simp,G,hq,ku⟩
    ·rcases List.mem_append.mp ht with ht | ht
     ·obtain ⟨u',hu,k⟩:=k2 t ht G' e;exact ⟨u',by simp [hu],k.mono r1⟩
     ·simp at ht;subst ht;rw [hq] at e;cases e;exact ⟨u,by simp,ku⟩
  ·refine ⟨[],T',[],[],rfl,List.prefix_refl _,p2.less (by fail "a"),Fix.refl _ _,rfl,rfl,Nat.le_refl _,(fun I q=>nomatch q),(fun I q=>nomatch q)⟩
  ·rintro R hR vs σ2 ⟨pre',T2,ws,us,hS,s1,s2,s3,hd,hw,hul,k1,k2⟩
   have hS:ts=pre':=by have hS:ts=pre'++[]:=hS;rw [hS,List.append_nil]
   subst hS
   have hd:vs=ws.map V.int:=hd
   subst hd
   have hw:(ws.map V.int).filter (onInt2 fun i=>decide (i ≥ 0))=vints us:=hw
   have H2:=H'.fix p2 s3
   have g0:=H2.at_
   try dsimp only at s2 s3 k1 k2
   fail "r"
   refine comp_mapG id (onInt2 fun i=>decide (i ≥ 0)) (same_lst _) ?_ ?_ ?_
   ·intro z hz
    obtain ⟨i,hi,rfl⟩:=List.mem_map.mp hz
    clear Xp k1 k2 hw p3 hps x
    fail "r"
   ·intro z hz _
    obtain ⟨i,hi,rfl⟩:=List.mem_map.mp hz
    clear Xp k1 k2 hw p3 hps x
    fail "r"
   rw [List.map_id,hw]
   have hun:Does 3 (rc 62) [.loc τ,.lst (vints us)] σ2 (TPost τ σ2 T2 (b+(B+20) * pr.length+B) fun v T'=>∃ u S,v=.int (u:Nat)∧KIs T' u S∧UnOK T' S (rowsAt ts rd p.name)):=by
    refine un_spec (s2.less (by fail "a")) (.inl rfl) (by fail "a") (fun u hu=>?_) (fun r hr=>?_)
    ·obtain ⟨t,ht,G,e,k⟩:=k1 u hu
     exact ⟨G,k,F t ht p.name okp G e,fun r hr=>mem_rowsAt.mpr ⟨t,ht,G,e,hr⟩⟩
    ·obtain ⟨t,ht,G,e,hrG⟩:=mem_rowsAt.mp hr
     obtain ⟨u,hu,k⟩:=k2 t ht G e
     exact ⟨u,hu,G,k,hrG⟩
   clear hw k1 k2
   have Xp':id _:=Xp
   clear Xp
   fail "r"
   refine Does.goP hun ?_
   rintro R hR v σ3 ⟨T3,r1,r2,r3,u,S,rfl,kS,uS⟩
   try dsimp only at r2 r3
   have g0:=(H2.fix s2 r3).at_
   clear hun
   fail "r"
   refine Does.goV (Xp' _ σ3 T3 u S (p1.trans (s1.trans r1)) r2 (hx.trans (s3.trans r3)) kS uS) fun T4 σ4 t1 t2 t3=>?_
   have fx:=hx.trans (s3.trans (r3.trans t3))
   have pp:=p1.trans (s1.trans (r1.trans t1))
   have p3:withinR inner (p.name::pr.map (·.name))=withinR inner (ps.map (·.name)):=p3
   have p3:(if inner p.name = "" then withinR inner (pr.map (·.name)) else inner p.name)=withinR inner (ps.map (·.name)):=p3
   by_cases hres:inner p.name = ""
   ·rw [if_pos hres] at p3
    rw [hres]
    have p3:id (withinR inner (pr.map (·.name))=withinR inner (ps.map (·.name))):=p3
    have hc:(Str.ofString "" == (Str.ofString ""))=true:=by rfl
    clear hres Xp'
    fail "r"
    exact lp (same_tup _) ⟨pre++[p],T4,hps,fx,pp,t2,p3⟩
   ·rw [if_neg hres] at p3
    have hc:(inner p.name==(Str.ofString ""))=false:=by simpa using hres
    clear hres Xp'
    have fin:TPost τ σ T b (fun v T'=>v=.str (withinR inner (ps.map (·.name)))) (.str (inner p.name),σ4):=⟨T4,pp,t2.less (by fail "a"),fx,by rw [p3]⟩
    clear p3
    fail "r"
    exact fin
 ·rintro R hR vars σ' ⟨pre,T',hps,hx,p1,p2,p3⟩
  have p3 : "" = withinR inner (ps.map (·.name)):=p3
  have p3:id _:=p3
  fail "r"
  exact ⟨T',p1,p2.less (by fail "a"),hx,congrArg V.str p3⟩
 ·exact ⟨[],T,rfl,Fix.refl _ _,List.prefix_refl _,h,rfl⟩
end
noncomputable def askR (rd:Nat→Str→Option (List Row)) (ts:List Nat) (names:List Str):Option Str:=names.find? fun nm=>!ts.any fun t=>(rd t nm).isSome
noncomputable def oneR (T:List Row) (rd:Nat→Str→Option (List Row)) (K:Str→List Row) (S:List Nat) (inner:List Nat→Str→Str) (names:List Str):Str :=
 if (checkedR T rd K S names).isEmpty then "" else match askR rd (checkedR T rd K S names) names with
  | some nm=>nm
  | none=>withinR (inner (checkedR T rd K S names)) names
theorem told_sub {rd K ts}:∀ {names:List Str} {left:List Nat},∀ x∈names.foldl (fun left nm=>stepR rd K ts nm left) left,x∈left
 | [],_,x,h=>h
 | nm::l,left,x,h=>step_sub x (told_sub (names:=l) x h)
theorem told_len {rd K ts}:∀ {names:List Str} {left:List Nat},(names.foldl (fun left nm=>stepR rd K ts nm left) left).length≤left.length
 | [],_=>Nat.le_refl _
 | nm::l,left=>Nat.le_trans (told_len (names:=l)) step_len
theorem checked_sub {T rd K S names}:∀ x∈checkedR T rd K S names,x∈S.filter (shapedB T)∧S.any takeB=false:=by
 intro x hx
 unfold checkedR at hx
 split at hx
 ·cases hx
 ·rename_i q
  have q:=Bool.eq_false_iff.mpr q
  split at hx
  ·exact ⟨told_sub x hx,q⟩
  ·exact ⟨hx,q⟩
theorem checked_len {T rd K S names}:(checkedR T rd K S names).length≤(S.filter (shapedB T)).length:=by
 unfold checkedR
 split
 ·exact Nat.zero_le _
 ·split
  ·exact told_len
  ·exact Nat.le_refl _
section
variable {n m τ b η:Nat} {σ σ':St} {T:List Row} {v:V}
theorem PartOK.obj {rd} {S:List Nat} {x:Nat} (p:PartOK σ τ T (rd:Nat→Str→Option (List Row)) x) (hx:x∈S.filter (shapedB T)) (ht:S.any takeB=false):ObjAt σ τ T x (rd x):=by
 obtain ⟨hS,hsh⟩:=List.mem_filter.mp hx
 rcases p with p | ⟨_,r,e,k8,k9⟩ | p
 ·rw [List.any_eq_true.mpr ⟨x,hS,p⟩] at ht;cases ht
 ·unfold shapedB at hsh;rw [e] at hsh
  have:=of_decide_eq_true hsh
  fail "a"
 ·exact p
theorem one_spec {kk s t f B:Nat} {ps:List Prp} {S:List Nat} {rd:Nat→Str→Option (List Row)} {K:Str→List Row} {inner:List Nat→Str→Str} (h:Tab σ τ T (b+(B+220) * ps.length)) (H:Host σ η τ) (hs:T[s]?=some (.obj ps none none f)) (k:KIs T t S) (x:∀ x∈S,PartOK σ τ T rd x) (hl:S.any takeB=false→(S.filter (shapedB T)).length≤4) (L:LitOK T ps K) (F:RdF (S.filter (shapedB T)) rd)
  (X:∀ p∈ps,∀ b' σ' T' u S',T <+: T'→Tab σ' τ T' (b'+B)→Fix τ σ σ'→KIs T' u S'→UnOK T' S' (rowsAt (checkedR T rd K S (ps.map (·.name))) rd p.name)→Does kk (rc 119) [.loc η,.int p.kind,.int (u:Nat)] σ' (TPost τ σ' T' b' fun v T''=>v=.str (inner (checkedR T rd K S (ps.map (·.name))) p.name))) (h10:10≤kk:=by fail "h") :
  Does (kk+2) (rc 116) [.loc η,.int s,.int t] σ (TPost τ σ T b fun v T'=>v=.str (oneR T rd K S inner (ps.map (·.name)))):=by
 have hb:(B+220) * ps.length=200 * ps.length+(B+20) * ps.length:=by rw [← Nat.add_mul];congr 1;fail "a"
 rw [hb] at h
 have hck:=checked_spec (b:=b+(B+20) * ps.length) (h.less (by fail "a")) H hs k x hl L F
 have i1:∀ σ,subV σ (Row.obj ps none none f).enc (.int 1)=some (.tup (ps.map encP)):=fun I=>rfl
 have sub:=checked_sub (T:=T) (rd:=rd) (K:=K) (S:=S) (names:=ps.map (·.name))
 have cl:=checked_len (T:=T) (rd:=rd) (K:=K) (S:=S) (names:=ps.map (·.name))
 have cl4:(checkedR T rd K S (ps.map (·.name))).length≤4:=by
  cases hb:S.any takeB with
  | true=>unfold checkedR;rw [if_pos hb];exact Nat.zero_le _
  | false=>exact Nat.le_trans cl (hl hb)
 unfold oneR
 generalize checkedR T rd K S (ps.map (·.name))=ts at *
 refine enterH ?_
 fail "r"
 refine Does.goV hck fun T1 σ1 p1 p2 p3=>?_
 have hxs:∀ y∈ts,ObjAt σ τ T y (rd y):=fun y hy=>by
  obtain ⟨a,c⟩:=sub y hy
  exact (x y (List.mem_filter.mp a).1).obj a c
 have H1:=H.fix h p3
 have h0:=H1.at_
 have h1:=p2.inst
 have h2:=p2.row (pre_at p1 hs)
 have F':RdF ts rd:=fun y hy=>F y (sub y hy).1
 cases hts:ts.isEmpty with
 | true =>
  have e:ts=[]:=List.isEmpty_iff.mp hts
  subst e
  have v0:vints []=[]:=rfl
  clear X hck
  fail "r"
  exact ⟨T1,p1,p2.less (by fail "a"),p3,rfl⟩
 | false =>
  have v0:(vints ts).isEmpty=false:=by cases ts with
   | nil=>cases hts
   | cons=>rfl
  rw [if_neg (by decide)]
  have hxs1:∀ y∈ts,ObjAt σ1 τ T1 y (rd y):=fun y hy=>(hxs y hy).fix h p3 p1
  have hw:=within_spec (b:=b) (B:=B) (inner:=inner ts) p2 H1 (pre_at p1 hs) hxs1 cl4 (fun p hp=>(L.all p hp).1) F' (fun p hp b' σ' T' u S' c d e g q=>X p hp b' σ' T' u S' (p1.trans c) d (p3.trans e) g q)
  clear X hck cl cl4 sub hts
  fail "r"
  refine for_ruleO [("host",.loc η),("s",.int (s:Nat)),("parts",.lst (vints ts))] (fun rest I σ'=>σ'=σ1∧Ex2 fun pre pr=>C3 (rest=List.map encP pr) (id (ps=pre++pr)) (id (askR rd ts (pr.map (·.name))=askR rd ts (ps.map (·.name))))) ?_ ?_ _ _ _ rfl ?_
  ·rintro R hR z rest vars σ' ⟨rfl,pre,pr,hr,hps,ha⟩
   cases pr with
   | nil=>cases hr
   | cons p pr =>
   cases hr
   have hps':ps=pre++p::pr:=hps
   have hp:p∈ps:=by rw [hps'];simp
   have okp:=(L.all p hp).1
   have hps:id (ps=(pre++[p])++pr):=by show ps=_;rw [hps'];simp
   clear hps'
   have j0:∀ σ,subV σ (encP p) (.int 0)=some (.str p.name):=fun I=>rfl
   have ha:askR rd ts (p.name::pr.map (·.name))=askR rd ts (ps.map (·.name)):=ha
   unfold askR at ha
   rw [List.find?_cons] at ha
   fail "r"
   refine comp_mapG id (onInt false fun t=>(rd t p.name).isSome) (same_lst _) ?_ ?_ ?_
   ·intro z hz
    obtain ⟨y,hy,rfl⟩:=mem_vints.mp hz
    have e:=knows_eq p2 H1 (hxs1 y hy) okp
    clear ha i1
    fail "r"
   ·intro z hz _
    obtain ⟨y,hy,rfl⟩:=mem_vints.mp hz
    clear ha i1
    fail "r"
   rw [List.map_id,vints_filter (onInt false fun t=>(rd t p.name).isSome) (fun t=>(rd t p.name).isSome) (fun x=>rfl) ts]
   have ln:(vints (ts.filter fun t=>(rd t p.name).isSome)).length=(ts.filter fun t=>(rd t p.name).isSome).length:=by simp [vints]
   cases hk:ts.any fun t=>(rd t p.name).isSome with
   | true =>
    have c1:(((vints (ts.filter fun t=>(rd t p.name).isSome)).length:Int)==0)=false:=by
     rw [Bool.eq_false_iff]
     intro q
     have q:=eq_of_beq q
     rw [ln] at q
     obtain ⟨y,hy,e⟩:=List.any_eq_true.mp hk
     have:0 < (ts.filter fun t=>(rd t p.name).isSome).length:=List.length_pos_of_mem (List.mem_filter.mpr ⟨hy,e⟩)
     fail "a"
    rw [hk] at ha
    have ha:askR rd ts (pr.map (·.name))=askR rd ts (ps.map (·.name)):=ha
    fail "r"
    exact lp (same_tup _) ⟨rfl,pre++[p],pr,rfl,hps,ha⟩
   | false =>
    have c1:(((vints (ts.filter fun t=>(rd t p.name).isSome)).length:Int)==0)=true:=by
     rw [beq_iff_eq,ln]
     have:(ts.filter fun t=>(rd t p.name).isSome)=[]:=List.filter_eq_nil_iff.mpr fun y hy e=>by
      rw [List.any_eq_true.mpr ⟨y,hy,e⟩] at hk;cases hk
     rw [this];rfl
    rw [hk] at ha
    have ha:askR rd ts (ps.map (·.name))=some p.name:=ha.symm
    rw [ha]
    clear hk ln i1 ha
    fail "r"
    exact ⟨T1,p1,p2.less (by fail "a"),p3,rfl⟩
  ·rintro R hR vars σ' ⟨rfl,pre,pr,hr,hps,ha⟩
   cases pr with
   | cons _ _=>cases hr
   | nil =>
   clear hr
   have ha:askR rd ts (ps.map (·.name))=none:=(show none=_ from ha).symm
   refine hR ?_
   clear hR
   rw [ha]
   clear ha
   fail "r"
   refine Does.goP (hw) ?_
   rintro R hR v σ2 ⟨T2,q1,q2,q3,q4⟩
   fail "r"
   exact ⟨T2,p1.trans q1,q2,p3.trans q3,q4⟩
  ·exact ⟨rfl,[],ps,rfl,rfl,rfl⟩
end
set_option genCtorIdx true in
inductive Atm where
 | o0 | o1 | one | lit | p0 | p1 | p2 | p3 | a | any | b | c | err | num | obj | str | t | tru | undef | unk | emp | fone | fa | fb | ftru
 deriving DecidableEq
noncomputable def Atm.ord:Atm→Nat
 | .o0=>0 | .o1=>1 | .one=>2 | .lit=>3 | .p0=>4 | .p1=>5 | .p2=>6 | .p3=>7 | .a=>8 | .any=>9 | .b=>10 | .c=>11 | .err=>12 | .num=>13 | .obj=>14 | .str=>15 | .t=>16 | .tru=>17
 | .undef=>18 | .unk=>19 | .emp=>20 | .fone=>21 | .fa=>22 | .fb=>23 | .ftru=>24
noncomputable def Atm.name:Atm→Str
 | .o0 => "#0" | .o1 => "#1" | .one => "1" | .lit => "L" | .p0 => "P0" | .p1 => "P1" | .p2 => "P2" | .p3 => "P3" | .a => "a" | .any => "any" | .b => "b" | .c => "c" | .err => "error" | .num => "number" | .obj => "object"
 | .str => "string" | .t => "t" | .tru => "true" | .undef => "undefined" | .unk => "unknown" | .emp => "{}" | .fone => "~1" | .fa => "~a" | .fb => "~b" | .ftru => "~true"
noncomputable def dedA:List Atm→List Atm→List Atm
 | acc,[]=>acc
 | acc,x::l=>dedA (if x∈acc then acc else acc++[x]) l
noncomputable def sortA (l:List Atm):List Atm:=insSort (fun a b=>decide (a.ord < b.ord)) l
noncomputable def lessA (l:List Atm):List Atm:=if Atm.any∈l then [.any] else dedA [] (sortA l)
noncomputable def optA (f:Bool) (K:List Atm):List Atm:=if f then (if Atm.any∈K then [.any] else K++[.undef]) else K
noncomputable def goalA (i:Nat):List Atm:=[[.a],[.b],[.a,.b],[.fa],[.t],[.one],[.tru],[.str],[.num],[.any],[.o0],[.o1],[.a,.undef],[.o0,.a],[],[.c]].getD i []
noncomputable def ownA (i:Nat):List Atm:=[[.fa],[.fb],[.fone],[.ftru],[.a],[.a,.b],[.t],[.lit],[.lit,.undef],[.str],[.undef]].getD i []
noncomputable def GK16:List (List Atm):=(List.range 16).map goalA
noncomputable def OK11:List (List Atm):=(List.range 11).map ownA
noncomputable def KS:List (List Atm):=GK16++GK16.map (optA true)
set_option genInjectivity false in
structure O where
 mem:List (Str×List Atm×Bool)
 texts:Option (List Atm)
 digits:Option (List Atm)
noncomputable def O.raw (o:O) (nm:Str):Option (List Atm):=match o.mem.lookup nm with
 | some (K,f)=>some (optA f K)
 | none=>if nm = "0" ∧ o.digits.isSome then o.digits else o.texts
structure O.Ok (o:O):Prop where
 mem:∀ p∈o.mem,p.2.1∈GK16
 texts:∀ K,o.texts=some K→K∈GK16
 digits:∀ K,o.digits=some K→K∈GK16
theorem lookup_mem' {β:Type} {x:Str} {v:β}:∀ {l:List (Str×β)},l.lookup x=some v→(x,v)∈l
 | (a,b)::l,h=>by
  rw [List.lookup_cons] at h
  by_cases e:x=a
  ·subst e;simp at h;subst h;exact .head _
  ·rw [show (x==a)=false by simpa using e] at h;exact .tail _ (lookup_mem' h)
set_option tactic.hygienic true in
theorem O.Ok.raw {o:O} (h:o.Ok) {nm:Str} {K:List Atm} (e:o.raw nm=some K):K∈KS:=by
 have k1:∀ K,K∈GK16→K∈KS:=fun K h=>List.mem_append_left _ h
 have k2:∀ K f,K∈GK16→optA f K∈KS:=fun K f h=>by
  cases f with
  | false=>exact k1 K h
  | true=>exact List.mem_append_right _ (List.mem_map.mpr ⟨K,h,rfl⟩)
 unfold O.raw at e
 split at e
 ·rename_i K' f hl;cases e;exact k2 _ _ (h.mem _ (lookup_mem' hl))
 ·split at e
  ·exact k1 _ (h.digits _ e)
  ·exact k1 _ (h.texts _ e)
noncomputable def unitA (x:Atm):Bool:=decide (x∈[Atm.a,.b,.c,.one,.fa,.fb,.fone,.tru,.ftru,.undef])
noncomputable def tagA (K:List Atm):Bool:=(!K.isEmpty&&K.all unitA)||decide (K=[.t])
noncomputable def apartK (l:List (List Atm)):Bool:=l.any (fun a=>l.any fun c=>decide (lessA a≠lessA c))&&l.any fun a=>tagA (lessA a)
noncomputable def apartO (os:List O) (nm:Str):Bool:=apartK ((os.map fun o=>o.raw nm).filterMap id)
noncomputable def roomA:Atm→List Atm
 | .a=>[.a,.str] | .b=>[.b,.str] | .c=>[.c,.str] | .t=>[.t,.str] | .fa=>[.a,.str] | .fb=>[.b,.str] | .one=>[.one,.num] | .fone=>[.one,.num] | .ftru=>[.tru] | x=>[x]
noncomputable def fitA (G:List Atm) (h:Atm):Bool:=decide (lessA G=[.any])||(roomA h).any fun r=>decide (r∈(lessA G).map fun g=>(roomA g).headD .any)
noncomputable def letsA (G:Option (List Atm)) (K:List Atm):Bool:=match G with | none=>false | some G=>K.any (fitA G)
noncomputable def stepO {α:Type} (ob:α→O) (ts:List α) (p:Str×List Atm) (left:List α):List α :=
 if apartO (ts.map ob) p.1 then (if (left.filter fun t=>letsA ((ob t).raw p.1) p.2).isEmpty then left else left.filter fun t=>letsA ((ob t).raw p.1) p.2) else left
noncomputable def leftO {α:Type} (ob:α→O) (lit:List (Str×List Atm)) (ts:List α):List α:=lit.foldl (fun left p=>stepO ob ts p left) ts
noncomputable def askO (os:List O) (names:List Str):Option Str:=names.find? fun nm=>!os.any fun o=>(o.raw nm).isSome
noncomputable def oneO (lit:List (Str×List Atm)) (inner:List O→Str→Str) (os:List O):Str :=
 if os.isEmpty then "" else match askO (leftO id lit os) (lit.map (·.1)) with
  | some nm=>nm
  | none=>withinR (inner (leftO id lit os)) (lit.map (·.1))
theorem step_map {α:Type} (ob:α→O) (ts:List α) (p:Str×List Atm) (left:List α):(stepO ob ts p left).map ob=stepO id (ts.map ob) p (left.map ob):=by
 have hf:(left.filter fun t=>letsA ((ob t).raw p.1) p.2).map ob=(left.map ob).filter fun t=>letsA ((id t).raw p.1) p.2:=by
  rw [List.filter_map];rfl
 unfold stepO
 rw [List.map_id]
 split
 ·rw [← hf]
  have:((left.filter fun t=>letsA ((ob t).raw p.1) p.2).map ob).isEmpty=(left.filter fun t=>letsA ((ob t).raw p.1) p.2).isEmpty:=by simp
  rw [this]
  split<;>rfl
 ·rfl
theorem left_map {α:Type} (ob:α→O) (ts:List α):∀ (lit:List (Str×List Atm)) (left:List α),(lit.foldl (fun left p=>stepO ob ts p left) left).map ob=lit.foldl (fun left p=>stepO id (ts.map ob) p left) (left.map ob)
 | [],_=>rfl
 | p::l,left=>by rw [List.foldl_cons,left_map ob ts l,step_map];rfl
theorem leftO_map {α:Type} (ob:α→O) (lit:List (Str×List Atm)) (ts:List α):(leftO ob lit ts).map ob=leftO id lit (ts.map ob):=left_map ob ts lit ts
noncomputable def Same (l k:List O):Prop:=∀ o,o∈l↔o∈k
theorem any_same {l k:List O} (h:Same l k) (f:O→Bool):l.any f=k.any f:=by
 rw [Bool.eq_iff_iff,List.any_eq_true,List.any_eq_true]
 exact ⟨fun zz=>(by obtain ⟨x,a,b⟩:=zz;exact ⟨x,(h x).mp a,b⟩),fun zz=>(by obtain ⟨x,a,b⟩:=zz;exact ⟨x,(h x).mpr a,b⟩)⟩
theorem empty_same {l k:List O} (h:Same l k):l.isEmpty=k.isEmpty:=by
 cases l with
 | nil=>cases k with
  | nil=>rfl
  | cons x k=>have:=(h x).mpr (.head _);cases this
 | cons x l=>cases k with
  | nil=>have:=(h x).mp (.head _);cases this
  | cons=>rfl
theorem filter_same {l k:List O} (h:Same l k) (f:O→Bool):Same (l.filter f) (k.filter f):=fun o=>by
 rw [List.mem_filter,List.mem_filter,h o]
set_option tactic.hygienic true in
theorem apartO_any (os:List O) (nm:Str):apartO os nm=(os.any (fun a=>os.any fun c=>match a.raw nm,c.raw nm with | some x,some y=>decide (lessA x≠lessA y) | _,_=>false)&&os.any fun a=>match a.raw nm with | some x=>tagA (lessA x) | none=>false):=by
 unfold apartO apartK
 congr 1
 ·rw [Bool.eq_iff_iff]
  simp only [List.any_eq_true,List.mem_filterMap,List.mem_map,id]
  constructor
  ·intro h;rcases h with ⟨x,⟨_,⟨o,ho,rfl⟩,e⟩,y,⟨_,⟨o',ho',rfl⟩,e'⟩,q⟩
   exact ⟨o,ho,o',ho',by rw [e,e'];exact q⟩
  ·rintro ⟨o,ho,o',ho',q⟩
   split at q
   ·rename_i x y e e'
    exact ⟨x,⟨_,⟨o,ho,rfl⟩,e⟩,y,⟨_,⟨o',ho',rfl⟩,e'⟩,q⟩
   ·cases q
 ·rw [Bool.eq_iff_iff]
  simp only [List.any_eq_true,List.mem_filterMap,List.mem_map,id]
  constructor
  ·intro h;rcases h with ⟨x,⟨_,⟨o,ho,rfl⟩,e⟩,q⟩
   exact ⟨o,ho,by rw [e];exact q⟩
  ·rintro ⟨o,ho,q⟩
   split at q
   ·rename_i x e
    exact ⟨x,⟨_,⟨o,ho,rfl⟩,e⟩,q⟩
   ·cases q
theorem apart_same {l k:List O} (h:Same l k) (nm:Str):apartO l nm=apartO k nm:=by
 rw [apartO_any,apartO_any,any_same h]
 congr 1
 ·congr 1;funext a;exact any_same h _
 ·exact any_same h _
theorem step_same {ts ks l k:List O} (h:Same ts ks) (h':Same l k) (p:Str×List Atm):Same (stepO id ts p l) (stepO id ks p k):=by
 unfold stepO
 rw [List.map_id,List.map_id,apart_same h]
 split
 ·have:=filter_same h' fun t=>letsA ((id t).raw p.1) p.2
  rw [empty_same this]
  split
  ·exact h'
  ·exact this
 ·exact h'
theorem fold_same {ts ks:List O} (h:Same ts ks):∀ (lit:List (Str×List Atm)) {l k:List O},Same l k→Same (lit.foldl (fun left p=>stepO id ts p left) l) (lit.foldl (fun left p=>stepO id ks p left) k)
 | [],_,_,h'=>h'
 | p::lit,_,_,h'=>fold_same h lit (step_same h h' p)
theorem one_same {lit:List (Str×List Atm)} {inner inner':List O→Str→Str} {l k:List O} (h:Same l k) (hi:∀ a c,Same a c→(∀ o∈a,o∈l)→∀ p∈lit,inner a p.1=inner' c p.1):oneO lit inner l=oneO lit inner' k:=by
 have sub:∀ (lit:List (Str×List Atm)) (left:List O),∀ o∈lit.foldl (fun left p=>stepO id l p left) left,o∈left:=by
  intro lit
  induction lit with
  | nil=>exact fun I I h=>h
  | cons p lit ih =>
   intro left o ho
   have:=ih _ o ho
   unfold stepO at this
   try dsimp only at this
   split at this
   ·split at this
    ·exact this
    ·exact (List.mem_filter.mp this).1
   ·exact this
 have hl:Same (leftO id lit l) (leftO id lit k):=fold_same h lit h
 have hs:∀ o∈leftO id lit l,o∈l:=sub lit l
 unfold oneO
 rw [empty_same h]
 have ha:askO (leftO id lit l) (lit.map (·.1))=askO (leftO id lit k) (lit.map (·.1)):=by
  unfold askO;congr 1;funext nm;rw [any_same hl]
 rw [ha]
 have hw:∀ q:List (Str×List Atm),(∀ p∈q,p∈lit)→withinR (inner (leftO id lit l)) (q.map (·.1))=withinR (inner' (leftO id lit k)) (q.map (·.1)):=by
  intro q
  induction q with
  | nil=>intro _;rfl
  | cons p q ih =>
   intro hq
   simp only [List.map_cons,within_c,hi _ _ hl hs p (hq p (.head _)),ih fun p hp=>hq p (.tail _ hp)]
 rw [hw lit fun I h=>h]
theorem left_one (lit:List (Str×List Atm)) (o:O):leftO id lit [o]=[o]:=by
 have h:∀ nm,apartO [o] nm=false:=fun nm=>by
  rw [apartO_any]
  have:([o].any fun a=>[o].any fun c=>match a.raw nm,c.raw nm with | some x,some y=>decide (lessA x≠lessA y) | _,_=>false)=false:=by
   simp only [List.any_cons,List.any_nil,Bool.or_false]
   cases o.raw nm<;>simp
  rw [this,Bool.false_and]
 unfold leftO
 have:∀ lit:List (Str×List Atm),lit.foldl (fun left p=>stepO id [o] p left) [o]=[o]:=by
  intro lit
  induction lit with
  | nil=>rfl
  | cons p lit ih =>
   rw [List.foldl_cons,show stepO id [o] p [o]=[o] by unfold stepO;rw [List.map_id,h];rfl,ih]
 exact this lit
theorem left_nil (lit:List (Str×List Atm)):leftO id lit []=[]:=by
 unfold leftO
 induction lit with
 | nil=>rfl
 | cons p lit ih=>rw [List.foldl_cons,show stepO id [] p []=[] by (unfold stepO;split<;>simp),ih]
noncomputable def rowF (x0 x1 l:Row):Atm→Row
 | .a=>.str "a" 0 | .b=>.str "b" 0 | .c=>.str "c" 0 | .fa=>.str "a" 1 | .fb=>.str "b" 1 | .one=>.num 1 0 | .fone=>.num 1 1 | .t=>.tpl | .tru=>.bool 1 0 | .ftru=>.bool 1 1
 | .str=>.key "string" | .num=>.key "number" | .any=>.key "any" | .undef=>.key "undefined" | .err=>.key "error" | .unk=>.key "unknown" | .obj=>.key "object" | .emp=>.obj [] none none 0
 | .o0=>x0 | .o1=>x1 | .lit=>l | _=>.key "never"
structure RowsOK (x0 x1 l:Row):Prop where
 h0:∃ ps s d,x0=.obj ps s d 0
 h1:∃ ps s d,x1=.obj ps s d 0
 ne:x0≠x1
 hl:∃ ps f,l=.obj ps none none f
 l0:l.plain≠x0
 l1:l.plain≠x1
noncomputable def BS:List Atm:=[.a,.b,.c,.fa,.t,.one,.tru,.str,.num,.any,.o0,.o1,.undef]
noncomputable def plainA:Atm→Atm | .fa=>.a | .fb=>.b | .fone=>.one | .ftru=>.tru | x=>x
noncomputable def wholeA:Atm→Int | .a | .b | .c | .fa | .fb | .t=>6 | .one | .fone=>7 | _=>-1
noncomputable def freshA (x:Atm):Bool:=decide (x∈[Atm.fa,.fb,.fone,.ftru])
noncomputable def CalmA (K:List Atm):Prop:=∀ x∈K,∀ y∈K,(wholeA x=6→y≠.str)∧(wholeA x=7→y≠.num)∧(freshA x=true→y≠plainA x)
noncomputable instance (K:List Atm):Decidable (CalmA K):=by unfold CalmA;infer_instance
noncomputable def InB (K:List Atm):Prop:=∀ x∈K,x∈BS
noncomputable instance (K:List Atm):Decidable (InB K):=by unfold InB;infer_instance
section
variable {x0 x1 l:Row}
theorem rowC_inj:∀ x∈BS,∀ y∈BS,rowF .tpl .tpl .tpl x=rowF .tpl .tpl .tpl y→x=y∨x=.o0∨x=.o1∨y=.o0∨y=.o1:=by decide +kernel
theorem rowC_kind:∀ x∈BS,x≠.o0→x≠.o1→(rowF .tpl .tpl .tpl x).kind≠8:=by decide +kernel
theorem rowF_c {x:Atm} (hx:x∈BS) (h0:x≠.o0) (h1:x≠.o1):rowF x0 x1 l x=rowF .tpl .tpl .tpl x:=by
 cases x<;>first | rfl | exact absurd rfl h0 | exact absurd rfl h1 | exact absurd hx (by decide)
theorem row_inj (R:RowsOK x0 x1 l):∀ x∈BS,∀ y∈BS,rowF x0 x1 l x=rowF x0 x1 l y→x=y:=by
 obtain ⟨⟨ps0,s0,d0,rfl⟩,⟨ps1,s1,d1,rfl⟩,hne,_,_,_⟩:=R
 have no:∀ x∈BS,∀ y∈BS,(x=.o0∨x=.o1)→y≠.o0→y≠.o1→rowF (.obj ps0 s0 d0 0) (.obj ps1 s1 d1 0) l x≠rowF (.obj ps0 s0 d0 0) (.obj ps1 s1 d1 0) l y:=fun x I y hy e h0 h1 h=>by
  have k:=rowC_kind y hy h0 h1
  rw [← rowF_c (x0:=.obj ps0 s0 d0 0) (x1:=.obj ps1 s1 d1 0) (l:=l) hy h0 h1,← h] at k
  rcases e with rfl | rfl<;>exact k rfl
 intro x hx y hy h
 by_cases a:x=.o0∨x=.o1
 ·by_cases b:y=.o0∨y=.o1
  ·rcases a with rfl | rfl<;>rcases b with rfl | rfl
   ·rfl
   ·exact absurd h hne
   ·exact absurd h.symm hne
   ·rfl
  ·exact absurd h (no x hx y hy a (fun q=>b (.inl q)) (fun q=>b (.inr q)))
 ·by_cases b:y=.o0∨y=.o1
  ·exact absurd h.symm (no y hy x hx b (fun q=>a (.inl q)) (fun q=>a (.inr q)))
  ·rw [rowF_c hx (fun q=>a (.inl q)) (fun q=>a (.inr q)),rowF_c hy (fun q=>b (.inl q)) (fun q=>b (.inr q))] at h
   rcases rowC_inj x hx y hy h with e | e | e | e | e
   ·exact e
   ·exact absurd (.inl e) a
   ·exact absurd (.inr e) a
   ·exact absurd (.inl e) b
   ·exact absurd (.inr e) b
theorem row_mem (R:RowsOK x0 x1 l) {x:Atm} {K:List Atm} (hx:x∈BS) (hK:InB K):rowF x0 x1 l x∈K.map (rowF x0 x1 l)↔x∈K:=by
 rw [List.mem_map]
 exact ⟨fun zz=>(by obtain ⟨y,hy,e⟩:=zz;exact row_inj R y (hK y hy) x hx e▸hy),fun h=>⟨x,h,rfl⟩⟩
theorem row_plain (R:RowsOK x0 x1 l):∀ x,x≠.lit→(rowF x0 x1 l x).plain=rowF x0 x1 l (plainA x):=by
 obtain ⟨⟨ps0,s0,d0,rfl⟩,⟨ps1,s1,d1,rfl⟩,hne,_,_,_⟩:=R
 intro x hx
 cases x<;>first | rfl | exact absurd rfl hx
theorem row_whole (R:RowsOK x0 x1 l):∀ x,(rowF x0 x1 l x).whole=wholeA x:=by
 obtain ⟨⟨ps0,s0,d0,rfl⟩,⟨ps1,s1,d1,rfl⟩,hne,⟨ps,f,rfl⟩,_,_⟩:=R
 intro x
 cases x<;>rfl
theorem rowF_fresh (R:RowsOK x0 x1 l):∀ x∈BS,(rowF x0 x1 l x).fresh=freshA x:=by
 obtain ⟨⟨ps0,s0,d0,rfl⟩,⟨ps1,s1,d1,rfl⟩,hne,⟨ps,f,rfl⟩,_,_⟩:=R
 intro x hx
 cases x<;>first | rfl | exact absurd hx (by decide)
theorem row_reg (R:RowsOK x0 x1 l):∀ x∈BS,(rowF x0 x1 l x).reg=rowF x0 x1 l (plainA x):=by
 obtain ⟨⟨ps0,s0,d0,rfl⟩,⟨ps1,s1,d1,rfl⟩,hne,⟨ps,f,rfl⟩,_,_⟩:=R
 intro x hx
 cases x<;>first | rfl | exact absurd hx (by decide)
theorem row_unit (R:RowsOK x0 x1 l):∀ x∈BS,(rowF x0 x1 l x).unitR=unitA x:=by
 obtain ⟨⟨ps0,s0,d0,rfl⟩,⟨ps1,s1,d1,rfl⟩,hne,⟨ps,f,rfl⟩,_,_⟩:=R
 intro x hx
 cases x<;>first | exact absurd hx (by decide) | decide | rfl
theorem plainA_in:∀ x∈BS,plainA x∈BS:=by decide
theorem calm_rows (R:RowsOK x0 x1 l) {K:List Atm} (hK:InB K) (c:CalmA K):CalmRows (K.map (rowF x0 x1 l)):=by
 intro r hr q hq
 obtain ⟨x,hx,rfl⟩:=List.mem_map.mp hr
 obtain ⟨y,hy,rfl⟩:=List.mem_map.mp hq
 obtain ⟨c1,c2,c3⟩:=c x hx y hy
 rw [row_whole R,rowF_fresh R x (hK x hx),row_reg R x (hK x hx)]
 exact ⟨fun h e=>c1 h (row_inj R y (hK y hy) .str (by decide) e),fun h e=>c2 h (row_inj R y (hK y hy) .num (by decide) e),fun h e=>c3 h (row_inj R y (hK y hy) _ (plainA_in x (hK x hx)) e)⟩
theorem map_plain (R:RowsOK x0 x1 l) {K:List Atm} (hK:InB K):(K.map (rowF x0 x1 l)).map Row.plain=(K.map plainA).map (rowF x0 x1 l):=by
 rw [List.map_map,List.map_map]
 refine List.map_congr_left fun x hx=>?_
 exact row_plain R x (fun e=>by have:=hK x hx;rw [e] at this;exact absurd this (by decide))
theorem plain_in {K:List Atm} (hK:InB K):InB (K.map plainA):=fun x hx=>by
 obtain ⟨y,hy,rfl⟩:=List.mem_map.mp hx
 exact plainA_in y (hK y hy)
theorem row_of (R:RowsOK x0 x1 l) {x:Atm} {r:Row} (h8:r.kind≠8) (e:rowF x0 x1 l x=r):rowF .tpl .tpl .tpl x=r:=by
 obtain ⟨⟨ps0,s0,d0,rfl⟩,⟨ps1,s1,d1,rfl⟩,hne,⟨ps,f,rfl⟩,_,_⟩:=R
 cases x<;>first | exact e | exact absurd (congrArg Row.kind e).symm h8
theorem bs_nf:∀ x∈BS,rowF .tpl .tpl .tpl x≠.bool 0 0∧rowF .tpl .tpl .tpl x≠.bool 0 1:=by decide +kernel
noncomputable def keyOk (r:Row):Bool:=match r with | .key s=>decide (s = "string" ∨ s = "number" ∨ s = "any" ∨ s = "undefined") | _=>true
theorem bs_key:∀ x∈BS,keyOk (rowF .tpl .tpl .tpl x)=true:=by decide +kernel
theorem nf_rows (R:RowsOK x0 x1 l) {K:List Atm} (hK:InB K):nfz (K.map (rowF x0 x1 l)):=by
 constructor <;>
 ·intro h
  obtain ⟨x,hx,e⟩:=List.mem_map.mp h
  first | exact (bs_nf x (hK x hx)).1 (row_of R (by decide) e) | exact (bs_nf x (hK x hx)).2 (row_of R (by decide) e)
theorem key_in (R:RowsOK x0 x1 l) {K:List Atm} (hK:InB K) {s:Str} (h:Row.key s∈K.map (rowF x0 x1 l)):s = "string" ∨ s = "number" ∨ s = "any" ∨ s = "undefined" := by
 obtain ⟨x,hx,e⟩:=List.mem_map.mp h
 have:=bs_key x (hK x hx)
 rw [row_of R (r:=.key s) (show (1:Nat)≠8 by decide) e] at this
 exact of_decide_eq_true this
theorem key_out (R:RowsOK x0 x1 l) {K:List Atm} (hK:InB K):Row.key "error" ∉ K.map (rowF x0 x1 l)∧Row.key "unknown" ∉ K.map (rowF x0 x1 l)∧Row.key "void" ∉ K.map (rowF x0 x1 l):=by
 refine ⟨fun h=>?_,fun h=>?_,fun h=>?_⟩<;>(have:=key_in R hK h;revert this;decide)
theorem ks_in:∀ K∈KS,InB K:=by decide +kernel
theorem ks_calm:∀ K∈KS,CalmA K∧CalmA (K.map plainA)∧K.length≤6∧(Atm.any∈K→K=[.any]):=by decide +kernel
theorem gk_calm:∀ K∈GK16,CalmA (K++[.undef])∧K∈KS∧K.length≤5:=by decide +kernel
theorem any_row (R:RowsOK x0 x1 l) {K:List Atm} (hK:InB K):Row.key "any" ∈ K.map (rowF x0 x1 l)↔Atm.any∈K:=row_mem R (x:=.any) (by decide) hK
theorem fit_ok (R:RowsOK x0 x1 l) {K:List Atm} (h:K∈KS):FitOK (K.map (rowF x0 x1 l)):=by
 have hK:=ks_in K h
 obtain ⟨c1,c2,c3,c4⟩:=ks_calm K h
 obtain ⟨o1,o2,o3⟩:=key_out R hK
 refine ⟨by rw [List.length_map];fail "a",?_,?_,?_,o3⟩
 ·rw [map_plain R hK];exact calm_rows R (plain_in hK) c2
 ·rw [map_plain R hK];exact nf_rows R (plain_in hK)
 ·by_cases q:Atm.any∈K
  ·left;rw [c4 q];rfl
  ·right;exact ⟨fun e=>q ((any_row R hK).mp e),o2,o1⟩
theorem nice_row (R:RowsOK x0 x1 l) {K:List Atm} (h:K∈GK16):Nice (K.map (rowF x0 x1 l)):=by
 obtain ⟨g1,g2,g3⟩:=gk_calm K h
 have hK:=ks_in K g2
 obtain ⟨c1,c2,c3,c4⟩:=ks_calm K g2
 obtain ⟨o1,o2,o3⟩:=key_out R hK
 refine ⟨by rw [List.length_map];fail "a",calm_rows R hK c1,?_,nf_rows R hK,fun q=>by rw [c4 ((any_row R hK).mp q)];rfl,o1,o2⟩
 have:K.map (rowF x0 x1 l)++[.key "undefined"]=(K++[Atm.undef]).map (rowF x0 x1 l):=by rw [List.map_append];rfl
 rw [this]
 exact calm_rows R (fun x hx=>by rcases List.mem_append.mp hx with h | h;exact hK x h;simp at h;subst h;decide) g1
theorem opt_row (R:RowsOK x0 x1 l) {K:List Atm} (h:K∈GK16) (f:Bool):optR (if f then 1 else 0) (K.map (rowF x0 x1 l))=(optA f K).map (rowF x0 x1 l):=by
 cases f with
 | false=>rfl
 | true =>
  obtain ⟨g1,g2,g3⟩:=gk_calm K h
  have hK:=ks_in K g2
  obtain ⟨o1,o2,o3⟩:=key_out R hK
  have hu:K.map (rowF x0 x1 l)++[.key "undefined"]=(K++[Atm.undef]).map (rowF x0 x1 l):=by rw [List.map_append];rfl
  have hK2:InB (K++[.undef]):=fun x hx=>by rcases List.mem_append.mp hx with h | h;exact hK x h;simp at h;subst h;decide
  obtain ⟨p1,p2,p3⟩:=key_out R hK2
  show toppedR (K.map (rowF x0 x1 l)++[.key "undefined"])=_
  rw [hu]
  unfold toppedR optA
  by_cases q:Atm.any∈K
  ·rw [if_pos ((any_row R hK2).mpr (by simp [q])),if_pos rfl,if_pos q];rfl
  ·have:Atm.any∉K++[.undef]:=by simp [q]
   rw [if_neg (fun e=>this ((any_row R hK2).mp e)),if_neg p1,if_neg p2,if_pos rfl,if_neg q]
noncomputable def sameA (K G:List Atm):Bool:=K.all (fun x=>decide (x∈G))&&G.all fun x=>decide (x∈K)
theorem ks_same:∀ K∈KS,∀ G∈KS,sameA K G=decide (lessA K=lessA G):=by decide +kernel
theorem ks_tag:∀ K∈KS,(!K.isEmpty&&(K.all (fun x=>decide (x=.t))||K.all unitA))=tagA (lessA K):=by decide +kernel
theorem same_row (R:RowsOK x0 x1 l) {K G:List Atm} (h:K∈KS) (h':G∈KS):sameR (K.map (rowF x0 x1 l)) (G.map (rowF x0 x1 l))=decide (lessA K=lessA G):=by
 rw [← ks_same K h G h']
 have hK:=ks_in K h
 have hG:=ks_in G h'
 unfold sameR sameA
 rw [List.all_map,List.all_map,Bool.eq_iff_iff]
 simp only [Bool.and_eq_true,List.all_eq_true,Function.comp,decide_eq_true_iff]
 constructor
 ·rintro ⟨a,b⟩
  exact ⟨fun x hx=>(row_mem R (hK x hx) hG).mp (a x hx),fun x hx=>(row_mem R (hG x hx) hK).mp (b x hx)⟩
 ·rintro ⟨a,b⟩
  exact ⟨fun x hx=>(row_mem R (hK x hx) hG).mpr (a x hx),fun x hx=>(row_mem R (hG x hx) hK).mpr (b x hx)⟩
theorem all_congr' {α:Type} {f g:α→Bool}:∀ {l:List α},(∀ x∈l,f x=g x)→l.all f=l.all g
 | [],_=>rfl
 | x::l,h=>by rw [List.all_cons,List.all_cons,h x (.head _),all_congr' fun y hy=>h y (.tail _ hy)]
theorem tag_row (R:RowsOK x0 x1 l) {K:List Atm} (h:K∈KS):tagR (K.map (rowF x0 x1 l))=tagA (lessA K):=by
 rw [← ks_tag K h]
 have hK:=ks_in K h
 unfold tagR
 rw [List.all_map,List.all_map]
 congr 1
 ·cases K<;>rfl
 ·congr 1
  ·refine all_congr' fun x hx=>?_
   show decide (rowF x0 x1 l x=.tpl)=_
   congr 1;rw [eq_iff_iff]
   exact ⟨fun e=>row_inj R x (hK x hx) .t (by decide) e,fun e=>by rw [e];rfl⟩
  ·exact all_congr' fun x hx=>row_unit R x (hK x hx)
noncomputable def ownB:List Atm:=[.fa,.fb,.fone,.ftru,.a,.b,.t,.str,.undef]
theorem ks_fit:∀ G∈KS,∀ x∈ownB,(decide (Atm.any∈G)||decide (plainA x∈G.map plainA∨(wholeA (plainA x)=6∧Atm.str∈G.map plainA)∨(wholeA (plainA x)=7∧Atm.num∈G.map plainA)))=fitA G x:=by decide +kernel
theorem ks_lit:∀ G∈KS,decide (Atm.any∈G)=fitA G .lit:=by decide +kernel
theorem own_plain:∀ x∈ownB,plainA x∈BS:=by decide
theorem fit_row (R:RowsOK x0 x1 l) {G:List Atm} (h:G∈KS) {x:Atm} (hx:x∈ownB∨x=.lit):fitG (G.map (rowF x0 x1 l)) (rowF x0 x1 l x)=fitA G x:=by
 have hG:=ks_in G h
 have hG2:=plain_in hG
 unfold fitG fitB
 rw [map_plain R hG]
 have e0:decide (Row.key "any" ∈ G.map (rowF x0 x1 l))=decide (Atm.any∈G):=by congr 1;rw [eq_iff_iff];exact any_row R hG
 rw [e0]
 rcases hx with hx | rfl
 ·rw [← ks_fit G h x hx,row_plain R x (fun e=>by rw [e] at hx;exact absurd hx (by decide)),row_whole R]
  congr 2
  rw [eq_iff_iff]
  have a1:=row_mem R (own_plain x hx) hG2
  have a2:Row.key "string" ∈ (G.map plainA).map (rowF x0 x1 l)↔Atm.str∈G.map plainA:=row_mem R (x:=.str) (by decide) hG2
  have a3:Row.key "number" ∈ (G.map plainA).map (rowF x0 x1 l)↔Atm.num∈G.map plainA:=row_mem R (x:=.num) (by decide) hG2
  rw [a1,a2,a3]
 ·rw [← ks_lit G h]
  have:decide ((rowF x0 x1 l .lit).plain∈(G.map plainA).map (rowF x0 x1 l)∨((rowF x0 x1 l .lit).plain.whole=6∧Row.key "string" ∈ (G.map plainA).map (rowF x0 x1 l))∨((rowF x0 x1 l .lit).plain.whole=7∧Row.key "number" ∈ (G.map plainA).map (rowF x0 x1 l)))=false:=by
   refine decide_eq_false ?_
   obtain ⟨⟨ps0,s0,d0,rfl⟩,⟨ps1,s1,d1,rfl⟩,hne,⟨ps,f,rfl⟩,l0,l1⟩:=R
   have hw:(rowF (.obj ps0 s0 d0 0) (.obj ps1 s1 d1 0) (.obj ps none none f) .lit).plain.whole=-1:=by
    show (Row.obj ps none none f).plain.whole=-1
    unfold Row.plain;split<;>rfl
   rintro (q | ⟨q,_⟩ | ⟨q,_⟩)
   ·obtain ⟨y,hy,e⟩:=List.mem_map.mp q
    have hyB:=hG2 y hy
    have hk:(Row.obj ps none none f).plain.kind=8:=by rw [plain_kind];rfl
    have hk:(rowF (.obj ps0 s0 d0 0) (.obj ps1 s1 d1 0) (.obj ps none none f) y).kind=8:=by rw [e];exact hk
    cases y<;>first | exact l0 e.symm | exact l1 e.symm | exact absurd hyB (by decide) | cases hk
   ·rw [hw] at q;cases q
   ·rw [hw] at q;cases q
  rw [this,Bool.or_false]
theorem ok_own:∀ K∈OK11,K.length≤2∧∀ x∈K,x∈ownB∨x=.lit:=by decide +kernel
theorem own_nf (R:RowsOK x0 x1 l) {x:Atm} (hx:x∈ownB∨x=.lit):nfz [(rowF x0 x1 l x).plain]:=by
 rcases hx with hx | rfl
 ·rw [row_plain R x (fun e=>absurd (e▸hx) (by decide))]
  exact nf_rows R (K:=[plainA x]) fun y hy=>List.mem_singleton.mp hy▸own_plain x hx
 ·obtain ⟨_,_,_,⟨ps,f,rfl⟩,_,_⟩:=R
  have hk:(Row.obj ps none none f).plain.kind=8:=plain_kind _
  constructor <;>
  ·intro e
   have e:_=(Row.obj ps none none f).plain:=List.mem_singleton.mp e
   rw [← e] at hk
   exact absurd hk (by decide)
end
noncomputable def rdF (x0 x1 l:Row) (ob:Nat→O) (t:Nat) (nm:Str):Option (List Row):=((ob t).raw nm).map fun K=>K.map (rowF x0 x1 l)
section
variable {x0 x1 l:Row}
theorem any_congr' {α:Type} {f g:α→Bool}:∀ {l:List α},(∀ x∈l,f x=g x)→l.any f=l.any g
 | [],_=>rfl
 | x::l,h=>by rw [List.any_cons,List.any_cons,h x (.head _),any_congr' fun y hy=>h y (.tail _ hy)]
theorem apart_eq (R:RowsOK x0 x1 l) {ob:Nat→O} {ts:List Nat} {nm:Str} (hO:∀ t∈ts,(ob t).Ok):apartR (ts.map fun t=>rdF x0 x1 l ob t nm)=apartO (ts.map ob) nm:=by
 have e:(ts.map fun t=>rdF x0 x1 l ob t nm).filterMap id=(((ts.map ob).map fun o=>o.raw nm).filterMap id).map fun K=>K.map (rowF x0 x1 l):=by
  clear hO
  induction ts with
  | nil=>rfl
  | cons t ts ih =>
   simp only [List.map_cons,List.filterMap_cons,rdF] at ih ⊢
   cases h:(ob t).raw nm with
   | none=>exact ih
   | some K=>simp only [Option.map_some,id,List.map_cons];rw [← ih]
 have hk:∀ K∈((ts.map ob).map fun o=>o.raw nm).filterMap id,K∈KS:=by
  intro K h
  simp only [List.mem_filterMap,List.mem_map,id] at h
  obtain ⟨_,⟨o,⟨t,ht,rfl⟩,rfl⟩,e⟩:=h
  exact (hO t ht).raw e
 unfold apartR apartO apartL apartK
 rw [e]
 generalize ((ts.map ob).map fun o=>o.raw nm).filterMap id=ks at hk
 rw [List.any_map,List.any_map]
 congr 1
 ·refine any_congr' fun a ha=>?_
  show (ks.map _).any _=_
  rw [List.any_map]
  refine any_congr' fun c hc=>?_
  show (!sameR _ _)=_
  rw [same_row R (hk a ha) (hk c hc)]
  by_cases q:lessA a=lessA c<;>simp [q]
 ·exact any_congr' fun a ha=>tag_row R (hk a ha)
theorem lets_eq (R:RowsOK x0 x1 l) {o:O} {nm:Str} {K:List Atm} (ho:o.Ok) (hK:K∈OK11):letsR ((o.raw nm).map fun K=>K.map (rowF x0 x1 l)) (K.map (rowF x0 x1 l))=letsA (o.raw nm) K:=by
 cases h:o.raw nm with
 | none=>rfl
 | some G =>
  show (K.map (rowF x0 x1 l)).any (fitG (G.map (rowF x0 x1 l)))=K.any (fitA G)
  rw [List.any_map]
  exact any_congr' fun x hx=>fit_row R (ho.raw h) ((ok_own K hK).2 x hx)
noncomputable def LitA (lit:List (Str×List Atm)) (Kf:Str→List Row) (x0 x1 l:Row):Prop:=∀ p∈lit,p.2∈OK11∧okName p.1∧Kf p.1=p.2.map (rowF x0 x1 l)
theorem step_eq (R:RowsOK x0 x1 l) {ob:Nat→O} {ts left:List Nat} {p:Str×List Atm} {Kf:Str→List Row} (hO:∀ t∈ts,(ob t).Ok) (hl:∀ t∈left,t∈ts) (h1:p.2∈OK11) (h2:Kf p.1=p.2.map (rowF x0 x1 l)) :
  stepR (rdF x0 x1 l ob) Kf ts p.1 left=stepO ob ts p left:=by
 unfold stepR stepO
 rw [apart_eq R hO]
 have:(left.filter fun t=>letsR (rdF x0 x1 l ob t p.1) (Kf p.1))=left.filter fun t=>letsA ((ob t).raw p.1) p.2:=by
  refine List.filter_congr fun t ht=>?_
  rw [h2]
  exact lets_eq R (hO t (hl t ht)) h1
 rw [this]
theorem told_eq (R:RowsOK x0 x1 l) {ob:Nat→O} {ts:List Nat} {lit:List (Str×List Atm)} {Kf:Str→List Row} (hO:∀ t∈ts,(ob t).Ok) (hL:LitA lit Kf x0 x1 l):toldR (rdF x0 x1 l ob) Kf ts (lit.map (·.1))=leftO ob lit ts:=by
 unfold toldR leftO
 have:∀ (lit:List (Str×List Atm)),(∀ p∈lit,p.2∈OK11∧okName p.1∧Kf p.1=p.2.map (rowF x0 x1 l))→∀ left,(∀ t∈left,t∈ts) →
   (lit.map (·.1)).foldl (fun left nm=>stepR (rdF x0 x1 l ob) Kf ts nm left) left=lit.foldl (fun left p=>stepO ob ts p left) left:=by
  intro lit
  induction lit with
  | nil=>intros;rfl
  | cons p lit ih =>
   intro hL left hl
   obtain ⟨a,_,c⟩:=hL p (.head _)
   rewrite [List.map_cons,List.foldl_cons,List.foldl_cons]
   rewrite [← step_eq R hO hl a c]
   exact ih (fun q hq=>hL q (.tail _ hq)) _ fun t ht=>hl t (step_sub t ht)
 exact this lit hL ts fun I h=>h
theorem left_ne (lit:List (Str×List Atm)) {os:List O} (h:os≠[]):leftO id lit os≠[]:=by
 have:∀ (lit:List (Str×List Atm)) (left:List O),left≠[]→lit.foldl (fun left p=>stepO id os p left) left≠[]:=by
  intro lit
  induction lit with
  | nil=>exact fun I h=>h
  | cons p lit ih =>
   intro left hl
   refine ih _ ?_
   show stepO id os p left≠[]
   unfold stepO
   split
   ·split
    ·exact hl
    ·rename_i q;exact fun e=>q (by rw [e];rfl)
   ·exact hl
 exact this lit os h
theorem checked_eq (R:RowsOK x0 x1 l) {T:List Row} {ob:Nat→O} {S:List Nat} {lit:List (Str×List Atm)} {Kf:Str→List Row} (hO:∀ t∈S.filter (shapedB T),(ob t).Ok) (hL:LitA lit Kf x0 x1 l) (ht:S.any takeB=false) :
  (checkedR T (rdF x0 x1 l ob) Kf S (lit.map (·.1))).map ob=leftO id lit ((S.filter (shapedB T)).map ob):=by
 unfold checkedR
 rw [ht,if_neg (by decide)]
 split
 ·rw [told_eq R hO hL,leftO_map]
 ·rename_i h
  match hS:S.filter (shapedB T),h with
  | [],_=>exact (left_nil lit).symm
  | [x],_=>exact (left_one lit (ob x)).symm
  | _::_::_,h=>simp at h
theorem within_congr {f g:Str→Str}:∀ {names:List Str},(∀ nm∈names,f nm=g nm)→withinR f names=withinR g names
 | [],_=>rfl
 | nm::l,h=>by simp only [within_c,h nm (.head _),within_congr fun x hx=>h x (.tail _ hx)]
theorem one_eq (R:RowsOK x0 x1 l) {T:List Row} {ob:Nat→O} {S:List Nat} {lit:List (Str×List Atm)} {Kf:Str→List Row} {inner:List Nat→Str→Str} {inner':List O→Str→Str} (hO:∀ t∈S.filter (shapedB T),(ob t).Ok) (hL:LitA lit Kf x0 x1 l)
  (hi:S.any takeB=false→∀ p∈lit,inner (checkedR T (rdF x0 x1 l ob) Kf S (lit.map (·.1))) p.1=inner' ((checkedR T (rdF x0 x1 l ob) Kf S (lit.map (·.1))).map ob) p.1) :
  oneR T (rdF x0 x1 l ob) Kf S inner (lit.map (·.1))=if S.any takeB then ("" : Str) else oneO lit inner' ((S.filter (shapedB T)).map ob):=by
 cases ht:S.any takeB with
 | true =>
  rw [if_pos rfl]
  unfold oneR
  rw [if_pos (by unfold checkedR;rw [if_pos ht];rfl)]
 | false =>
  rw [if_neg (by decide)]
  have e:=checked_eq R (T:=T) (S:=S) hO hL ht
  have hi:=hi ht
  unfold oneR oneO
  rw [← e]
  generalize checkedR T (rdF x0 x1 l ob) Kf S (lit.map (·.1))=ts at *
  have e0:ts.isEmpty=((S.filter (shapedB T)).map ob).isEmpty:=by
   cases hS:(S.filter (shapedB T)).map ob with
   | nil=>rw [hS,left_nil] at e;rw [List.map_eq_nil_iff.mp e];rfl
   | cons o os =>
    have:=left_ne lit (os:=(S.filter (shapedB T)).map ob) (by rw [hS];simp)
    rw [← e] at this
    cases ts with
    | nil=>exact absurd rfl this
    | cons=>rfl
  rw [e0]
  have e1:askR (rdF x0 x1 l ob) ts (lit.map (·.1))=askO (ts.map ob) (lit.map (·.1)):=by
   unfold askR askO
   congr 1
   funext nm
   rw [List.any_map]
   congr 1
   refine any_congr' fun t ht=>?_
   show (rdF x0 x1 l ob t nm).isSome=((ob t).raw nm).isSome
   unfold rdF
   rw [Option.isSome_map]
  rw [e1]
  have e2:withinR (inner ts) (lit.map (·.1))=withinR (inner' (ts.map ob)) (lit.map (·.1)):=within_congr fun nm hn=>by
   obtain ⟨p,hp,rfl⟩:=List.mem_map.mp hn
   exact hi p hp
  rw [e2]
  try rfl
end
set_option genInjectivity false in
structure World where
 x0:Row
 x1:Row
 l:Row
 i0:Nat
 i1:Nat
 il:Nat
 o0:O
 o1:O
 ilit:List (Str×List Atm)
 fr:Bool
noncomputable abbrev World.row (W:World):Atm→Row:=rowF W.x0 W.x1 W.l
noncomputable def World.ob (W:World) (x:Nat):O:=if x=W.i0 then W.o0 else W.o1
structure LitAt (W:World) (T:List Row) (s f:Nat) (lit:List (Str×List Atm)):Prop where
 ex:∃ ps Kf,T[s]?=some (.obj ps none none f)∧LitOK T ps Kf∧ps.map (·.name)=lit.map (·.1)∧LitA lit Kf W.x0 W.x1 W.l
structure World.At (W:World) (σ:St) (τ:Nat) (T:List Row):Prop where
 R:RowsOK W.x0 W.x1 W.l
 ok0:W.o0.Ok
 ok1:W.o1.Ok
 at0:T[W.i0]?=some W.x0
 at1:T[W.i1]?=some W.x1
 atl:T[W.il]?=some W.l
 ob0:ObjAt σ τ T W.i0 (rdF W.x0 W.x1 W.l (fun I=>W.o0) W.i0)
 ob1:ObjAt σ τ T W.i1 (rdF W.x0 W.x1 W.l (fun I=>W.o1) W.i1)
 lit:LitAt W T W.il (if W.fr then 1 else 0) W.ilit
 nolit:∀ p∈W.ilit,Atm.lit∉p.2
 len:W.ilit.length≤3
theorem LitAt.mono {W:World} {T T':List Row} {s f lit} (x:LitAt W T s f lit) (p:T <+: T'):LitAt W T' s f lit:=by
 obtain ⟨ps,Kf,a,b,c,d⟩:=x.ex
 exact ⟨ps,Kf,pre_at p a,b.mono p,c,d⟩
theorem World.At.fix {W:World} {σ σ':St} {τ b:Nat} {T T':List Row} (x:W.At σ τ T) (h:Tab σ τ T b) (f:Fix τ σ σ') (p:T <+: T'):W.At σ' τ T' :=
 ⟨x.R,x.ok0,x.ok1,pre_at p x.at0,pre_at p x.at1,pre_at p x.atl,x.ob0.fix h f p,x.ob1.fix h f p,x.lit.mono p,x.nolit,x.len⟩
noncomputable def rawsAt (os:List O) (nm:Str):List Atm:=os.flatMap fun o=>(o.raw nm).getD []
noncomputable def World.parts (W:World) (K:List Atm):List O:=(if .o0∈K then [W.o0] else [])++(if .o1∈K then [W.o1] else [])
noncomputable def World.ask (W:World) (K:List Atm):Str:=if Atm.any∈K then "" else oneO W.ilit (fun I I => "") (W.parts K)
section
variable {n m τ b η:Nat} {σ σ':St} {T:List Row} {v:V} {W:World}
theorem raws_rows {ob:Nat→O} {ts:List Nat} {nm:Str}:rowsAt ts (rdF W.x0 W.x1 W.l ob) nm=(rawsAt (ts.map ob) nm).map W.row:=by
 unfold rowsAt rawsAt rdF
 induction ts with
 | nil=>rfl
 | cons t ts ih =>
  simp only [List.flatMap_cons,List.map_cons,List.map_append] at ih ⊢
  rw [ih]
  congr 1
  cases (ob t).raw nm<;>rfl
theorem raws_in {os:List O} (h:∀ o∈os,o.Ok) {nm:Str}:InB (rawsAt os nm):=by
 intro x hx
 unfold rawsAt at hx
 obtain ⟨o,ho,hx⟩:=List.mem_flatMap.mp hx
 cases e:o.raw nm with
 | none=>rw [e] at hx;cases hx
 | some K=>rw [e] at hx;exact ks_in K ((h o ho).raw e) x hx
theorem fr_none {T:List Row} {S:List Nat} {rs:List Row} (h:∀ x∈S,∃ r∈rs,T[x]?=some r) (hr:∀ r∈rs,r.kind=8→r.fresh=false):frB T S=false:=by
 rw [Bool.eq_false_iff]
 intro q
 obtain ⟨x,hx,q⟩:=List.any_eq_true.mp q
 obtain ⟨r,hr1,e⟩:=h x hx
 rw [e] at q
 simp only [Bool.and_eq_true,decide_eq_true_iff] at q
 rw [hr r hr1 q.1] at q;cases q.2
theorem row_cl {x0 x1 l:Row} {x:Atm} (h:x∉[Atm.o0,.o1,.lit]):rowF x0 x1 l x=rowF .tpl .tpl .tpl x:=by
 cases x<;>first | rfl | exact absurd (by decide) h
theorem own_k8:∀ x∈ownB,x∉[Atm.o0,.o1,.lit]∧(rowF .tpl .tpl .tpl x).kind≠8:=by decide +kernel
theorem bs_k8:∀ x∈BS,x≠.o0→x≠.o1→x∉[Atm.o0,.o1,.lit]∧(rowF .tpl .tpl .tpl x).kind≠8∧(rowF .tpl .tpl .tpl x).kind≠9:=by decide +kernel
theorem own_kind (R:RowsOK W.x0 W.x1 W.l) {x:Atm} (hx:x∈ownB):(W.row x).kind≠8:=by
 rw [World.row,row_cl (own_k8 x hx).1];exact (own_k8 x hx).2
theorem excess0 {p:Nat} {K:List Atm} {u:Nat} (h:Tab σ τ T b) (H:Host σ η τ) (w:W.At σ τ T) (k:KR T p (K.map W.row)) (hK:K∈OK11) (hl:Atm.lit∉K) :
  Does 11 (rc 119) [.loc η,.int p,.int u] σ (TPost τ σ T b fun v T'=>v=.str ""):=by
 obtain ⟨S,k1,k2,k3⟩:=k
 have hf:frB T S=false:=fr_none k2 fun r hr h8=>by
  obtain ⟨x,hx,rfl⟩:=List.mem_map.mp hr
  rcases (ok_own K hK).2 x hx with h | rfl
  ·exact absurd h8 (own_kind w.R h)
  ·exact absurd hx hl
 have:=excess_spec (t:=u) (l:=p) (res := "") h H k1 (fun x hx r hr h8 h9=>by
  have:frB T S=true:=List.any_eq_true.mpr ⟨x,hx,by rw [hr];simp [h8,h9]⟩
  rw [hf] at this;cases this) (fun q=>by rw [hf] at q;cases q)
 rw [hf] at this
 exact this
theorem ob_0:rdF W.x0 W.x1 W.l W.ob W.i0=rdF W.x0 W.x1 W.l (fun I=>W.o0) W.i0:=by
 funext nm;unfold rdF World.ob;rw [if_pos rfl]
theorem ob_1 (h:W.i1≠W.i0):rdF W.x0 W.x1 W.l W.ob W.i1=rdF W.x0 W.x1 W.l (fun I=>W.o1) W.i1:=by
 funext nm;unfold rdF World.ob;rw [if_neg h]
theorem World.At.ine (w:W.At σ τ T):W.i1≠W.i0:=fun e=>by
 have:=w.at1
 rw [e,w.at0] at this
 exact w.R.ne (Option.some.inj this)
theorem ob_ok (w:W.At σ τ T) (x:Nat):(W.ob x).Ok:=by
 unfold World.ob;split
 ·exact w.ok0
 ·exact w.ok1
theorem part_of (w:W.At σ τ T) (h:Tab σ τ T b) {raws:List Atm} (hI:InB raws) (ha:Atm.any∉raws) {x:Nat} {r:Row} (hr:r∈raws.map W.row) (hx:T[x]?=some r) :
  (x=W.i0∧Atm.o0∈raws∧ObjAt σ τ T x (rdF W.x0 W.x1 W.l W.ob x))∨(x=W.i1∧Atm.o1∈raws∧ObjAt σ τ T x (rdF W.x0 W.x1 W.l W.ob x))∨(takeB x=false∧r.kind≠8∧r.kind≠9):=by
 obtain ⟨a,hm,rfl⟩:=List.mem_map.mp hr
 have hB:=hI a hm
 by_cases e0:a=.o0
 ·subst e0
  have:x=W.i0:=nodup_at h.nd hx w.at0
  subst this
  exact .inl ⟨rfl,hm,by rw [ob_0];exact w.ob0⟩
 by_cases e1:a=.o1
 ·subst e1
  have:x=W.i1:=nodup_at h.nd hx w.at1
  subst this
  exact .inr (.inl ⟨rfl,hm,by rw [ob_1 w.ine];exact w.ob1⟩)
 have hk:(W.row a).kind≠8∧(W.row a).kind≠9:=by
  rw [World.row,row_cl (bs_k8 a hB e0 e1).1];exact (bs_k8 a hB e0 e1).2
 refine .inr (.inr ⟨decide_eq_false ?_,hk⟩)
 obtain ⟨o1,o2,o3⟩:=key_out w.R hI
 have f:∀ (i:Nat) (q:Row),i < 16→first[i]?=some q→x=i→q∈raws.map W.row∧W.row a=q:=fun i q hi hq e=>by
  subst e
  rw [h.first hi,hq] at hx;cases hx;exact ⟨hr,rfl⟩
 rintro (e | e | e | e | e)
 ·exact ha ((any_row w.R hI).mp (f 0 _ (by decide) rfl e).1)
 ·exact o2 (f 1 _ (by decide) rfl e).1
 ·exact o1 (f 13 _ (by decide) rfl e).1
 ·have:=key_in w.R hI (f 10 _ (by decide) rfl e).1
  revert this;decide
 ·exact hk.1 (by rw [(f 11 _ (by decide) rfl e).2];rfl)
theorem un_parts (w:W.At σ τ T) (h:Tab σ τ T b) {u:Nat} {S:List Nat} {raws:List Atm} (hI:InB raws) (k:KIs T u S) (U:UnOK T S (raws.map W.row)) :
  (∀ x∈S,PartOK σ τ T (rdF W.x0 W.x1 W.l W.ob) x)∧S.any takeB=decide (Atm.any∈raws)∧(S.filter (shapedB T)).length≤4∧(Atm.any∉raws→Same ((S.filter (shapedB T)).map W.ob) (W.parts raws)):=by
 rcases U.all with ⟨ha,hS⟩ | ⟨ha,u1,u2⟩
 ·subst hS
  have ha':=(any_row w.R hI).mp ha
  refine ⟨fun x hx=>?_,by rw [decide_eq_true ha'];rfl,Nat.le_trans (List.length_filter_le _ _) (by simp),fun q=>absurd ha' q⟩
  simp at hx;subst hx;exact .inl rfl
 ·have ha':Atm.any∉raws:=fun q=>ha ((any_row w.R hI).mpr q)
  have cls:∀ x∈S,∃ r,T[x]?=some r∧((x=W.i0∧Atm.o0∈raws∧ObjAt σ τ T x (rdF W.x0 W.x1 W.l W.ob x))∨(x=W.i1∧Atm.o1∈raws∧ObjAt σ τ T x (rdF W.x0 W.x1 W.l W.ob x))∨(takeB x=false∧r.kind≠8∧r.kind≠9)):=fun x hx=>by
   obtain ⟨r,hr,e⟩:=u1 x hx
   exact ⟨r,e,part_of w h hI ha' hr e⟩
  have sh:∀ x∈S.filter (shapedB T),(x=W.i0∧Atm.o0∈raws)∨(x=W.i1∧Atm.o1∈raws):=fun x hx=>by
   obtain ⟨hS,hs⟩:=List.mem_filter.mp hx
   obtain ⟨r,e,⟨q,q',_⟩ | ⟨q,q',_⟩ | ⟨_,q8,q9⟩⟩:=cls x hS
   ·exact .inl ⟨q,q'⟩
   ·exact .inr ⟨q,q'⟩
   ·unfold shapedB at hs;rw [e] at hs;have:=of_decide_eq_true hs;fail "a"
  refine ⟨fun x hx=>?_,?_,?_,fun I o=>?_⟩
  ·obtain ⟨r,e,⟨_,_,q⟩ | ⟨_,_,q⟩ | ⟨q,q8,q9⟩⟩:=cls x hx
   ·exact .inr (.inr q)
   ·exact .inr (.inr q)
   ·exact .inr (.inl ⟨q,r,e,q8,q9⟩)
  ·rw [decide_eq_false ha',Bool.eq_false_iff]
   intro q
   obtain ⟨x,hx,q⟩:=List.any_eq_true.mp q
   obtain ⟨r,e,⟨_,_,q'⟩ | ⟨_,_,q'⟩ | ⟨q',_⟩⟩:=cls x hx
   ·rw [q'.take h] at q;cases q
   ·rw [q'.take h] at q;cases q
   ·rw [q'] at q;cases q
  ·have hn:(S.filter (shapedB T)).Nodup:=(k.sorted.imp fun h=>Nat.ne_of_lt h).filter _
   have:=sub_length (k:=[W.i0,W.i1]) hn fun x hx=>by rcases sh x hx with ⟨e,_⟩ | ⟨e,_⟩<;>simp [e]
   simp at this;fail "a"
  ·have hob0:W.ob W.i0=W.o0:=if_pos rfl
   have hob1:W.ob W.i1=W.o1:=if_neg w.ine
   rw [List.mem_map]
   unfold World.parts
   rw [List.mem_append]
   constructor
   ·rintro ⟨x,hx,rfl⟩
    rcases sh x hx with ⟨rfl,q⟩ | ⟨rfl,q⟩
    ·left;rw [if_pos q,hob0];exact .head _
    ·right;rw [if_pos q,hob1];exact .head _
   ·rintro (q | q)
    ·split at q
     ·rename_i hm
      simp at q;subst q
      obtain ⟨ps,s,d,e⟩:=w.R.h0
      obtain ⟨x,hx,ex⟩:=u2 W.x0 (List.mem_map.mpr ⟨.o0,hm,rfl⟩) (by rw [e];rfl) (by rw [e];rfl)
      have:x=W.i0:=nodup_at h.nd ex w.at0
      subst this
      exact ⟨_,List.mem_filter.mpr ⟨hx,by unfold shapedB;rw [ex,e];rfl⟩,hob0⟩
     ·cases q
    ·split at q
     ·rename_i hm
      simp at q;subst q
      obtain ⟨ps,s,d,e⟩:=w.R.h1
      obtain ⟨x,hx,ex⟩:=u2 W.x1 (List.mem_map.mpr ⟨.o1,hm,rfl⟩) (by rw [e];rfl) (by rw [e];rfl)
      have:x=W.i1:=nodup_at h.nd ex w.at1
      subst this
      exact ⟨_,List.mem_filter.mpr ⟨hx,by unfold shapedB;rw [ex,e];rfl⟩,hob1⟩
     ·cases q
theorem rdf_fit (w:W.At σ τ T) {ob:Nat→O} {ts:List Nat} (h:∀ t∈ts,(ob t).Ok):RdF ts (rdF W.x0 W.x1 W.l ob):=by
 intro t ht nm _ G hG
 unfold rdF at hG
 cases e:(ob t).raw nm with
 | none=>rw [e] at hG;cases hG
 | some K=>rw [e] at hG;cases hG;exact fit_ok w.R ((h t ht).raw e)
end
section
variable {n m τ b η:Nat} {σ σ':St} {T:List Row} {v:V} {W:World}
theorem lit_prop {lit:List (Str×List Atm)} {Kf:Str→List Row} {ps:List Prp} (hn:ps.map (·.name)=lit.map (·.1)) (hL:LitA lit Kf W.x0 W.x1 W.l) {p:Prp} (hp:p∈ps):∃ q∈lit,q.1=p.name∧q.2∈OK11∧Kf p.name=q.2.map W.row:=by
 have:p.name∈lit.map (·.1):=by rw [← hn];exact List.mem_map.mpr ⟨p,hp,rfl⟩
 obtain ⟨q,hq,e⟩:=List.mem_map.mp this
 obtain ⟨a,_,c⟩:=hL q hq
 exact ⟨q,hq,e,a,by rw [← e];exact c⟩
theorem inner_one {u:Nat} {S:List Nat} {raws:List Atm} (h:Tab σ τ T (b+700)) (H:Host σ η τ) (w:W.At σ τ T) (hI:InB raws) (k:KIs T u S) (U:UnOK T S (raws.map W.row)) :
  Does 13 (rc 116) [.loc η,.int W.il,.int u] σ (TPost τ σ T b fun v T'=>v=.str (W.ask raws)):=by
 obtain ⟨ps,Kf,a1,a2,a3,a4⟩:=w.lit.ex
 obtain ⟨u1,u2,u3,u4⟩:=un_parts w h hI k U
 have hlen:ps.length≤3:=by
  have:ps.length=W.ilit.length:=by have:=congrArg List.length a3;simpa using this
  have:=w.len
  fail "a"
 have hO:∀ t∈S.filter (shapedB T),(W.ob t).Ok:=fun t I=>ob_ok w t
 have hb:220 * ps.length≤220 * 3:=Nat.mul_le_mul_left _ hlen
 refine Does.mono (one_spec (b:=b) (B:=0) (inner:=fun I I => "") (h.less (by fail "a")) H a1 k u1 (fun I=>u3) a2 (rdf_fit w hO) ?_) ?_
 ·intro p hp b' σ' T' u' S' hT hT' hf _ _
  obtain ⟨q,hq,e,q1,q2⟩:=lit_prop a3 a4 hp
  have kp:=((a2.all p hp).2.1).mono hT
  rw [q2] at kp
  exact excess0 (b:=b') hT' (H.fix h hf) (w.fix h hf hT) kp q1 (w.nolit q hq)
 ·rintro ⟨v,σ2⟩ ⟨T2,p1,p2,p3,p4⟩
  refine ⟨T2,p1,p2,p3,?_⟩
  try dsimp only at p4
  rw [p4,a3,one_eq w.R (inner':=fun I I => "") hO a4 (fun I I I=>rfl),u2]
  unfold World.ask
  by_cases ha:Atm.any∈raws
  ·rw [decide_eq_true ha,if_pos rfl,if_pos ha]
  ·rw [decide_eq_false ha,if_neg Bool.false_ne_true,if_neg ha]
   show V.str _=V.str _
   congr 1
   exact one_same (u4 ha) fun I I I I I I=>rfl
theorem excess1 {p u:Nat} {K raws:List Atm} {S:List Nat} (h:Tab σ τ T (b+700)) (H:Host σ η τ) (w:W.At σ τ T) (k:KR T p (K.map W.row)) (hK:K∈OK11) (hI:InB raws) (ku:KIs T u S) (U:UnOK T S (raws.map W.row)) :
  Does 14 (rc 119) [.loc η,.int p,.int u] σ (TPost τ σ T b fun v T'=>v=.str (if Atm.lit∈K∧W.fr=true then W.ask raws else "")):=by
 obtain ⟨S',k1,k2,k3⟩:=k
 obtain ⟨ps,Kf,a1,_⟩:=w.lit.ex
 have hl:W.l=.obj ps none none (if W.fr then 1 else 0):=by have:=w.atl;rw [a1] at this;exact (Option.some.inj this).symm
 have fl:W.l.fresh=W.fr:=by rw [hl];cases W.fr<;>rfl
 have uniq:∀ x∈S',∀ r,T[x]?=some r→r.kind=8→r.fresh=true→x=W.il∧Atm.lit∈K∧W.fr=true:=fun x hx r hr h8 h9=>by
  obtain ⟨r',hr',e⟩:=k2 x hx
  rw [hr] at e;cases e
  obtain ⟨a,ha,rfl⟩:=List.mem_map.mp hr'
  rcases (ok_own K hK).2 a ha with q | rfl
  ·exact absurd h8 (own_kind w.R q)
  ·exact ⟨nodup_at h.nd hr w.atl,ha,by rw [← fl];exact h9⟩
 have hf:frB T S'=decide (Atm.lit∈K∧W.fr=true):=by
  rw [Bool.eq_iff_iff,decide_eq_true_iff]
  constructor
  ·intro q
   obtain ⟨x,hx,q⟩:=List.any_eq_true.mp q
   obtain ⟨r,hr',e⟩:=k2 x hx
   rw [e] at q
   simp only [Bool.and_eq_true,decide_eq_true_iff] at q
   exact (uniq x hx r e q.1 q.2).2
  ·rintro ⟨q,q'⟩
   obtain ⟨x,hx,e⟩:=k3 W.l (List.mem_map.mpr ⟨.lit,q,rfl⟩)
   refine List.any_eq_true.mpr ⟨x,hx,?_⟩
   rw [e]
   simp only [Bool.and_eq_true,decide_eq_true_iff]
   exact ⟨by rw [hl];rfl,by rw [fl];exact q'⟩
 have hx:=excess_spec (t:=u) (l:=W.il) (res:=W.ask raws) (b:=b) (h.less (by fail "a")) H k1 (fun x hx r hr h8 h9=>(uniq x hx r hr h8 h9).1) (fun I=>inner_one h H w hI ku U)
 rw [hf] at hx
 have e:(if decide (Atm.lit∈K∧W.fr=true)=true then W.ask raws else ("" : Str))=if Atm.lit∈K∧W.fr=true then W.ask raws else "" := by
  by_cases hc:Atm.lit∈K∧W.fr=true
  ·rw [decide_eq_true hc,if_pos rfl,if_pos hc]
  ·rw [decide_eq_false hc,if_neg Bool.false_ne_true,if_neg hc]
 rw [e] at hx
 exact hx
structure TopAt (W:World) (σ:St) (τ:Nat) (T:List Row) (S:List Nat) (ob:Nat→O):Prop where
 parts:∀ x∈S,PartOK σ τ T (rdF W.x0 W.x1 W.l ob) x
 ok:∀ x,(ob x).Ok
 len:S.any takeB=false→(S.filter (shapedB T)).length≤4
noncomputable def World.inner (W:World) (lit:List (Str×List Atm)) (os:List O) (nm:Str):Str:=if Atm.lit∈(lit.lookup nm).getD []∧W.fr=true then W.ask (rawsAt os nm) else ""
theorem top_one {s u f:Nat} {S:List Nat} {ob:Nat→O} {lit:List (Str×List Atm)} (h:Tab σ τ T (b+4000)) (H:Host σ η τ) (w:W.At σ τ T) (L:LitAt W T s f lit) (hl:lit.length≤4) (hnd:(lit.map (·.1)).Nodup) (k:KIs T u S) (U:TopAt W σ τ T S ob) :
  Does 16 (rc 116) [.loc η,.int s,.int u] σ (TPost τ σ T b fun v T'=>v=.str (if S.any takeB then "" else oneO lit (W.inner lit) ((S.filter (shapedB T)).map ob))):=by
 obtain ⟨ps,Kf,a1,a2,a3,a4⟩:=L.ex
 have hlen:ps.length≤4:=by
  have:ps.length=lit.length:=by have:=congrArg List.length a3;simpa using this
  fail "a"
 have hO:∀ t∈S.filter (shapedB T),(ob t).Ok:=fun t I=>U.ok t
 have hb:(700+220) * ps.length≤920 * 4:=Nat.mul_le_mul_left _ hlen
 have lk:∀ q∈lit,(lit.lookup q.1).getD []=q.2:=fun q hq=>by
  have:∀ l:List (Str×List Atm),(l.map (·.1)).Nodup→q∈l→l.lookup q.1=some q.2:=by
   intro l
   induction l with
   | nil=>intro _ h;cases h
   | cons x l ih =>
    intro hn hm
    rw [List.map_cons,List.nodup_cons] at hn
    rcases List.mem_cons.mp hm with e | hm'
    ·subst e;rw [List.lookup_cons,beq_self_eq_true]
    ·have:q.1≠x.1:=fun e=>hn.1 (by rw [← e];exact List.mem_map.mpr ⟨q,hm',rfl⟩)
     obtain ⟨x1,x2⟩:=x
     rw [List.lookup_cons,show (q.1==x1)=false by simpa using this];exact ih hn.2 hm'
  rw [this lit hnd hq];rfl
 refine Does.mono (one_spec (b:=b) (B:=700) (inner:=fun ts nm=>W.inner lit (ts.map ob) nm) (h.less (by fail "a")) H a1 k U.parts U.len a2 (rdf_fit w hO) ?_) ?_
 ·intro p hp b' σ' T' u' S' hT hT' hf ku' uo
  obtain ⟨q,hq,e,q1,q2⟩:=lit_prop a3 a4 hp
  have kp:=((a2.all p hp).2.1).mono hT
  rw [q2] at kp
  rw [raws_rows] at uo
  have:=excess1 hT' (H.fix h hf) (w.fix h hf hT) kp q1 (raws_in (fun o ho=>by obtain ⟨t,_,rfl⟩:=List.mem_map.mp ho;exact U.ok t)) ku' uo
  have e2:W.inner lit ((checkedR T (rdF W.x0 W.x1 W.l ob) Kf S (ps.map (·.name))).map ob) p.name=if Atm.lit∈q.2∧W.fr=true then W.ask (rawsAt ((checkedR T (rdF W.x0 W.x1 W.l ob) Kf S (ps.map (·.name))).map ob) p.name) else "" := by
   unfold World.inner
   rw [← e,lk q hq]
  rw [e2]
  exact this
 ·rintro ⟨v,σ2⟩ ⟨T2,p1,p2,p3,p4⟩
  refine ⟨T2,p1,p2,p3,?_⟩
  try dsimp only at p4
  rw [p4,a3,one_eq w.R (inner':=W.inner lit) hO a4 (fun I I I=>rfl)]
theorem top_excess {s u:Nat} {S:List Nat} {ob:Nat→O} {lit:List (Str×List Atm)} {wh:Bool} (h:Tab σ τ T (b+4000)) (H:Host σ η τ) (w:W.At σ τ T) (L:LitAt W T s (if wh then 1 else 0) lit) (hl:lit.length≤4) (hnd:(lit.map (·.1)).Nodup) (k:KIs T u S) (U:TopAt W σ τ T S ob) :
  Does 17 (rc 119) [.loc η,.int s,.int u] σ (TPost τ σ T b fun v T'=>v=.str (if wh then (if S.any takeB then "" else oneO lit (W.inner lit) ((S.filter (shapedB T)).map ob)) else "")):=by
 obtain ⟨ps,Kf,a1,_⟩:=L.ex
 have ks:KIs T s [s]:=⟨.inr (.inl rfl),fun x hx=>by simp at hx;subst hx;exact ⟨fun e=>(by subst e;rw [h.never] at a1;cases a1),_,a1,(show (8:Nat)≠6 by decide)⟩,by simp⟩
 have hf:frB T [s]=wh:=by
  unfold frB
  simp only [List.any_cons,List.any_nil,Bool.or_false]
  rw [a1]
  cases wh<;>rfl
 have hx:=excess_spec (t:=u) (l:=s) (res:=if S.any takeB then "" else oneO lit (W.inner lit) ((S.filter (shapedB T)).map ob)) (b:=b) (h.less (by fail "a")) H ks (fun x hx r hr h8 h9=>by simpa using hx) (fun I=>top_one h H w L hl hnd k U)
 rw [hf] at hx
 exact hx
end
noncomputable def nmV (K:List Atm):List V:=K.map fun x=>V.str x.name
noncomputable def allAtm:List Atm:=[.o0,.o1,.one,.lit,.p0,.p1,.p2,.p3,.a,.any,.b,.c,.err,.num,.obj,.str,.t,.tru,.undef,.unk,.emp,.fone,.fa,.fb,.ftru]
theorem all_atm (x:Atm):x∈allAtm:=by cases x<;>decide
theorem lt_table:∀ x∈allAtm,∀ y∈allAtm,strLt x.name y.name=decide (x.ord < y.ord):=by decide +kernel
theorem lt_name (x y:Atm):strLt x.name y.name=decide (x.ord < y.ord):=lt_table x (all_atm x) y (all_atm y)
theorem ord_table:∀ x∈allAtm,∀ y∈allAtm,x.ord=y.ord→x=y:=by decide +kernel
theorem ord_inj {x y:Atm} (h:x.ord=y.ord):x=y:=ord_table x (all_atm x) y (all_atm y) h
theorem name_inj {x y:Atm} (h:x.name=y.name):x=y:=by
 have h1:=lt_name x y
 have h2:=lt_name y x
 have h0:=lt_name x x
 rw [h] at h1 h2 h0
 have h3:=lt_name y y
 rw [h1] at h3
 rw [h2] at h1
 have a:¬ x.ord < y.ord:=fun q=>by
  rw [decide_eq_true q] at h3
  have:=of_decide_eq_true h3.symm;omega
 have b:¬ y.ord < x.ord:=fun q=>by
  have h4:=lt_name y y
  rw [h2] at h4
  rw [decide_eq_true q] at h4
  have:=of_decide_eq_true h4.symm;omega
 exact ord_inj (by omega)
theorem nmV_cons (x:Atm) (K:List Atm):nmV (x::K)=.str x.name::nmV K:=rfl
theorem mem_nmV {K:List Atm} {v:V}:v∈nmV K↔∃ x∈K,v=.str x.name:=by
 unfold nmV;rw [List.mem_map];exact ⟨fun zz=>(by obtain ⟨x,a,b⟩:=zz;exact ⟨x,a,b.symm⟩),fun zz=>(by obtain ⟨x,a,b⟩:=zz;exact ⟨x,a,b.symm⟩)⟩
theorem nmV_pures (K:List Atm):V.pures (nmV K)=true:=by
 unfold V.pures
 rw [List.all_eq_true]
 intro v hv
 obtain ⟨x,_,rfl⟩:=mem_nmV.mp hv
 rfl
theorem nmV_any (K:List Atm) (x:Atm):(nmV K).any (·.eqb (.str x.name))=decide (x∈K):=by
 rw [Bool.eq_iff_iff,List.any_eq_true,decide_eq_true_iff]
 constructor
 ·rintro ⟨v,hv,e⟩
  obtain ⟨y,hy,rfl⟩:=mem_nmV.mp hv
  have:=(V.eqb_iff _ _).mp e
  rw [← name_inj (V.str.inj this)];exact hy
 ·intro h
  exact ⟨_,mem_nmV.mpr ⟨x,h,rfl⟩,(V.eqb_iff _ _).mpr rfl⟩
noncomputable def IsL (σ:St) (v:V) (l:List V):Prop:=v=.lst l∨∃ k,v=.loc k∧σ[k]?=some (.list l)
theorem IsL.ext {σ σ':St} {v l} (h:IsL σ v l) (x:Ext σ σ'):IsL σ' v l:=h.imp id fun zz=>(by obtain ⟨k,a,b⟩:=zz;exact ⟨k,a,x.at b⟩)
section
variable {n m:Nat} {σ σ':St} {v:V}
theorem IsL.listOf {l} (h:IsL σ v l):Mine.listOf σ v=some l:=by
 rcases h with rfl | ⟨k,rfl,h⟩
 ·rfl
 ·exact listOf_l h
theorem IsL.loop {l} (h:IsL σ v l):Mine.loopD σ v=some (false,l)∧isD σ v=false∧sameItems σ v false l=true:=by
 rcases h with rfl | ⟨k,rfl,h⟩
 ·exact ⟨loopD_lst,rfl,same_lst _⟩
 ·exact ⟨loopD_l h,isD_loc h,same_loc h⟩
theorem IsL.len {l} (h:IsL σ v l):lenV σ v=some l.length:=by
 rcases h with rfl | ⟨k,rfl,h⟩
 ·rfl
 ·exact len_loc h
theorem IsL.loopD {l} (h:IsL σ v l):Mine.loopD σ v=some (false,l):=by
 rcases h with rfl | ⟨k,rfl,h⟩
 ·exact loopD_lst
 ·exact loopD_l h
theorem inV_lst {a:V} {l:List V} (hp:a.pure=true) (hl:V.pures l=true):inV σ a (.lst l)=some (l.any (·.eqb a)):=by
 unfold inV
 rw [if_pos hp]
 exact if_pos hl
theorem inV_loc {a:V} {l:List V} {k:Nat} (h:σ[k]?=some (.list l)) (hp:a.pure=true) (hl:V.pures l=true):inV σ a (.loc k)=some (l.any (·.eqb a)):=by
 unfold inV
 rw [if_pos hp]
 show (σ[k]?).bind _=_
 rw [h]
 exact if_pos hl
theorem IsL.in_ {K:List Atm} (h:IsL σ v (nmV K)) (x:Atm):inV σ (.str x.name) v=some (decide (x∈K)):=by
 rw [← nmV_any]
 rcases h with rfl | ⟨k,rfl,h⟩
 ·exact inV_lst rfl (nmV_pures _)
 ·exact inV_loc h rfl (nmV_pures _)
theorem ins_nm (x:Atm):∀ K:List Atm,insSort.ins strLt x.name (K.map Atm.name)=(insSort.ins (fun a b=>decide (a.ord < b.ord)) x K).map Atm.name
 | []=>rfl
 | y::K=>by
  simp only [List.map_cons,ins_c,lt_name]
  split
  ·rw [List.map_cons,ins_nm x K]
  ·rfl
theorem sort_nm:∀ K:List Atm,insSort strLt (K.map Atm.name)=(sortA K).map Atm.name
 | []=>rfl
 | x::K=>by
  have ih:=sort_nm K
  simp only [List.map_cons,sort_c,sortA] at ih ⊢
  rw [ih]
  exact ins_nm x _
theorem allStrs_nm:∀ K:List Atm,allStrs (nmV K)=some (K.map Atm.name)
 | []=>rfl
 | x::K=>congrArg (Option.map (x.name::·)) (allStrs_nm K)
theorem sortV_nm {K:List Atm} (h:K.length < 64):sortV (nmV K)=some (nmV (sortA K)):=by
 unfold sortV
 rw [if_neg (by simp [nmV];omega)]
 cases K with
 | nil=>rfl
 | cons x K =>
  rw [show allInts (nmV (x::K))=none from rfl,allStrs_nm,]
  dsimp only
  rw [sort_nm]
  simp [nmV,Function.comp_def]
theorem sortSrc_L {l} (h:IsL σ v l):sortSrc σ v=some l:=by
 rcases h with rfl | ⟨k,rfl,h⟩
 ·rfl
 ·unfold sortSrc;simp only [h]
theorem sort_len (K:List Atm):(sortA K).length=K.length:=(insSort_perm _ K).length_eq
theorem less_spec {K:List Atm} (h:IsL σ v (nmV K)) (hl:K.length < 64):Does 1 (rc 125) [v] σ fun q=>Ext σ q.2∧IsL q.2 q.1 (nmV (lessA K)):=by
 have h1:=h.in_ .any
 have e0:Atm.any.name=Str.ofString "any" := rfl
 rw [e0] at h1
 refine enterH ?_
 by_cases ha:Atm.any∈K
 ·rw [decide_eq_true ha] at h1
  have e:lessA K=[.any]:=if_pos ha
  rw [e]
  clear ha e
  fail "r"
  exact ⟨Ext.refl _,.inl rfl⟩
 ·rw [decide_eq_false ha] at h1
  have e:lessA K=dedA [] (sortA K):=if_neg ha
  rw [e]
  have h2:=h.ext (Ext.push σ (.list []))
  have h3:=sortSrc_L h2
  have h4:=sortV_nm hl
  clear ha e
  fail "r"
  refine for_ruleO [("left",.loc σ.length)] (fun rest I σ'=>Ex2 fun acc r=>C5 (rest=nmV r) (Ext σ σ') (σ'[σ.length]?=some (.list (nmV acc))) (acc.length+r.length < 64) (id (dedA acc r=dedA [] (sortA K)))) ?_ ?_ _ _ _ rfl ?_
  ·rintro R hR x rest vars σ' ⟨acc,r,hr,hx,hg,hz,hd⟩
   cases r with
   | nil=>cases hr
   | cons y r =>
   rw [nmV_cons] at hr
   cases hr
   have c1:=IsL.in_ (σ:=σ') (v:=.loc σ.length) (K:=acc) (.inr ⟨_,rfl,hg⟩) y
   have hd:dedA (if y∈acc then acc else acc++[y]) r=dedA [] (sortA K):=hd
   have c2:decide ((nmV acc).length < cap)=true:=decide_eq_true (by simp [nmV,cap] at hz ⊢;omega)
   by_cases hm:y∈acc
   ·rw [if_pos hm] at hd
    rw [decide_eq_true hm] at c1
    have hd:id (dedA acc r=dedA [] (sortA K)):=hd
    clear hm
    fail "r"
    exact lp (same_lst _) ⟨acc,r,rfl,hx,hg,by simp at hz;omega,hd⟩
   ·rw [if_neg hm] at hd
    rw [decide_eq_false hm] at c1
    have hd:(fun z=>z=dedA [] (sortA K)) (dedA (acc++[y]) r):=hd
    generalize hQ:(dedA (acc++[y]) r=dedA [] (sortA K))=Q
    have hq:Q:=hQ▸hd
    clear hm hd
    fail "r"
    exact lp (same_lst _) ⟨acc++[y],r,rfl,hx.set (Nat.le_refl _) _,by rw [set_self hg];simp [nmV],by simp at hz ⊢;omega,hQ▸hq⟩
  ·rintro R hR vars σ' ⟨acc,r,hr,hx,hg,hz,hd⟩
   cases r with
   | cons _ _=>cases hr
   | nil =>
   clear hr
   have hd:acc=_:=hd
   fail "r"
   exact ⟨hx,.inr ⟨_,rfl,by rw [← hd];exact hg⟩⟩
  ·exact ⟨[],sortA K,rfl,Ext.push _ _,push_at _ _,by rw [sort_len];simpa using hl,rfl⟩
end
noncomputable def strD {α:Type} (f:α→V) (l:List (Str×α)):List (V×V):=l.map fun p=>(V.str p.1,f p.2)
theorem strD_get {α:Type} (f:α→V) (nm:Str):∀ l:List (Str×α),dictGetV (strD f l) (.str nm)=(l.lookup nm).map f
 | []=>rfl
 | (a,x)::l=>by
  have ih:=strD_get f nm l
  unfold dictGetV strD at ih ⊢
  rw [List.map_cons,List.find?_cons,List.lookup_cons]
  by_cases e:a=nm
  ·subst e;simp [show (V.str a).eqb (.str a)=true from (V.eqb_iff _ _).mpr rfl]
  ·have h1:(V.str a).eqb (.str nm)=false:=by
    rw [Bool.eq_false_iff];intro q;exact e (V.str.inj ((V.eqb_iff _ _).mp q))
   have h2:(nm==a)=false:=by simpa using Ne.symm e
   simp only [h1,h2]
   exact ih
theorem strD_any {α:Type} (f:α→V) (nm:Str):∀ l:List (Str×α),((strD f l).any fun e=>e.1.eqb (.str nm))=(l.lookup nm).isSome
 | []=>rfl
 | (a,x)::l=>by
  have ih:=strD_any f nm l
  unfold strD at ih ⊢
  rw [List.map_cons,List.any_cons,List.lookup_cons,ih]
  by_cases e:a=nm
  ·subst e;simp [show (V.str a).eqb (.str a)=true from (V.eqb_iff _ _).mpr rfl]
  ·have h1:(V.str a).eqb (.str nm)=false:=by
    rw [Bool.eq_false_iff];intro q;exact e (V.str.inj ((V.eqb_iff _ _).mp q))
   have h2:(nm==a)=false:=by simpa using Ne.symm e
   simp only [h1,h2,Bool.false_or]
theorem strD_tags {α:Type} (f:α→V) (l:List (Str×α)):(strD f l).all (fun e=>e.1.tag==2)=true:=by
 unfold strD;rw [List.all_map];exact List.all_eq_true.mpr fun I I=>rfl
theorem strD_kOk {α:Type} (f:α→V) (nm:Str) (l:List (Str×α)):kOk (strD f l) (.str nm)=true:=by
 unfold kOk
 show ((2:Nat) != 0&&(strD f l).all fun e=>e.1.tag==2)=true
 rw [strD_tags];rfl
theorem strD_loop {α:Type} (f:α→V) (l:List (Str×α)):loopKeys (strD f l)=true:=by
 unfold loopKeys;rw [strD_tags];rfl
noncomputable def kV:Option (List Atm)→V | none=>.none | some K=>.lst (nmV K)
noncomputable def memV (p:List Atm×Bool):V:=.tup [.lst (nmV p.1),.bool p.2]
structure OAt (σ:St) (k:Nat) (o:O):Prop where
 ok:o.Ok
 ex:∃ km,σ[k]?=some (.dict [(.str "members",.loc km),(.str "texts",kV o.texts),(.str "digits",kV o.digits)])∧σ[km]?=some (.dict (strD memV o.mem))
theorem OAt.ext {σ σ':St} {k o} (h:OAt σ k o) (x:Ext σ σ'):OAt σ' k o:=by
 obtain ⟨km,a,b⟩:=h.ex
 exact ⟨h.ok,km,x.at a,x.at b⟩
theorem gk_less:∀ K∈GK16,lessA (K++[.undef])=lessA (optA true K)∧lessA K=lessA (optA false K):=by decide +kernel
section
variable {n m:Nat} {σ σ':St} {v:V}
theorem sub_str {k:Nat} {α:Type} {f:α→V} {l:List (Str×α)} {nm:Str} {w:V} (h:σ[k]?=some (.dict (strD f l))) (hl:(l.lookup nm).map f=some w):subV σ (.loc k) (.str nm)=some w :=
 sub_dict h (strD_kOk f nm l) (by rw [strD_get];exact hl)
theorem in_str {k:Nat} {α:Type} {f:α→V} {l:List (Str×α)} {nm:Str} (h:σ[k]?=some (.dict (strD f l))):inV σ (.str nm) (.loc k)=some (l.lookup nm).isSome:=by
 rw [in_dict h rfl (strD_kOk f nm l),strD_any]
theorem OAt.fields {k:Nat} {o:O} (h:OAt σ k o):∃ km,σ[km]?=some (.dict (strD memV o.mem))∧subV σ (.loc k) (.str "members")=some (.loc km)∧subV σ (.loc k) (.str "texts")=some (kV o.texts)∧subV σ (.loc k) (.str "digits")=some (kV o.digits):=by
 obtain ⟨km,a,b⟩:=h.ex
 have e:([(.str "members",.loc km),(.str "texts",kV o.texts),(.str "digits",kV o.digits)]:List (V×V))=strD id [("members",V.loc km),("texts",kV o.texts),("digits",kV o.digits)]:=rfl
 rw [e] at a
 refine ⟨km,b,sub_str a ?_,sub_str a ?_,sub_str a ?_⟩<;>rfl
noncomputable def RdV (σ:St) (v:V):Option (List Atm)→Prop
 | none=>v=.none
 | some K=>IsL σ v (nmV (lessA K))
theorem read_law {k:Nat} {o:O} {nm:Str} (h:OAt σ k o):Does 2 (rc 130) [.loc k,.str nm] σ fun q=>Ext σ q.2∧RdV q.2 q.1 (o.raw nm):=by
 obtain ⟨km,a,f1,f2,f3⟩:=h.fields
 have i1:=in_str (nm:=nm) a
 have less:∀ K:List Atm,K∈GK16→Does 1 (rc 125) [.lst (nmV K)] σ fun q=>Ext σ q.2∧IsL q.2 q.1 (nmV (lessA K)):=fun K hK=>less_spec (.inl rfl) (by have:=(gk_calm K hK).2.2;omega)
 refine enterH ?_
 unfold O.raw
 cases hm:o.mem.lookup nm with
 | some p =>
  obtain ⟨K,f⟩:=p
  have hK:K∈GK16:=h.ok.mem _ (lookup_mem' hm)
  have kl:=(gk_calm K hK).2.2
  have s1:subV σ (.loc km) (.str nm)=some (memV (K,f)):=sub_str a (by rw [hm];rfl)
  rw [hm] at i1
  obtain ⟨g1,g2⟩:=gk_less K hK
  clear hm a less
  unfold memV at s1
  replace i1:inV σ (.str nm) (.loc km)=some true:=i1
  cases f with
  | true =>
   obtain ⟨K',hK'⟩:∃ K':List Atm,K'=K++[.undef]:=⟨_,rfl⟩
   have b1:binV σ .Add (.lst (nmV K)) (.lst [.str (Str.ofString "undefined")])=some (.lst (nmV K')):=by
    show (if (nmV K).length+1≤cap then some (V.lst (nmV K++[.str (Str.ofString "undefined")])) else none)=_
    rw [if_pos (by simp [nmV,cap];omega),hK']
    simp [nmV];rfl
   have less':Does 1 (rc 125) [.lst (nmV K')] σ fun q=>Ext σ q.2∧IsL q.2 q.1 (nmV (lessA (optA true K))):=by
    rw [← g1,← hK']
    exact less_spec (K:=K') (.inl rfl) (by rw [hK'];simp;omega)
   clear g1 g2 hK'
   fail "r"
   refine Does.goP less' ?_
   rintro R hR v σ2 ⟨hx,hv⟩
   clear b1 less'
   fail "r"
   exact ⟨hx,hv⟩
  | false =>
   have b1:binV σ .Add (.lst (nmV K)) (.lst [])=some (.lst (nmV K)):=by
    show (if (nmV K).length+0≤cap then some (V.lst (nmV K++[])) else none)=_
    rw [if_pos (by simp [nmV,cap];omega),List.append_nil]
   fail "r"
   refine Does.goP (less_spec (K:=K) (.inl rfl) (by omega)) ?_
   rintro R hR v σ2 ⟨hx,hv⟩
   fail "r"
   exact ⟨hx,hv⟩
 | none =>
  rw [hm] at i1
  replace i1:inV σ (.str nm) (.loc km)=some false:=i1
  clear hm a
  by_cases h0:nm = "0"
  ·subst h0
   cases hd:o.digits with
   | some K =>
    rw [hd] at f3
    have hK:=h.ok.digits K hd
    have c1:cmpV σ .IsNot (.lst (nmV K)) .none=some true:=rfl
    replace f3:subV σ (.loc k) (.str (Str.ofString "digits"))=some (.lst (nmV K)):=f3
    have less:=less K hK
    clear hd
    fail "r"
    refine Does.goP less ?_
    rintro R hR v σ2 ⟨hx,hv⟩
    fail "r"
    exact ⟨hx,hv⟩
   | none =>
    rw [hd] at f3
    replace f3:subV σ (.loc k) (.str (Str.ofString "digits"))=some .none:=f3
    have c1:cmpV σ .IsNot .none .none=some false:=rfl
    have e:(if (Str.ofString "0")=Str.ofString "0" ∧ (none:Option (List Atm)).isSome=true then none else o.texts)=o.texts:=if_neg (by simp)
    simp only [e]
    clear hd e
    cases ht:o.texts with
    | none =>
     rw [ht] at f2
     replace f2:subV σ (.loc k) (.str (Str.ofString "texts"))=some .none:=f2
     have c2:cmpV σ .Is .none .none=some true:=rfl
     clear ht
     fail "r"
     exact ⟨Ext.refl _,rfl⟩
    | some K =>
     rw [ht] at f2
     have less:=less K (h.ok.texts K ht)
     replace f2:subV σ (.loc k) (.str (Str.ofString "texts"))=some (.lst (nmV K)):=f2
     have c2:cmpV σ .Is (.lst (nmV K)) .none=some false:=rfl
     clear ht
     fail "r"
     refine Does.goP less ?_
     rintro R hR v σ2 ⟨hx,hv⟩
     fail "r"
     exact ⟨hx,hv⟩
  ·have e:(if nm=Str.ofString "0" ∧ o.digits.isSome=true then o.digits else o.texts)=o.texts:=if_neg (fun q=>h0 q.1)
   simp only [e]
   have c0:(nm==Str.ofString "0")=false:=by simpa using h0
   clear e h0
   cases ht:o.texts with
   | none =>
    rw [ht] at f2
    replace f2:subV σ (.loc k) (.str (Str.ofString "texts"))=some .none:=f2
    have c2:cmpV σ .Is .none .none=some true:=rfl
    clear ht
    fail "r"
    exact ⟨Ext.refl _,rfl⟩
   | some K =>
    rw [ht] at f2
    have less:=less K (h.ok.texts K ht)
    replace f2:subV σ (.loc k) (.str (Str.ofString "texts"))=some (.lst (nmV K)):=f2
    have c2:cmpV σ .Is (.lst (nmV K)) .none=some false:=rfl
    clear ht
    fail "r"
    refine Does.goP less ?_
    rintro R hR v σ2 ⟨hx,hv⟩
    fail "r"
    exact ⟨hx,hv⟩
theorem knows_law {k:Nat} {o:O} {nm:Str} (h:OAt σ k o):Is 1 (rc 131) [.loc k,.str nm] σ (.bool (o.raw nm).isSome,σ):=by
 apply does_is
 obtain ⟨km,a,f1,f2,f3⟩:=h.fields
 have i1:=in_str (nm:=nm) a
 have c1:∀ x,cmpV σ .IsNot (kV x) .none=some x.isSome:=fun x=>by cases x<;>rfl
 refine enterH ?_
 unfold O.raw
 cases hm:o.mem.lookup nm with
 | some p =>
  rw [hm] at i1
  replace i1:inV σ (.str nm) (.loc km)=some true:=i1
  clear hm a
  fail "r"
 | none =>
  rw [hm] at i1
  replace i1:inV σ (.str nm) (.loc km)=some false:=i1
  clear hm a
  by_cases h0:nm = "0"
  ·subst h0
   cases hd:o.digits with
   | some K =>
    rw [hd] at f3
    replace f3:subV σ (.loc k) (.str (Str.ofString "digits"))=some (.lst (nmV K)):=f3
    have c1':cmpV σ .IsNot (.lst (nmV K)) .none=some true:=rfl
    clear hd
    cases ht:o.texts.isSome<;>(fail "r";try (rw [if_pos ⟨rfl,rfl⟩,ht];rfl))
   | none =>
    rw [hd] at f3
    replace f3:subV σ (.loc k) (.str (Str.ofString "digits"))=some .none:=f3
    have c1':cmpV σ .IsNot .none .none=some false:=rfl
    have e:(if (Str.ofString "0")=Str.ofString "0" ∧ (none:Option (List Atm)).isSome=true then none else o.texts)=o.texts:=if_neg (by simp)
    simp only [e]
    clear hd e
    cases ht:o.texts.isSome<;>(fail "r";try first | (simp [ht];done) | (simp [c0];done))
  ·have e:(if nm=Str.ofString "0" ∧ o.digits.isSome=true then o.digits else o.texts)=o.texts:=if_neg (fun q=>h0 q.1)
   simp only [e]
   have c0:(nm==Str.ofString "0")=false:=by simpa using h0
   clear e h0
   cases ht:o.texts.isSome<;>(fail "r";try first | (simp [ht];done) | (simp [c0];done))
end
noncomputable instance:Inhabited O:=⟨⟨[],none,none⟩⟩
set_option genInjectivity false in
structure LW where
 count:Nat
 whole:Bool
 objs:List (Atm×Nat×O)
 goals:List Atm
 lit:List (Str×List Atm)
 inner:List (Str×List Atm)
 fresh:Bool
 declared:Bool
noncomputable def LW.ob (D:LW) (x:Atm):O:=((D.objs.lookup x).map (·.2)).getD default
noncomputable def LW.at (D:LW) (x:Atm):Nat:=((D.objs.lookup x).map (·.1)).getD 0
noncomputable def LW.has (D:LW) (x:Atm):Bool:=(D.objs.lookup x).isSome
noncomputable def kindV (K:List Atm):V:=.lst (nmV K)
noncomputable def wD (D:LW) (ωo ωi ωg ωl:Nat):List (Str×V):=[("count",.int (D.count:Nat)),("objs",.loc ωo),("inner",.loc ωi),("fresh",.bool D.fresh),("whole",.bool D.whole),("goals",.loc ωg),("lit",.loc ωl),("declared",.bool D.declared)]
noncomputable def objsD (D:LW):List (Str×Nat):=D.objs.map fun q=>(q.1.name,q.2.1)
structure WAt (σ:St) (ω:Nat) (D:LW):Prop where
 ex:∃ ωo ωi ωg ωl,σ[ω]?=some (.dict (strD id (wD D ωo ωi ωg ωl)))∧σ[ωo]?=some (.dict (strD (fun k:Nat=>V.loc k) (objsD D)))∧σ[ωi]?=some (.dict (strD kindV D.inner))∧σ[ωg]?=some (.list (nmV D.goals))∧σ[ωl]?=some (.dict (strD kindV D.lit))
 obs:∀ x,D.has x=true→OAt σ (D.at x) (D.ob x)
theorem WAt.ext {σ σ':St} {ω D} (h:WAt σ ω D) (x:Ext σ σ'):WAt σ' ω D:=by
 obtain ⟨ωo,ωi,ωg,ωl,a,b,c,d,e⟩:=h.ex
 exact ⟨⟨ωo,ωi,ωg,ωl,x.at a,x.at b,x.at c,x.at d,x.at e⟩,fun y hy=>(h.obs y hy).ext x⟩
theorem objs_lookup (D:LW) (x:Atm):(objsD D).lookup x.name=(D.objs.lookup x).map (·.1):=by
 unfold objsD
 generalize D.objs=l
 induction l with
 | nil=>rfl
 | cons q l ih =>
  obtain ⟨a,b⟩:=q
  rw [List.map_cons,List.lookup_cons,List.lookup_cons]
  by_cases e:x=a
  ·subst e;simp
  ·have h1:(x.name==a.name)=false:=by
    rw [Bool.eq_false_iff];intro q;exact e (name_inj (eq_of_beq q))
   have h2:(x==a)=false:=by simpa using e
   rw [h1,h2];exact ih
noncomputable def textA (K:List Atm):Str:=joinStr (Str.ofString "|") ((lessA K).map Atm.name)
theorem ks_text:∀ K∈KS,∀ G∈KS,decide (textA K=textA G)=decide (lessA K=lessA G):=by decide +kernel
theorem ks_size:∀ K∈KS,(((lessA K).map Atm.name).map fun x=>x.cps.size).sum+(Str.ofString "|").cps.size * ((lessA K).map Atm.name).length≤cap:=by decide +kernel
theorem ks_len:∀ K∈KS,(lessA K).length≤8:=by decide +kernel
section
variable {n m ω:Nat} {σ σ':St} {v:V} {D:LW}
theorem WAt.objs (h:WAt σ ω D):∃ ωo,subV σ (.loc ω) (.str "objs")=some (.loc ωo)∧(∀ x:Atm,inV σ (.str x.name) (.loc ωo)=some (D.has x))∧∀ x,D.has x=true→subV σ (.loc ωo) (.str x.name)=some (.loc (D.at x)):=by
 obtain ⟨ωo,ωi,ωg,ωl,a,b,_⟩:=h.ex
 refine ⟨ωo,sub_str a rfl,fun x=>?_,fun x hx=>?_⟩
 ·rw [in_str b,objs_lookup];unfold LW.has;rw [Option.isSome_map]
 ·refine sub_str b ?_
  rw [objs_lookup]
  unfold LW.has at hx;unfold LW.at
  cases hq:D.objs.lookup x with
  | none=>rw [hq] at hx;cases hx
  | some q=>rfl
theorem units_in (x:Atm):inV σ (.str x.name) (.tup [.str (Str.ofString "a"),.str (Str.ofString "b"),.str (Str.ofString "c"),.str (Str.ofString "1"),.str (Str.ofString "~a"),.str (Str.ofString "~b"),.str (Str.ofString "~1"),.str (Str.ofString "true"),.str (Str.ofString "~true"),.str (Str.ofString "undefined")])=some (unitA x):=by
 have:(.tup [.str (Str.ofString "a"),.str (Str.ofString "b"),.str (Str.ofString "c"),.str (Str.ofString "1"),.str (Str.ofString "~a"),.str (Str.ofString "~b"),.str (Str.ofString "~1"),.str (Str.ofString "true"),.str (Str.ofString "~true"),.str (Str.ofString "undefined")]:V)=.tup (nmV [.a,.b,.c,.one,.fa,.fb,.fone,.tru,.ftru,.undef]):=rfl
 rw [this]
 unfold inV
 rw [if_pos (show (V.str x.name).pure=true from rfl)]
 exact (if_pos (nmV_pures _)).trans (congrArg some (nmV_any _ _))
noncomputable def notUnit (v:V):Bool:=!((nmV [.a,.b,.c,.one,.fa,.fb,.fone,.tru,.ftru,.undef]).any (·.eqb v))
theorem notUnit_eq (x:Atm):notUnit (.str x.name)=!unitA x:=by unfold notUnit;rw [nmV_any];rfl
theorem nmV_filter (p:V→Bool) (q:Atm→Bool) (h:∀ x:Atm,p (.str x.name)=q x):∀ K:List Atm,(nmV K).filter p=nmV (K.filter q)
 | []=>rfl
 | x::K=>by
  rw [nmV_cons,List.filter_cons,List.filter_cons,h x,nmV_filter p q h K]
  split<;>rfl
theorem nmV_inj {K G:List Atm} (h:nmV K=nmV G):K=G:=by
 induction K generalizing G with
 | nil=>cases G with
  | nil=>rfl
  | cons=>cases h
 | cons x K ih=>cases G with
  | nil=>cases h
  | cons y G =>
   rw [nmV_cons,nmV_cons] at h
   injection h with h1 h2
   rw [name_inj (V.str.inj h1),ih h2]
theorem IsL.eq_ {K G:List Atm} (h:IsL σ v (nmV K)):eqV σ v (.lst (nmV G))=some (decide (K=G)):=by
 have hs:sameV v (.lst (nmV G))=none:=by rcases h with rfl | ⟨k,rfl,_⟩<;>rfl
 unfold eqV
 rw [hs]
 show (Mine.listOf σ v).bind _=_
 rw [h.listOf]
 refine (if_pos (show (V.pures (nmV K)&&V.pures (nmV G))=true by rw [nmV_pures,nmV_pures];rfl)).trans (congrArg some ?_)
 rw [Bool.eq_iff_iff,V.eqbs_iff,decide_eq_true_iff]
 exact ⟨nmV_inj,fun e=>by rw [e]⟩
theorem strs_in {t:Str} {acc:List Str}:V.pures (acc.map V.str)=true∧(acc.map V.str).any (·.eqb (.str t))=decide (t∈acc):=by
 constructor
 ·unfold V.pures;rw [List.all_map];exact List.all_eq_true.mpr fun I I=>rfl
 ·rw [Bool.eq_iff_iff,List.any_eq_true,decide_eq_true_iff]
  constructor
  ·rintro ⟨v,hv,e⟩
   obtain ⟨s,hs,rfl⟩:=List.mem_map.mp hv
   rw [← V.str.inj ((V.eqb_iff _ _).mp e)];exact hs
  ·exact fun h=>⟨_,List.mem_map.mpr ⟨t,h,rfl⟩,(V.eqb_iff _ _).mpr rfl⟩
theorem two_nodup' {M:List Str} (h:M.Nodup):decide (1 < M.length)=M.any (fun a=>M.any fun c=>a != c):=by
 rw [Bool.eq_iff_iff,decide_eq_true_iff,List.any_eq_true]
 match M,h with
 | [],_=>simp
 | [x],_=>simp
 | x::y::M,h =>
  refine ⟨fun I=>⟨x,.head _,List.any_eq_true.mpr ⟨y,.tail _ (.head _),?_⟩⟩,fun I=>by simp⟩
  have:x≠y:=by simp at h;exact h.1.1
  simpa using this
noncomputable def apStep (s:List Str×Nat):Option (List Atm)→List Str×Nat
 | none=>s
 | some K=>(if textA K∈s.1 then s.1 else s.1++[textA K],s.2+if tagA (lessA K) then 1 else 0)
theorem ap_fold:∀ (l:List (Option (List Atm))) (s:List Str×Nat),s.1.Nodup→(l.foldl apStep s).1.Nodup∧(∀ t,t∈(l.foldl apStep s).1↔t∈s.1∨∃ K∈l.filterMap id,t=textA K)∧decide (0 < (l.foldl apStep s).2)=(decide (0 < s.2)||(l.filterMap id).any fun K=>tagA (lessA K))
 | [],s,h=>⟨h,fun t=>by simp,(Bool.or_false _).symm⟩
 | none::l,s,h=>ap_fold l s h
 | some K::l,s,h=>by
  have hn:(apStep s (some K)).1.Nodup:=by
   show (if _ then _ else _:List Str).Nodup
   split
   ·exact h
   ·rename_i q;rw [List.nodup_append];exact ⟨h,by simp,fun a ha' c hc e=>q (by simp at hc;rw [← hc,← e];exact ha')⟩
  obtain ⟨a,b,c⟩:=ap_fold l (apStep s (some K)) hn
  refine ⟨a,fun t=>(b t).trans ?_,c.trans ?_⟩
  ·have:t∈(apStep s (some K)).1↔t∈s.1∨t=textA K:=by
    show t∈(if _ then _ else _:List Str)↔_
    split
    ·rename_i q;exact ⟨.inl,fun e=>e.elim id fun e=>e▸q⟩
    ·simp
   rw [this]
   show _↔_∨∃ G∈K::l.filterMap id,_
   simp only [List.mem_cons,or_and_right,exists_or,exists_eq_left,or_assoc]
  ·show (decide (0 < s.2+_)||_)=(_||(tagA (lessA K)||_))
   cases tagA (lessA K)<;>simp
theorem ap_pure {l:List (Option (List Atm))} (h:∀ K∈l.filterMap id,K∈KS):(decide (1 < (l.foldl apStep ([],0)).1.length)&&decide (0 < (l.foldl apStep ([],0)).2))=apartK (l.filterMap id):=by
 obtain ⟨a,b,c⟩:=ap_fold l ([],0) .nil
 rw [c,two_nodup' a]
 unfold apartK
 congr 1
 have tx:∀ K∈l.filterMap id,∀ G∈l.filterMap id,(textA K != textA G)=decide (lessA K≠lessA G):=fun K h1 G h2=>by
  have:=ks_text K (h K h1) G (h G h2)
  rw [decide_eq_decide] at this
  rw [Bool.eq_iff_iff,bne_iff_ne,decide_eq_true_iff];exact not_congr this
 rw [Bool.eq_iff_iff]
 simp only [List.any_eq_true]
 constructor
 ·rintro ⟨s,hs,t,ht,q⟩
  obtain ⟨K,hK,rfl⟩:=((b s).mp hs).resolve_left (by simp)
  obtain ⟨G,hG,rfl⟩:=((b t).mp ht).resolve_left (by simp)
  exact ⟨K,hK,G,hG,by rw [← tx K hK G hG];exact q⟩
 ·rintro ⟨K,hK,G,hG,q⟩
  exact ⟨_,(b _).mpr (.inr ⟨K,hK,rfl⟩),_,(b _).mpr (.inr ⟨G,hG,rfl⟩),by rw [tx K hK G hG];exact q⟩
theorem sel_k {hh n:Nat} {c:Bool} {e1 e2:Expr} {fr:Fr} {σ:St} {K:V→St→MS} {i j:Int} (h:Go hh n (K (.int (if c then i else j)) σ)) (h1:evS fr σ K e1=K (.int i) σ:=by rfl) (h2:evS fr σ K e2=K (.int j) σ:=by rfl):SelP hh (Go hh (n+1)) (.ev e1 fr σ K) (.ev e2 fr σ K) c:=by
 cases c
 ·exact .f rfl (by show Go hh n (evS fr σ K e2);rw [h2];exact h)
 ·exact .t rfl (by show Go hh n (evS fr σ K e1);rw [h1];exact h)
theorem apart_law {parts:List Atm} {nm:Str} (h:WAt σ ω D) (hp:∀ x∈parts,D.has x=true) (hl:parts.length≤8):Does 3 (rc 132) [.loc ω,.lst (nmV parts),.str nm] σ fun q=>Ext σ q.2∧q.1=.bool (apartO (parts.map D.ob) nm):=by
 refine enterG fun Q' hQ=>?_
 fail "r"
 refine for_mapR (rc 132).sc (fun I=>none) [("w",.loc ω),("name",.str nm),("told",.loc σ.length)] (fun r vars σ'=>Ex2 fun (acc:List Str) (tags:Nat)=>C6 (vars (Str.ofString "tags")=some (.int (tags:Nat))) (Ext σ σ') (σ'[σ.length]?=some (.list (acc.map V.str))) (acc.length+r.length≤8) (∀ x∈r,x∈parts) ((r.map fun x=>(D.ob x).raw nm).foldl apStep (acc,tags)=(parts.map fun x=>(D.ob x).raw nm).foldl apStep ([],0))) ?_ ?_ _ _ _ rfl ?_
 ·rintro P hP R hR y r vars σ' ⟨acc,tags,v4,hx,hg,hz,hs,hf⟩
  have v4:vars "tags" = some (.int (tags:Nat)):=v4
  obtain ⟨vars,rfl⟩:=pin v4
  have hy:=hp y (hs y (.head _))
  have hs:∀ x∈r,x∈parts:=fun x hx=>hs x (.tail _ hx)
  have W:=h.ext hx
  obtain ⟨ωo,w1,w2,w3⟩:=W.objs
  have w3:=w3 y hy
  have oy:=W.obs y hy
  rw [List.map_cons,List.foldl_cons] at hf
  fail "r"
  refine Does.goP (read_law oy) ?_
  rintro R hR v σ2 ⟨hx2,hv⟩
  have hg2:=hx2.at hg
  have hx3:=hx.trans hx2
  rw [List.length_cons] at hz
  cases hq:(D.ob y).raw nm with
  | none =>
   rw [hq] at hv hf
   cases hv
   have c1:cmpV σ2 .IsNot .none .none=some false:=rfl
   have hf:id _:=hf
   fail "r"
   exact hP (same_lst _) ⟨acc,tags,rfl,hx3,hg2,by fail "a",hs,hf⟩ rfl rfl
  | some K =>
   rw [hq] at hv hf
   have hK:=oy.ok.raw hq
   have hv:IsL σ2 v (nmV (lessA K)):=hv
   have c1:cmpV σ2 .IsNot v .none=some true:=by rcases hv with rfl | ⟨k,rfl,_⟩<;>rfl
   obtain ⟨l1,l2,l3⟩:=hv.loop
   have len:=hv.len
   have lp:=hv.loopD
   have jl:=hv.listOf
   have j1:=allStrs_nm (lessA K)
   have j2:=decide_eq_true (ks_size K hK)
   have q1:eqV σ2 v (.lst [.str (Str.ofString "t")])=some (decide (lessA K=[.t])):=hv.eq_ (G:=[.t])
   obtain ⟨t1,t2⟩:=strs_in (t:=textA K) (acc:=acc)
   have i1:inV σ2 (.str (textA K)) (.loc σ.length)=some (decide (textA K∈acc)):=by
    rw [inV_loc hg2 rfl t1,t2]
   have c2:decide ((acc.map V.str).length < cap)=true:=decide_eq_true (by rw [List.length_map];unfold cap;fail "a")
   have fin:∀ {fr:Fr} {σ':St} {t:Int},Ext σ σ'→σ'[σ.length]?=some (.list ((if textA K∈acc then acc else acc++[textA K]).map V.str))→fr.vars "tags" = some (.int (tags+t))→(t=((if tagA (lessA K) then 1 else 0:Nat):Int))→fr=⟨(rc 132).sc,fr.vars,fun I=>none⟩→Has fr.vars [("w",.loc ω),("name",.str nm),("told",.loc σ.length)]→P r fr σ':=fun e g v t f hh =>
    hP (same_lst _) ⟨_,_,by rw [t] at v;exact v,e,g,by split;fail "a";rw [List.length_append];simp only [List.length_cons,List.length_nil];fail "a",hs,hf⟩ f hh
   clear hP hf hs hz
   have put:∀ {fr:Fr} {t:Int},t=((if tagA (lessA K) then 1 else 0:Nat):Int)→fr.vars "tags" = some (.int (tags+t))→fr=⟨(rc 132).sc,fr.vars,fun I=>none⟩→Has fr.vars [("w",.loc ω),("name",.str nm),("told",.loc σ.length)]→(textA K∈acc→P r fr σ2)∧(textA K∉acc→P r fr (σ2.set σ.length (.list (acc.map V.str++[.str (textA K)])))):=fun t v f hh =>
    ⟨fun m=>fin hx3 (by rw [if_pos m];exact hg2) v t f hh,fun m=>fin (hx3.set (Nat.le_refl _) _) (by rw [if_neg m,set_self hg2,List.map_append];rfl) v t f hh⟩
   clear fin t1 t2
   have i2:cmpV σ2 .NotIn (.str (textA K)) (.loc σ.length)=some (!decide (textA K∈acc)):=by show (inV _ _ _).map _=_;rw [i1];rfl
   cases hE:(lessA K).isEmpty with
   | true =>
    have lE:=List.isEmpty_iff.mp hE
    have c3:decide (((nmV (lessA K)).length:Int) > 0)=false:=by rw [lE];rfl
    have put:=fun {fr t} (e:t=if decide (lessA K=[.t]) then (1:Int) else 0)=>@put fr t (by rw [e,lE];rfl)
    fail "r"
    refine sel_k ?_
    by_cases hm:textA K∈acc
    ·have i3:=decide_eq_true hm
     fail "r"
     refine (put rfl ?_ ?_ ?_).1 hm<;>rfl
    ·have i3:=decide_eq_false hm
     fail "r"
     refine (put rfl ?_ ?_ ?_).2 hm<;>rfl
   | false =>
    have c3:decide (((nmV (lessA K)).length:Int) > 0)=true:=by
     cases hl:lessA K with
     | nil=>rw [hl] at hE;cases hE
     | cons x t=>exact decide_eq_true (by rw [nmV,List.length_map,List.length_cons];fail "a")
    have tg:tagA (lessA K)=((lessA K).all unitA||decide (lessA K=[.t])):=by show (!_&&_||_)=_;rw [hE];rfl
    have c4:(((nmV ((lessA K).filter fun x=>!unitA x)).length:Int)==0)=(lessA K).all unitA:=by
     rw [nmV,List.length_map,Bool.eq_iff_iff,beq_iff_eq,List.all_eq_true]
     refine ⟨fun q x hx=>?_,fun q=>?_⟩
     ·have:=List.filter_eq_nil_iff.mp (List.eq_nil_of_length_eq_zero (l:=(lessA K).filter fun x=>!unitA x) (by fail "a")) x hx
      simpa using this
     ·rw [List.filter_eq_nil_iff.mpr fun x hx=>by rw [q x hx];decide];rfl
    rw [tg] at put
    clear tg hE
    fail "r"
    refine comp_mapG id notUnit l3 ?_ ?_ ?_
    ·intro z hz'
     obtain ⟨x,hx',rfl⟩:=mem_nmV.mp hz'
     have u1:=units_in (σ:=σ2) x
     clear put
     fail "r"
     rw [notUnit_eq]
    ·intro z hz' _
     clear put
     fail "r"
    rw [List.map_id,nmV_filter notUnit (fun x=>!unitA x) notUnit_eq]
    cases hA:(lessA K).all unitA with
    | true =>
     rw [hA] at c4 put
     by_cases hm:textA K∈acc
     ·have i3:=decide_eq_true hm
      fail "r"
      refine (put rfl ?_ ?_ ?_).1 hm<;>rfl
     ·have i3:=decide_eq_false hm
      fail "r"
      refine (put rfl ?_ ?_ ?_).2 hm<;>rfl
    | false =>
     rw [hA] at c4 put
     have put:=fun {fr t} (e:t=if decide (lessA K=[.t]) then (1:Int) else 0)=>@put fr t (by rw [e];cases decide (lessA K=[.t])<;>rfl)
     fail "r"
     refine sel_k ?_
     by_cases hm:textA K∈acc
     ·have i3:=decide_eq_true hm
      fail "r"
      refine (put rfl ?_ ?_ ?_).1 hm<;>rfl
     ·have i3:=decide_eq_false hm
      fail "r"
      refine (put rfl ?_ ?_ ?_).2 hm<;>rfl
 ·rintro R hR vars σ' ⟨acc,tags,v4,hx,hg,hz,hs,hf⟩
  have v4:vars "tags" = some (.int (tags:Nat)):=v4
  obtain ⟨vars,rfl⟩:=pin v4
  have len:=len_loc hg
  have e:=ap_pure (l:=parts.map fun x=>(D.ob x).raw nm) (by
   intro K hK
   simp only [List.mem_filterMap,List.mem_map,id] at hK
   obtain ⟨_,⟨x,hx',rfl⟩,e⟩:=hK
   exact ((h.obs x (hp x hx')).ok).raw e)
  rw [← hf] at e
  have e0:apartO (parts.map D.ob) nm=_:=(show _=apartK _ by unfold apartO;rw [List.map_map];rfl).trans e.symm
  rw [List.length_map] at len
  clear hf hp e
  have g1:decide ((acc.length:Int) > 1)=decide (1 < acc.length):=decide_eq_decide.mpr (by fail "a")
  have g2:decide ((tags:Int) > 0)=decide (0 < tags):=decide_eq_decide.mpr (by fail "a")
  rw [show ([].map fun x=>(D.ob x).raw nm).foldl apStep (acc,tags)=(acc,tags) from rfl] at e0
  cases h1:decide (1 < acc.length) with
  | true =>
   rw [h1] at g1;fail "r";exact ⟨hx,congrArg V.bool (g2.trans (by rw [e0,h1];rfl))⟩
  | false=>rw [h1] at g1;fail "r";exact ⟨hx,congrArg V.bool (g1.trans (by rw [e0,h1];rfl))⟩
 ·exact ⟨[],0,rfl,Ext.push _ _,push_at _ _,by simpa using hl,fun I h=>h,rfl⟩
end
noncomputable def onName {α:Type} (d:α) (g:Atm→α) (v:V):α:=match allAtm.find? (fun x=>v.eqb (.str x.name)) with | some x=>g x | none=>d
theorem onName_eq {α:Type} (d:α) (g:Atm→α) (x:Atm):onName d g (.str x.name)=g x:=by
 unfold onName
 cases h:allAtm.find? (fun y=>(V.str x.name).eqb (.str y.name)) with
 | none =>
  have:=List.find?_eq_none.mp h x (all_atm x)
  exact absurd ((V.eqb_iff _ _).mpr rfl) (by simpa using this)
 | some y =>
  have:=List.find?_some h
  rw [name_inj (V.str.inj ((V.eqb_iff _ _).mp this))]
theorem nmV_map (g:Atm→V) (d:V):∀ K:List Atm,(nmV K).map (onName d g)=K.map g
 | []=>rfl
 | x::K=>by rw [nmV_cons,List.map_cons,List.map_cons,onName_eq,nmV_map g d K]
theorem own_ne:∀ K∈OK11,K≠[]∧K.length≤2:=by decide +kernel
noncomputable def headA (x:Atm):Atm:=(roomA x).headD .any
section
variable {n m ω:Nat} {σ σ':St} {v:V} {D:LW}
theorem rooms_eq (x:Atm):Is 1 (rc 124) [.str x.name] σ (.lst (nmV (roomA x)),σ):=by
 cases x<;>exact does_is (by fail "r")
theorem room_sub (x:Atm):subV σ (.lst (nmV (roomA x))) (.int 0)=some (.str (headA x).name):=by cases x<;>rfl
theorem len_pos (p:Atm→Bool) (K:List Atm):decide (((nmV (K.filter p)).length:Int) > 0)=K.any p:=by
 have:(nmV (K.filter p)).length=(K.filter p).length:=by simp [nmV]
 rw [this,Bool.eq_iff_iff,decide_eq_true_iff,List.any_eq_true]
 constructor
 ·intro q
  obtain ⟨x,hx⟩:=List.exists_mem_of_length_pos (l:=K.filter p) (by fail "a")
  exact ⟨x,(List.mem_filter.mp hx).1,(List.mem_filter.mp hx).2⟩
 ·rintro ⟨x,hx,q⟩
  have:0 < (K.filter p).length:=List.length_pos_of_mem (List.mem_filter.mpr ⟨hx,q⟩)
  fail "a"
theorem lets_law {x:Atm} {nm:Str} {K:List Atm} (h:WAt σ ω D) (hx:D.has x=true) (hK:K∈OK11):Does 3 (rc 133) [.loc ω,.str x.name,.str nm,.lst (nmV K)] σ fun q=>Ext σ q.2∧q.1=.bool (letsA ((D.ob x).raw nm) K):=by
 obtain ⟨ωo,w1,w2,w3⟩:=h.objs
 have w3:=w3 x hx
 have oy:=h.obs x hx
 refine enterH ?_
 fail "r"
 refine Does.goP (read_law oy) ?_
 rintro R hR v σ2 ⟨hx2,hv⟩
 try dsimp only at hx2 hv
 cases hq:(D.ob x).raw nm with
 | none =>
  rw [hq] at hv
  have hv:v=.none:=hv
  subst hv
  have c1:cmpV σ2 .Is .none .none=some true:=rfl
  have c2:cmpV σ2 .IsNot .none .none=some false:=rfl
  fail "r"
  exact ⟨hx2,by rw [hq];rfl⟩
 | some G =>
  rw [hq] at hv
  have hG:=oy.ok.raw hq
  replace hv:IsL σ2 v (nmV (lessA G)):=hv
  have c1:cmpV σ2 .Is v .none=some false:=by rcases hv with rfl | ⟨k,rfl,_⟩<;>rfl
  have c2:cmpV σ2 .IsNot v .none=some true:=by rcases hv with rfl | ⟨k,rfl,_⟩<;>rfl
  have q1:eqV σ2 v (.lst [.str (Str.ofString "any")])=some (decide (lessA G=[.any])):=hv.eq_ (G:=[.any])
  obtain ⟨l1,l2,l3⟩:=hv.loop
  by_cases ha:lessA G=[.any]
  ·rw [decide_eq_true ha] at q1
   have e:letsA (some G) K=true:=by
    show K.any (fitA G)=true
    obtain ⟨hne,_⟩:=own_ne K hK
    cases K with
    | nil=>exact absurd rfl hne
    | cons y K=>rw [List.any_cons];unfold fitA;rw [decide_eq_true ha];rfl
   clear ha
   fail "r"
   exact ⟨hx2,by rw [hq,e]⟩
  ·rw [decide_eq_false ha] at q1
   have e:letsA (some G) K=K.any fun y=>(roomA y).any fun r=>decide (r∈(lessA G).map headA):=by
    show K.any (fitA G)=_
    congr 1;funext y
    unfold fitA
    rw [decide_eq_false ha,Bool.false_or]
    rfl
   clear ha
   fail "r"
   refine comp_mapG (onName .none fun y=>.str (headA y).name) (fun I=>true) l3 ?_ ?_ ?_
   ·intro z hz
    fail "r"
   ·intro z hz _
    obtain ⟨y,hy,rfl⟩:=mem_nmV.mp hz
    have r1:=rooms_eq (σ:=σ2) y
    have r2:=room_sub (σ:=σ2) y
    fail "r"
    rw [onName_eq]
   rw [filter_all,nmV_map]
   have e2:(lessA G).map (fun y=>V.str (headA y).name)=nmV ((lessA G).map headA):=by unfold nmV;rw [List.map_map];rfl
   rw [e2]
   clear e2
   generalize hR:(lessA G).map headA=R at *
   fail "r"
   refine comp_mapG id (onName false fun y=>(roomA y).any fun r=>decide (r∈R)) (same_lst _) ?_ ?_ ?_
   ·intro z hz
    obtain ⟨y,hy,rfl⟩:=mem_nmV.mp hz
    have r1:=rooms_eq (σ:=σ2) y
    clear hR
    have i1:=fun r=>IsL.in_ (σ:=σ2) (v:=.lst (nmV R)) (K:=R) (.inl rfl) r
    fail "r"
    refine comp_mapG id (onName false fun r=>decide (r∈R)) (same_lst _) ?_ ?_ ?_
    ·intro z hz
     obtain ⟨r,hr,rfl⟩:=mem_nmV.mp hz
     fail "r"
     rw [onName_eq]
    ·intro z hz _
     fail "r"
    rw [List.map_id,nmV_filter _ (fun r=>decide (r∈R)) (onName_eq _ _)]
    have c3:=len_pos (fun r=>decide (r∈R)) (roomA y)
    fail "r"
    rw [onName_eq];exact congrArg (·,σ2) c3
   ·intro z hz _
    fail "r"
   rw [List.map_id,nmV_filter _ (fun y=>(roomA y).any fun r=>decide (r∈R)) (onName_eq _ _)]
   have c3:=len_pos (fun y=>(roomA y).any fun r=>decide (r∈R)) K
   clear hR
   fail "r"
   exact ⟨hx2,congrArg V.bool (c3.trans (by rw [hq];exact e.symm))⟩
end
noncomputable def sortP {α:Type} (l:List (Str×α)):List (Str×α):=insSort (fun a b=>strLt a.1 b.1) l
theorem insP_names {α:Type} (x:Str×α):∀ l:List (Str×α),(insSort.ins (fun a b=>strLt a.1 b.1) x l).map (·.1)=insSort.ins strLt x.1 (l.map (·.1))
 | []=>rfl
 | y::l=>by
  simp only [List.map_cons,ins_c]
  split
  ·rw [List.map_cons,insP_names x l]
  ·rfl
theorem sortP_names {α:Type}:∀ l:List (Str×α),(sortP l).map (·.1)=insSort strLt (l.map (·.1))
 | []=>rfl
 | x::l=>by
  have ih:=sortP_names l
  simp only [sortP,sort_c,List.map_cons] at ih ⊢
  rw [insP_names,ih]
theorem sortP_perm {α:Type} (l:List (Str×α)):(sortP l).Perm l:=insSort_perm _ l
theorem lookup_nd {β:Type} {l:List (Str×β)} (hn:(l.map (·.1)).Nodup) {q:Str×β} (hm:q∈l):l.lookup q.1=some q.2:=by
 induction l with
 | nil=>cases hm
 | cons x l ih =>
  rw [List.map_cons,List.nodup_cons] at hn
  rcases List.mem_cons.mp hm with e | hm'
  ·subst e;rw [List.lookup_cons,beq_self_eq_true]
  ·have:q.1≠x.1:=fun e=>hn.1 (by rw [← e];exact List.mem_map.mpr ⟨q,hm',rfl⟩)
   obtain ⟨x1,x2⟩:=x
   rw [List.lookup_cons,show (q.1==x1)=false by simpa using this];exact ih hn.2 hm'
theorem allStrs_c (x:Str) (l:List V):allStrs (.str x::l)=(allStrs l).map (x::·):=rfl
theorem allStrs_map:∀ l:List Str,allStrs (l.map V.str)=some l
 | []=>rfl
 | x::l=>by simp only [List.map_cons,allStrs_c,allStrs_map l,Option.map_some]
theorem sortV_strs {l:List Str} (h:l.length < 64):sortV (l.map V.str)=some ((insSort strLt l).map V.str):=by
 unfold sortV
 rw [if_neg (by rw [List.length_map];fail "a")]
 cases l with
 | nil=>rfl
 | cons x l=>rw [show allInts ((x::l).map V.str)=none from rfl,allStrs_map]
structure LitD (σ:St) (k:Nat) (lit:List (Str×List Atm)):Prop where
 at_:σ[k]?=some (.dict (strD kindV lit))
 own:∀ p∈lit,p.2∈OK11∧okName p.1
 nd:(lit.map (·.1)).Nodup
 len:lit.length≤4
theorem LitD.ext {σ σ':St} {k lit} (h:LitD σ k lit) (x:Ext σ σ'):LitD σ' k lit:=⟨x.at h.at_,h.own,h.nd,h.len⟩
section
variable {n m ω k:Nat} {σ σ':St} {v:V} {D:LW} {lit:List (Str×List Atm)}
theorem LitD.src (h:LitD σ k lit):sortSrc σ (.loc k)=some ((lit.map (·.1)).map V.str)∧sortV ((lit.map (·.1)).map V.str)=some ((sortP lit).map fun p=>V.str p.1):=by
 constructor
 ·unfold sortSrc;simp only [h.at_]
  unfold strD;rw [List.map_map,List.map_map];rfl
 ·rw [sortV_strs (by rw [List.length_map];have:=h.len;fail "a"),← sortP_names,List.map_map];rfl
theorem LitD.get (h:LitD σ k lit) {p:Str×List Atm} (hp:p∈sortP lit):subV σ (.loc k) (.str p.1)=some (.lst (nmV p.2))∧p.2∈OK11∧okName p.1:=by
 have hp:=(sortP_perm lit).mem_iff.mp hp
 refine ⟨sub_str h.at_ (by rw [lookup_nd h.nd hp];rfl),h.own p hp⟩
theorem stepO_sub {α:Type} {ob:α→O} {ts left:List α} {p:Str×List Atm}:∀ x∈stepO ob ts p left,x∈left:=by
 intro x hx
 unfold stepO at hx
 split at hx
 ·split at hx
  ·exact hx
  ·exact (List.mem_filter.mp hx).1
 ·exact hx
theorem leftO_sub {α:Type} {ob:α→O} {ts:List α}:∀ (lit:List (Str×List Atm)) {left:List α},∀ x∈lit.foldl (fun left p=>stepO ob ts p left) left,x∈left
 | [],_,x,h=>h
 | p::l,left,x,h=>stepO_sub x (leftO_sub l x h)
theorem left_law {parts:List Atm} (h:WAt σ ω D) (L:LitD σ k lit) (hp:∀ x∈parts,D.has x=true) (hl:parts.length≤8):Does 4 (rc 134) [.loc ω,.loc k,.lst (nmV parts)] σ fun q=>Ext σ q.2∧q.1=.lst (nmV (leftO D.ob (sortP lit) parts)):=by
 obtain ⟨s1,s2⟩:=L.src
 refine enterG fun Q' hQ=>?_
 fail "r"
 refine for_mapR (rc 134).sc (fun I=>none) [("w",.loc ω),("lit",.loc k),("parts",.lst (nmV parts))] (fun r vars σ'=>∃ left,C5 (∀ p∈r,p∈sortP lit) (vars (Str.ofString "left")=some (.lst (nmV left))) (Ext σ σ') (∀ x∈left,x∈parts) (r.foldl (fun left p=>stepO D.ob parts p left) left=leftO D.ob (sortP lit) parts)) ?_ ?_ _ _ _ rfl ?_
 ·rintro P hP R hR p r vars σ' ⟨left,hps,v4,hx,hs,hf⟩
  have v4:vars "left" = some (.lst (nmV left)):=v4
  obtain ⟨vars,rfl⟩:=pin v4
  have hpm:=hps p (.head _)
  have hps:∀ p∈r,p∈sortP lit:=fun q h=>hps q (.tail _ h)
  have W:=h.ext hx
  have L':=L.ext hx
  rw [List.foldl_cons] at hf
  clear s1 s2
  fail "r"
  refine Does.goX (apart_law W hp hl) fun σ2 hx2=>?_
  cases ha:apartO (parts.map D.ob) p.1 with
  | false =>
   have e:stepO D.ob parts p left=left:=by unfold stepO;rw [ha];rfl
   rw [e] at hf
   have hf:id _:=hf
   fail "r"
   exact hP (same_lst _) ⟨left,hps,rfl,hx.trans hx2,hs,hf⟩ rfl rfl
  | true =>
   have W2:=W.ext hx2
   have L2:=L'.ext hx2
   obtain ⟨F,hF⟩:∃ F:Atm→Bool,F=fun t=>letsA ((D.ob t).raw p.1) p.2:=⟨_,rfl⟩
   have e:stepO D.ob parts p left=if (left.filter F).isEmpty then left else left.filter F:=by unfold stepO;rw [ha,hF];rfl
   rw [e] at hf
   have hf:id _:=hf
   have hin:∀ y∈left,D.has y=true:=fun y hy=>hp y (hs y hy)
   clear e
   fail "r"
   refine comp_rlR (fun sr done σ3=>C3 (Ext σ2 σ3) (∀ y∈sr,y∈left) (done++nmV (sr.filter F)=nmV (left.filter F))) ?_ ?_ ?_
   ·rintro P' hC R hR y sr done σ3 ⟨hx3,hS,hd⟩
    have hy:=hin y (hS y (.head _))
    have hS:∀ y∈sr,y∈left:=fun q h=>hS q (.tail _ h)
    have W3:=W2.ext hx3
    obtain ⟨g1,g2,g3⟩:=(L2.ext hx3).get hpm
    clear hP
    fail "r"
    refine Does.goX (lets_law W3 hy g2) fun σ4 hx4=>?_
    rw [List.filter_cons] at hd
    have fy:F y=letsA ((D.ob y).raw p.1) p.2:=by rw [hF]
    cases hb:letsA ((D.ob y).raw p.1) p.2 with
    | true =>
     rw [fy,hb,if_pos rfl,nmV_cons] at hd
     fail "r"
     exact hC (same_lst _) ⟨hx3.trans hx4,hS,by rw [List.append_assoc];exact hd⟩
    | false =>
     rw [fy,hb,if_neg Bool.false_ne_true] at hd
     fail "r"
     exact hC (same_lst _) ⟨hx3.trans hx4,hS,hd⟩
   ·exact ⟨Ext.refl _,fun I h=>h,rfl⟩
   ·rintro R hR vs σ3 ⟨hx3,hS,hd⟩
    rw [show nmV ([].filter F)=[] from rfl,List.append_nil] at hd
    cases hd
    have c3:=len_pos F left
    have ce:(left.filter F).isEmpty=!(left.any F):=by
     rw [Bool.eq_iff_iff,List.isEmpty_iff,List.filter_eq_nil_iff]
     simp
    have hf:_=_:=hf
    rw [ce] at hf
    have hx4:=(hx.trans hx2).trans hx3
    cases hb:left.any F with
    | true =>
     rw [hb] at hf c3
     have hf:id _:=hf
     fail "r"
     exact hP (same_lst _) ⟨left.filter F,hps,rfl,hx4,fun x hx=>hs x (List.mem_filter.mp hx).1,hf⟩ rfl rfl
    | false =>
     rw [hb] at hf c3
     have hf:id _:=hf
     fail "r"
     exact hP (same_lst _) ⟨left,hps,rfl,hx4,hs,hf⟩ rfl rfl
 ·rintro R hR vars σ' ⟨left,hps,v4,hx,hs,hf⟩
  have v4:vars "left" = some (.lst (nmV left)):=v4
  obtain ⟨vars,rfl⟩:=pin v4
  rw [← hf] at hQ
  clear hf s1 s2
  fail "r"
  exact ⟨hx,rfl⟩
 ·exact ⟨parts,fun I h=>h,rfl,Ext.refl _,fun I h=>h,rfl⟩
end
noncomputable def takerA (x:Atm):Bool:=decide (x∈[Atm.any,.unk,.err,.obj,.emp])
noncomputable def LW.left (D:LW) (lit:List (Str×List Atm)) (parts:List Atm):List Atm:=if 1 < parts.length then leftO D.ob lit parts else parts
noncomputable def LW.first (D:LW) (lit:List (Str×List Atm)) (inner:List Atm→Str→Str) (goals:List Atm):Str :=
 if (goals.any takerA||(goals.filter D.has).isEmpty)=true then "" else match askO ((D.left lit (goals.filter D.has)).map D.ob) (lit.map (·.1)) with
  | some nm=>nm
  | none=>withinR (inner (D.left lit (goals.filter D.has))) (lit.map (·.1))
noncomputable def LW.want (D:LW) (left:List Atm) (nm:Str):List Atm:=left.flatMap fun x=>match (D.ob x).raw nm with | none=>[] | some K=>lessA K
section
variable {n m ω k:Nat} {σ σ':St} {v:V} {D:LW} {lit:List (Str×List Atm)}
theorem takers_eq (x:Atm):inV σ (.str x.name) (.tup [.str (Str.ofString "any"),.str (Str.ofString "unknown"),.str (Str.ofString "error"),.str (Str.ofString "object"),.str (Str.ofString "{}")])=some (takerA x):=by
 have:(.tup [.str (Str.ofString "any"),.str (Str.ofString "unknown"),.str (Str.ofString "error"),.str (Str.ofString "object"),.str (Str.ofString "{}")]:V)=.tup (nmV [.any,.unk,.err,.obj,.emp]):=rfl
 rw [this]
 unfold inV
 rw [if_pos (show (V.str x.name).pure=true from rfl)]
 exact (if_pos (nmV_pures _)).trans (congrArg some (nmV_any _ _))
theorem WAt.flds (h:WAt σ ω D):∃ ωi ωl,subV σ (.loc ω) (.str "inner")=some (.loc ωi)∧σ[ωi]?=some (.dict (strD kindV D.inner))∧subV σ (.loc ω) (.str "fresh")=some (.bool D.fresh)∧subV σ (.loc ω) (.str "lit")=some (.loc ωl)∧σ[ωl]?=some (.dict (strD kindV D.lit)) ∧
  subV σ (.loc ω) (.str "whole")=some (.bool D.whole)∧subV σ (.loc ω) (.str "declared")=some (.bool D.declared)∧subV σ (.loc ω) (.str "count")=some (.int (D.count:Nat))∧∃ ωg,subV σ (.loc ω) (.str "goals")=some (.loc ωg)∧σ[ωg]?=some (.list (nmV D.goals)):=by
 obtain ⟨ωo,ωi,ωg,ωl,a,b,c,d,e⟩:=h.ex
 exact ⟨ωi,ωl,sub_str a rfl,c,sub_str a rfl,sub_str a rfl,e,sub_str a rfl,sub_str a rfl,sub_str a rfl,ωg,sub_str a rfl,d⟩
theorem left_len {α:Type} {ob:α→O} {ts:List α}:∀ (lit:List (Str×List Atm)) {left:List α},(lit.foldl (fun left p=>stepO ob ts p left) left).length≤left.length
 | [],_=>Nat.le_refl _
 | p::l,left=>by
  refine Nat.le_trans (left_len l) ?_
  show (stepO ob ts p left).length≤_
  unfold stepO
  split
  ·split
   ·exact Nat.le_refl _
   ·exact List.length_filter_le _ _
  ·exact Nat.le_refl _
theorem askO_cons {left:List Atm} {nm:Str} {l:List Str}:askO (left.map D.ob) (nm::l)=if left.any fun x=>((D.ob x).raw nm).isSome then askO (left.map D.ob) l else some nm:=by
 unfold askO
 rw [List.find?_cons,List.any_map]
 show (match !(left.any fun x=>((D.ob x).raw nm).isSome) with | true=>_ | false=>_)=_
 cases left.any fun x=>((D.ob x).raw nm).isSome<;>rfl
theorem nmV_app (K G:List Atm):nmV (K++G)=nmV K++nmV G:=List.map_append
theorem want_cons (x:Atm) (l:List Atm) (nm:Str):D.want (x::l) nm=(match (D.ob x).raw nm with | none=>[] | some K=>lessA K)++D.want l nm:=rfl
theorem first_law {kk ωi:Nat} {goals:List Atm} {inner:List Atm→Str→Str} (h:WAt σ ω D) (L:LitD σ k lit) (hg:IsL σ v (nmV goals)) (hl:(goals.filter D.has).length≤4) (hi:subV σ (.loc ω) (.str "inner")=some (.loc ωi))
  (Y:∀ p∈sortP lit,¬ (Atm.lit∈p.2∧D.fresh=true)→inner (D.left (sortP lit) (goals.filter D.has)) p.1 = "")
  (X:∀ p∈sortP lit,Atm.lit∈p.2→D.fresh=true→∀ {σ' v'},Ext σ σ'→IsL σ' v' (nmV (lessA (D.want (D.left (sortP lit) (goals.filter D.has)) p.1)))→Does kk (rc 135) [.loc ω,.loc ωi,v'] σ' fun q=>Ext σ' q.2∧q.1=.str (inner (D.left (sortP lit) (goals.filter D.has)) p.1)) (h4:4≤kk:=by fail "h") :
  Does (kk+1) (rc 135) [.loc ω,.loc k,v] σ fun q=>Ext σ q.2∧q.1=.str (D.first (sortP lit) inner goals):=by
 obtain ⟨ωo,w1,w2,w3⟩:=h.objs
 obtain ⟨g1,g2,g3⟩:=hg.loop
 have F:D.first (sortP lit) inner goals=_:=LW.first.eq_1 _ _ _ _
 generalize D.first (sortP lit) inner goals=G at *
 have hparts:∀ x∈goals.filter D.has,D.has x=true:=fun x hx=>(List.mem_filter.mp hx).2
 generalize hP:goals.filter D.has=parts at *
 refine enterG fun Q' hQ=>?_
 fail "r"
 refine comp_mapG id (onName false D.has) g3 ?_ ?_ ?_
 ·intro z hz
  obtain ⟨y,hy,rfl⟩:=mem_nmV.mp hz
  clear X Y
  fail "r"
  rw [onName_eq]
 ·intro z hz _
  clear X Y
  fail "r"
 rw [List.map_id,nmV_filter _ D.has (onName_eq _ _),hP]
 fail "r"
 refine comp_mapG id (onName false takerA) g3 ?_ ?_ ?_
 ·intro z hz
  obtain ⟨y,hy,rfl⟩:=mem_nmV.mp hz
  have:=takers_eq (σ:=σ) y
  clear X Y
  fail "r"
  rw [onName_eq]
 ·intro z hz _
  clear X Y
  fail "r"
 rw [List.map_id,nmV_filter _ takerA (onName_eq _ _)]
 have c1:=len_pos takerA goals
 have c2:(((nmV parts).length:Int)==0)=parts.isEmpty:=by
  cases parts with
  | nil=>rfl
  | cons x l=>exact beq_eq_false_iff_ne.mpr (by rw [nmV_cons,List.length_cons];fail "a")
 cases ht:goals.any takerA with
 | true =>
  rw [ht,Bool.true_or,if_pos rfl] at F
  rw [ht] at c1
  clear c2 X Y
  fail "r"
  exact ⟨Ext.refl _,by rw [F]⟩
 | false =>
 rw [ht,Bool.false_or] at F
 rw [ht] at c1
 cases he:parts.isEmpty with
 | true =>
  rw [he,if_pos rfl] at F
  rw [he] at c2
  clear X Y
  fail "r"
  exact ⟨Ext.refl _,by rw [F]⟩
 | false =>
 rw [he,if_neg (by decide)] at F
 rw [he] at c2
 have c3:decide (((nmV parts).length:Int) > 1)=decide (1 < parts.length):=decide_eq_decide.mpr (by rw [nmV,List.length_map];fail "a")
 have hpl:∀ x∈D.left (sortP lit) parts,D.has x=true:=fun x hx=>by
  unfold LW.left at hx
  split at hx
  ·exact hparts x (leftO_sub _ x hx)
  ·exact hparts x hx
 have hll:(D.left (sortP lit) parts).length≤4:=by
  unfold LW.left
  split
  ·exact Nat.le_trans (left_len _) hl
  ·exact hl
 have lf:D.left (sortP lit) parts=_:=LW.left.eq_1 _ _ _
 generalize D.left (sortP lit) parts=left at *
 have X':id _:=@X
 have Y':id _:=Y
 clear X Y ht he
 fail "r"
 refine sel_joinR (fun q=>Ext σ q.2∧q.1=.lst (nmV left)) (fun hb=>?_) (fun hb=>?_) ?_
 ·rw [lf,if_pos (of_decide_eq_true (c3▸hb))]
  clear X' Y' hQ
  fail "r"
  exact Does.goG (left_law h L hparts (by fail "a")) fun I h=>fin h
 ·rw [lf,if_neg (of_decide_eq_false (c3▸hb))]
  clear X' Y' hQ
  fail "r"
  exact ⟨Ext.refl _,rfl⟩
 rintro R hR v2 σ1 ⟨hx1,hv2⟩
 cases hv2
 have W1:=h.ext hx1
 have L1:=L.ext hx1
 obtain ⟨s1,s2⟩:=L1.src
 have knows:=fun (x:Atm) (hx:D.has x=true) nm=>knows_law (nm:=nm) (W1.obs x hx)
 obtain ⟨ωo',u1,u2,u3⟩:=W1.objs
 have F:id _:=F
 clear w1 w2 w3 g1 g2 g3 c1 c2 c3 hP lf
 fail "r"
 refine for_mapR (rc 135).sc (fun I=>none) [("w",.loc ω),("lit",.loc k),("left",.lst (nmV left))] (fun r I σ'=>σ'=σ1∧askO (left.map D.ob) (r.map (·.1))=askO (left.map D.ob) ((sortP lit).map (·.1))) ?_ ?_ _ _ _ rfl ?_
 ·rintro P hC R hR p r vars σ' ⟨rfl,ha⟩
  rw [List.map_cons,askO_cons] at ha
  have ha:id _:=ha
  clear X' Y' s1 s2
  fail "r"
  refine comp_mapG id (onName false fun x=>((D.ob x).raw p.1).isSome) (same_lst _) ?_ ?_ ?_
  ·intro z hz
   obtain ⟨y,hy,rfl⟩:=mem_nmV.mp hz
   have k1:=knows y (hpl y hy) p.1
   have k2:=u3 y (hpl y hy)
   clear knows ha F hQ hC
   fail "r"
   rw [onName_eq]
  ·intro z hz _
   clear knows ha F hQ hC
   fail "r"
  rw [List.map_id,nmV_filter _ _ (onName_eq _ _)]
  have c3:=len_pos (fun x=>((D.ob x).raw p.1).isSome) left
  have c4:(((nmV (left.filter fun x=>((D.ob x).raw p.1).isSome)).length:Int)==0)=!(decide (((nmV (left.filter fun x=>((D.ob x).raw p.1).isSome)).length:Int) > 0)):=by
   rw [Bool.eq_iff_iff,beq_iff_eq,Bool.not_eq_true',decide_eq_false_iff_not];fail "a"
  rw [c3] at c4
  clear knows c3
  have ha:_=_:=ha
  cases hk:left.any fun x=>((D.ob x).raw p.1).isSome with
  | true =>
   rw [hk] at ha c4
   have ha:id _:=ha
   fail "r"
   exact hC (same_lst _) ⟨rfl,ha⟩ rfl rfl
  | false =>
   rw [hk] at ha c4
   have ha:some p.1=_:=ha
   fail "r"
   refine ⟨hx1,?_⟩
   have F:G=_:=F
   rw [F,← ha]
 ·rintro R hR vars σ' ⟨rfl,ha⟩
  have F:G=_:=F
  rw [← ha] at F
  have F:id (G=withinR (inner left) ((sortP lit).map (·.1))):=F
  clear ha knows
  fail "r"
  have X:_:=@X'
  have Y:_:=Y'
  clear X' Y'
  refine for_mapR (rc 135).sc (fun I=>none) [("w",.loc ω),("lit",.loc k),("left",.lst (nmV left))] (fun r I σ2=>C3 (∀ p∈r,p∈sortP lit) (Ext σ σ2) (withinR (inner left) (r.map (·.1))=G)) ?_ ?_ _ _ _ rfl ?_
  ·rintro P hC R hR p r vars σ2 ⟨hps,hx2,ha⟩
   have hpm:=hps p (.head _)
   have hps:∀ p∈r,p∈sortP lit:=fun q h=>hps q (.tail _ h)
   have L2:=L.ext hx2
   have X:=@X p hpm
   have Y:=Y p hpm
   have X':id _:=@X
   have Y':id _:=Y
   clear X Y s1 s2 u1 u2 u3
   obtain ⟨g1,g2,g3⟩:=L2.get hpm
   have ha:id ((if inner left p.1 = "" then withinR (inner left) (r.map (·.1)) else inner left p.1)=G):=ha
   have hx3:Ext σ2 (σ2++[.list []]):=Ext.push _ _
   fail "r"
   refine for_mapR (rc 135).sc (fun I=>none) [("w",.loc ω),("lit",.loc k),("left",.lst (nmV left)),("name",.str p.1),("wanted",.loc σ2.length)] (fun r' I σ3=>∃ w:List Atm,C5 (∀ y∈r',y∈left) (Ext σ2 σ3) (σ3[σ2.length]?=some (.list (nmV w))) (w.length+8 * r'.length≤32) (w++D.want r' p.1=D.want left p.1)) ?_ ?_ _ _ _ rfl ?_
   ·rintro P' hC' R hR y r' vars σ3 ⟨w,hS,hx3,hg,hz,hw⟩
    have hy:=hpl y (hS y (.head _))
    have hS:∀ y∈r',y∈left:=fun q h=>hS q (.tail _ h)
    have W3:=(h.ext hx2).ext hx3
    obtain ⟨ωo3,u1,u2,u3⟩:=W3.objs
    have u3:=u3 y hy
    have oy:=W3.obs y hy
    rw [want_cons] at hw
    rw [List.length_cons] at hz
    have hw:id _:=hw
    clear X' Y' ha
    fail "r"
    refine Does.goP (read_law oy) ?_
    rintro R hR v5 σ4 ⟨hx4,hv⟩
    have hg4:=hx4.at hg
    have fin:∀ {K:List Atm} {vs},w++(K++D.want r' p.1)=D.want left p.1→K.length≤8→Has vs [("w",.loc ω),("lit",.loc k),("left",.lst (nmV left)),("name",.str p.1),("wanted",.loc σ2.length)]→P' r' ⟨(rc 135).sc,vs,fun I=>none⟩ (σ4.set σ2.length (.list (nmV w++nmV K))):=fun {K I} e l hh =>
     hC' (same_lst _) ⟨w++K,hS,(hx3.trans hx4).set (Nat.le_refl _) _,by rw [set_self hg4,nmV_app],by rw [List.length_append];fail "a",by rw [List.append_assoc];exact e⟩ rfl hh
    have hw:_=_:=hw
    have c2:∀ {K:List Atm},K.length≤8→decide ((nmV w).length+(nmV K).length≤cap)=true:=fun l=>decide_eq_true (by rw [nmV,nmV,List.length_map,List.length_map];unfold cap;fail "a")
    clear hC' hS
    cases hq:(D.ob y).raw p.1 with
    | none =>
     rw [hq] at hv hw
     cases hv
     have c1:cmpV σ4 .Is .none .none=some true:=rfl
     have lo:Mine.listOf σ4 (.lst [])=some []:=rfl
     have c2:decide ((nmV w).length+0≤cap)=true:=c2 (K:=[]) (by decide)
     have fin:=fun vs=>@fin [] vs hw (by decide)
     have hw:id _:=hw
     fail "r"
     exact fin _ rfl
    | some K =>
     rw [hq] at hv hw
     have kl:=ks_len K (oy.ok.raw hq)
     replace hv:IsL σ4 v5 (nmV (lessA K)):=hv
     have c1:cmpV σ4 .Is v5 .none=some false:=by rcases hv with rfl | ⟨k,rfl,_⟩<;>rfl
     have lo:=hv.listOf
     have c2:=c2 kl
     have fin:=fun vs=>@fin _ vs hw kl
     have hw:id _:=hw
     fail "r"
     exact fin _ rfl
   ·rintro R hR vars σ3 ⟨w,hS,hx3,hg,hz,hw⟩
    have hw:w++[]=_:=hw
    rw [List.append_nil] at hw
    subst hw
    have hx03:=hx2.trans hx3
    obtain ⟨ωo5,ωi5,ωg5,ωl5,a5,_⟩:=h.ex
    have ei:ωi5=ωi:=by
     have:subV σ (.loc ω) (.str "inner")=some (.loc ωi5):=sub_str a5 rfl
     rw [hi] at this;exact (V.loc.inj (Option.some.inj this)).symm
    have a6:=hx03.at a5
    have i3:subV σ3 (.loc ω) (.str (Str.ofString "inner"))=some (.loc ωi):=by rw [← ei];exact sub_str a6 rfl
    have f3:subV σ3 (.loc ω) (.str (Str.ofString "fresh"))=some (.bool D.fresh):=sub_str a6 rfl
    obtain ⟨g1,g2,g3⟩:=(L2.ext hx3).get hpm
    have i1:inV σ3 (.str (Str.ofString "L")) (.lst (nmV p.2))=some (decide (Atm.lit∈p.2)):=IsL.in_ (K:=p.2) (.inl rfl) .lit
    have ha:_=_:=ha
    have X:_:=@X'
    have Y:_:=Y'
    clear X' Y' a5 a6 ei hS
    have fin:∀ {σ5 vs},Ext σ3 σ5→inner left p.1 = "" → Has vs [("w",.loc ω),("lit",.loc k),("left",.lst (nmV left))]→P r ⟨(rc 135).sc,vs,fun I=>none⟩ σ5:=fun hx5 he hh =>
     hC (same_lst _) ⟨hps,hx03.trans hx5,by rw [if_pos he] at ha;exact ha⟩ rfl hh
    have fin2:inner left p.1 ≠ "" → G=inner left p.1:=fun he=>by rw [if_neg he] at ha;exact ha.symm
    clear ha hps hC
    by_cases hb:Atm.lit∈p.2
    ·rw [decide_eq_true hb] at i1
     by_cases hf:D.fresh=true
     ·rw [hf] at f3
      have less:=less_spec (σ:=σ3) (v:=.loc σ2.length) (K:=D.want left p.1) (.inr ⟨_,rfl,hg⟩) (by fail "a")
      have X:=fun {σ5 v5} hx5=>@X hb hf σ5 v5 (hx03.trans hx5)
      clear Y
      have X':id _:=@X
      clear X
      fail "r"
      refine Does.goP less ?_
      rintro R hR v6 σ5 ⟨hx5,hv5⟩
      clear less
      fail "r"
      refine Does.goX (X' hx5 hv5) fun σ6 hx6=>?_
      clear X'
      by_cases he:inner left p.1 = ""
      ·have fin:=fun vs=>@fin _ vs (hx5.trans hx6) he
       rw [he]
       fail "r"
       exact fin _ rfl
      ·have hc:(inner left p.1==(Str.ofString ""))=false:=beq_eq_false_iff_ne.mpr he
       fail "r"
       exact ⟨(hx03.trans hx5).trans hx6,by rw [fin2 he]⟩
     ·have hf':D.fresh=false:=by simpa using hf
      rw [hf'] at f3
      have fin:=fun vs=>@fin _ vs (Ext.refl _) (Y (fun q=>hf q.2))
      clear X Y
      fail "r"
      exact fin _ rfl
    ·rw [decide_eq_false hb] at i1
     have fin:=fun vs=>@fin _ vs (Ext.refl _) (Y (fun q=>hb q.1))
     clear X Y
     fail "r"
     exact fin _ rfl
   ·exact ⟨[],fun I h=>h,Ext.push _ _,push_at _ _,by show 0+_≤_;fail "a",rfl⟩
  ·rintro R hR vars σ2 ⟨hps,hx2,ha⟩
   have ha : "" = G:=ha
   rw [← ha] at hQ
   clear X Y
   fail "r"
   exact ⟨hx2,rfl⟩
  ·exact ⟨fun I h=>h,hx1,Eq.symm F⟩
 ·exact ⟨rfl,rfl⟩
end
theorem first_one {D:LW} {lit:List (Str×List Atm)} {inner:List Atm→Str→Str} {inner':List O→Str→Str} {goals:List Atm} (hi:∀ p∈lit,inner (D.left lit (goals.filter D.has)) p.1=inner' ((D.left lit (goals.filter D.has)).map D.ob) p.1) :
  D.first lit inner goals=if goals.any takerA then ("" : Str) else oneO lit inner' ((goals.filter D.has).map D.ob):=by
 unfold LW.first
 cases ht:goals.any takerA with
 | true=>rfl
 | false =>
  rw [Bool.false_or,if_neg Bool.false_ne_true]
  have hl:(D.left lit (goals.filter D.has)).map D.ob=leftO id lit ((goals.filter D.has).map D.ob):=by
   unfold LW.left
   split
   ·exact leftO_map _ _ _
   ·rename_i h
    match hS:goals.filter D.has,h with
    | [],_=>exact (left_nil lit).symm
    | [x],_=>exact (left_one lit _).symm
    | _::_::_,h=>simp at h
  unfold oneO
  rw [← hl]
  have e0:((goals.filter D.has).map D.ob).isEmpty=(goals.filter D.has).isEmpty:=by cases goals.filter D.has<;>rfl
  rw [e0]
  have e2:withinR (inner (D.left lit (goals.filter D.has))) (lit.map (·.1))=withinR (inner' ((D.left lit (goals.filter D.has)).map D.ob)) (lit.map (·.1)):=within_congr fun nm hn=>by
   obtain ⟨p,hp,rfl⟩:=List.mem_map.mp hn
   exact hi p hp
  rw [e2]
  try rfl
theorem ded_c (acc:List Atm) (x:Atm) (l:List Atm):dedA acc (x::l)=dedA (if x∈acc then acc else acc++[x]) l:=rfl
theorem mem_dedA:∀ {l acc:List Atm} {x:Atm},x∈dedA acc l↔x∈acc∨x∈l
 | [],acc,x=>⟨.inl,fun h=>h.elim id (nomatch ·)⟩
 | y::l,acc,x=>by
  rw [ded_c]
  rw [mem_dedA]
  split
  ·rename_i h
   rw [List.mem_cons]
   exact ⟨fun q=>q.elim .inl (fun q=>.inr (.inr q)),fun q=>q.elim .inl fun q=>q.elim (fun e=>.inl (e▸h)) .inr⟩
  ·rw [List.mem_append,List.mem_singleton,List.mem_cons,or_assoc]
theorem ded_nodup:∀ {l acc:List Atm},acc.Nodup→(dedA acc l).Nodup
 | [],acc,h=>h
 | y::l,acc,h=>by
  rw [ded_c]
  refine ded_nodup ?_
  split
  ·exact h
  ·rename_i q;rw [List.nodup_append];exact ⟨h,by simp,fun a ha c hc e=>q (by simp at hc;rw [← hc,← e];exact ha)⟩
theorem sortA_perm (l:List Atm):(sortA l).Perm l:=insSort_perm _ l
theorem mem_less {K:List Atm} (h:Atm.any∉K) {x:Atm}:x∈lessA K↔x∈K:=by
 unfold lessA
 rw [if_neg h,mem_dedA,(sortA_perm K).mem_iff]
 simp
theorem less_nodup (K:List Atm):(lessA K).Nodup:=by
 unfold lessA
 split
 ·simp
 ·exact ded_nodup .nil
theorem less_any {K:List Atm} (h:Atm.any∈K):lessA K=[.any]:=if_pos h
structure LW.Ok (D:LW):Prop where
 obs:∀ x,D.has x=true→(D.ob x).Ok
 has:∀ x,D.has x=true→x∈[Atm.p0,.p1,.p2,.p3,.o0,.o1]
 has0:D.has .o0=true
 has1:D.has .o1=true
 goals:(D.goals.filter D.has).length≤4
 nolit:∀ p∈D.inner,Atm.lit∉p.2
 ownI:∀ p∈D.inner,p.2∈OK11∧okName p.1
 ndI:(D.inner.map (·.1)).Nodup
 lenI:D.inner.length≤3
 ownL:∀ p∈D.lit,p.2∈OK11∧okName p.1
 ndL:(D.lit.map (·.1)).Nodup
 lenL:D.lit.length≤4
structure World.Of (W:World) (D:LW):Prop where
 o0:W.o0=D.ob .o0
 o1:W.o1=D.ob .o1
 ilit:W.ilit=sortP D.inner
 fr:W.fr=D.fresh
theorem raws_mem {os:List O} {nm:Str} {x:Atm}:x∈rawsAt os nm↔∃ o∈os,∃ K,o.raw nm=some K∧x∈K:=by
 unfold rawsAt
 rw [List.mem_flatMap]
 constructor
 ·rintro ⟨o,ho,h⟩
  cases e:o.raw nm with
  | none=>rw [e] at h;cases h
  | some K=>rw [e] at h;exact ⟨o,ho,K,e,h⟩
 ·rintro ⟨o,ho,K,e,h⟩
  exact ⟨o,ho,by rw [e];exact h⟩
theorem ask_same {W:World} {a c:List O} (h:Same a c) (nm:Str):W.ask (rawsAt a nm)=W.ask (rawsAt c nm):=by
 have e:∀ x,x∈rawsAt a nm↔x∈rawsAt c nm:=fun x=>by
  rw [raws_mem,raws_mem]
  exact ⟨fun zz=>(by obtain ⟨o,ho,q⟩:=zz;exact ⟨o,(h o).mp ho,q⟩),fun zz=>(by obtain ⟨o,ho,q⟩:=zz;exact ⟨o,(h o).mpr ho,q⟩)⟩
 unfold World.ask World.parts
 simp only [e]
theorem want_mem {D:LW} {left:List Atm} {nm:Str} {x:Atm}:x∈D.want left nm↔∃ y∈left,∃ K,(D.ob y).raw nm=some K∧x∈lessA K:=by
 unfold LW.want
 rw [List.mem_flatMap]
 constructor
 ·rintro ⟨o,ho,h⟩
  cases e:(D.ob o).raw nm with
  | none=>rw [e] at h;cases h
  | some K=>rw [e] at h;exact ⟨o,ho,K,e,h⟩
 ·rintro ⟨o,ho,K,e,h⟩
  exact ⟨o,ho,by rw [e];exact h⟩
theorem want_raws {D:LW} {left:List Atm} {nm:Str} (hok:∀ x∈left,(D.ob x).Ok) (x:Atm):x∈D.want left nm↔x∈rawsAt (left.map D.ob) nm:=by
 rw [want_mem,raws_mem]
 have key:∀ y∈left,∀ K,(D.ob y).raw nm=some K→(x∈lessA K↔x∈K):=fun y hy K e=>by
  by_cases ha:Atm.any∈K
  ·rw [less_any ha,(ks_calm K ((hok y hy).raw e)).2.2.2 ha]
  ·exact mem_less ha
 constructor
 ·rintro ⟨y,hy,K,e,h⟩
  exact ⟨_,List.mem_map.mpr ⟨y,hy,rfl⟩,K,e,(key y hy K e).mp h⟩
 ·rintro ⟨o,ho,K,e,h⟩
  obtain ⟨y,hy,rfl⟩:=List.mem_map.mp ho
  exact ⟨y,hy,K,e,(key y hy K e).mpr h⟩
theorem inner_ask {W:World} {D:LW} (hD:D.Ok) (hW:W.Of D) {left:List Atm} {nm:Str} (hok:∀ x∈left,(D.ob x).Ok) :
  D.first (sortP D.inner) (fun I I => "") (lessA (D.want left nm))=W.ask (rawsAt (left.map D.ob) nm):=by
 have hm:=want_raws (D:=D) (nm:=nm) hok
 have hB:∀ x,x∈rawsAt (left.map D.ob) nm→x∈BS:=raws_in (fun o ho=>by obtain ⟨x,hx,rfl⟩:=List.mem_map.mp ho;exact hok x hx)
 rw [first_one (inner':=fun I I => "") fun I I=>rfl]
 unfold World.ask
 by_cases ha:Atm.any∈rawsAt (left.map D.ob) nm
 ·rw [if_pos ha,less_any ((hm _).mpr ha)]
  rfl
 ·have ha':Atm.any∉D.want left nm:=fun q=>ha ((hm _).mp q)
  have ht:(lessA (D.want left nm)).any takerA=false:=by
   rw [Bool.eq_false_iff]
   intro q
   obtain ⟨x,hx,q⟩:=List.any_eq_true.mp q
   have hx:=(hm x).mp ((mem_less ha').mp hx)
   have:=hB x hx
   cases x<;>first | exact absurd hx ha | exact absurd this (by decide) | exact absurd q (by decide)
  rw [ht,if_neg Bool.false_ne_true,if_neg ha,hW.ilit]
  refine one_same (fun o=>?_) fun I I I I I I=>rfl
  unfold World.parts
  rw [List.mem_map,List.mem_append,hW.o0,hW.o1]
  constructor
  ·rintro ⟨x,hx,rfl⟩
   obtain ⟨h1,h2⟩:=List.mem_filter.mp hx
   have h1:=(hm x).mp ((mem_less ha').mp h1)
   have:=hB x h1
   have h3:=hD.has x h2
   cases x<;>first | exact absurd this (by decide) | exact absurd h3 (by decide) | (left;rw [if_pos h1];exact .head _;done) | (right;rw [if_pos h1];exact .head _;done)
  ·rintro (q | q)
   ·split at q
    ·rename_i h1
     simp at q;subst q
     exact ⟨.o0,List.mem_filter.mpr ⟨(mem_less ha').mpr ((hm _).mpr h1),hD.has0⟩,rfl⟩
    ·cases q
   ·split at q
    ·rename_i h1
     simp at q;subst q
     exact ⟨.o1,List.mem_filter.mpr ⟨(mem_less ha').mpr ((hm _).mpr h1),hD.has1⟩,rfl⟩
    ·cases q
noncomputable def LW.inn (D:LW) (left:List Atm) (nm:Str):Str:=if Atm.lit∈((sortP D.lit).lookup nm).getD []∧D.fresh=true then D.first (sortP D.inner) (fun I I => "") (lessA (D.want left nm)) else ""
theorem left_has {D:LW} {lit:List (Str×List Atm)} {parts:List Atm} (h:∀ x∈parts,D.has x=true):∀ x∈D.left lit parts,D.has x=true:=fun x hx=>by
 unfold LW.left at hx
 split at hx
 ·exact h x (leftO_sub _ x hx)
 ·exact h x hx
theorem inn_eq {W:World} {D:LW} (hD:D.Ok) (hW:W.Of D) {left:List Atm} {nm:Str} (hl:∀ x∈left,D.has x=true):D.inn left nm=W.inner (sortP D.lit) (left.map D.ob) nm:=by
 unfold LW.inn World.inner
 rw [inner_ask hD hW fun x hx=>hD.obs x (hl x hx),hW.fr]
theorem top_eq_law {W:World} {D:LW} (hD:D.Ok) (hW:W.Of D):D.first (sortP D.lit) D.inn D.goals=if D.goals.any takerA then ("" : Str) else oneO (sortP D.lit) (W.inner (sortP D.lit)) ((D.goals.filter D.has).map D.ob) :=
 first_one fun p I=>inn_eq hD hW (left_has fun x hx=>(List.mem_filter.mp hx).2)
section
variable {n m ω:Nat} {σ σ':St} {v:V} {D:LW}
theorem law_first {goals:V} (hD:D.Ok) (h:WAt σ ω D) (hg:IsL σ goals (nmV D.goals)) {ωl:Nat} (hl:subV σ (.loc ω) (.str "lit")=some (.loc ωl)):Does 6 (rc 135) [.loc ω,.loc ωl,goals] σ fun q=>Ext σ q.2∧q.1=.str (D.first (sortP D.lit) D.inn D.goals):=by
 obtain ⟨ωi,ωl',f1,f2,f3,f4,f5,_⟩:=h.flds
 rw [hl] at f4
 have e:ωl=ωl':=by simpa using f4
 subst e
 have lk:∀ p∈sortP D.lit,((sortP D.lit).lookup p.1).getD []=p.2:=fun p hp=>by
  rw [lookup_nd (((sortP_perm D.lit).map (·.1)).nodup_iff.mpr hD.ndL) hp];rfl
 refine first_law (ωi:=ωi) h ⟨f5,hD.ownL,hD.ndL,hD.lenL⟩ hg hD.goals f1 (fun p hp q=>?_) (fun p hp q1 q2 {σ' v'} hx hv=>?_)
 ·unfold LW.inn
  rw [lk p hp,if_neg q]
 ·have e:D.inn (D.left (sortP D.lit) (D.goals.filter D.has)) p.1=D.first (sortP D.inner) (fun I I => "") (lessA (D.want (D.left (sortP D.lit) (D.goals.filter D.has)) p.1)):=by
   unfold LW.inn;rw [lk p hp,if_pos ⟨q1,q2⟩]
  rw [e]
  have hi:subV σ' (.loc ω) (.str "inner")=some (.loc ωi):=by
   obtain ⟨ωo5,ωi5,ωg5,ωl5,a5,_⟩:=h.ex
   have:subV σ (.loc ω) (.str "inner")=some (.loc ωi5):=sub_str a5 rfl
   rw [f1] at this
   have e:ωi=ωi5:=by simpa using this
   rw [e];exact sub_str (hx.at a5) rfl
  refine first_law (ωi:=ωi) (h.ext hx) ⟨hx.at f2,hD.ownI,hD.ndI,by have:=hD.lenI;fail "a"⟩ hv ?_ hi (fun I I I=>rfl) (fun p hp q=>absurd q (hD.nolit p ((sortP_perm D.inner).mem_iff.mp hp)))
  -- at most the two inner objects
  refine Nat.le_trans ?_ (show 2≤4 by fail "a")
  have hok:∀ x∈D.left (sortP D.lit) (D.goals.filter D.has),(D.ob x).Ok:=fun x hx=>hD.obs x (left_has (fun x hx=>(List.mem_filter.mp hx).2) x hx)
  have hsub:∀ x∈(lessA (D.want (D.left (sortP D.lit) (D.goals.filter D.has)) p.1)).filter D.has,x∈[Atm.o0,.o1]:=fun x hx=>by
   obtain ⟨h1,h2⟩:=List.mem_filter.mp hx
   have h3:=hD.has x h2
   have h4:x∈BS:=by
    by_cases ha:Atm.any∈D.want (D.left (sortP D.lit) (D.goals.filter D.has)) p.1
    ·rw [less_any ha] at h1;simp at h1;subst h1;exact absurd h3 (by decide)
    ·have:=(want_raws hok x).mp ((mem_less ha).mp h1)
     exact raws_in (fun o ho=>by obtain ⟨x,hx,rfl⟩:=List.mem_map.mp ho;exact hok x hx) x this
   cases x<;>first | decide | exact absurd h4 (by decide) | exact absurd h3 (by decide)
  exact (sub_length ((less_nodup _).filter _) hsub)
end
theorem app_at (σ L:St) (i:Nat):(σ++L)[σ.length+i]?=L[i]?:=by rw [List.getElem?_append_right (by fail "a")];congr 1;fail "a"
theorem app_at0 (σ L:St):(σ++L)[σ.length]?=L[0]?:=app_at σ L 0
theorem app_set (σ L:St) (i:Nat) (o:Ob):(σ++L).set (σ.length+i) o=σ++L.set i o:=by
 rw [List.set_append_right _ _ (by fail "a")];congr 2;fail "a"
theorem app_set0 (σ L:St) (o:Ob):(σ++L).set σ.length o=σ++L.set 0 o:=app_set σ L 0 o
theorem app_push (σ L:St) (o:Ob):(σ++L)++[o]=σ++(L++[o]):=List.append_assoc _ _ _
section
variable {n τ b:Nat} {σ σ':St} {T:List Row} {v:V}
theorem put_new {r:Row} (h1:σ[τ]?=some (.inst "TypeTable" (tabFs τ))) (h2:σ[τ+1]?=some (.list (T.map Row.enc))) (h3:σ[τ+2]?=some (.dict (idxOf T))) (hm:r∉T) (hsz:T.length < cap) :
  Is 1 (mrc 46 "put") [.loc τ,r.enc] σ (.int (T.length:Nat),(σ.set (τ+1) (.list ((T++[r]).map Row.enc))).set (τ+2) (.dict (idxOf (T++[r])))):=by
 apply does_is
 have hlen:(T.map Row.enc).length=T.length:=List.length_map _
 have hin:inV σ r.enc (.loc (τ+2))=some false:=by rw [in_dict h3 (enc_pure r) (idx_kOk r 0 T),idx_any,decide_eq_false hm]
 have hl:=len_loc h2
 have s0:∀ p,(σ.set (τ+1) p)[τ]?=some (.inst "TypeTable" (tabFs τ)):=fun p=>set_other h1 (by fail "a")
 have s2:∀ p,(σ.set (τ+1) p)[τ+2]?=some (.dict (idxOf T)):=fun p=>set_other h3 (by fail "a")
 have c1:decide ((T.map Row.enc).length < cap)=true:=decide_eq_true (by rw [hlen];exact hsz)
 have c2:decide ((idxOf T).length < cap)=true:=decide_eq_true (by rw [idx_length];exact hsz)
 have c3:=idx_kOk r 0 T
 refine enterH ?_
 fail "r"
 rw [← idx_set r T hm,List.map_append,List.length_map]
 rfl
noncomputable def newTab (σ:St) (rows:List Row):St:=σ++[.inst "TypeTable" (tabFs σ.length),.list (rows.map Row.enc),.dict (idxOf rows),.list [.none],.list [],.list [],.list [],.dict [],.dict []]
theorem first_nodup:first.Nodup:=by decide +kernel
theorem nt_inst (T:List Row):(newTab σ T)[σ.length]?=some (.inst "TypeTable" (tabFs σ.length)):=app_at0 σ _
theorem put_step {r:Row} (hm:r∉T) (hz:T.length < cap):Is 1 (mrc 46 "put") [.loc σ.length,r.enc] (newTab σ T) (.int (T.length:Nat),newTab σ (T++[r])):=by
 have h:=put_new (σ:=newTab σ T) (τ:=σ.length) (T:=T) (r:=r) (nt_inst T) (app_at σ _ 1) (app_at σ _ 2) hm hz
 have e:((newTab σ T).set (σ.length+1) (.list ((T++[r]).map Row.enc))).set (σ.length+2) (.dict (idxOf (T++[r])))=newTab σ (T++[r]):=by
  unfold newTab
  rw [app_set,app_set]
  rfl
 rw [e] at h;exact h
noncomputable def ttF (σ:St):Fr:=frameW (mrc 46 "__init__") [.loc σ.length]
section
variable {hh:Nat} {x:Str} {q1 q2 q3 q4 q5:Pos} {k:Nat} {fs:List (Str×V)} {L:St} {ss:List Stmt} {K:Fl→Fr→St→MS}
theorem fld {c:Str} {fr:Fr} {e:Expr} {L':St} {v:V} (hr:∀ K,Sem hh (K v (σ++(.inst c fs::L')))→Sem hh (.rhs e fr (σ++(.inst c fs::L)) K)) (h:Sem hh (.exs ss fr (σ++(.inst c (setW x v fs)::L')) K)) (hs:∀ s K,evS fr s K (.Name "self" q1)=K (.loc σ.length) s:=by exact fun I I=>rfl) (hok:(asOk (.Attribute (.Name "self" q1) x q2) e&&lcOk e)=true:=by exact rfl) (hc:(attrW c x&&decide (fs.length < 100))=true:=by kernel_rfl) :
  Sem hh (.exs (.Assign [.Attribute (.Name "self" q1) x q2] e q3::ss) fr (σ++(.inst c fs::L)) K):=by
 refine go_sound 2 _ ?_
 show Sem _ (chkS (asOk _ _&&lcOk _) _)
 rw [hok]
 refine hr _ (go_sound 2 _ ?_)
 show Sem _ (evS fr _ _ _)
 rw [hs]
 refine go_sound 2 _ (AskP.mk _ (app_at0 σ _) (ChkP.mk hc ?_))
 show Sem _ (.exs ss fr ((σ++_).set σ.length _) K)
 rw [app_set0]
 exact h
variable {i:Ob} {fr:Fr}
theorem push_len:(σ++i::L).length=σ.length+(L.length+1):=List.length_append
theorem rhs_l (K:V→St→MS) (h:Sem hh (K (.loc (σ.length+(L.length+1))) (σ++i::(L++[.list []])))):Sem hh (.rhs (.List [] q4) fr (σ++i::L) K):=go_sound 2 _ (by show Sem _ (K (.loc (σ++i::L).length) ((σ++i::L)++[.list []]));rw [push_len,app_push];exact h)
theorem rhs_n (K:V→St→MS) (h:Sem hh (K (.loc (σ.length+(L.length+1))) (σ++i::(L++[.list [.none]])))):Sem hh (.rhs (.List [.Constant .none k q5] q4) fr (σ++i::L) K):=go_sound 4 _ (by show Sem _ (K (.loc (σ++i::L).length) ((σ++i::L)++[.list [.none]]));rw [push_len,app_push];exact h)
theorem rhs_d (K:V→St→MS) (h:Sem hh (K (.loc (σ.length+(L.length+1))) (σ++i::(L++[.dict []])))):Sem hh (.rhs (.Dict [] [] q4) fr (σ++i::L) K):=go_sound 3 _ (by show Sem _ (K (.loc (σ++i::L).length) ((σ++i::L)++[.dict []]));rw [push_len,app_push];exact h)
theorem rhs_c {j:Int} {s:St} (K:V→St→MS) (h:Sem hh (K (.int j) s)):Sem hh (.rhs (.Constant (.int j) k q4) fr s K):=go_sound 2 _ h
end
theorem init_spec:Does 2 (mrc 46 "__init__") [.loc σ.length] (σ++[.inst (Str.ofString "TypeTable") []]) fun q=>q.1=.none∧q.2=newTab σ first:=by
 refine enterQ fun Q' hQ=>?_
 show Sem _ (.exs (mrc 46 "__init__").body (ttF σ) (σ++[.inst "TypeTable" []]) (wEnd Q'))
 refine fld rhs_l (fld rhs_d (fld rhs_n (fld rhs_l (fld rhs_l (fld rhs_l (fld rhs_d (fld rhs_d (fld rhs_c (fld rhs_c ?_)))))))))
 show Sem _ (.exs _ (ttF σ) (newTab σ []) (wEnd Q'))
 refine go ?_
 fail "t"
 show Stop _ (.forS _ _ _ _ _ (first.map Row.enc) ⟨(mrc 46 "__init__").sc,(frameW (mrc 46 "__init__") [.loc σ.length]).vars,fun I=>none⟩ _ _)
 refine for_mapR (enc:=Row.enc) (mrc 46 "__init__").sc (fun I=>none) [("self",.loc σ.length)] (fun r I σ'=>Ex2 fun (done:List Row) (u:Unit)=>done++r=first∧σ'=newTab σ done) ?_ ?_ first _ _ rfl ?_
 ·rintro P hP R hR y r vars σ' ⟨done,_,hd,rfl⟩
  have nt:=nt_inst (σ:=σ) done
  have n1:(done++y::r).Nodup:=by rw [hd];exact first_nodup
  have n2:(done++y::r).length=16:=by rw [hd];rfl
  have ps:=put_step (σ:=σ) (r:=y) (fun q=>(List.nodup_append.mp n1).2.2 y q y (.head _) rfl) (by rw [List.length_append] at n2;unfold cap;fail "a")
  clear n1 n2
  fail "r"
  exact hP (same_tup _) ⟨done++[y],(),by rw [List.append_assoc];exact hd,rfl⟩ rfl rfl
 ·rintro R hR vars σ' ⟨done,_,hd,rfl⟩
  rw [List.append_nil] at hd
  subst hd
  fail "r"
  exact ⟨rfl,rfl⟩
 ·exact ⟨[],(),rfl,rfl⟩
end
noncomputable def dum:Row:=.obj [] none none 0
noncomputable def fixA:List Atm:=[.one,.a,.any,.b,.c,.err,.num,.obj,.str,.t,.tru,.undef,.unk,.emp,.fone,.fa,.fb,.ftru]
noncomputable def rowX:Atm→Row:=rowF dum dum dum
theorem row_fix {x0 x1 l:Row}:∀ x∈fixA,rowF x0 x1 l x=rowX x:=by
 intro x hx
 cases x<;>first | rfl | exact absurd hx (by decide)
section
variable {n τ b:Nat} {σ σ':St} {T:List Row} {v:V}
theorem str_type_spec {s:Str} {f:Nat} (h:Tab σ τ T (b+1)):Does 2 (rc 49) [.loc τ,.str s,.int f] σ (TPost τ σ T b fun v T'=>∃ t:Nat,v=.int t∧T'[t]?=some (.str s f)):=by
 have h1:=h.inst
 refine enterH ?_
 fail "r"
 refine Does.goC (put_spec (r:=.str s f) rfl h) fun v σ2 hq=>?_
 fail "r"
 exact hq
theorem num_type_spec {i:Int} {f:Nat} (h:Tab σ τ T (b+1)):Does 2 (rc 50) [.loc τ,.int i,.int f] σ (TPost τ σ T b fun v T'=>∃ t:Nat,v=.int t∧T'[t]?=some (.num i f)):=by
 have h1:=h.inst
 refine enterH ?_
 fail "r"
 refine Does.goC (put_spec (r:=.num i f) rfl h) fun v σ2 hq=>?_
 fail "r"
 exact hq
theorem num_type_spec2 {i:Int} (h:Tab σ τ T (b+1)):Does 2 (rc 50) [.loc τ,.int i] σ (TPost τ σ T b fun v T'=>∃ t:Nat,v=.int t∧T'[t]?=some (.num i 0)):=by
 have h1:=h.inst
 refine enterH ?_
 fail "r"
 refine Does.goC (put_spec (r:=.num i 0) rfl h) fun v σ2 hq=>?_
 fail "r"
 exact hq
theorem atom_first {x:Atm} {t:Nat} (h:Tab σ τ T (b+1)) (ht:t < 16) (hr:first[t]?=some (rowX x)) (hx:Ext σ σ'):TPost τ σ T b (fun v T'=>∃ t:Nat,v=.int t∧T'[t]?=some (rowX x)) (.int (t:Nat),σ') :=
 ⟨T,List.prefix_refl _,(h.ext hx).less (Nat.le_succ _),hx.fix τ,t,rfl,(h.first ht).trans hr⟩
theorem tp_v {P:V→List Row→Prop} {v v':V} (e:v=v') (h:TPost τ σ T b P (v',σ')):TPost τ σ T b P (v,σ'):=by rw [e];exact h
set_option maxHeartbeats 2000000 in
theorem atom_spec {x:Atm} (hx:x∈fixA) (h:Tab σ τ T (b+1)):Does 3 (rc 136) [.loc τ,.str x.name] σ (TPost τ σ T b fun v T'=>∃ t:Nat,v=.int t∧T'[t]?=some (rowX x)):=by
 have h1:=h.inst
 have pa:∀ o,(σ++[o])[σ.length]?=some o:=push_at σ
 refine enterG fun Q' hQ=>?_
 cases x
 case any=>fail "r";exact tp_v (by kernel_rfl) (atom_first (x:=.any) (t:=0) h (by decide) rfl (Ext.push _ _))
 case unk=>fail "r";exact tp_v (by kernel_rfl) (atom_first (x:=.unk) (t:=1) h (by decide) rfl (Ext.push _ _))
 case undef=>fail "r";exact tp_v (by kernel_rfl) (atom_first (x:=.undef) (t:=4) h (by decide) rfl (Ext.push _ _))
 case str=>fail "r";exact tp_v (by kernel_rfl) (atom_first (x:=.str) (t:=6) h (by decide) rfl (Ext.push _ _))
 case num=>fail "r";exact tp_v (by kernel_rfl) (atom_first (x:=.num) (t:=7) h (by decide) rfl (Ext.push _ _))
 case err=>fail "r";exact tp_v (by kernel_rfl) (atom_first (x:=.err) (t:=13) h (by decide) rfl (Ext.push _ _))
 case obj=>fail "r";exact tp_v (by kernel_rfl) (atom_first (x:=.obj) (t:=10) h (by decide) rfl (Ext.push _ _))
 case emp=>fail "r";exact tp_v (by kernel_rfl) (atom_first (x:=.emp) (t:=11) h (by decide) rfl (Ext.push _ _))
 case tru=>fail "r";exact atom_first (x:=.tru) (t:=9) h (by decide) rfl (Ext.refl _)
 case ftru=>fail "r";refine Does.goC (put_spec (r:=rowX .ftru) rfl h) fun v σ2 hq=>?_;fail "r";exact hq
 case t=>fail "r";refine Does.goC (put_spec (r:=rowX .t) rfl h) fun v σ2 hq=>?_;fail "r";exact hq
 case one=>fail "r";refine Does.goC (num_type_spec h) fun v σ2 hq=>?_;fail "r";exact hq
 case fone=>fail "r";refine Does.goC (num_type_spec h) fun v σ2 hq=>?_;fail "r";exact hq
 case a=>fail "r";refine Does.goC (str_type_spec h) fun v σ2 hq=>?_;fail "r";exact hq
 case b=>fail "r";refine Does.goC (str_type_spec h) fun v σ2 hq=>?_;fail "r";exact hq
 case c=>fail "r";refine Does.goC (str_type_spec h) fun v σ2 hq=>?_;fail "r";exact hq
 case fa=>fail "r";refine Does.goC (str_type_spec h) fun v σ2 hq=>?_;fail "r";exact hq
 case fb=>fail "r";refine Does.goC (str_type_spec h) fun v σ2 hq=>?_;fail "r";exact hq
 all_goals exact absurd hx (by decide)
end
theorem strD_set {α:Type} (f:α→V) (l:List (Str×α)) (k:Str) (x:α) (h:k∉l.map (·.1)):dictSetV (strD f l) (.str k) (f x)=strD f (l++[(k,x)]):=by
 unfold dictSetV
 have:l.lookup k=none:=by
  rw [List.lookup_eq_none_iff]
  intro p hp
  have:k≠p.1:=fun e=>h (by rw [e];exact List.mem_map.mpr ⟨p,hp,rfl⟩)
  simpa using this
 rw [strD_any,this,if_neg (by simp)]
 unfold strD;simp
noncomputable def namedP (ps:List Prp):List (Str×Prp):=ps.map fun p=>(p.name,p)
noncomputable def sortQ (ps:List Prp):List Prp:=(sortP (namedP ps)).map (·.2)
theorem namedP_names (ps:List Prp):(namedP ps).map (·.1)=ps.map (·.name):=by unfold namedP;rw [List.map_map];rfl
theorem sortQ_perm (ps:List Prp):(sortQ ps).Perm ps:=by
 have:=(sortP_perm (namedP ps)).map (·.2)
 unfold namedP at this
 rw [List.map_map] at this
 have e:(ps.map ((·.2) ∘ fun p:Prp=>(p.name,p)))=ps:=by simp [Function.comp_def]
 rw [e] at this
 exact this
section
variable {n τ b:Nat} {σ σ':St} {T:List Row} {v:V}
theorem sorted_props_spec {ps:List Prp} (hv:IsL σ v (ps.map encP)) (hn:(ps.map (·.name)).Nodup) (hl:ps.length < 64):Does 1 (rc 52) [v] σ fun q=>Ext σ q.2∧q.1=.tup ((sortQ ps).map encP):=by
 have h1:=hv.ext (Ext.push σ (.dict []))
 obtain ⟨l1,l2,l3⟩:=h1.loop
 refine enterG fun Q' hQ=>?_
 fail "r"
 refine for_mapR (rc 52).sc (fun I=>none) [("found",.loc σ.length)] (fun r I σ'=>∃ pre,C3 (pre++r=ps) (Ext σ σ') (σ'[σ.length]?=some (.dict (strD encP (namedP pre))))) ?_ ?_ _ _ _ rfl ?_
 ·rintro P hP R hR p r vars σ' ⟨pre,hps,hx,hg⟩
  have hnew:p.name∉(namedP pre).map (·.1):=by
   rw [namedP_names]
   intro q
   rw [← hps,List.map_append,List.nodup_append] at hn
   exact hn.2.2 _ q _ (.head _) rfl
  have hlen:pre.length < 64:=Nat.lt_of_le_of_lt (by rw [← hps,List.length_append];fail "a") hl
  have j0:∀ σ,subV σ (encP p) (.int 0)=some (.str p.name):=fun I=>rfl
  have k1:kOk (strD encP (namedP pre)) (.str p.name)=true:=strD_kOk _ _ _
  have c1:decide ((strD encP (namedP pre)).length < cap)=true:=decide_eq_true (by rw [strD,namedP,List.length_map,List.length_map];unfold cap;fail "a")
  have s1:=strD_set encP (namedP pre) p.name p hnew
  rw [show namedP pre++[(p.name,p)]=namedP (pre++[p]) by unfold namedP;rw [List.map_append];rfl] at s1
  have hx2:=hx.set (Nat.le_refl _) (.dict (strD encP (namedP (pre++[p]))))
  have hv2:=(hv.ext hx2).loop.2.2
  clear hnew hn hl hlen
  fail "r"
  rw [s1]
  exact hP hv2 ⟨pre++[p],by rw [List.append_assoc];exact hps,hx2,set_self hg⟩ rfl rfl
 ·rintro R hR vars σ' ⟨pre,hps,hx,hg⟩
  rw [List.append_nil] at hps
  subst hps
  have s1:sortSrc σ' (.loc σ.length)=some ((pre.map (·.name)).map V.str):=by
   unfold sortSrc;simp only [hg]
   unfold strD;rewrite [← namedP_names,List.map_map,List.map_map];rfl
  have s2:sortV ((pre.map (·.name)).map V.str)=some (((sortP (namedP pre)).map (·.1)).map V.str):=by
   rw [sortV_strs (by rw [List.length_map];fail "a"),sortP_names,namedP_names]
  have nd:((namedP pre).map (·.1)).Nodup:=by rw [namedP_names];exact hn
  have get:∀ q∈sortP (namedP pre),subV σ' (.loc σ.length) (.str q.1)=some (encP q.2):=fun q hq=>by
   have:=(sortP_perm (namedP pre)).mem_iff.mp hq
   exact sub_str hg (by rw [lookup_nd nd this];rfl)
  obtain ⟨f,hf⟩:∃ f:V→V,∀ q∈sortP (namedP pre),f (.str q.1)=encP q.2:=by
   refine ⟨fun v=>match v with | .str s=>((dictGetV (strD encP (namedP pre)) (.str s)).getD .none) | _=>.none,fun q hq=>?_⟩
   have:=(sortP_perm (namedP pre)).mem_iff.mp hq
   show (dictGetV (strD encP (namedP pre)) (.str q.1)).getD .none=_
   rw [strD_get,lookup_nd nd this];rfl
  clear nd hn h1 hv
  fail "r"
  refine comp_allG f (same_lst _) ?_ ?_
  ·intro z hz
   obtain ⟨s,hs,rfl⟩:=List.mem_map.mp hz
   obtain ⟨q,hq,rfl⟩:=List.mem_map.mp hs
   have g:=get q hq
   rw [hf q hq]
   clear get hf hQ
   fail "r"
  have e:((((sortP (namedP pre)).map (·.1)).map V.str).map f)=(sortQ pre).map encP:=by
   unfold sortQ
   rw [List.map_map,List.map_map,List.map_map]
   exact List.map_congr_left fun q hq=>hf q hq
  rw [e]
  clear get hf e
  fail "r"
  exact ⟨hx,rfl⟩
 ·exact ⟨[],rfl,Ext.push _ _,push_at _ _⟩
theorem obj_type_spec {ps:List Prp} {s d:Option Nat} {f:Nat} (h:Tab σ τ T (b+1)) (hv:IsL σ v (ps.map encP)) (hn:(ps.map (·.name)).Nodup) (hl:ps.length < 64):Does 2 (rc 53) [.loc τ,v,.tup [],.tup [],encO s,encO d,.int f] σ (TPost τ σ T b fun v T'=>∃ t:Nat,v=.int t∧T'[t]?=some (.obj (sortQ ps) s d f)):=by
 refine enterH ?_
 have h1:=h.inst
 fail "r"
 refine Does.goX (sorted_props_spec hv hn hl) fun σ2 hx=>?_
 have h2:=h.ext hx
 have h3:=h2.inst
 fail "r"
 refine Does.goP (put_spec (r:=.obj (sortQ ps) s d f) rfl h2) ?_
 rintro R hR v σ3 ⟨T3,p1,p2,p3,p4⟩
 fail "r"
 exact ⟨T3,p1,p2,(hx.fix τ).trans p3,p4⟩
theorem obj_type_spec6 {ps:List Prp} {s d:Option Nat} (h:Tab σ τ T (b+1)) (hv:IsL σ v (ps.map encP)) (hn:(ps.map (·.name)).Nodup) (hl:ps.length < 64):Does 2 (rc 53) [.loc τ,v,.tup [],.tup [],encO s,encO d] σ (TPost τ σ T b fun v T'=>∃ t:Nat,v=.int t∧T'[t]?=some (.obj (sortQ ps) s d 0)):=by
 refine enterH ?_
 have h1:=h.inst
 fail "r"
 refine Does.goX (sorted_props_spec hv hn hl) fun σ2 hx=>?_
 have h2:=h.ext hx
 have h3:=h2.inst
 fail "r"
 refine Does.goP (put_spec (r:=.obj (sortQ ps) s d 0) rfl h2) ?_
 rintro R hR v σ3 ⟨T3,p1,p2,p3,p4⟩
 fail "r"
 exact ⟨T3,p1,p2,(hx.fix τ).trans p3,p4⟩
end
noncomputable def zname (a:Atm):Str:=⟨(Str.ofString "z").cps++a.name.cps⟩
noncomputable def objA:List Atm:=[.p0,.p1,.p2,.p3,.o0,.o1]
theorem zname_inj:∀ a∈objA,∀ c∈objA,zname a=zname c→a=c:=by decide +kernel
theorem zname_ok:∀ a∈objA,zname a ≠ "0" ∧ zname a ≠ "k" ∧ zname a ≠ "p" ∧ zname a ≠ "q" := by decide +kernel
theorem zname_not {a:Atm} (h:a∈objA):¬ okName (zname a):=by
 obtain ⟨a1,a2,a3,a4⟩:=zname_ok a h
 rintro (e | e | e | e)
 ·exact a1 e
 ·exact a2 e
 ·exact a3 e
 ·exact a4 e
noncomputable def Agrees (made:List (Atm×Nat)) (T:List Row) (x0 x1 l:Row):Prop:=(∀ i,(Atm.o0,i)∈made→T[i]?=some x0)∧(∀ i,(Atm.o1,i)∈made→T[i]?=some x1)∧∀ i,(Atm.lit,i)∈made→T[i]?=some l
noncomputable def Marked (T:List Row) (a:Atm) (i:Nat):Prop:=∃ ps s d,T[i]?=some (.obj ps s d 0)∧(∃ q∈ps,q.name=zname a)∧∀ q∈ps,q.name=zname a∨okName q.name
noncomputable def LitR (x0 x1 l:Row) (T:List Row) (s f:Nat) (lit:List (Str×List Atm)):Prop:=∃ ps Kf,T[s]?=some (.obj ps none none f)∧LitOK T ps Kf∧ps.map (·.name)=lit.map (·.1)∧LitA lit Kf x0 x1 l
theorem LitR.mono {x0 x1 l:Row} {T T':List Row} {s f lit} (h:LitR x0 x1 l T s f lit) (p:T <+: T'):LitR x0 x1 l T' s f lit:=by
 obtain ⟨ps,Kf,a,b,c,d⟩:=h
 exact ⟨ps,Kf,pre_at p a,b.mono p,c,d⟩
theorem Marked.mono {T T':List Row} {a i} (h:Marked T a i) (p:T <+: T'):Marked T' a i:=by
 obtain ⟨ps,s,d,e,q⟩:=h
 exact ⟨ps,s,d,pre_at p e,q⟩
structure Mk (σ:St) (τ:Nat) (T:List Row) (D:LW) (made:List (Atm×Nat)):Prop where
 fix:∀ p∈made,p.1∈fixA→T[p.2]?=some (rowX p.1)
 cls:∀ p∈made,p.1∈fixA∨p.1=.lit∨D.has p.1=true
 mark:∀ p∈made,D.has p.1=true→Marked T p.1 p.2∨(p.1=.p0∧∃ d,T[p.2]?=some (.ref d))
 obj:∀ p∈made,D.has p.1=true→∀ x0 x1 l,RowsOK x0 x1 l→Agrees made T x0 x1 l→ObjAt σ τ T p.2 (rdF x0 x1 l (fun I=>D.ob p.1) p.2)
 lit:∀ i,(Atm.lit,i)∈made→∀ x0 x1 l,RowsOK x0 x1 l→Agrees made T x0 x1 l→LitR x0 x1 l T i (if D.fresh then 1 else 0) (sortP D.inner)
 litm:∀ i,(Atm.lit,i)∈made→∃ ps f,T[i]?=some (.obj ps none none f)∧∀ q∈ps,okName q.name
 nd:(made.map (·.1)).Nodup
theorem made_uniq {made:List (Atm×Nat)} (h:(made.map (·.1)).Nodup) {a:Atm} {i j:Nat} (hi:(a,i)∈made) (hj:(a,j)∈made):i=j:=by
 induction made with
 | nil=>cases hi
 | cons p l ih =>
  rw [List.map_cons,List.nodup_cons] at h
  rcases List.mem_cons.mp hi with e | hi'<;>rcases List.mem_cons.mp hj with e' | hj'
  ·rw [← e'] at e;exact (Prod.mk.inj e).2
  ·exact absurd (List.mem_map.mpr ⟨_,hj',by rw [← e]⟩) h.1
  ·exact absurd (List.mem_map.mpr ⟨_,hi',by rw [← e']⟩) h.1
  ·exact ih h.2 hi' hj'
theorem rows_of {ps0:List Prp} {s0 d0} {ps1:List Prp} {s1 d1} {psl:List Prp} {f:Nat} (m0:∃ q∈ps0,q.name=zname .o0) (n0:∀ q∈ps0,q.name=zname .o0∨okName q.name) (m1:∃ q∈ps1,q.name=zname .o1) (hl:∀ q∈psl,okName q.name) :
  RowsOK (.obj ps0 s0 d0 0) (.obj ps1 s1 d1 0) (.obj psl none none f):=by
 have hp:∃ f',(Row.obj psl none none f).plain=.obj psl none none f':=by unfold Row.plain;split<;>exact ⟨_,rfl⟩
 obtain ⟨f',hp⟩:=hp
 refine ⟨⟨_,_,_,rfl⟩,⟨_,_,_,rfl⟩,fun e=>?_,⟨_,_,rfl⟩,fun e=>?_,fun e=>?_⟩
 ·obtain ⟨q,hq,e1⟩:=m1
  have:ps0=ps1:=by injection e
  rw [← this] at hq
  rcases n0 q hq with h | h
  ·rw [e1] at h;exact absurd (zname_inj .o1 (by decide) .o0 (by decide) h) (by decide)
  ·rw [e1] at h;exact zname_not (a:=.o1) (by decide) h
 ·rw [hp] at e
  have:psl=ps0:=by injection e
  obtain ⟨q,hq,e1⟩:=m0
  rw [← this] at hq
  have:=hl q hq
  rw [e1] at this;exact zname_not (a:=.o0) (by decide) this
 ·rw [hp] at e
  have:psl=ps1:=by injection e
  obtain ⟨q,hq,e1⟩:=m1
  rw [← this] at hq
  have:=hl q hq
  rw [e1] at this;exact zname_not (a:=.o1) (by decide) this
section
variable {n τ b:Nat} {σ σ':St} {T:List Row} {v:V} {D:LW} {made:List (Atm×Nat)}
theorem Mk.pick (m:Mk σ τ T D made) (h0:D.has .o0=true) (h1:D.has .o1=true):∃ x0 x1 l,RowsOK x0 x1 l∧Agrees made T x0 x1 l:=by
 have get:∀ a,(a=Atm.o0∨a=.o1)→∃ ps s d,(∃ q∈ps,q.name=zname a)∧(∀ q∈ps,q.name=zname a∨okName q.name)∧∀ i,(a,i)∈made→T[i]?=some (.obj ps s d 0):=by
  intro a ha
  by_cases hm:∃ i,(a,i)∈made
  ·obtain ⟨i,hi⟩:=hm
   have hh:D.has a=true:=by rcases ha with rfl | rfl;exact h0;exact h1
   rcases m.mark _ hi hh with ⟨ps,s,d,e,q1,q2⟩ | ⟨e,_⟩
   ·exact ⟨ps,s,d,q1,q2,fun j hj=>by rw [made_uniq m.nd hj hi];exact e⟩
   ·rcases ha with rfl | rfl<;>cases e
  ·exact ⟨[⟨zname a,6,1⟩],none,none,⟨_,.head _,rfl⟩,fun q hq=>by simp at hq;subst hq;exact .inl rfl,fun i hi=>absurd ⟨i,hi⟩ hm⟩
 obtain ⟨ps0,s0,d0,a1,a2,a3⟩:=get .o0 (.inl rfl)
 obtain ⟨ps1,s1,d1,b1,b2,b3⟩:=get .o1 (.inr rfl)
 have getl:∃ psl f,(∀ q∈psl,okName (Prp.name q))∧∀ i,(Atm.lit,i)∈made→T[i]?=some (.obj psl none none f):=by
  by_cases hm:∃ i,(Atm.lit,i)∈made
  ·obtain ⟨i,hi⟩:=hm
   obtain ⟨ps,f,e,q⟩:=m.litm i hi
   exact ⟨ps,f,q,fun j hj=>by rw [made_uniq m.nd hj hi];exact e⟩
  ·exact ⟨[],0,(fun I q=>nomatch q),fun i hi=>absurd ⟨i,hi⟩ hm⟩
 obtain ⟨psl,f,c1,c2⟩:=getl
 exact ⟨_,_,_,rows_of (s0:=s0) (d0:=d0) (s1:=s1) (d1:=d1) (f:=f) a1 a2 b1 c1,a3,b3,c2⟩
theorem Mk.fix' {T':List Row} (m:Mk σ τ T D made) (h:Tab σ τ T b) (f:Fix τ σ σ') (p:T <+: T'):Mk σ' τ T' D made where
 fix:=fun q hq hf=>pre_at p (m.fix q hq hf)
 cls:=m.cls
 mark:=fun q hq hh=>(m.mark q hq hh).imp (fun x=>x.mono p) fun zz=>(by obtain ⟨a,d,e⟩:=zz;exact ⟨a,d,pre_at p e⟩)
 obj:=fun q hq hh x0 x1 l R A=>by
  have ex:∀ i,(Atm.o0,i)∈made∨(Atm.o1,i)∈made∨(Atm.lit,i)∈made→∃ r,T[i]?=some r:=by
   rintro i (hi | hi | hi)
   ·rcases m.mark _ hi (by rcases m.cls _ hi with q | q | q;exact absurd (show Atm.o0∈fixA from q) (by decide);cases q;exact q) with ⟨ps,s,d,e,_⟩ | ⟨e,_⟩
    ·exact ⟨_,e⟩
    ·cases e
   ·rcases m.mark _ hi (by rcases m.cls _ hi with q | q | q;exact absurd (show Atm.o1∈fixA from q) (by decide);cases q;exact q) with ⟨ps,s,d,e,_⟩ | ⟨e,_⟩
    ·exact ⟨_,e⟩
    ·cases e
   ·obtain ⟨ps,f,e,_⟩:=m.litm i hi;exact ⟨_,e⟩
  have back:∀ (i:Nat) (r:Row),(∃ r:Row,T[i]?=some r)→T'[i]?=some r→T[i]?=some r:=fun i r zz e'=>(by obtain ⟨r',e⟩:=zz;exact by rw [pre_at p e] at e';rw [e];exact e')
  exact (m.obj q hq hh x0 x1 l R ⟨fun i hi=>back i _ (ex i (.inl hi)) (A.1 i hi),fun i hi=>back i _ (ex i (.inr (.inl hi))) (A.2.1 i hi),fun i hi=>back i _ (ex i (.inr (.inr hi))) (A.2.2 i hi)⟩).fix h f p
 lit:=fun i hi x0 x1 l R A=>by
  have ex:∀ i,(Atm.o0,i)∈made∨(Atm.o1,i)∈made∨(Atm.lit,i)∈made→∃ r,T[i]?=some r:=by
   rintro i (hi | hi | hi)
   ·rcases m.mark _ hi (by rcases m.cls _ hi with q | q | q;exact absurd (show Atm.o0∈fixA from q) (by decide);cases q;exact q) with ⟨ps,s,d,e,_⟩ | ⟨e,_⟩
    ·exact ⟨_,e⟩
    ·cases e
   ·rcases m.mark _ hi (by rcases m.cls _ hi with q | q | q;exact absurd (show Atm.o1∈fixA from q) (by decide);cases q;exact q) with ⟨ps,s,d,e,_⟩ | ⟨e,_⟩
    ·exact ⟨_,e⟩
    ·cases e
   ·obtain ⟨ps,f,e,_⟩:=m.litm i hi;exact ⟨_,e⟩
  have back:∀ (i:Nat) (r:Row),(∃ r:Row,T[i]?=some r)→T'[i]?=some r→T[i]?=some r:=fun i r zz e'=>(by obtain ⟨r',e⟩:=zz;exact by rw [pre_at p e] at e';rw [e];exact e')
  exact (m.lit i hi x0 x1 l R ⟨fun i hi=>back i _ (ex i (.inl hi)) (A.1 i hi),fun i hi=>back i _ (ex i (.inr (.inl hi))) (A.2.1 i hi),fun i hi=>back i _ (ex i (.inr (.inr hi))) (A.2.2 i hi)⟩).mono p
 litm:=fun i hi=>(by obtain ⟨ps,f,e,q⟩:=m.litm i hi;exact ⟨ps,f,pre_at p e,q⟩)
 nd:=m.nd
theorem Mk.row {x0 x1 l:Row} (m:Mk σ τ T D made) (A:Agrees made T x0 x1 l) (hD:D.Ok) {a:Atm} {i:Nat} (hi:(a,i)∈made) (ha:a∉[Atm.p0,.p1,.p2,.p3]):T[i]?=some (rowF x0 x1 l a):=by
 rcases m.cls _ hi with q | q | q
 ·rw [m.fix _ hi q,row_fix a q]
 ·have q:a=.lit:=q
  subst q;exact A.2.2 i hi
 ·have:=hD.has a q
  cases a<;>first | exact absurd this (by decide) | exact absurd ha (by decide) | exact A.1 i hi | exact A.2.1 i hi
noncomputable def calmB (r q:Row):Bool:=!(decide (q=.key "string")&&decide (r.whole=6))&&(!(decide (q=.key "number")&&decide (r.whole=7))&&!(decide (q=r.reg)&&r.fresh))
noncomputable def outB (rs:List Row) (r:Row):Bool:=!decide (r∈rs)
noncomputable def okB (rs:List Row):Bool:=(rs.all fun r=>rs.all (calmB r))&&(outB rs (.bool 0 0)&&(outB rs (.bool 0 1)&&(outB rs (.key "any")&&(outB rs (.key "error")&&outB rs (.key "unknown")))))
theorem nand {a b:Bool} {P:Prop} (h:(!(a&&b))=true) (x:a=true) (y:b=true):P:=by subst x y;exact Mine.nf h
theorem out_b {rs:List Row} {r:Row} (h:outB rs r=true):r∉rs:=of_decide_eq_false ((Bool.not_eq_true' _).mp h)
theorem ok_b {rs:List Row} (h:okB rs=true):CalmRows rs∧nfz rs∧toppedR rs=rs :=
 an h fun h1 h=>an h fun h2 h=>an h fun h3 h=>an h fun h4 h=>an h fun h5 h6=>⟨fun r hr q hq=>an (List.all_eq_true.mp (List.all_eq_true.mp h1 r hr) q hq) fun a b=>an b fun b c=>⟨fun x e=>nand a (decide_eq_true e) (decide_eq_true x),fun x e=>nand b (decide_eq_true e) (decide_eq_true x),fun x e=>nand c (decide_eq_true e) x⟩,
  ⟨out_b h2,out_b h3⟩,(if_neg (out_b h4)).trans ((if_neg (out_b h5)).trans (if_neg (out_b h6)))⟩
theorem lit_c {ps:List Prp} {f:Nat}:(decide (Row.obj ps none none f=.obj ps none none 0)&&(f==1))=false:=by
 by_cases e:f=1
 ·subst e;exact (Bool.and_true _).trans (decide_eq_false fun h=>nomatch (Row.obj.inj h).2.2.2)
 ·rw [beq_eq_false_iff_ne.mpr e];exact Bool.and_false _
theorem lit_f {X:Bool} (h:X=false):(((true&&(true&&!X))&&true)&&true&&true)=true:=h▸rfl
theorem own_calm {x0 x1 l:Row} (R:RowsOK x0 x1 l):∀ K∈OK11,CalmRows (K.map (rowF x0 x1 l))∧nfz (K.map (rowF x0 x1 l))∧toppedR (K.map (rowF x0 x1 l))=K.map (rowF x0 x1 l):=by
 obtain ⟨ps,f,rfl⟩:=R.hl
 have key:AllP (fun K:List Atm=>okB (K.map (rowF x0 x1 (.obj ps none none f)))=true) OK11:=⟨rfl,rfl,rfl,rfl,rfl,rfl,rfl,lit_f (lit_c (ps:=ps) (f:=f)),lit_f (lit_c (ps:=ps) (f:=f)),rfl,rfl,trivial⟩
 exact fun K hK=>ok_b (key.mem K hK)
end
noncomputable def vD (τ:Nat) (tn:Bool) (s:Int):List (Str×V):=[("tab",.loc τ),("made",.loc (τ+9)),("names",.loc (τ+10)),("turned",.bool tn),("s",.int s)]
noncomputable def natV (k:Nat):V:=.int (k:Nat)
noncomputable def madeD (made:List (Atm×Nat)):List (Str×Nat):=made.map fun p=>(p.1.name,p.2)
structure NmOK (es:List (V×V)) (made:List (Atm×Nat)):Prop where
 ok:∀ i:Nat,kOk es (.int i)=true
 len:es.length≤made.length
 get:∀ p∈made,p.1∈[Atm.p0,.p1,.p2,.p3]→dictGetV es (.int (p.2:Nat))=some (.str p.1.name)
structure Keep (τ:Nat) (σ σ':St):Prop where
 low:∀ k,τ+12≤k→k < σ.length→σ'[k]?=σ[k]?
 len:σ.length≤σ'.length
 dec:∀ l,σ[τ+3]?=some (.list l)→∃ l',σ'[τ+3]?=some (.list l')∧l <+: l'
theorem Keep.refl (τ:Nat) (σ:St):Keep τ σ σ:=⟨fun I I I=>rfl,Nat.le_refl _,fun l h=>⟨l,h,List.prefix_refl _⟩⟩
theorem Keep.trans {τ:Nat} {a b c:St} (x:Keep τ a b) (y:Keep τ b c):Keep τ a c:=⟨fun k h1 h2=>(y.low k h1 (Nat.lt_of_lt_of_le h2 x.len)).trans (x.low k h1 h2),Nat.le_trans x.len y.len,fun l h=>(by obtain ⟨l1,h1,p1⟩:=x.dec l h;exact (by obtain ⟨l2,h2,p2⟩:=y.dec l1 h1;exact ⟨l2,h2,p1.trans p2⟩))⟩
theorem Fix.keep {τ:Nat} {σ σ':St} (x:Fix τ σ σ'):Keep τ σ σ':=⟨fun k h1 h2=>x.low k h2 (by fail "a") (by fail "a"),x.len,fun l h=>⟨l,x.at h (by fail "a") (by fail "a"),List.prefix_refl _⟩⟩
theorem Keep.at {τ:Nat} {σ σ':St} (x:Keep τ σ σ') {k:Nat} {o:Ob} (hk:τ+12≤k) (h:σ[k]?=some o):σ'[k]?=some o:=(x.low k hk (List.getElem?_eq_some_iff.mp h).1).trans h
structure Bst (σ0 σ:St) (ω τ:Nat) (D:LW) (tn:Bool) (made:List (Atm×Nat)) (T:List Row) (b:Nat) (s:Int):Prop where
 ext:Ext σ0 σ
 len:σ0.length=τ
 w:WAt σ0 ω D
 tab:Tab σ τ T b
 v:σ[τ+11]?=some (.dict (strD id (vD τ tn s)))
 mdd:σ[τ+9]?=some (.dict (strD natV (madeD made)))
 names:∃ es,σ[τ+10]?=some (.dict es)∧NmOK es made
 mkd:Mk σ τ T D made
 dec:∃ l,σ[τ+3]?=some (.list l)∧l.length+b≤lid
section
variable {n m ω τ b:Nat} {σ0 σ σ':St} {T:List Row} {v:V} {D:LW} {made:List (Atm×Nat)} {tn:Bool} {s:Int}
theorem Bst.fix {T':List Row} {b':Nat} (B:Bst σ0 σ ω τ D tn made T b s) (f:Fix τ σ σ') (p:T <+: T') (t:Tab σ' τ T' b') (hb:b'≤b:=by fail "a"):Bst σ0 σ' ω τ D tn made T' b' s where
 ext:=⟨fun k hk=>by
  have:=B.len
  exact (f.low k (Nat.lt_of_lt_of_le hk B.ext.len) (by fail "a") (by fail "a")).trans (B.ext.low k hk),Nat.le_trans B.ext.len f.len⟩
 len:=B.len
 w:=B.w
 tab:=t
 v:=f.at B.v (by fail "a") (by fail "a")
 mdd:=f.at B.mdd (by fail "a") (by fail "a")
 names:=(by obtain ⟨es,a,c⟩:=B.names;exact ⟨es,f.at a (by fail "a") (by fail "a"),c⟩)
 mkd:=B.mkd.fix' B.tab f p
 dec:=(by obtain ⟨l,a,c⟩:=B.dec;exact ⟨l,f.at a (by fail "a") (by fail "a"),Nat.le_trans (Nat.add_le_add_left hb _) c⟩)
theorem Bst.less {b':Nat} (B:Bst σ0 σ ω τ D tn made T b s) (h:b'≤b):Bst σ0 σ ω τ D tn made T b' s:=⟨B.ext,B.len,B.w,B.tab.less h,B.v,B.mdd,B.names,B.mkd,(by obtain ⟨l,a,c⟩:=B.dec;exact ⟨l,a,Nat.le_trans (Nat.add_le_add_left h _) c⟩)⟩
theorem Bst.flds (B:Bst σ0 σ ω τ D tn made T b s):subV σ (.loc (τ+11)) (.str "tab")=some (.loc τ)∧subV σ (.loc (τ+11)) (.str "made")=some (.loc (τ+9))∧subV σ (.loc (τ+11)) (.str "names")=some (.loc (τ+10))∧subV σ (.loc (τ+11)) (.str "turned")=some (.bool tn)∧subV σ (.loc (τ+11)) (.str "s")=some (.int s) :=
 ⟨sub_str B.v rfl,sub_str B.v rfl,sub_str B.v rfl,sub_str B.v rfl,sub_str B.v rfl⟩
inductive AtPost (σ0 σ:St) (ω τ:Nat) (D:LW) (tn:Bool) (made:List (Atm×Nat)) (T:List Row) (b:Nat) (s:Int) (N:Atm→Prop) (P:V→List (Atm×Nat)→List Row→Prop) (q:V×St):Prop
 | mk (made':List (Atm×Nat)) (T':List Row) (B:Bst σ0 q.2 ω τ D tn made' T' b s) (g:(∀ p∈made,p∈made')∧∀ p∈made',p∈made∨N p.1) (p:T <+: T') (k:Keep τ σ q.2) (h:P q.1 made' T')
noncomputable def AtSpec (σ0:St) (ω τ:Nat) (D:LW) (tn:Bool) (s:Int) (N:Atm→Prop) (kk c:Nat) (x:Atm):Prop :=
 ∀ σ made T b,Bst σ0 σ ω τ D tn made T (b+c) s→Does kk (rc 141) [.loc ω,.loc (τ+11),.str x.name] σ (AtPost σ0 σ ω τ D tn made T b s N fun v made' T'=>∃ i:Nat,v=.int i∧(x,i)∈made')
theorem AtSpec.weaken {σ0:St} {ω τ:Nat} {D:LW} {tn:Bool} {s:Int} {N N':Atm→Prop} {kk kk' c c':Nat} {x:Atm} (h:AtSpec σ0 ω τ D tn s N kk c x) (hN:∀ a,N a→N' a) (hc:c≤c') (hk:kk≤kk':=by fail "h"):AtSpec σ0 ω τ D tn s N' kk' c' x:=by
 intro σ made T b B
 refine Does.mono ((h σ made T b (B.less (Nat.add_le_add_left hc _))).le hk) ?_
 rintro ⟨v,σ2⟩ ⟨made',T',a1,⟨a2,a3⟩,a4,a5,a6⟩
 exact ⟨made',T',a1,⟨a2,fun p hp=>(a3 p hp).imp id (hN _)⟩,a4,a5,a6⟩
noncomputable def KindPost (D:LW) (K:List Atm) (v:V) (made':List (Atm×Nat)) (T':List Row):Prop :=
 ∃ u:Nat,v=.int u∧∀ x0 x1 l,RowsOK x0 x1 l→Agrees made' T' x0 x1 l→KR T' u (K.map (rowF x0 x1 l))
theorem kind_calm {x0 x1 l:Row} (R:RowsOK x0 x1 l) {K:List Atm} (h:K∈GK16∨K∈OK11):CalmRows (K.map (rowF x0 x1 l))∧nfz (K.map (rowF x0 x1 l))∧toppedR (K.map (rowF x0 x1 l))=K.map (rowF x0 x1 l)∧K.length≤3:=by
 rcases h with h | h
 ·have N:=nice_row R h
  refine ⟨N.calm,N.nfz,N.top,?_⟩
  have:∀ K∈GK16,K.length≤3:=by decide +kernel
  exact this K h
 ·obtain ⟨a,c,d⟩:=own_calm R K h
  exact ⟨a,c,d,by have:=(own_ne K h).2;fail "a"⟩
theorem at_k6:∀ x∈allAtm,x∉[Atm.p0,.p1,.p2,.p3]→(rowF .tpl .tpl .tpl x).kind≠6∧rowF .tpl .tpl .tpl x≠.key "never" := by decide +kernel
theorem row_kind6 {x0 x1 l:Row} (R:RowsOK x0 x1 l) {x:Atm} (hx:x∉[Atm.p0,.p1,.p2,.p3]):(rowF x0 x1 l x).kind≠6∧rowF x0 x1 l x≠.key "never" := by
 have:=at_k6 x (all_atm x) hx
 exact ⟨fun q=>this.1 (row_of R (by rw [q];decide) rfl▸q),fun q=>this.2 (row_of R (by decide) q)⟩
theorem Agrees.back {made2:List (Atm×Nat)} {T2:List Row} {x0 x1 l:Row} (k:Mk σ τ T D made) (hm:∀ p∈made,p∈made2) (p:T <+: T2) (A:Agrees made2 T2 x0 x1 l):Agrees made T x0 x1 l:=by
 have ex:∀ i,(Atm.o0,i)∈made∨(Atm.o1,i)∈made∨(Atm.lit,i)∈made→∃ r,T[i]?=some r:=by
  rintro i (hi | hi | hi)
  ·rcases k.mark _ hi (by rcases k.cls _ hi with q | q | q;exact absurd (show Atm.o0∈fixA from q) (by decide);cases q;exact q) with ⟨ps,s,d,e,_⟩ | ⟨e,_⟩
   ·exact ⟨_,e⟩
   ·cases e
  ·rcases k.mark _ hi (by rcases k.cls _ hi with q | q | q;exact absurd (show Atm.o1∈fixA from q) (by decide);cases q;exact q) with ⟨ps,s,d,e,_⟩ | ⟨e,_⟩
   ·exact ⟨_,e⟩
   ·cases e
  ·obtain ⟨ps,f,e,_⟩:=k.litm i hi;exact ⟨_,e⟩
 have back:∀ (i:Nat) (r:Row),(∃ r:Row,T[i]?=some r)→T2[i]?=some r→T[i]?=some r:=fun i r zz e'=>(by obtain ⟨r',e⟩:=zz;exact by rw [pre_at p e] at e';rw [e];exact e')
 exact ⟨fun i hi=>back i _ (ex i (.inl hi)) (A.1 i (hm _ hi)),fun i hi=>back i _ (ex i (.inr (.inl hi))) (A.2.1 i (hm _ hi)),fun i hi=>back i _ (ex i (.inr (.inr hi))) (A.2.2 i (hm _ hi))⟩
theorem kind_walk {N:Atm→Prop} {kk c:Nat} {nv w:V} {L:List Atm} {P:V→List (Atm×Nat)→List Row→Prop} (B:Bst σ0 σ ω τ D tn made T (b+(c * L.length+1)) s) (h1:tn=true→sliceV σ nv none none (some (-1))=some w) (h2:tn=false→nv=w) (iL:IsL σ0 w (nmV L)) (X:∀ x∈L,AtSpec σ0 ω τ D tn s N kk c x)
  (U:∀ {us:List (Nat×Atm)} {made' T' σ2},us.map (·.2)=L→Bst σ0 σ2 ω τ D tn made' T' (b+1) s→(∀ q∈us,(q.2,q.1)∈made')→Does 3 (rc 62) [.loc τ,.lst (vints (us.map (·.1)))] σ2 (TPost τ σ2 T' b fun v T''=>P v made' T'')) (h10:10≤kk:=by fail "h") :
  Does (kk+1) (rc 137) [.loc ω,.loc (τ+11),nv] σ (AtPost σ0 σ ω τ D tn made T b s N P):=by
 obtain ⟨f1,f2,f3,f4,f5⟩:=B.flds
 refine enterG fun Q' hQ=>?_
 have X':id _:=X
 have U':id _:=@U
 clear X U
 fail "r"
 refine sel_joinR (fun q=>q=(w,σ)) (fun hb=>?_) (fun hb=>?_) ?_
 ·have h1:=h1 hb
  clear X' U' hQ h2
  fail "r"
 ·cases h2 hb
  clear X' U' hQ h1
  fail "r"
 rintro R hR v1 σ1 hq
 cases hq
 obtain ⟨l1,l2,l3⟩:=(iL.ext B.ext).loop
 clear h1 h2
 fail "r"
 refine comp_rlR (fun r done σ'=>Ex3 fun (us:List (Nat×Atm)) (made':List (Atm×Nat)) (T':List Row)=>C7 (done=vints (us.map (·.1))) (us.map (·.2)++r=L) (Bst σ0 σ' ω τ D tn made' T' (b+1+c * r.length) s) ((∀ p∈made,p∈made')∧∀ p∈made',p∈made∨N p.1) (T <+: T') (Keep τ σ σ') (∀ q∈us,(q.2,q.1)∈made')) ?_ ?_ ?_
 ·rintro P hC R hR y r done σ' ⟨us,made',T',rfl,hu,B',p1,p2,p3,p4⟩
  have Xy:=X' y (by rw [← hu];exact List.mem_append_right _ (.head _))
  rw [show b+1+c * (y::r).length=b+1+c * r.length+c from (Nat.add_assoc _ _ _).symm] at B'
  have Xy:=Xy σ' made' T' _ B'
  clear X' hQ U'
  fail "r"
  refine Does.goP Xy ?_
  rintro R hR v2 σ2 ⟨made2,T2,B2,q1,q2,q3,i,hv,q4⟩
  cases hv
  refine hR ?_
  refine fin (hC (iL.ext B2.ext).loop.2.2 ⟨us++[(i,y)],made2,T2,by rw [vints,vints,List.map_append,List.map_append];rfl,by rw [List.map_append,List.append_assoc];exact hu,B2,⟨fun p hp=>q1.1 p (p1.1 p hp),fun p hp=>(q1.2 p hp).elim (p1.2 p) .inr⟩,p2.trans q2,p3.trans q3,fun q hq=>?_⟩)
  rcases List.mem_append.mp hq with hq | hq
  ·exact q1.1 _ (p4 q hq)
  ·rw [List.mem_singleton.mp hq];exact q4
 ·exact ⟨[],made,T,rfl,rfl,B.less (by fail "a"),⟨fun I h=>h,fun I h=>.inl h⟩,List.prefix_refl _,Keep.refl _ _,fun I q=>nomatch q⟩
 ·rintro R hR vs σ2 ⟨us,made',T',rfl,hu,B',p1,p2,p3,p4⟩
  rw [List.append_nil] at hu
  replace B':=B'.less (b':=b+1) (Nat.le_add_right _ _)
  have un:=U' hu B' p4
  have g1:=(B'.flds).1
  clear X' U'
  fail "r"
  refine Does.goP un ?_
  rintro R hR v3 σ3 ⟨T3,q1,q2,q3,h⟩
  fail "r"
  exact ⟨made',T3,B'.fix q3 q1 q2,p1,p2.trans q1,p3.trans q3.keep,h⟩
theorem turn_ok (K:List Atm):∃ L:List Atm,(if tn then K.reverse else K)=L∧(∀ x,x∈L↔x∈K)∧L.length=K.length:=⟨_,rfl,fun x=>by split<;>simp,by split<;>simp⟩
theorem kind_spec {N:Atm→Prop} {kk c:Nat} {K:List Atm} (hD:D.Ok) (B:Bst σ0 σ ω τ D tn made T (b+(3 * c+1)) s) (hK:K∈GK16∨K∈OK11) (hP:∀ x∈K,x∉[Atm.p0,.p1,.p2,.p3]) (X:∀ x∈K,AtSpec σ0 ω τ D tn s N kk c x) (h10:10≤kk:=by fail "h") :
  Does (kk+1) (rc 137) [.loc ω,.loc (τ+11),.lst (nmV K)] σ (AtPost σ0 σ ω τ D tn made T b s N fun v made' T'=>KindPost D K v made' T'):=by
 obtain ⟨y0,y1,yl,R0,A0⟩:=B.mkd.pick hD.has0 hD.has1
 have hlen:=(kind_calm R0 hK).2.2.2
 obtain ⟨L,hL,hmem,hLl⟩:=turn_ok (tn:=tn) K
 rw [← hLl] at hlen
 refine kind_walk (L:=L) (w:=.lst (nmV L)) (B.less (Nat.add_le_add_left (Nat.succ_le_succ (Nat.le_trans (Nat.mul_le_mul_left _ hlen) (Nat.le_of_eq (Nat.mul_comm _ _)))) _)) (fun h=>?_) (fun h=>?_) (.inl rfl) (fun x hx=>X x ((hmem x).mp hx)) ?_
 ·show some (V.lst (nmV K).reverse)=_
  rw [← hL,if_pos h,nmV,nmV,List.map_reverse]
 ·rw [← hL,if_neg (by rw [h];decide)]
 ·intro us made' T' σ2 hu B' p4
  obtain ⟨z0,z1,zl,R,A⟩:=B'.mkd.pick hD.has0 hD.has1
  obtain ⟨k1,k2,k3,k4⟩:=kind_calm R hK
  have back:∀ x∈K,∃ q∈us,q.2=x:=fun x hx=>List.mem_map.mp (by rw [hu];exact (hmem x).mpr hx)
  have hrow:∀ q∈us,q.2∈K:=fun q hq=>(hmem q.2).mp (by rw [← hu];exact List.mem_map.mpr ⟨q,hq,rfl⟩)
  have fm:∀ r,r∈(us.map fun q=>(q.1,[rowF z0 z1 zl q.2])).flatMap (·.2)↔r∈K.map (rowF z0 z1 zl):=fun r=>by
   rw [List.mem_flatMap,List.mem_map]
   constructor
   ·rintro ⟨p,hp,h⟩
    obtain ⟨q,hq,rfl⟩:=List.mem_map.mp hp
    exact ⟨q.2,hrow q hq,(List.mem_singleton.mp h).symm⟩
   ·rintro ⟨x,hx,rfl⟩
    obtain ⟨q,hq,rfl⟩:=back x hx
    exact ⟨_,List.mem_map.mpr ⟨q,hq,rfl⟩,.head _⟩
  have hul:us.length≤3:=by rw [← List.length_map (·.2),hu];exact hlen
  have row:=fun {x0 x1 l} (A:Agrees made' T' x0 x1 l) q hq=>B'.mkd.row A hD (p4 q hq) (hP q.2 (hrow q hq))
  refine Does.mono (union_krp (ps:=us.map fun q=>(q.1,[rowF z0 z1 zl q.2])) B'.tab (.inl (by rw [List.map_map];rfl)) (fun p hp=>?_) (fun p hp=>?_) (by rw [List.length_map];fail "a") (k1.congr fun r=>(fm r).symm) ⟨fun q=>k2.1 ((fm _).mp q),fun q=>k2.2 ((fm _).mp q)⟩) ?_
  ·obtain ⟨q,hq,rfl⟩:=List.mem_map.mp hp
   have:=row_kind6 R (hP q.2 (hrow q hq))
   exact kr_one B'.tab.nd B'.tab.never (row A q hq) this.1 this.2
  ·obtain ⟨q,hq,rfl⟩:=List.mem_map.mp hp;exact (by decide:1≤7)
  ·rintro ⟨v3,σ3⟩ ⟨T3,q1,q2,q3,u,rfl,ku⟩
   have ku:=ku.congr (topped_congr fm)
   rw [k3] at ku
   refine ⟨T3,q1,q2,q3,u,rfl,fun x0 x1 l R' A'=>?_⟩
   rw [show K.map (rowF x0 x1 l)=K.map (rowF z0 z1 zl) from List.map_congr_left fun x hx=>by
    obtain ⟨q,hq,rfl⟩:=back x hx
    have e1:=row (A'.back B'.mkd (fun I h=>h) q1) q hq
    rw [row A q hq] at e1;exact (Option.some.inj e1).symm]
   exact ku
end
theorem dget_same (es:List (V×V)) (i:Int) (v:V):dictGetV (dictSetV es (.int i) v) (.int i)=some v:=by
 unfold dictSetV
 split
 ·rename_i h
  unfold dictGetV
  induction es with
  | nil=>simp at h
  | cons e es ih =>
   rw [List.map_cons,List.find?_cons]
   by_cases q:e.1.eqb (.int i)=true
   ·simp [q]
   ·have q':e.1.eqb (.int i)=false:=by simpa using q
    rw [List.any_cons,q',Bool.false_or] at h
    simp only [q',Bool.false_eq_true,if_false]
    exact ih h
 ·rename_i h
  unfold dictGetV
  rw [List.find?_append]
  have:es.find? (fun x=>x.1.eqb (.int i))=none:=by
   rw [List.find?_eq_none]
   intro x hx q
   exact h (List.any_eq_true.mpr ⟨x,hx,q⟩)
  rw [this]
  simp [show (V.int i).eqb (.int i)=true from (V.eqb_iff _ _).mpr rfl]
theorem dget_ne (es:List (V×V)) (i j:Int) (v:V) (h:j≠i):dictGetV (dictSetV es (.int i) v) (.int j)=dictGetV es (.int j):=by
 have hk:∀ e:V,e.eqb (.int i)=true→e.eqb (.int j)=false:=fun e q=>by
  have:=(V.eqb_iff _ _).mp q
  subst this
  rw [Bool.eq_false_iff]
  intro q'
  have:=(V.eqb_iff _ _).mp q'
  injection this with e
  exact h e.symm
 unfold dictSetV
 split
 ·unfold dictGetV
  induction es with
  | nil=>rfl
  | cons e es ih =>
   rename_i h0
   rw [List.map_cons,List.find?_cons,List.find?_cons]
   by_cases q:e.1.eqb (.int i)=true
   ·simp only [q,if_true,hk _ q]
    by_cases h1:(es.any fun x=>x.1.eqb (.int i))=true
    ·exact ih h1
    ·congr 1
     have:es.map (fun e=>if e.1.eqb (.int i)=true then (e.1,v) else e)=es:=by
      rw [show es.map (fun e=>if e.1.eqb (.int i)=true then (e.1,v) else e)=es.map id from List.map_congr_left fun x hx=>by
       rw [if_neg (fun q=>h1 (List.any_eq_true.mpr ⟨x,hx,q⟩))];rfl]
      simp
     rw [this]
   ·have q':e.1.eqb (.int i)=false:=by simpa using q
    rw [List.any_cons,q',Bool.false_or] at h0
    simp only [q',Bool.false_eq_true,if_false]
    cases e.1.eqb (.int j) with
    | true=>rfl
    | false=>exact ih h0
 ·unfold dictGetV
  rw [List.find?_append]
  have:([(V.int i,v)]:List (V×V)).find? (fun x=>x.1.eqb (.int j))=none:=by
   have:=hk (.int i) ((V.eqb_iff _ _).mpr rfl)
   simp [this]
  rw [this]
  cases es.find? (fun x=>x.1.eqb (.int j))<;>rfl
theorem dset_len (es:List (V×V)) (k v:V):(dictSetV es k v).length≤es.length+1:=by
 unfold dictSetV;split<;>simp
theorem dset_ok (es:List (V×V)) (i:Int) (v:V) (h:∀ j:Nat,kOk es (.int j)=true):∀ j:Nat,kOk (dictSetV es (.int i) v) (.int j)=true:=by
 intro j
 have ha:es.all (fun e=>e.1.tag==1)=true:=by
  have:=h j
  unfold kOk at this
  simp only [Bool.and_eq_true] at this
  exact this.2
 have:(dictSetV es (.int i) v).all (fun e=>e.1.tag==1)=true:=by
  unfold dictSetV
  split
  ·rw [List.all_map]
   rw [List.all_eq_true] at ha ⊢
   intro x hx
   show ((if x.1.eqb (.int i) then (x.1,v) else x).1.tag==1)=true
   split<;>exact ha x hx
  ·rw [List.all_append,ha];rfl
 unfold kOk
 show ((1:Nat) != 0&&(dictSetV es (.int i) v).all fun e=>e.1.tag==1)=true
 rw [this];rfl
theorem made_lookup {made:List (Atm×Nat)} (h:(made.map (·.1)).Nodup) {x:Atm} {i:Nat} (hi:(x,i)∈made):(madeD made).lookup x.name=some i:=by
 have hn:((madeD made).map (·.1)).Nodup:=by
  unfold madeD
  rw [List.map_map]
  have:(made.map ((·.1) ∘ fun p:Atm×Nat=>(p.1.name,p.2)))=(made.map (·.1)).map Atm.name:=by rw [List.map_map];rfl
  rw [this]
  exact h.map Atm.name fun a c hne e=>hne (name_inj e)
 exact lookup_nd (q:=(x.name,i)) hn (List.mem_map.mpr ⟨(x,i),hi,rfl⟩)
theorem made_none {made:List (Atm×Nat)} {x:Atm} (h:x∉made.map (·.1)):x.name∉(madeD made).map (·.1):=by
 intro q
 unfold madeD at q
 rw [List.map_map] at q
 obtain ⟨p,hp,e⟩:=List.mem_map.mp q
 have:=name_inj e
 exact h (List.mem_map.mpr ⟨p,hp,this⟩)
section
variable {n m ω τ b:Nat} {σ0 σ σ':St} {T:List Row} {v:V} {D:LW} {made:List (Atm×Nat)} {tn:Bool} {s:Int}
theorem other_set {k i:Nat} {es:List (V×V)} {o p:Ob} (hk:σ[k]?=some (.dict es)) (hi:σ[i]?=some o) (ho:∀ es,o≠.dict es):(σ.set k p)[i]?=some o:=by
 refine set_other hi ?_
 rintro rfl
 rw [hi] at hk;cases hk;exact ho _ rfl
theorem DeclAt.set {d u k:Nat} {es es':List (V×V)} (x:DeclAt σ τ d u) (hk:σ[k]?=some (.dict es)):DeclAt (σ.set k (.dict es')) τ d u:=by
 obtain ⟨D,dl,fs,h1,h2,h3,h4,h5,h6⟩:=x.ex
 exact ⟨D,dl,fs,other_set hk h1 (fun I q=>by cases q),h2,h3,other_set hk h4 (fun I q=>by cases q),h5,h6⟩
theorem ObjAt.set {t k:Nat} {rd} {es es':List (V×V)} (x:ObjAt σ τ T t rd) (hk:σ[k]?=some (.dict es)):ObjAt (σ.set k (.dict es')) τ T t rd:=by
 obtain ⟨u,ps,s,d,f,a,r⟩:=x.ex
 refine ⟨u,ps,s,d,f,?_,r⟩
 rcases a with a | ⟨d',a,c,e⟩
 ·exact .inl a
 ·exact .inr ⟨d',a,c.set hk,e⟩
theorem Mk.set {k:Nat} {es es':List (V×V)} (x:Mk σ τ T D made) (hk:σ[k]?=some (.dict es)):Mk (σ.set k (.dict es')) τ T D made :=
 ⟨x.fix,x.cls,x.mark,fun p hp hh x0 x1 l R A=>(x.obj p hp hh x0 x1 l R A).set hk,x.lit,x.litm,x.nd⟩
inductive MPost (σ0 σ:St) (ω τ:Nat) (D:LW) (tn:Bool) (made:List (Atm×Nat)) (T:List Row) (b:Nat) (s:Int) (N:Atm→Prop) (x:Atm) (q:V×St):Prop
 | mk (made':List (Atm×Nat)) (T':List Row) (i:Nat) (e:q.1=.int (i:Nat)) (B:Bst σ0 q.2 ω τ D tn made' T' b s) (g:(∀ p∈made,p∈made')∧∀ p∈made',p∈made∨N p.1) (p:T <+: T') (k:Keep τ σ q.2)
  (n:x∉made'.map (·.1)) (m:Mk q.2 τ T' D (made'++[(x,i)])) (h:∀ p∈made',(p.1∈[Atm.p0,.p1,.p2,.p3]∨x∈[Atm.p0,.p1,.p2,.p3])→p.2≠i)
noncomputable def MadeSpec (σ0:St) (ω τ:Nat) (D:LW) (tn:Bool) (s:Int) (N:Atm→Prop) (kk c:Nat) (x:Atm):Prop :=
 ∀ σ made T b,Bst σ0 σ ω τ D tn made T (b+c) s→x∉made.map (·.1)→Does kk (rc 140) [.loc ω,.loc (τ+11),.str x.name] σ (MPost σ0 σ ω τ D tn made T b s N x)
theorem made_len (h:(made.map (·.1)).Nodup):made.length≤25:=by
 have:=sub_length (k:=allAtm) h fun x I=>all_atm x
 simpa [allAtm] using this
theorem at_spec {N:Atm→Prop} {kk c:Nat} {x:Atm} (hN:N x) (X:MadeSpec σ0 ω τ D tn s N kk c x):AtSpec σ0 ω τ D tn s N (kk+1) c x:=by
 intro σ made T b B
 obtain ⟨f1,f2,f3,f4,f5⟩:=B.flds
 refine enterG fun Q' hQ=>?_
 by_cases hm:∃ i,(x,i)∈made
 ·obtain ⟨k,hk⟩:=hm
  have lk:=made_lookup B.mkd.nd hk
  have i1:inV σ (.str x.name) (.loc (τ+9))=some true:=by rw [in_str B.mdd,lk];rfl
  have s1:subV σ (.loc (τ+9)) (.str x.name)=some (.int (k:Nat)):=sub_str B.mdd (by rw [lk];rfl)
  clear lk X
  fail "r"
  exact ⟨made,T,B.less (Nat.le_add_right _ _),⟨fun I h=>h,fun I h=>.inl h⟩,List.prefix_refl _,Keep.refl _ _,k,rfl,hk⟩
 ·have hm':x∉made.map (·.1):=fun q=>by
   obtain ⟨p,hp,rfl⟩:=List.mem_map.mp q
   exact hm ⟨p.2,hp⟩
  have lk:(madeD made).lookup x.name=none:=by
   rw [List.lookup_eq_none_iff]
   intro p hp
   exact bne_iff_ne.mpr fun e=>made_none hm' (by rw [e];exact List.mem_map.mpr ⟨p,hp,rfl⟩)
  have i1:inV σ (.str x.name) (.loc (τ+9))=some false:=by rw [in_str B.mdd,lk];rfl
  have X:=X σ made T b B hm'
  clear lk hm B hm'
  fail "r"
  refine Does.goP X ?_
  rintro R hR v σ2 ⟨made',T',i,hv,B',p1,p2,p3,p4,p5,p6⟩
  cases hv
  obtain ⟨es,n1,n2⟩:=B'.names
  have h9:=B'.mdd
  have h11:=B'.v
  have nl:=made_len B'.mkd.nd
  have c1:kOk (strD natV (madeD made')) (.str x.name)=true:=strD_kOk _ _ _
  have c2:decide ((strD natV (madeD made')).length < cap)=true:=decide_eq_true (by rw [strD,madeD,List.length_map,List.length_map];unfold cap;fail "a")
  have c3:dictSetV (strD natV (madeD made')) (.str x.name) (.int (i:Nat))=strD natV (madeD (made'++[(x,i)])):=by
   have:=strD_set natV (madeD made') x.name i (made_none p4)
   rw [show madeD made'++[(x.name,i)]=madeD (made'++[(x,i)]) by unfold madeD;rw [List.map_append];rfl] at this;exact this
  have ml:=made_lookup p5.nd (i:=i) (List.mem_append_right _ (.head _))
  obtain ⟨p0,hp0⟩:∃ p0:Ob,p0=.dict (strD natV (madeD (made'++[(x,i)]))):=⟨_,rfl⟩
  have g1:=(B'.flds).2.1
  have g2:subV (σ2.set (τ+9) p0) (.loc (τ+11)) (.str (Str.ofString "made"))=some (.loc (τ+9)):=sub_str (set_other h11 (by fail "a")) rfl
  have g3:subV (σ2.set (τ+9) p0) (.loc (τ+11)) (.str (Str.ofString "names"))=some (.loc (τ+10)):=sub_str (set_other h11 (by fail "a")) rfl
  have m10:(σ2.set (τ+9) p0)[τ+10]?=some (.dict es):=set_other n1 (by fail "a")
  have m9:(σ2.set (τ+9) p0)[τ+9]?=some p0:=set_self h9
  have g4:subV (σ2.set (τ+9) p0) (.loc (τ+9)) (.str x.name)=some (.int (i:Nat)):=sub_str (m9.trans (by rw [hp0])) (by rw [ml];rfl)
  have k1:=n2.ok i
  have k2:decide (es.length < cap)=true:=decide_eq_true (by have:=n2.len;unfold cap;fail "a")
  have r2:∀ q,subV ((σ2.set (τ+9) p0).set (τ+10) q) (.loc (τ+11)) (.str (Str.ofString "made"))=some (.loc (τ+9)):=fun q=>sub_str (set_other (set_other h11 (by fail "a")) (by fail "a")) rfl
  have q9:∀ q,((σ2.set (τ+9) p0).set (τ+10) q)[τ+9]?=some p0:=fun q=>set_other m9 (by fail "a")
  have r4:∀ q,subV ((σ2.set (τ+9) p0).set (τ+10) q) (.loc (τ+9)) (.str x.name)=some (.int (i:Nat)):=fun q=>sub_str ((q9 q).trans (by rw [hp0])) (by rw [ml];rfl)
  fail "r"
  rw [c3,← hp0]
  fail "r"
  have hl:=B'.len
  have lo:∀ (q:Ob) k,k≠τ+9→k≠τ+10→((σ2.set (τ+9) p0).set (τ+10) q)[k]?=σ2[k]?:=fun q k a b=>by rw [List.getElem?_set_ne (Ne.symm b),List.getElem?_set_ne (Ne.symm a)]
  refine ⟨made'++[(x,i)],T',⟨(B'.ext.set (by fail "a") _).set (by fail "a") _,hl,B'.w,(B'.tab.set (by fail "a")).set (by fail "a"),(lo _ _ (by fail "a") (by fail "a")).trans h11,(q9 _).trans (by rw [hp0]),⟨_,set_self m10,dset_ok es _ _ n2.ok,?_,fun p hp hP=>?_⟩,?_,(by obtain ⟨l,a,c⟩:=B'.dec;exact ⟨l,(lo _ _ (by fail "a") (by fail "a")).trans a,c⟩)⟩,⟨fun p hp=>List.mem_append_left _ (p1.1 p hp),fun p hp=>?_⟩,p2,p3.trans ⟨fun k h1 h2=>lo _ _ (by fail "a") (by fail "a"),by rw [List.length_set,List.length_set];exact Nat.le_refl _,fun l h=>⟨l,(lo _ _ (by fail "a") (by fail "a")).trans h,List.prefix_refl _⟩⟩,i,rfl,List.mem_append_right _ (.head _)⟩
  ·have:=dset_len es (.int (i:Nat)) (.str x.name)
   have:=n2.len
   rw [List.length_append,List.length_singleton];fail "a"
  ·rcases List.mem_append.mp hp with hp | hp
   ·have hne:=p6 p hp (.inl hP)
    rw [dget_ne _ _ _ _ (by fail "a")]
    exact n2.get p hp hP
   ·rw [List.mem_singleton.mp hp]
    exact dget_same _ _ _
  ·refine Mk.set ?_ m10
   rw [hp0]
   exact p5.set h9
  ·rcases List.mem_append.mp hp with hp | hp
   ·exact p1.2 p hp
   ·rw [List.mem_singleton.mp hp];exact .inr hN
end
theorem name_beq (x y:Atm):(x.name==y.name)=decide (x=y):=by
 rw [Bool.eq_iff_iff,beq_iff_eq,decide_eq_true_iff]
 exact ⟨name_inj,fun e=>by rw [e]⟩
theorem Agrees.left {made more:List (Atm×Nat)} {T:List Row} {x0 x1 l:Row} (A:Agrees (made++more) T x0 x1 l):Agrees made T x0 x1 l :=
 ⟨fun i hi=>A.1 i (List.mem_append_left _ hi),fun i hi=>A.2.1 i (List.mem_append_left _ hi),fun i hi=>A.2.2 i (List.mem_append_left _ hi)⟩
section
variable {n m ω τ b:Nat} {σ0 σ σ':St} {T:List Row} {v:V} {D:LW} {made:List (Atm×Nat)} {tn:Bool} {s:Int}
theorem Mk.add {x:Atm} {i:Nat} (k:Mk σ τ T D made) (hx:x∉made.map (·.1)) (h1:x∈fixA→T[i]?=some (rowX x)) (h2:x∈fixA∨x=.lit∨D.has x=true) (h3:D.has x=true→Marked T x i∨(x=.p0∧∃ d,T[i]?=some (.ref d)))
  (h4:D.has x=true→∀ x0 x1 l,RowsOK x0 x1 l→Agrees (made++[(x,i)]) T x0 x1 l→ObjAt σ τ T i (rdF x0 x1 l (fun I=>D.ob x) i))
  (h5:x=.lit→∀ x0 x1 l,RowsOK x0 x1 l→Agrees (made++[(x,i)]) T x0 x1 l→LitR x0 x1 l T i (if D.fresh then 1 else 0) (sortP D.inner))
  (h6:x=.lit→∃ ps f,T[i]?=some (.obj ps none none f)∧∀ q∈ps,okName q.name):Mk σ τ T D (made++[(x,i)]) where
 fix:=fun p hp hf=>by
  rcases List.mem_append.mp hp with hp | hp
  ·exact k.fix p hp hf
  ·simp at hp;subst hp;exact h1 hf
 cls:=fun p hp=>by
  rcases List.mem_append.mp hp with hp | hp
  ·exact k.cls p hp
  ·simp at hp;subst hp;exact h2
 mark:=fun p hp hh=>by
  rcases List.mem_append.mp hp with hp | hp
  ·exact k.mark p hp hh
  ·simp at hp;subst hp;exact h3 hh
 obj:=fun p hp hh x0 x1 l R A=>by
  rcases List.mem_append.mp hp with hp | hp
  ·exact k.obj p hp hh x0 x1 l R A.left
  ·simp at hp;subst hp;exact h4 hh x0 x1 l R A
 lit:=fun j hj x0 x1 l R A=>by
  rcases List.mem_append.mp hj with hp | hp
  ·exact k.lit j hp x0 x1 l R A.left
  ·simp at hp;obtain ⟨e,e'⟩:=hp;subst e';exact h5 e.symm x0 x1 l R A
 litm:=fun j hj=>by
  rcases List.mem_append.mp hj with hp | hp
  ·exact k.litm j hp
  ·simp at hp;obtain ⟨e,e'⟩:=hp;subst e';exact h6 e.symm
 nd:=by
  rw [List.map_append,List.nodup_append]
  exact ⟨k.nd,by simp,fun a ha c hc e=>hx (by simp at hc;rw [← hc,← e];exact ha)⟩
theorem Mk.apart (hD:D.Ok) (k:Mk σ τ T D made) {i:Nat} (h:∀ a∈objA,¬ Marked T a i) (h':∀ d,T[i]?≠some (.ref d)):∀ p∈made,p.1∈[Atm.p0,.p1,.p2,.p3]→p.2≠i:=by
 intro p hp hP e
 have hh:D.has p.1=true:=by
  rcases k.cls p hp with q | q | q
  ·exfalso
   revert q hP
   generalize p.1=a
   cases a<;>decide
  ·rw [q] at hP;exact absurd hP (by decide)
  ·exact q
 have ho:p.1∈objA:=hD.has p.1 hh
 rcases k.mark p hp hh with q | ⟨_,d,q⟩
 ·rw [e] at q;exact h _ ho q
 ·rw [e] at q;exact h' d q
noncomputable def rowT:Row→Bool
 | .obj ps _ _ _=>ps.isEmpty
 | .ref _=>false
 | _=>true
theorem fix_no:∀ x∈fixA,x∉[Atm.p0,.p1,.p2,.p3]∧x∉objA∧x≠.lit∧rowT (rowX x)=true:=by decide +kernel
theorem made_fix {x:Atm} (hD:D.Ok) (hx:x∈fixA):MadeSpec σ0 ω τ D tn s (·∈fixA) 10 1 x:=by
 intro σ made T b B hm
 obtain ⟨f1,f2,f3,f4,f5⟩:=B.flds
 have W:=B.w.ext B.ext
 obtain ⟨ωo,w1,w2,w3⟩:=W.objs
 have no:=fix_no x hx
 have hh:D.has x=false:=Bool.eq_false_iff.mpr fun q=>no.2.1 (hD.has x q)
 have w2:=w2 x
 rw [hh] at w2
 have e0:(x.name==Str.ofString "L")=false:=(name_beq x .lit).trans (decide_eq_false no.2.2.1)
 clear w3
 refine enterG fun Q' hQ=>?_
 fail "r"
 refine Does.goI (atom_spec hx B.tab) fun T2 t σ2 p1 p2 p3 p4=>?_
 fail "r"
 refine ⟨made,T2,t,rfl,B.fix p3 p1 p2,⟨fun I h=>h,fun I h=>.inl h⟩,p1,p3.keep,hm,?_,fun p hp hP=>?_⟩
 ·exact (B.mkd.fix' B.tab p3 p1).add hm (fun I=>p4) (.inl hx) (fun q=>by rw [hh] at q;cases q) (fun q=>by rw [hh] at q;cases q) (fun e=>absurd e no.2.2.1) (fun e=>absurd e no.2.2.1)
 ·refine (B.mkd.fix' B.tab p3 p1).apart hD ?_ ?_ p hp (hP.resolve_right no.1)
  ·rintro a ha ⟨ps,s,d,e,⟨q,hq,_⟩,_⟩
   rw [p4] at e
   have r1:=no.2.2.2
   rw [Option.some.inj e] at r1
   rw [List.isEmpty_iff.mp r1] at hq;cases hq
  ·intro d e
   rw [p4] at e
   have r1:=no.2.2.2
   rw [Option.some.inj e] at r1;cases r1
theorem at_fix {x:Atm} (hD:D.Ok) (hx:x∈fixA):AtSpec σ0 ω τ D tn s (·∈fixA) 11 1 x:=at_spec hx (made_fix hD hx)
end
section
variable {n m ω τ b:Nat} {σ0 σ σ':St} {T:List Row} {v:V} {D:LW} {made:List (Atm×Nat)} {tn:Bool} {s:Int}
noncomputable def KindAt (made:List (Atm×Nat)) (T:List Row) (K:List Atm) (u:Nat):Prop:=∀ x0 x1 l,RowsOK x0 x1 l→Agrees made T x0 x1 l→KR T u (K.map (rowF x0 x1 l))
theorem KindAt.up {made2:List (Atm×Nat)} {T2:List Row} {K:List Atm} {u:Nat} (x:KindAt made T K u) (k:Mk σ τ T D made) (hm:∀ p∈made,p∈made2) (p:T <+: T2):KindAt made2 T2 K u :=
 fun x0 x1 l R A=>(x x0 x1 l R (A.back k hm p)).mono p
theorem fresh_spec {N:Atm→Prop} {kk c k:Nat} {lit:List (Str×List Atm)} {fr:Bool} (hD:D.Ok) (B:Bst σ0 σ ω τ D tn made T (b+(4 * (3 * c+1)+1)) s) (L:LitD σ0 k lit) (X:∀ p∈lit,∀ x∈p.2,x∉[Atm.p0,.p1,.p2,.p3]∧AtSpec σ0 ω τ D tn s N kk c x) (h10:10≤kk:=by fail "h") :
  Does (kk+2) (rc 139) [.loc ω,.loc (τ+11),.loc k,.bool fr] σ (AtPost σ0 σ ω τ D tn made T b s N fun v made' T'=>Ex2 fun (t:Nat) (ps:List Prp)=>C4 (v=.int t) (T'[t]?=some (.obj ps none none (if fr then 1 else 0))) (∀ q∈ps,okName q.name) (∀ x0 x1 l,RowsOK x0 x1 l→Agrees made' T' x0 x1 l→LitR x0 x1 l T' t (if fr then 1 else 0) (sortP lit))):=by
 have L0:=L.ext B.ext
 have keys:(strD kindV lit).map (·.1)=lit.map fun p=>V.str p.1:=by unfold strD;rw [List.map_map];rfl
 have l1:=loopD_d L0.at_ (strD_loop kindV lit)
 rw [keys] at l1
 have X':id _:=X
 clear X
 refine enterG fun Q' hQ=>?_
 fail "r"
 refine comp_rlR (fun r done σ'=>Ex3 fun (ps:List Prp) (made':List (Atm×Nat)) (T':List Row)=>C8 (∀ p∈r,p∈lit) (done=ps.map encP) (ps.map (·.name)++r.map (·.1)=lit.map (·.1)) (Bst σ0 σ' ω τ D tn made' T' (b+1+(3 * c+1) * r.length) s) ((∀ p∈made,p∈made')∧∀ p∈made',p∈made∨N p.1) (T <+: T') (Keep τ σ σ') (∀ q∈ps,∃ K,(q.name,K)∈lit∧KindAt made' T' K q.kind)) ?_ ?_ ?_
 ·rintro P hC R hR y r done σ' ⟨ps,made',T',hr,rfl,hu,B',p1,p2,p3,p4⟩
  have hy:=hr y (.head _)
  have hr:∀ p∈r,p∈lit:=fun q h=>hr q (.tail _ h)
  rw [show b+1+(3 * c+1) * (y::r).length=b+1+(3 * c+1) * r.length+(3 * c+1) from (Nat.add_assoc _ _ _).symm] at B'
  have L1:=L.ext B'.ext
  have g1:subV σ' (.loc k) (.str y.1)=some (.lst (nmV y.2)):=sub_str L1.at_ (by rw [lookup_nd L1.nd hy];rfl)
  have X:=X' y hy
  have ks:=kind_spec hD B' (.inr (L.own y hy).1) (fun x hx=>(X x hx).1) fun x hx=>(X x hx).2
  clear X X' hQ
  fail "r"
  refine Does.goP ks ?_
  rintro R hR v2 σ2 ⟨made2,T2,B2,q1,q2,q3,u,hv,q4⟩
  cases hv
  have sm:=same_dict (L.ext B2.ext).at_ (strD_loop kindV lit)
  rw [keys] at sm
  clear ks keys
  fail "r"
  refine hC sm ⟨ps++[⟨y.1,u,0⟩],made2,T2,hr,by rw [List.map_append];rfl,by rw [List.map_append,List.append_assoc];exact hu,B2,⟨fun p hp=>q1.1 p (p1.1 p hp),fun p hp=>(q1.2 p hp).elim (p1.2 p) .inr⟩,p2.trans q2,p3.trans q3,fun q hq=>?_⟩
  rcases List.mem_append.mp hq with hq | hq
  ·obtain ⟨K,hK,e⟩:=p4 q hq
   exact ⟨K,hK,e.up B'.mkd q1.1 q2⟩
  ·rw [List.mem_singleton.mp hq];exact ⟨y.2,hy,q4⟩
 ·refine ⟨[],made,T,fun I h=>h,rfl,rfl,B.less ?_,⟨fun I h=>h,fun I h=>.inl h⟩,List.prefix_refl _,Keep.refl _ _,fun I q=>nomatch q⟩
  have:(3 * c+1) * lit.length≤(3 * c+1) * 4:=Nat.mul_le_mul_left _ L.len
  fail "a"
 ·rintro R hR vs σ2 ⟨ps,made',T',_,rfl,hu,B',p1,p2,p3,p4⟩
  rw [List.map_nil,List.append_nil] at hu
  replace B':=B'.less (b':=b+1) (Nat.le_add_right _ _)
  have g1:=(B'.flds).1
  have hn:(ps.map (·.name)).Nodup:=by rw [hu];exact L.nd
  have hl:ps.length < 64:=by have:=L.len;rw [← List.length_map (·.name),hu,List.length_map];fail "a"
  have ob:=fun f=>obj_type_spec (s:=none) (d:=none) (f:=f) B'.tab (.inl rfl) hn hl
  have fin:∀ (v3:V) (σ3:St),TPost τ σ2 T' b (fun v T'=>∃ t:Nat,v=.int t∧T'[t]?=some (.obj (sortQ ps) none none (if fr then 1 else 0))) (v3,σ3)→Q' (v3,σ3):=by
   rintro v3 σ3 ⟨T3,q1,q2,q3,t,rfl,q4⟩
   have mem:∀ q∈sortQ ps,q∈ps:=fun q hq=>(sortQ_perm ps).mem_iff.mp hq
   have hok:∀ q∈sortQ ps,okName q.name:=fun q hq=>by
    obtain ⟨K,hK,_⟩:=p4 q (mem q hq)
    exact (L.own _ hK).2
   refine hQ _ ⟨made',T3,B'.fix q3 q1 q2,p1,p2.trans q1,p3.trans q3.keep,t,sortQ ps,rfl,q4,hok,fun x0 x1 l R A=>?_⟩
   have kp:∀ q∈ps,KR T3 q.kind (((lit.lookup q.name).getD []).map (rowF x0 x1 l))∧(lit.lookup q.name).getD []∈OK11:=fun q hq=>by
    obtain ⟨K,hK,e⟩:=p4 q hq
    rw [show lit.lookup q.name=some K from lookup_nd (q:=(q.name,K)) L.nd hK]
    exact ⟨(e.up B'.mkd (fun I h=>h) q1) x0 x1 l R A,(L.own _ hK).1⟩
   refine ⟨sortQ ps,fun nm=>((lit.lookup nm).getD []).map (rowF x0 x1 l),q4,⟨fun q hq=>?_⟩,?_,fun p hp=>?_⟩
   ·obtain ⟨a,c⟩:=kp q (mem q hq)
    refine ⟨hok q hq,a,by rw [List.length_map];exact (own_ne _ c).2,fun r hr=>?_⟩
    obtain ⟨x,hx,rfl⟩:=List.mem_map.mp hr
    exact own_nf R ((ok_own _ c).2 x hx)
   ·have e1:(sortQ ps).map (·.name)=(sortP (namedP ps)).map (·.1):=by
     unfold sortQ
     rw [List.map_map]
     refine List.map_congr_left fun q hq=>?_
     have:=(sortP_perm (namedP ps)).mem_iff.mp hq
     unfold namedP at this
     obtain ⟨p,_,rfl⟩:=List.mem_map.mp this
     rfl
    rw [e1,sortP_names,sortP_names,namedP_names,hu]
   ·have hp:=(sortP_perm lit).mem_iff.mp hp
    refine ⟨(L.own p hp).1,(L.own p hp).2,?_⟩
    dsimp only
    rw [lookup_nd L.nd hp];rfl
  clear X' p4 hn hl keys hQ hu
  cases fr with
  | true =>
   have ob:=ob 1
   fail "r"
   refine Does.goC ob fun v3 σ3 hq=>?_
   exact Mine.fin (fin v3 σ3 hq)
  | false =>
   have ob:=ob 0
   fail "r"
   refine Does.goC ob fun v3 σ3 hq=>?_
   exact Mine.fin (fin v3 σ3 hq)
end
section
variable {n m ω τ b:Nat} {σ0 σ σ':St} {T:List Row} {v:V} {D:LW} {made:List (Atm×Nat)} {tn:Bool} {s:Int}
theorem own_fix:∀ K∈OK11,∀ x∈K,x∈fixA∨x=.lit:=by decide +kernel
theorem fix_noP:∀ x∈fixA,x∉[Atm.p0,.p1,.p2,.p3]:=by decide +kernel
theorem made_lit (hD:D.Ok):MadeSpec σ0 ω τ D tn s (·∈fixA) 14 17 .lit:=by
 intro σ made T b B hm
 obtain ⟨ωi,ωl,e1,e2,_⟩:=B.w.flds
 have W:=B.w.ext B.ext
 obtain ⟨ωi',ωl',f1,f2,f3,_⟩:=W.flds
 have Li:LitD σ0 ωi' D.inner:=by
  have:ωi'=ωi:=by
   obtain ⟨ωo5,ωi5,ωg5,ωl5,a5,_⟩:=B.w.ex
   have q1:subV σ0 (.loc ω) (.str "inner")=some (.loc ωi5):=sub_str a5 rfl
   have q2:subV σ (.loc ω) (.str "inner")=some (.loc ωi5):=sub_str (B.ext.at a5) rfl
   rw [e1] at q1;rw [f1] at q2
   rw [V.loc.inj (Option.some.inj q1),V.loc.inj (Option.some.inj q2)]
  rw [this]
  exact ⟨e2,hD.ownI,hD.ndI,by have:=hD.lenI;fail "a"⟩
 have hf:=fresh_spec (c:=1) (fr:=D.fresh) hD B Li (fun p hp x hx=>by
  have hx':x∈fixA:=(own_fix _ (hD.ownI p hp).1 x hx).resolve_right fun h=>by
   rw [h] at hx;exact hD.nolit p hp hx
  exact ⟨fix_noP x hx',at_fix hD hx'⟩)
 have e0:(Atm.lit.name==Str.ofString "L")=true:=by rfl
 clear e1 e2 Li
 refine enterG fun Q' hQ=>?_
 fail "r"
 refine Does.goP hf ?_
 rintro R hR v3 σ3 ⟨made',T',B',⟨p0,p1⟩,p2,p3,t,ps,hv,p4,p5,p6⟩
 cases hv
 have hm':Atm.lit∉made'.map (·.1):=fun q=>by
  obtain ⟨p,hp,e⟩:=List.mem_map.mp q
  rcases p1 p hp with h | h
  ·exact hm (List.mem_map.mpr ⟨p,h,e⟩)
  ·rw [e] at h;exact absurd h (by decide)
 have hh:D.has .lit=false:=Bool.eq_false_iff.mpr fun q=>absurd (hD.has _ q) (by decide)
 have k:=B'.mkd.add (x:=.lit) (i:=t) hm' (fun q=>absurd q (by decide)) (.inr (.inl rfl)) (fun q=>by rw [hh] at q;cases q) (fun q=>by rw [hh] at q;cases q) (fun I x0 x1 l R A=>p6 x0 x1 l R A.left) (fun I=>⟨ps,_,p4,p5⟩)
 have ap:∀ p∈made',p.1∈[Atm.p0,.p1,.p2,.p3]→p.2≠t:=B'.mkd.apart hD (fun a ha ⟨ps',s',d',e,⟨q,hq,e'⟩,_⟩=>by
  rw [p4] at e
  have:ps=ps':=(Row.obj.inj (Option.some.inj e)).1
  rw [← this] at hq
  have:=p5 q hq
  rw [e'] at this;exact zname_not ha this) (fun d e=>by rw [p4] at e;cases e)
 refine hR ?_
 exact fin (hQ _ ⟨made',T',t,rfl,B',⟨p0,p1⟩,p2,p3,hm',k,fun p hp hP=>ap p hp (hP.elim id fun q=>absurd q (by decide))⟩)
theorem at_lit (hD:D.Ok):AtSpec σ0 ω τ D tn s (fun a=>a∈fixA∨a=.lit) 15 17 .lit:=by
 refine at_spec (.inr rfl) ?_
 intro σ made T b B hm
 refine Does.mono (made_lit hD σ made T b B hm) ?_
 rintro ⟨v,σ2⟩ ⟨made',T',i,a1,a2,⟨a3,a4⟩,a5,a6,a7,a8,a9⟩
 exact ⟨made',T',i,a1,a2,⟨a3,fun p hp=>(a4 p hp).imp id .inl⟩,a5,a6,a7,a8,a9⟩
end
theorem find_nd {ps:List Prp} (hn:(ps.map (·.name)).Nodup) {p:Prp} (hp:p∈ps):ps.find? (fun q=>q.name==p.name)=some p:=by
 induction ps with
 | nil=>cases hp
 | cons q l ih =>
  rw [List.map_cons,List.nodup_cons] at hn
  rw [List.find?_cons]
  rcases List.mem_cons.mp hp with e | hp'
  ·subst e;rw [beq_self_eq_true]
  ·have:q.name≠p.name:=fun e=>hn.1 (by rw [e];exact List.mem_map.mpr ⟨p,hp',rfl⟩)
   rw [show (q.name==p.name)=false by simpa using this];exact ih hn.2 hp'
theorem find_none {ps:List Prp} {nm:Str} (h:∀ p∈ps,p.name≠nm):ps.find? (fun q=>q.name==nm)=none:=by
 rw [List.find?_eq_none];intro p hp;simpa using h p hp
theorem isNum_ok {nm:Str} (h:okName nm):isNum nm=true↔nm = "0" := by
 rcases h with rfl | rfl | rfl | rfl<;>decide +kernel
theorem shape_rd {x0 x1 l:Row} (R:RowsOK x0 x1 l) {T:List Row} {ps:List Prp} {s d:Option Nat} {o:O} (ho:o.Ok) (hn:(ps.map (·.name)).Nodup) {nm:Str} (hok:okName nm)
  (hm:match o.mem.lookup nm with | some (K,f)=>∃ p∈ps,p.name=nm∧p.flag=(if f then 1 else 0)∧KR T p.kind (K.map (rowF x0 x1 l)) | none=>∀ p∈ps,p.name≠nm)
  (hs:match o.texts with | some K=>∃ u,s=some u∧KR T u (K.map (rowF x0 x1 l)) | none=>s=none)
  (hd:match o.digits with | some K=>∃ u,d=some u∧KR T u (K.map (rowF x0 x1 l)) | none=>d=none) :
  RdOK T (sortQ ps) s d nm ((o.raw nm).map fun K=>K.map (rowF x0 x1 l)):=by
 have hn':((sortQ ps).map (·.name)).Nodup:=(((sortQ_perm ps).map (·.name)).nodup_iff).mpr hn
 unfold RdOK O.raw
 cases hl:o.mem.lookup nm with
 | some q =>
  obtain ⟨K,f⟩:=q
  rw [hl] at hm
  obtain ⟨p,hp,rfl,e2,e3⟩:=hm
  rw [find_nd hn' ((sortQ_perm ps).mem_iff.mpr hp)]
  have hK:K∈GK16:=ho.mem _ (lookup_mem' hl)
  refine ⟨_,e3,nice_row R hK,by rw [e2];cases f<;>decide,?_⟩
  rw [e2]
  show some _=some _
  rw [opt_row R hK]
 | none =>
  rw [hl] at hm
  rw [find_none fun p hp=>hm p ((sortQ_perm ps).mem_iff.mp hp)]
  dsimp only
  by_cases h0:nm = "0"
  ·have hi:=(isNum_ok hok).mpr h0
   cases hd':o.digits with
   | some K =>
    rw [hd'] at hd
    obtain ⟨u,rfl,ku⟩:=hd
    rw [if_pos ⟨hi,by simp⟩,if_pos ⟨h0,rfl⟩]
    exact ⟨_,ku,nice_row R (ho.digits K hd'),rfl⟩
   | none =>
    rw [hd'] at hd
    subst hd
    rw [if_neg (fun q=>q.2 rfl),if_neg (fun q=>by cases q.2)]
    cases ht:o.texts with
    | none=>rw [ht] at hs;subst hs;rfl
    | some K =>
     rw [ht] at hs
     obtain ⟨u,rfl,ku⟩:=hs
     exact ⟨_,ku,nice_row R (ho.texts K ht),rfl⟩
  ·rw [if_neg (fun q=>h0 ((isNum_ok hok).mp q.1)),if_neg (fun q=>h0 q.1)]
   cases ht:o.texts with
   | none=>rw [ht] at hs;subst hs;rfl
   | some K =>
    rw [ht] at hs
    obtain ⟨u,rfl,ku⟩:=hs
    exact ⟨_,ku,nice_row R (ho.texts K ht),rfl⟩
section
variable {n m ω τ b:Nat} {σ0 σ σ':St} {T:List Row} {v:V} {D:LW} {made:List (Atm×Nat)} {tn:Bool} {s:Int}
theorem z_name {x:Atm} (hx:x∈objA):binV σ .Add (.str (Str.ofString "z")) (.str x.name)=some (.str (zname x)):=by
 cases x<;>first | exact absurd hx (by decide) | kernel_rfl
theorem DeclAt.setl {d u k:Nat} {l l':List V} (x:DeclAt σ τ d u) (hk:σ[k]?=some (.list l)) (h3:k≠τ+3):DeclAt (σ.set k (.list l')) τ d u:=by
 obtain ⟨D,dl,fs,h1,h2,h3',h4,h5,h6⟩:=x.ex
 exact ⟨D,dl,fs,set_other h1 (Ne.symm h3),h2,h3',set_other h4 (by rintro rfl;rw [hk] at h4;cases h4),h5,h6⟩
theorem ObjAt.setl {t k:Nat} {rd} {l l':List V} (x:ObjAt σ τ T t rd) (hk:σ[k]?=some (.list l)) (h3:k≠τ+3):ObjAt (σ.set k (.list l')) τ T t rd:=by
 obtain ⟨u,ps,s,d,f,a,r⟩:=x.ex
 refine ⟨u,ps,s,d,f,?_,r⟩
 rcases a with a | ⟨d',a,c,e⟩
 ·exact .inl a
 ·exact .inr ⟨d',a,c.setl hk h3,e⟩
theorem Mk.setl {k:Nat} {l l':List V} (x:Mk σ τ T D made) (hk:σ[k]?=some (.list l)) (h3:k≠τ+3):Mk (σ.set k (.list l')) τ T D made :=
 ⟨x.fix,x.cls,x.mark,fun p hp hh x0 x1 l R A=>(x.obj p hp hh x0 x1 l R A).setl hk h3,x.lit,x.litm,x.nd⟩
theorem Bst.setl {k:Nat} {l l':List V} (B:Bst σ0 σ ω τ D tn made T b s) (hk:σ[k]?=some (.list l)) (h:τ+12≤k):Bst σ0 (σ.set k (.list l')) ω τ D tn made T b s:=by
 have hl:=B.len
 obtain ⟨es,n1,n2⟩:=B.names
 exact ⟨B.ext.set (by fail "a") _,B.len,B.w,B.tab.set (by fail "a"),set_other B.v (by fail "a"),set_other B.mdd (by fail "a"),⟨es,set_other n1 (by fail "a"),n2⟩,B.mkd.setl hk (by fail "a"),(by obtain ⟨l,a,c⟩:=B.dec;exact ⟨l,set_other a (by fail "a"),c⟩)⟩
noncomputable def MemAt (made:List (Atm×Nat)) (T:List Row) (o:O) (ps:List Prp) (nm:Str):Prop :=
 match o.mem.lookup nm with
 | some (K,f)=>∃ p∈ps,p.name=nm∧p.flag=(if f then 1 else 0)∧KindAt made T K p.kind
 | none=>∀ p∈ps,p.name≠nm
set_option tactic.hygienic true in
theorem MemAt.up {made2:List (Atm×Nat)} {T2:List Row} {o:O} {ps:List Prp} {nm:Str} (x:MemAt made T o ps nm) (k:Mk σ τ T D made) (hm:∀ p∈made,p∈made2) (q:T <+: T2) {more:List Prp} (hq:∀ p∈more,p.name≠nm):MemAt made2 T2 o (ps++more) nm:=by
 unfold MemAt at *
 split
 ·rename_i K f hl;rw [hl] at x
  obtain ⟨p,hp,a,c,e⟩:=x
  exact ⟨p,List.mem_append_left _ hp,a,c,e.up k hm q⟩
 ·rename_i hl;rw [hl] at x
  intro p hp
  rcases List.mem_append.mp hp with h | h
  ·exact x p h
  ·exact hq p h
noncomputable def CellAt (made:List (Atm×Nat)) (T:List Row) (K:Option (List Atm)) (u:Option Nat):Prop :=
 match K with
 | some K=>∃ i,u=some i∧KindAt made T K i
 | none=>u=none
theorem CellAt.up {made2:List (Atm×Nat)} {T2:List Row} {K:Option (List Atm)} {u:Option Nat} (x:CellAt made T K u) (k:Mk σ τ T D made) (hm:∀ p∈made,p∈made2) (q:T <+: T2):CellAt made2 T2 K u:=by
 unfold CellAt at *
 cases K with
 | none=>exact x
 | some K=>obtain ⟨i,a,c⟩:=x;exact ⟨i,a,c.up k hm q⟩
noncomputable def KUse (o:O) (K:List Atm):Prop:=(∃ nm f,(nm,K,f)∈o.mem)∨o.texts=some K∨o.digits=some K
noncomputable def keysL (tn:Bool):List Str:=if tn then ["0", "k", "p", "q"] else ["q", "p", "k", "0"]
theorem keys_ok (tn:Bool):∀ nm∈keysL tn,okName nm:=by
 intro nm h
 cases tn<;>(simp [keysL] at h;rcases h with rfl | rfl | rfl | rfl)<;>simp [okName]
theorem keys_all (tn:Bool):∀ nm,okName nm→nm∈keysL tn:=by
 intro nm h
 rcases h with rfl | rfl | rfl | rfl<;>cases tn<;>simp [keysL]
theorem keys_nd (tn:Bool):(keysL tn).Nodup:=by cases tn<;>decide +kernel
inductive ShapeAt' (made:List (Atm×Nat)) (T:List Row) (x:Atm) (o:O) (v:V):Prop
 | mk (t:Nat) (ps:List Prp) (sx dx:Option Nat) (e:v=.int (t:Nat)) (row:T[t]?=some (.obj (sortQ ps) sx dx 0)) (z:∃ q∈ps,q.name=zname x) (ok:∀ q∈ps,q.name=zname x∨okName q.name) (nd:(ps.map (·.name)).Nodup)
  (mem:∀ nm,okName nm→MemAt made T o ps nm) (tx:CellAt made T o.texts sx) (dg:CellAt made T o.digits dx)
noncomputable def cellsO (o:O):List (Str×Option (List Atm)):=[("texts",o.texts),("digits",o.digits)]
theorem OAt.cell {k:Nat} {o:O} (h:OAt σ k o):∀ p∈cellsO o,subV σ (.loc k) (.str p.1)=some (kV p.2):=by
 obtain ⟨km,a0,a1,a2,a3⟩:=h.fields
 intro p hp
 rcases List.mem_cons.mp hp with rfl | hp
 ·exact a2
 ·rw [List.mem_singleton.mp hp];exact a3
theorem shape_spec {N:Atm→Prop} {kk c:Nat} {x:Atm} (hD:D.Ok) (hx:D.has x=true) (B:Bst σ0 σ ω τ D tn made T (b+(6 * (3 * c+1)+1)) s) (X:∀ K∈GK16,KUse (D.ob x) K→∀ y∈K,y∉[Atm.p0,.p1,.p2,.p3]∧AtSpec σ0 ω τ D tn s N kk c y) (h10:10≤kk:=by fail "h") :
  Does (kk+2) (rc 138) [.loc ω,.loc (τ+11),.str x.name] σ (AtPost σ0 σ ω τ D tn made T b s N fun v made' T'=>ShapeAt' made' T' x (D.ob x) v):=by
 obtain ⟨f1,f2,f3,f4,f5⟩:=B.flds
 have W:=B.w.ext B.ext
 obtain ⟨ωo,w1,w2,w3⟩:=W.objs
 have w3:=w3 x hx
 have oy0:=B.w.obs x hx
 have zn:=z_name (σ:=σ) (hD.has x hx)
 have kx:=fun (K:List Atm) (hK:K∈GK16) hu {σ3 made3 T3 b3} (B3:Bst σ0 σ3 ω τ D tn made3 T3 (b3+(3 * c+1)) s)=>kind_spec hD B3 (.inl hK) (fun z hz=>(X K hK hu z hz).1) fun z hz=>(X K hK hu z hz).2
 clear X w2
 have B1:Bst σ0 (σ++[.list ([⟨zname x,6,1⟩].map encP)]) ω τ D tn made T (b+(6 * (3 * c+1)+1)) s:=B.fix ((Ext.push _ _).fix τ) (List.prefix_refl _) (B.tab.ext (Ext.push _ _))
 have g4:subV (σ++[.list [.tup [.str (zname x),.int 6,.int 1,.int 0]]]) (.loc (τ+11)) (.str (Str.ofString "turned"))=some (.bool tn):=B1.flds.2.2.2.1
 refine enterG fun Q' hQ=>?_
 fail "r"
 refine sel_joinR (fun q=>q=(.tup ((keysL tn).map V.str),σ++[.list [.tup [.str (zname x),.int 6,.int 1,.int 0]]])) (fun hb=>?_) (fun hb=>?_) ?_
 ·cases hb
  clear hQ
  fail "r"
 ·cases hb
  clear hQ
  fail "r"
 rintro R hR v1 σ1 hq
 cases hq
 have h12:τ+12≤σ.length:=(List.getElem?_eq_some_iff.mp B.v).1
 have kok:=keys_ok tn
 have knd:=keys_nd tn
 have kall:=keys_all tn
 have klen:(keysL tn).length=4:=by cases tn<;>rfl
 generalize keysL tn=KL at *
 clear f1 f2 f3 f4 f5 g4 w1 w3 zn B
 fail "r"
 refine for_mapR (rc 138).sc (fun I=>none) [("w",.loc ω),("v",.loc (τ+11)),("one",.loc (D.at x)),("rows",.loc σ.length)] (fun r I σ'=>Ex4 fun (pre:List Str) (ps:List Prp) (made':List (Atm×Nat)) (T':List Row)=>C11 (pre++r=KL) (Bst σ0 σ' ω τ D tn made' T' (b+2 * (3 * c+1)+1+(3 * c+1) * r.length) s) ((∀ p∈made,p∈made')∧∀ p∈made',p∈made∨N p.1) (T <+: T') (Keep τ σ σ') (σ'[σ.length]?=some (.list (ps.map encP))) (ps.length≤1+pre.length)
   (∃ q∈ps,q.name=zname x) (∀ q∈ps,q.name=zname x∨q.name∈pre) ((ps.map (·.name)).Nodup) (∀ nm∈pre,MemAt made' T' (D.ob x) ps nm)) ?_ ?_ _ _ _ rfl ?_
 ·rintro P hP R hR y r vars σ' ⟨pre,ps,made',T',hS,B',⟨p0,p1⟩,p2,p3,hg,hl,z1,z2,z3,hM⟩
  have hy:okName y:=kok y (by rw [← hS];exact List.mem_append_right _ (.head _))
  have hyp:y∉pre:=fun q=>by
   rw [← hS,List.nodup_append] at knd
   exact knd.2.2 _ q _ (.head _) rfl
  have hpl:pre.length≤3:=by rw [← hS,List.length_append,List.length_cons] at klen;fail "a"
  have hS:(pre++[y])++r=KL:=by rw [List.append_assoc];exact hS
  have hyn:∀ p∈ps,p.name≠y:=fun p hp e=>by
   rcases z2 p hp with h | h
   ·exact zname_not (hD.has x hx) (by rw [← h,e];exact hy)
   ·exact hyp (e▸h)
  rw [show b+2 * (3 * c+1)+1+(3 * c+1) * (y::r).length=b+2 * (3 * c+1)+1+(3 * c+1) * r.length+(3 * c+1) from (Nat.add_assoc _ _ _).symm] at B'
  obtain ⟨km,a0,a1,_⟩:=(oy0.ext B'.ext).fields
  have i1:=in_str (nm:=y) a0
  cases hlk:(D.ob x).mem.lookup y with
  | none =>
   rw [hlk] at i1
   replace i1:inV σ' (.str y) (.loc km)=some false:=i1
   have fin:∀ vs,Has vs [("w",.loc ω),("v",.loc (τ+11)),("one",.loc (D.at x)),("rows",.loc σ.length)]→P r ⟨(rc 138).sc,vs,fun I=>none⟩ σ':=fun vs hv =>
    hP (same_tup _) ⟨pre++[y],ps,made',T',hS,B'.less (Nat.le_add_right _ _),⟨p0,p1⟩,p2,p3,hg,by rw [List.length_append];fail "a",z1,fun q hq=>(z2 q hq).imp id (List.mem_append_left _),z3,fun nm hn=>by
     rcases List.mem_append.mp hn with hn | hn
     ·exact hM nm hn
     ·rw [List.mem_singleton.mp hn];unfold MemAt;rw [hlk];exact hyn⟩ rfl hv
   clear hM z1 z2 z3 p0 p1 hyn hl hg kok kall hS knd klen B1 hP hQ kx
   fail "r"
   exact fin _ rfl
  | some q =>
   obtain ⟨K,f⟩:=q
   rw [hlk] at i1
   replace i1:inV σ' (.str y) (.loc km)=some true:=i1
   have hK:K∈GK16:=oy0.ok.mem _ (lookup_mem' hlk)
   have s1:subV σ' (.loc km) (.str y)=some (.tup [.lst (nmV K),.bool f]):=sub_str a0 (by rw [hlk];rfl)
   have ks:=kx K hK (.inl ⟨y,f,lookup_mem' hlk⟩) B'
   have fin:∀ {v2 σ2},AtPost σ0 σ' ω τ D tn made' T' (b+2 * (3 * c+1)+1+(3 * c+1) * r.length) s N (fun v made' T'=>KindPost D K v made' T') (v2,σ2) →
     C3 (σ2[σ.length]?=some (.list (ps.map encP))) (decide ((ps.map encP).length < cap)=true) (∀ vs,Has vs [("w",.loc ω),("v",.loc (τ+11)),("one",.loc (D.at x)),("rows",.loc σ.length)]→P r ⟨(rc 138).sc,vs,fun I=>none⟩ (σ2.set σ.length (.list (ps.map encP++[.tup [.str y,v2,.int (if f then 1 else 0),.int 0]])))):=by
    rintro v2 σ2 ⟨made2,T2,B2,⟨q0,q1⟩,q2,q3,u,hu,q4⟩
    cases hu
    have hg2:=q3.at h12 hg
    obtain ⟨p',hp'⟩:∃ p':Prp,p'=⟨y,u,if f then 1 else 0⟩:=⟨_,rfl⟩
    have app:ps.map encP++[.tup [.str y,.int (u:Nat),.int (if f then 1 else 0),.int 0]]=(ps++[p']).map encP:=by rw [List.map_append,hp'];cases f<;>rfl
    have py:p'.name=y:=by rw [hp']
    have last:∀ {q},q∈ps++[p']→q∈ps∨q=p':=fun h=>(List.mem_append.mp h).imp id List.mem_singleton.mp
    refine ⟨hg2,decide_eq_true (by rw [List.length_map];unfold cap;fail "a"),fun vs hv=>?_⟩
    show P r _ (σ2.set σ.length (.list (ps.map encP++[.tup [.str y,.int (u:Nat),.int (if f then 1 else 0),.int 0]])))
    rw [app]
    have k2:=p3.trans q3
    refine hP (same_tup _) ⟨pre++[y],ps++[p'],made2,T2,hS,B2.setl hg2 h12,⟨fun p hp=>q0 p (p0 p hp),fun p hp=>(q1 p hp).elim (p1 p) .inr⟩,p2.trans q2,⟨fun k h1 h2=>by rw [List.getElem?_set_ne (by fail "a")];exact k2.low k h1 h2,by rw [List.length_set];exact k2.len,fun l h=>(by obtain ⟨l',a,c⟩:=k2.dec l h;exact ⟨l',set_other a (by fail "a"),c⟩)⟩,set_self hg2,?_,?_,?_,?_,?_⟩ rfl hv
    ·rw [List.length_append,List.length_append];exact Nat.add_le_add_right hl 1
    ·obtain ⟨q,hq,e⟩:=z1;exact ⟨q,List.mem_append_left _ hq,e⟩
    ·intro q hq
     rcases last hq with h | rfl
     ·exact (z2 q h).imp id (List.mem_append_left _)
     ·rw [py];exact .inr (List.mem_append_right _ (.head _))
    ·rw [List.map_append,List.nodup_append]
     exact ⟨z3,List.pairwise_singleton _ _,fun a ha c hc e=>by
      rw [List.mem_singleton.mp hc] at e
      obtain ⟨p,hp,rfl⟩:=List.mem_map.mp ha
      exact hyn p hp (e.trans py)⟩
    ·intro nm hn
     rcases List.mem_append.mp hn with hn | hn
     ·exact (hM nm hn).up B'.mkd q0 q2 fun p hp e=>by rw [List.mem_singleton.mp hp,py] at e;exact hyp (e▸hn)
     ·rw [List.mem_singleton.mp hn]
      unfold MemAt;rw [hlk]
      exact ⟨p',List.mem_append_right _ (.head _),py,by rw [hp'],by rw [hp'];exact q4⟩
   clear kok kall klen knd hM hyn hlk B1 z2 z1 z3 hP hQ p0 p1 B' kx hS hyp hl
   fail "r"
   refine Does.goC ks fun v2 σ2 hq=>?_
   obtain ⟨e1,e2,e3⟩:=fin hq
   clear ks hq fin
   fail "r"
   refine sel_k ?_
   fail "r"
   exact e3 _ rfl
 ·rintro R hR vars σ' ⟨pre,ps,made',T',hS,B',⟨p0,p1⟩,p2,p3,hg,hl,z1,z2,z3,hM⟩
  rw [List.append_nil] at hS
  cases hS
  clear B1
  refine hR ?_
  clear hR
  fail "q"
  refine comp_rlR (enc:=fun p:Str×Option (List Atm)=>V.str p.1) (l:=cellsO (D.ob x)) (fun r done σ3=>Ex4 fun (pre:List (Str×Option (List Atm))) (us:List (Option Nat)) (made3:List (Atm×Nat)) (T3:List Row)=>C8 (pre++r=cellsO (D.ob x)) (done=us.map encO) (us.length=pre.length) (∀ q∈pre.zip us,CellAt made3 T3 q.1.2 q.2) (Bst σ0 σ3 ω τ D tn made3 T3 (b+1+(3 * c+1) * r.length) s) ((∀ p∈made',p∈made3)∧∀ p∈made3,p∈made'∨N p.1) (T' <+: T3) (Keep τ σ' σ3)) ?_ ?_ ?_
  ·rintro P hC R hR y r done σ3 ⟨pre,us,made3,T3,hr,rfl,hu,hc,B3,p1,p2,p3⟩
   have hy:y∈cellsO (D.ob x):=by rw [← hr];exact List.mem_append_right _ (.head _)
   have hr:(pre++[y])++r=cellsO (D.ob x):=by rw [List.append_assoc];exact hr
   have o1:=(oy0.ext B3.ext).cell y hy
   rw [show b+1+(3 * c+1) * (y::r).length=b+1+(3 * c+1) * r.length+(3 * c+1) from (Nat.add_assoc _ _ _).symm] at B3
   have zl:∀ {u:Option Nat} {q},q∈(pre++[y]).zip (us++[u])→q∈pre.zip us∨q=(y,u):=fun {u q} h=>by
    rw [List.zip_append hu.symm] at h
    exact (List.mem_append.mp h).imp id List.mem_singleton.mp
   cases hk:y.2 with
   | none =>
    rw [hk] at o1
    have c1:cmpV σ3 .Is .none .none=some true:=rfl
    have o1:subV σ3 (.loc (D.at x)) (.str y.1)=some .none:=o1
    clear kx hQ hM z1 z2 z3 hg hl
    fail "r"
    refine hC (same_tup _) ⟨pre++[y],us++[none],made3,T3,hr,by rw [List.map_append];rfl,by rw [List.length_append,List.length_append,hu];rfl,fun q hq=>?_,B3.less (Nat.le_add_right _ _),p1,p2,p3⟩
    rcases zl hq with h | rfl
    ·exact hc q h
    ·show CellAt _ _ y.2 none;rw [hk];rfl
   | some K =>
    rw [hk] at o1
    have c1:cmpV σ3 .Is (.lst (nmV K)) .none=some false:=rfl
    have o1:subV σ3 (.loc (D.at x)) (.str y.1)=some (.lst (nmV K)):=o1
    have hK:K∈GK16∧KUse (D.ob x) K:=by
     rcases List.mem_cons.mp hy with rfl | hy
     ·exact ⟨oy0.ok.texts K hk,.inr (.inl hk)⟩
     ·rw [List.mem_singleton.mp hy] at hk;exact ⟨oy0.ok.digits K hk,.inr (.inr hk)⟩
    have ks:=kx K hK.1 hK.2 B3
    clear kx hQ hM z1 z2 z3 hg hl
    fail "r"
    refine Does.goP ks ?_
    rintro R hR v2 σ2 ⟨made2,T2,B2,⟨q0,q1⟩,q2,q3,u,e,q4⟩
    cases e
    clear ks
    fail "r"
    refine hC (same_tup _) ⟨pre++[y],us++[some u],made2,T2,hr,by rw [List.map_append];rfl,by rw [List.length_append,List.length_append,hu];rfl,fun q hq=>?_,B2,⟨fun p hp=>q0 p (p1.1 p hp),fun p hp=>(q1 p hp).elim (p1.2 p) .inr⟩,p2.trans q2,p3.trans q3⟩
    rcases zl hq with h | rfl
    ·exact (hc q h).up B3.mkd q0 q2
    ·show CellAt _ _ y.2 (some u);rw [hk];exact ⟨u,rfl,q4⟩
  ·exact ⟨[],[],made',T',rfl,rfl,rfl,fun I q=>(nomatch q),B'.less (by show b+1+(3 * c+1) * 2≤b+2 * (3 * c+1)+1+0;fail "a"),⟨fun I h=>h,fun I h=>.inl h⟩,List.prefix_refl _,Keep.refl _ _⟩
  ·rintro R hR vs σ3 ⟨pre',us,made3,T3,hr,rfl,hu,hc,B3,⟨q0,q1⟩,q2,q3⟩
   rw [List.append_nil] at hr
   cases hr
   obtain ⟨sx,dx,rfl⟩:∃ sx dx,us=[sx,dx]:=by
    match us,hu with
    | [sx,dx],_=>exact ⟨sx,dx,rfl⟩
   have B3:Bst σ0 σ3 ω τ D tn made3 T3 (b+1) s:=B3
   have tf:=B3.flds.1
   have u0:subV σ3 (.lst [encO sx,encO dx]) (.int 0)=some (encO sx):=rfl
   have u1:subV σ3 (.lst [encO sx,encO dx]) (.int 1)=some (encO dx):=rfl
   have ob:=obj_type_spec6 (ps:=ps) (s:=sx) (d:=dx) B3.tab (.inr ⟨_,rfl,q3.at h12 hg⟩) z3 (by fail "a")
   clear kx
   fail "r"
   refine Does.goI ob fun T4 t σ4 r1 r2 r3 r4=>?_
   refine fin (hQ _ ⟨made3,T4,B3.fix r3 r1 r2,⟨fun p hp=>q0 p (p0 p hp),fun p hp=>(q1 p hp).elim (p1 p) .inr⟩,p2.trans (q2.trans r1),(p3.trans q3).trans r3.keep,t,ps,sx,dx,rfl,r4,z1,fun q hq=>(z2 q hq).imp id (kok _),z3,fun nm hn=>?_,(hc (_,sx) (.head _)).up B3.mkd (fun I h=>h) r1,(hc (_,dx) (.tail _ (.head _))).up B3.mkd (fun I h=>h) r1⟩)
   have:=(hM nm (kall nm hn)).up B'.mkd q0 (q2.trans r1) (more:=[]) (fun I q=>nomatch q)
   rwa [List.append_nil] at this
 ·refine ⟨[],[⟨zname x,6,1⟩],made,T,rfl,B1.less (by rw [klen];fail "a"),⟨fun I h=>h,fun I h=>.inl h⟩,List.prefix_refl _,((Ext.push _ _).fix τ).keep,push_at _ _,Nat.le_refl _,⟨_,.head _,rfl⟩,fun q hq=>.inl (by rw [List.mem_singleton.mp hq]),List.pairwise_singleton _ _,fun I q=>nomatch q⟩
end
section
variable {n m ω τ b:Nat} {σ0 σ σ':St} {T:List Row} {v:V} {D:LW} {made:List (Atm×Nat)} {tn:Bool} {s:Int}
theorem fix_row {x:Atm} {i:Nat} {a:Atm} (ha:a∈fixA) (e:T[i]?=some (rowX a)) (hm:Marked T x i∨∃ d,T[i]?=some (.ref d)):False:=by
 have r1:=(fix_no a ha).2.2.2
 rcases hm with ⟨ps,s,d,e1,⟨q,hq,_⟩,_⟩ | ⟨d,e1⟩
 ·rw [e] at e1
  rw [Option.some.inj e1] at r1
  rw [List.isEmpty_iff.mp r1] at hq;cases hq
 ·rw [e] at e1
  rw [Option.some.inj e1] at r1;cases r1
theorem mark_uniq {x y:Atm} {i:Nat} (hx:x∈objA) (hy:y∈objA) (h:Marked T x i) (k:Marked T y i):x=y:=by
 obtain ⟨ps,s,d,e,⟨q,hq,e1⟩,_⟩:=h
 obtain ⟨ps',s',d',e',_,h'⟩:=k
 rw [e] at e'
 have:ps=ps':=(Row.obj.inj (Option.some.inj e')).1
 subst this
 rcases h' q hq with r | r
 ·exact zname_inj x hx y hy (e1.symm.trans r)
 ·rw [e1] at r;exact absurd r (zname_not hx)
theorem mk_apart {x:Atm} {i:Nat} (hD:D.Ok) (k:Mk σ τ T D made) (ho:x∈objA) (hn:x∉made.map (·.1)) (hm:Marked T x i∨(x=.p0∧∃ d,T[i]?=some (.ref d))):∀ p∈made,p.2≠i:=by
 intro p hp e
 subst e
 have hne:p.1≠x:=fun q=>hn (q▸List.mem_map.mpr ⟨p,hp,rfl⟩)
 rcases k.cls p hp with q | q | q
 ·exact fix_row q (k.fix p hp q) (hm.imp id (·.2))
 ·obtain ⟨ps,f,e1,h1⟩:=k.litm p.2 (by rw [← q];exact hp)
  rcases hm with ⟨ps',s',d',e2,⟨r,hr,e3⟩,_⟩ | ⟨_,d,e2⟩
  ·rw [e1] at e2
   have:ps=ps':=(Row.obj.inj (Option.some.inj e2)).1
   subst this
   have:=h1 r hr
   rw [e3] at this;exact zname_not ho this
  ·rw [e1] at e2;cases e2
 ·rcases k.mark p hp q with h | ⟨h,d,e1⟩
  ·rcases hm with h' | ⟨_,d,e2⟩
   ·exact hne (mark_uniq (hD.has _ q) ho h h')
   ·obtain ⟨_,_,_,e1,_⟩:=h
    rw [e1] at e2;cases e2
  ·rcases hm with ⟨_,_,_,e2,_⟩ | ⟨h',_⟩
   ·rw [e1] at e2;cases e2
   ·exact hne (h.trans h'.symm)
theorem sortQ_ne {ps:List Prp} {q:Prp} (h:q∈ps):sortQ ps≠[]:=fun e=>by
 have:=(sortQ_perm ps).mem_iff.mpr h
 rw [e] at this;cases this
structure ShpOK (made:List (Atm×Nat)) (T:List Row) (D:LW) (x:Atm) (ps:List Prp) (sx dx:Option Nat):Prop where
 z:∃ q∈ps,q.name=zname x
 ok:∀ q∈ps,q.name=zname x∨okName q.name
 nd:(ps.map (·.name)).Nodup
 mem:∀ nm,okName nm→MemAt made T (D.ob x) ps nm
 s:CellAt made T (D.ob x).texts sx
 d:CellAt made T (D.ob x).digits dx
set_option tactic.hygienic true in
theorem ShpOK.rd {ps:List Prp} {sx dx:Option Nat} {x:Atm} (h:ShpOK made T D x ps sx dx) (ho:(D.ob x).Ok) {x0 x1 l:Row} (R:RowsOK x0 x1 l) (A:Agrees made T x0 x1 l) (i:Nat):∀ nm,okName nm→RdOK T (sortQ ps) sx dx nm (rdF x0 x1 l (fun I=>D.ob x) i nm):=by
 intro nm hn
 refine shape_rd R ho h.nd hn ?_ ?_ ?_
 ·have:=h.mem nm hn
  unfold MemAt at this
  split
  ·rename_i K f e
   rw [e] at this
   obtain ⟨p,a,b,c,d⟩:=this
   exact ⟨p,a,b,c,d x0 x1 l R A⟩
  ·rename_i e
   rw [e] at this;exact this
 ·have:=h.s
  unfold CellAt at this
  cases e:(D.ob x).texts with
  | none=>rw [e] at this;exact this
  | some K=>rw [e] at this;obtain ⟨u,a,c⟩:=this;exact ⟨u,a,c x0 x1 l R A⟩
 ·have:=h.d
  unfold CellAt at this
  cases e:(D.ob x).digits with
  | none=>rw [e] at this;exact this
  | some K=>rw [e] at this;obtain ⟨u,a,c⟩:=this;exact ⟨u,a,c x0 x1 l R A⟩
theorem sort_marked {ps:List Prp} {sx dx:Option Nat} {x:Atm} {t:Nat} (h:ShpOK made T D x ps sx dx) (e:T[t]?=some (.obj (sortQ ps) sx dx 0)):Marked T x t :=
 ⟨_,_,_,e,(by obtain ⟨q,hq,e⟩:=h.z;exact ⟨q,(sortQ_perm ps).mem_iff.mpr hq,e⟩),fun q hq=>h.ok q ((sortQ_perm ps).mem_iff.mp hq)⟩
theorem obj_not_fix:∀ x∈objA,x∉fixA∧x≠.lit:=by decide +kernel
theorem made_obj {N:Atm→Prop} {kk c:Nat} {x:Atm} (hD:D.Ok) (hx:D.has x=true) (hd:x=.p0→D.declared=false) (hN:¬ N x) (X:∀ K∈GK16,KUse (D.ob x) K→∀ y∈K,y∉[Atm.p0,.p1,.p2,.p3]∧AtSpec σ0 ω τ D tn s N kk c y) (h10:10≤kk:=by fail "h"):MadeSpec σ0 ω τ D tn s N (kk+3) (6 * (3 * c+1)+1) x:=by
 intro σ made T b B hm
 obtain ⟨f1,f2,f3,f4,f5⟩:=B.flds
 have W:=B.w.ext B.ext
 obtain ⟨ωo,w1,w2,w3⟩:=W.objs
 have w2:=w2 x
 rw [hx] at w2
 obtain ⟨ωi,ωl,_,_,_,_,_,_,g1,_⟩:=W.flds
 have ho:=hD.has x hx
 have no:=obj_not_fix x ho
 have e0:(x.name==Str.ofString "L")=false:=(name_beq x .lit).trans (decide_eq_false no.2)
 have e1:(x.name==Str.ofString "P0")=decide (x=.p0):=name_beq x .p0
 have sp:=shape_spec hD hx B X
 refine enterG fun Q' hQ=>?_
 have fin:∀ q,AtPost σ0 σ ω τ D tn made T b s N (fun v made' T'=>ShapeAt' made' T' x (D.ob x) v) q→Q' q:=by
  rintro ⟨v,σ2⟩ ⟨made',T',B',⟨p0,p1⟩,p2,p3,t,ps,sx,dx,hv,p4,p5,p6,p7,p8,p9,p10⟩
  have S:ShpOK made' T' D x ps sx dx:=⟨p5,p6,p7,p8,p9,p10⟩
  have hm':x∉made'.map (·.1):=fun q=>by
   obtain ⟨p,hp,e⟩:=List.mem_map.mp q
   rcases p1 p hp with h | h
   ·exact hm (List.mem_map.mpr ⟨p,h,e⟩)
   ·rw [e] at h;exact hN h
  have M:=sort_marked S p4
  refine hQ _ ⟨made',T',t,hv,B',⟨p0,p1⟩,p2,p3,hm',?_,fun p hp I=>mk_apart hD B'.mkd ho hm' (.inl M) p hp⟩
  refine B'.mkd.add hm' (fun q=>absurd q no.1) (.inr (.inr hx)) (fun I=>.inl M) (fun I x0 x1 l R A=>?_) (fun e=>absurd e no.2) (fun e=>absurd e no.2)
  obtain ⟨q,hq,_⟩:=p5
  exact ⟨t,_,_,_,_,.inl ⟨rfl,_,_,_,_,p4⟩,p4,sortQ_ne hq,S.rd (hD.obs x hx) R A.left t⟩
 clear B X w3 hm
 by_cases e:x=.p0
 ·rw [decide_eq_true e] at e1
  rw [hd e] at g1
  clear e
  fail "r"
  exact Does.goG sp fun q h=>Mine.fin (fin q h)
 ·rw [decide_eq_false e] at e1
  clear e
  fail "r"
  exact Does.goG sp fun q h=>Mine.fin (fin q h)
end
section
variable {n m ω τ b:Nat} {σ0 σ σ':St} {T:List Row} {v:V}
noncomputable def declFs (d k:Nat) (name:Str) (b:Int) (l1 l2:Nat):List (Str×V):=[("did",.int d),("kind",.int k),("name",.str name),("params",.tup []),("body",.int b),("bases",.tup []),("static",.int (-1)),("extends_class",.int 0),("abstract",.bool false),("members",.loc l1),("variances",.loc l2),("busy",.int 0),("at",.int 0),("file",.str ""),("nid",.int 0)]
theorem rhs_m {hh:Nat} {fr:Fr} {s:St} {k:Nat} {q4 q5:Pos} (K:V→St→MS) (h:Sem hh (K (.int (-1)) s)):Sem hh (.rhs (.UnaryOp .USub (.Constant (.int 1) k q5) q4) fr s K):=by
 first | exact go_sound 4 _ (.r h) | exact go_sound 5 _ (.r h) | exact go_sound 3 _ (.r h) | exact go_sound 6 _ (.r h)
noncomputable def declF (σ:St) (d k:Nat) (name:Str):Fr:=frameW (mrc 47 "__init__") [.loc σ.length,.int d,.int k,.str name]
noncomputable def decl3 (σ:St) (d k:Nat) (name:Str):St:=σ++[.inst (Str.ofString "Decl") (declFs d k name (-1) (σ.length+1) (σ.length+2)),.list [],.list []]
theorem decl_init (d k:Nat) (name:Str):Does 1 (mrc 47 "__init__") [.loc σ.length,.int d,.int k,.str name] (σ++[.inst (Str.ofString "Decl") []]) fun q=>q.1=.none∧q.2=decl3 σ d k name:=by
 refine enterQ fun Q' hQ=>?_
 show Sem _ (.exs (mrc 47 "__init__").body (declF σ d k name) (σ++[.inst "Decl" []]) (wEnd Q'))
 refine fld (v:=.int d) (fun K h=>go_sound 2 _ h) (fld (v:=.int k) (fun K h=>go_sound 2 _ h) (fld (v:=.str name) (fun K h=>go_sound 2 _ h) (fld (v:=.tup []) (fun K h=>go_sound 3 _ h) (fld rhs_m (fld (v:=.tup []) (fun K h=>go_sound 3 _ h) (fld rhs_m (fld rhs_c (fld (v:=.bool false) (fun K h=>go_sound 2 _ h) (fld rhs_l (fld rhs_l (fld rhs_c (fld rhs_c (fld (v:=.str "") (fun K h=>go_sound 2 _ h) (fld rhs_c ?_))))))))))))))
 refine go ?_
 fail "r"
 exact ⟨rfl,by kernel_rfl⟩
theorem new_decl_spec {l:List V} {k:Nat} {name:Str} (h1:σ[τ]?=some (.inst "TypeTable" (tabFs τ))) (h2:σ[τ+3]?=some (.list l)) (hl:l.length < lid):Is 3 (rc 55) [.loc τ,.int k,.str name] σ (.loc σ.length,(decl3 σ l.length k name).set (τ+3) (.list (l++[.loc σ.length]))):=by
 apply does_is
 have ln:=len_loc h2
 have X:Ext σ (decl3 σ l.length k name):=⟨fun i hi=>by unfold decl3;rw [List.getElem?_append_left hi],by unfold decl3;rw [List.length_append];exact Nat.le_add_right _ _⟩
 have h1':=X.at h1
 have h2':=X.at h2
 have c1:decide (l.length < cap)=true:=decide_eq_true (Nat.lt_trans hl lid_cap)
 refine enterH ?_
 fail "r"
 refine Does.goP (decl_init l.length k name) ?_
 rintro R hR v σ2 ⟨e1,e2⟩
 cases e1
 cases e2
 clear h1 h2 ln
 fail "r"
theorem ref_type_spec {d:Nat} (h:Tab σ τ T (b+1)):Does 2 (rc 51) [.loc τ,.int d,.tup []] σ (TPost τ σ T b fun v T'=>∃ t:Nat,v=.int t∧T'[t]?=some (.ref d)):=by
 have h1:=h.inst
 refine enterG fun Q' hQ=>?_
 fail "r"
 refine Does.goC (put_spec (r:=.ref d) rfl h) fun v σ2 hq=>?_
 fail "r"
 exact hq
end
section
variable {n m ω τ b:Nat} {σ0 σ σ':St} {T:List Row} {v:V} {D:LW} {made:List (Atm×Nat)} {tn:Bool} {s:Int}
theorem Mk.any {σ':St} (k:Mk σ τ T D made) (hn:Atm.p0∉made.map (·.1)):Mk σ' τ T D made where
 fix:=k.fix
 cls:=k.cls
 mark:=k.mark
 obj:=fun p hp hh x0 x1 l R A=>by
  obtain ⟨u,ps,s,d,f,a,r⟩:=(k.obj p hp hh x0 x1 l R A).ex
  refine ⟨u,ps,s,d,f,?_,r⟩
  rcases a with a | ⟨d',e,_,_⟩
  ·exact .inl a
  ·exfalso
   rcases k.mark p hp hh with ⟨_,_,_,e2,_⟩ | ⟨e3,_⟩
   ·rw [e] at e2;cases e2
   ·exact hn (e3▸List.mem_map.mpr ⟨p,hp,rfl⟩)
 lit:=k.lit
 litm:=k.litm
 nd:=k.nd
theorem Bst.setDec {l l':List V} {b':Nat} (B:Bst σ0 σ ω τ D tn made T b s) (hk:σ[τ+3]?=some (.list l)) (hn:Atm.p0∉made.map (·.1)) (hb:b'≤b) (hl:l'.length+b'≤lid):Bst σ0 (σ.set (τ+3) (.list l')) ω τ D tn made T b' s:=by
 have h:=B.len
 obtain ⟨es,n1,n2⟩:=B.names
 exact ⟨B.ext.set (by fail "a") _,B.len,B.w,(B.tab.less hb).set (by fail "a"),set_other B.v (by fail "a"),set_other B.mdd (by fail "a"),⟨es,set_other n1 (by fail "a"),n2⟩,B.mkd.any hn,⟨l',set_self hk,hl⟩⟩
theorem Bst.setInst {k:Nat} {o o':Ob} (B:Bst σ0 σ ω τ D tn made T b s) (hk:σ[k]?=some o) (h:τ+12≤k) (hn:Atm.p0∉made.map (·.1)):Bst σ0 (σ.set k o') ω τ D tn made T b s:=by
 have hl:=B.len
 obtain ⟨es,n1,n2⟩:=B.names
 obtain ⟨l,a,c⟩:=B.dec
 exact ⟨B.ext.set (by fail "a") _,B.len,B.w,B.tab.set (by fail "a"),set_other B.v (by fail "a"),set_other B.mdd (by fail "a"),⟨es,set_other n1 (by fail "a"),n2⟩,B.mkd.any hn,⟨l,set_other a (by fail "a"),c⟩⟩
theorem made_p0 {N:Atm→Prop} {kk c:Nat} (hD:D.Ok) (hx:D.has .p0=true) (hd:D.declared=true) (hN:¬ N .p0) (X:∀ K∈GK16,KUse (D.ob .p0) K→∀ y∈K,y∉[Atm.p0,.p1,.p2,.p3]∧AtSpec σ0 ω τ D tn s N kk c y) (h10:10≤kk:=by fail "h"):MadeSpec σ0 ω τ D tn s N (kk+3) (6 * (3 * c+1)+3) .p0:=by
 intro σ made T b B hm
 obtain ⟨f1,f2,f3,f4,f5⟩:=B.flds
 have W:=B.w.ext B.ext
 obtain ⟨ωo,w1,w2,w3⟩:=W.objs
 have w2:=w2 .p0
 rw [hx] at w2
 obtain ⟨ωi,ωl,_,_,_,_,_,_,g1,_⟩:=W.flds
 rw [hd] at g1
 obtain ⟨l,d1,d2⟩:=B.dec
 have h12:τ+12≤σ.length:=(List.getElem?_eq_some_iff.mp B.v).1
 have ht:=B.tab.inst
 have X1:Ext σ (decl3 σ l.length 2 "D"):=⟨fun i hi=>by unfold decl3;rw [List.getElem?_append_left hi],by unfold decl3;rw [List.length_append];exact Nat.le_add_right _ _⟩
 have B0:Bst σ0 (decl3 σ l.length 2 "D") ω τ D tn made T (b+(6 * (3 * c+1)+3)) s:=B.fix (X1.fix τ) (List.prefix_refl _) (B.tab.ext X1)
 have B1:=B0.setDec (b':=b+(6 * (3 * c+1)+2)) (l':=l++[.loc σ.length]) (X1.at d1) hm (Nat.le_succ _) (by rw [List.length_append,List.length_singleton];fail "a")
 have K1:Keep τ σ ((decl3 σ l.length 2 "D").set (τ+3) (.list (l++[.loc σ.length]))):=⟨fun k h1 h2=>by rw [List.getElem?_set_ne (by fail "a")];exact X1.low k h2,by rw [List.length_set];exact X1.len,fun l' h=>⟨_,set_self (X1.at d1),by
  rw [d1] at h;cases h;exact List.prefix_append _ _⟩⟩
 have dl1:((decl3 σ l.length 2 "D").set (τ+3) (.list (l++[.loc σ.length])))[σ.length]?=some (.inst (Str.ofString "Decl") (declFs l.length 2 "D" (-1) (σ.length+1) (σ.length+2))):=by
  refine set_other ?_ (by fail "a")
  unfold decl3;exact app_at0 σ _
 have dt1:((decl3 σ l.length 2 "D").set (τ+3) (.list (l++[.loc σ.length])))[τ+3]?=some (.list (l++[.loc σ.length])):=set_self (X1.at d1)
 have nd:=new_decl_spec (k:=2) (name := "D") ht d1 (by fail "a")
 generalize (decl3 σ l.length 2 "D").set (τ+3) (.list (l++[.loc σ.length]))=σ1 at *
 have g2:=B1.flds.1
 clear B w3 X1 B0 d2
 refine enterG fun Q' hQ=>?_
 fail "r"
 refine Does.goI (ref_type_spec (d:=l.length) (b:=b+(6 * (3 * c+1)+1)) B1.tab) fun T2 t σ2 p1 p2 p3 p4=>?_
 have B2:Bst σ0 σ2 ω τ D tn made T2 (b+(6 * (3 * c+1)+1)) s:=B1.fix p3 p1 p2
 have sp:=shape_spec hD hx B2 X
 have dl2:=p3.at dl1 (by fail "a") (by fail "a")
 have dt2:=p3.at dt1 (by fail "a") (by fail "a")
 clear X B1 f1 B2
 fail "r"
 refine Does.goP sp ?_
 clear sp
 rintro R hR v3 σ3 ⟨made3,T3,B3,⟨q0,q1⟩,q2,q3,t',ps,sx,dx,hv,q4,q5,q6,q7,q8,q9,q10⟩
 cases hv
 have S:ShpOK made3 T3 D .p0 ps sx dx:=⟨q5,q6,q7,q8,q9,q10⟩
 have K3:=(K1.trans p3.keep).trans q3
 have hm':Atm.p0∉made3.map (·.1):=fun q=>by
  obtain ⟨p,hp,e⟩:=List.mem_map.mp q
  rcases q1 p hp with h | h
  ·exact hm (List.mem_map.mpr ⟨p,h,e⟩)
  ·rw [e] at h;exact hN h
 have dl3:=q3.at h12 dl2
 obtain ⟨l3,dt3,pre3⟩:=q3.dec _ dt2
 have hl3:l3[l.length]?=some (V.loc σ.length):=by
  obtain ⟨z,rfl⟩:=pre3
  rw [List.append_assoc,List.getElem?_append_right (Nat.le_refl _),Nat.sub_self];rfl
 have r3:T3[t]?=some (.ref l.length):=pre_at q2 p4
 have fin:MPost σ0 σ ω τ D tn made T b s N .p0 (.int (t:Nat),σ3.set σ.length (.inst (Str.ofString "Decl") (declFs l.length 2 "D" t' (σ.length+1) (σ.length+2)))):=by
  have B4:=B3.setInst (o':=.inst (Str.ofString "Decl") (declFs l.length 2 "D" t' (σ.length+1) (σ.length+2))) dl3 h12 hm'
  have dl4:=set_self (p:=Ob.inst (Str.ofString "Decl") (declFs l.length 2 "D" t' (σ.length+1) (σ.length+2))) dl3
  have dt4:=set_other (p:=Ob.inst (Str.ofString "Decl") (declFs l.length 2 "D" t' (σ.length+1) (σ.length+2))) (i:=σ.length) dt3 (by fail "a")
  generalize hs:σ3.set σ.length (.inst (Str.ofString "Decl") (declFs l.length 2 "D" t' (σ.length+1) (σ.length+2)))=σ4 at *
  have K4:Keep τ σ σ4:=⟨fun k h1 h2=>by rw [← hs,List.getElem?_set_ne (by fail "a")];exact K3.low k h1 h2,by rw [← hs,List.length_set];exact K3.len,fun l' h=>(by obtain ⟨z,a,c⟩:=K3.dec l' h;exact ⟨z,by rw [← hs];exact set_other a (by fail "a"),c⟩)⟩
  refine ⟨made3,T3,t,rfl,B4,⟨q0,q1⟩,p1.trans q2,K4,hm',?_,fun p hp I=>mk_apart hD B3.mkd (by decide) hm' (.inr ⟨rfl,_,r3⟩) p hp⟩
  refine B4.mkd.add hm' (fun q=>absurd q (by decide)) (.inr (.inr hx)) (fun I=>.inr ⟨rfl,_,r3⟩) (fun I x0 x1 l' R A=>?_) (fun e=>absurd e (by decide)) (fun e=>absurd e (by decide))
  obtain ⟨q,hq,_⟩:=q5
  obtain ⟨ld,e5,e6⟩:=B4.dec
  rw [dt4] at e5
  cases e5
  exact ⟨t',_,_,_,_,.inr ⟨_,r3,⟨_,_,_,dt4,by fail "a",hl3,dl4,rfl,rfl⟩,_,_,_,_,q4⟩,q4,sortQ_ne hq,S.rd (hD.obs _ hx) R A.left t⟩
 clear B3 S q8 q9 q10 q5 q6 q7 q1 q0 hm hm' K3 K1 hN q3 p2 p3 q2 p1 hd hl3
 fail "r"
 exact fin
end
structure LW.Ok2 (D:LW):Prop extends D.Ok where
 inn:∀ x,(x=.o0∨x=.o1)→∀ K,KUse (D.ob x) K→∀ y∈K,y∈fixA
 goalsI:∀ x∈D.goals,D.has x=true∨x∈[Atm.undef,.str,.any,.unk,.err,.obj,.emp]
noncomputable def PA:List Atm:=[.p0,.p1,.p2,.p3]
theorem gk_cls:∀ K∈GK16,∀ y∈K,y∈fixA∨y=.o0∨y=.o1:=by decide +kernel
theorem o_noP:∀ x,(x=Atm.o0∨x=.o1)→x∉PA:=by
 rintro x (rfl | rfl)<;>decide
noncomputable def N1 (a:Atm):Prop:=a∈fixA∨a=.o0∨a=.o1
section
variable {n m ω τ b:Nat} {σ0 σ σ':St} {T:List Row} {v:V} {D:LW} {made:List (Atm×Nat)} {tn:Bool} {s:Int}
theorem MadeSpec.weaken {σ0:St} {ω τ:Nat} {D:LW} {tn:Bool} {s:Int} {N N':Atm→Prop} {kk c c':Nat} {x:Atm} (h:MadeSpec σ0 ω τ D tn s N kk c x) (hN:∀ a,N a→N' a) (hc:c≤c'):MadeSpec σ0 ω τ D tn s N' kk c' x:=by
 intro σ made T b B hx
 refine Does.mono (h σ made T b (B.less (Nat.add_le_add_left hc _)) hx) ?_
 rintro ⟨v,σ2⟩ ⟨made',T',i,a1,a2,⟨a3,a4⟩,a5,a6,a7,a8,a9⟩
 exact ⟨made',T',i,a1,a2,⟨a3,fun p hp=>(a4 p hp).imp id (hN _)⟩,a5,a6,a7,a8,a9⟩
theorem at_o (hD:D.Ok2) {x:Atm} (hx:x=.o0∨x=.o1):AtSpec σ0 ω τ D tn s N1 15 25 x:=by
 have hh:D.has x=true:=by rcases hx with rfl | rfl;exact hD.has0;exact hD.has1
 refine at_spec (.inr hx) ?_
 refine (made_obj (c:=1) (N:=(·∈fixA)) hD.toOk hh (fun e=>by rcases hx with rfl | rfl<;>cases e) (fun q=>by rcases hx with rfl | rfl<;>exact absurd q (by decide)) fun K hK hu y hy=>?_).weaken (fun a ha=>.inl ha) (Nat.le_refl _)
 have:=hD.inn x hx K hu y hy
 exact ⟨fix_noP y this,at_fix hD.toOk this⟩
noncomputable def N2 (a:Atm):Prop:=N1 a∨a∈PA
theorem at_p (hD:D.Ok2) {x:Atm} (hx:x∈PA) (hh:D.has x=true):AtSpec σ0 ω τ D tn s N2 19 459 x:=by
 refine at_spec (.inr hx) ?_
 have hn:¬ N1 x:=by
  rintro (q | q | q)
  ·exact fix_noP x q hx
  ·subst q;exact absurd hx (by decide)
  ·subst q;exact absurd hx (by decide)
 have X:∀ K∈GK16,KUse (D.ob x) K→∀ y∈K,y∉[Atm.p0,.p1,.p2,.p3]∧AtSpec σ0 ω τ D tn s N1 15 25 y:=fun K hK I y hy=>by
  rcases gk_cls K hK y hy with h | h
  ·exact ⟨fix_noP y h,(at_fix hD.toOk h).weaken (fun a ha=>.inl ha) (by decide)⟩
  ·exact ⟨o_noP y h,at_o hD h⟩
 by_cases hd:x=.p0∧D.declared=true
 ·obtain ⟨rfl,hd⟩:=hd
  exact (made_p0 hD.toOk hh hd hn X).weaken (fun a ha=>.inl ha) (by decide)
 ·exact (made_obj hD.toOk hh (fun e=>by cases q:D.declared with | false=>rfl | true=>exact absurd ⟨e,q⟩ hd) hn X).weaken (fun a ha=>.inl ha) (by decide)
theorem obj_cls:∀ x∈objA,x∈PA∨x=.o0∨x=.o1:=by decide +kernel
theorem has_cls (hD:D.Ok2) {x:Atm} (h:D.has x=true):x∈PA∨x=.o0∨x=.o1:=obj_cls x (hD.has x h)
theorem at_any (hD:D.Ok2) {x:Atm} (hx:x∈fixA∨x=.lit∨D.has x=true):AtSpec σ0 ω τ D tn s (fun I=>True) 19 459 x:=by
 rcases hx with h | h | h
 ·exact (at_fix hD.toOk h).weaken (fun I I=>trivial) (by decide)
 ·subst h;exact (at_lit hD.toOk).weaken (fun I I=>trivial) (by decide)
 ·rcases has_cls hD h with q | q
  ·exact (at_p hD q h).weaken (fun I I=>trivial) (Nat.le_refl _)
  ·exact (at_o hD q).weaken (fun I I=>trivial) (by decide)
end
noncomputable def UA:List Atm:=[.a,.b,.c,.one,.fa,.fb,.fone,.tru,.ftru,.undef]
noncomputable def LitS (made:List (Atm×Nat)) (T:List Row) (D:LW) (t:Nat):Prop:=∀ x0 x1 l,RowsOK x0 x1 l→Agrees made T x0 x1 l→LitR x0 x1 l T t (if D.whole then 1 else 0) (sortP D.lit)
theorem nm_at {l:List Atm} {j:Nat} {x:Atm} (h:l[j]?=some x) (hz:l.length≤100) (σ:St):subV σ (.tup (nmV l)) (.int (j:Nat))=some (.str x.name) :=
 sub_tup (by unfold nmV;rw [List.getElem?_map,h];rfl) (Nat.le_trans (by unfold nmV;rw [List.length_map];exact hz) (by decide))
section
variable {n m ω τ b:Nat} {σ0 σ σ':St} {T:List Row} {v:V} {D:LW} {made:List (Atm×Nat)} {tn:Bool} {s:Int}
theorem LitS.up {made2:List (Atm×Nat)} {T2:List Row} {t:Nat} (x:LitS made T D t) (k:Mk σ τ T D made) (hm:∀ p∈made,p∈made2) (p:T <+: T2):LitS made2 T2 D t :=
 fun x0 x1 l R A=>(x x0 x1 l R (A.back k hm p)).mono p
theorem Bst.setS {s':Int} (B:Bst σ0 σ ω τ D tn made T b s):Bst σ0 (σ.set (τ+11) (.dict (strD id (vD τ tn s')))) ω τ D tn made T b s':=by
 have h:=B.len
 obtain ⟨es,n1,n2⟩:=B.names
 obtain ⟨l,a,c⟩:=B.dec
 exact ⟨B.ext.set (by fail "a") _,B.len,B.w,B.tab.set (by fail "a"),set_self B.v,set_other B.mdd (by fail "a"),⟨es,set_other n1 (by fail "a"),n2⟩,B.mkd.set B.v,⟨l,set_other a (by fail "a"),c⟩⟩
theorem mk_nil {σ:St}:Mk σ τ T D [] where
 fix:=fun I h=>nomatch h
 cls:=fun I h=>nomatch h
 mark:=fun I h=>nomatch h
 obj:=fun I h=>nomatch h
 lit:=fun I h=>nomatch h
 litm:=fun I h=>nomatch h
 nd:=.nil
noncomputable def newV (σ:St) (tn:Bool):St:=newTab σ first++[.dict [],.dict [],.dict (strD id (vD σ.length tn (-1)))]
theorem newV_bst (h:WAt σ0 ω D):Bst σ0 (newV σ0 tn) ω σ0.length D tn [] first (lid - 100) (-1):=by
 have e:∀ i,(newV σ0 tn)[σ0.length+i]?=([.inst "TypeTable" (tabFs σ0.length),.list (first.map Row.enc),.dict (idxOf first),.list [.none],.list [],.list [],.list [],.dict [],.dict [],.dict [],.dict [],.dict (strD id (vD σ0.length tn (-1)))]:List Ob)[i]?:=fun i=>by
  unfold newV newTab
  rw [List.append_assoc,List.getElem?_append_right (by fail "a"),Nat.add_sub_cancel_left];rfl
 have hx:Ext σ0 (newV σ0 tn):=⟨fun k hk=>by unfold newV newTab;rw [List.append_assoc,List.getElem?_append_left hk],by unfold newV newTab;rw [List.append_assoc,List.length_append];exact Nat.le_add_right _ _⟩
 refine ⟨hx,rfl,h,⟨e 0,e 1,e 2,first_nodup,by decide,List.prefix_refl _⟩,e 11,e 9,⟨[],e 10,fun I=>rfl,Nat.le_refl _,fun I q=>nomatch q⟩,mk_nil,⟨_,e 3,by decide⟩⟩
theorem Bst.newDecl {l:List V} {k b':Nat} {nm:Str} (B:Bst σ0 σ ω τ D tn made T b s) (hk:σ[τ+3]?=some (.list l)) (hn:Atm.p0∉made.map (·.1)) (hb:b' < b):Bst σ0 ((decl3 σ l.length k nm).set (τ+3) (.list (l++[.loc σ.length]))) ω τ D tn made T b' s:=by
 have X1:Ext σ (decl3 σ l.length k nm):=⟨fun i hi=>by unfold decl3;rw [List.getElem?_append_left hi],by unfold decl3;rw [List.length_append];exact Nat.le_add_right _ _⟩
 have B0:Bst σ0 (decl3 σ l.length k nm) ω τ D tn made T b s:=B.fix (X1.fix τ) (List.prefix_refl _) (B.tab.ext X1)
 obtain ⟨l',a,c⟩:=B.dec
 rw [hk] at a
 cases a
 exact B0.setDec (X1.at hk) hn (by fail "a") (by rw [List.length_append,List.length_singleton];fail "a")
noncomputable def jobA (j:Nat):Option Atm:=if j=14 then some .lit else if j=15 then some .o0 else if j=16 then some .o1 else none
noncomputable def wQn (fr0:Fr) (Q:St→Prop) (fl:Fl) (fr:Fr) (σ:St):MS:=match fl with | .next=>.done (fr=fr0∧Q σ) | _=>.done False
theorem sel_joinS {hh:Nat} {G:MS→Prop} {c:Bool} {b o:List Stmt} {fr:Fr} {σ:St} {K:Fl→Fr→St→MS} (Q:St→Prop) (h1:c=true→Sem hh (.exs b fr σ (wQn fr Q))) (h2:c=false→Sem hh (.exs o fr σ (wQn fr Q))) (k:∀ σ',Q σ'→Sem hh (K .next fr σ')):SelP hh G (.exs b fr σ K) (.exs o fr σ K) c:=by
 have e:∀ {s},Sem hh (.exs s fr σ (wQn fr Q))→Sem hh (.exs s fr σ K):=fun h=>exs_mono h fun fl fr' σ' C A O Rm d=>by
  cases fl with
  | next=>obtain ⟨rfl,hq⟩:=d;exact k _ hq C A O Rm
  | _=>exact d.elim
 cases c
 ·exact .s (e (h2 rfl))
 ·exact .s (e (h1 rfl))
inductive TblNext (σ0:St) (ω τ:Nat) (D:LW) (tn:Bool) (order r:List Nat) (σ2:St):Prop
 | mk (pre:List Nat) (made:List (Atm×Nat)) (T:List Row) (s:Int) (e:pre++r=order) (B:Bst σ0 σ2 ω τ D tn made T (800000+459 * r.length) s) (h:21∈pre→∃ t:Nat,s=t∧LitS made T D t) (j:∀ j∈pre,∀ x,jobA j=some x→∃ i,(x,i)∈made)
inductive TblPost (σ0:St) (ω:Nat) (D:LW) (tn:Bool) (order:List Nat) (q:V×St):Prop
 | mk (e:q.1=.loc (σ0.length+11)) (made:List (Atm×Nat)) (T:List Row) (t:Nat) (B:Bst σ0 q.2 ω σ0.length D tn made T 800000 t) (L:LitS made T D t) (h:∀ j∈order,∀ x,jobA j=some x→∃ i,(x,i)∈made)
theorem tab_nv (σ0:St) (tn:Bool):newTab σ0 first++[Ob.dict []]++[Ob.dict []]++[.dict (dictOfPairs [(.str (Str.ofString "tab"),.loc σ0.length),(.str (Str.ofString "made"),.loc (newTab σ0 first).length),(.str (Str.ofString "names"),.loc (newTab σ0 first++[Ob.dict []]).length),(.str (Str.ofString "turned"),.bool tn),(.str (Str.ofString "s"),.int (-1))])]=newV σ0 tn:=by
 have l0:(newTab σ0 first).length=σ0.length+9:=List.length_append
 have l1:(newTab σ0 first++[Ob.dict []]).length=σ0.length+10:=by rw [List.length_append,l0];rfl
 rw [l0,l1,show dictOfPairs [(.str (Str.ofString "tab"),.loc σ0.length),(.str (Str.ofString "made"),.loc (σ0.length+9)),(.str (Str.ofString "names"),.loc (σ0.length+10)),(.str (Str.ofString "turned"),.bool tn),(.str (Str.ofString "s"),.int (-1))]=strD id (vD σ0.length tn (-1)) by kernel_rfl,List.append_assoc,List.append_assoc]
 rfl
theorem tab_nl (σ0:St):(newTab σ0 first++[Ob.dict []]++[Ob.dict []]).length=σ0.length+11:=by rw [List.length_append,List.length_append,show (newTab σ0 first).length=σ0.length+9 from List.length_append];rfl
noncomputable def TblL (ω τ:Nat):List (Str×V):=[("w",.loc ω),("v",.loc (τ+11))]
theorem job_none {j:Nat} (h:¬ (14≤j∧j≤16)) {y:Atm}:jobA j=some y→False:=fun e=>by
 unfold jobA at e;rw [if_neg (by fail "a"),if_neg (by fail "a"),if_neg (by fail "a")] at e;cases e
theorem job2 {j:Nat} {x y:Atm} (h:j=13∧x=.t∨j=14∧x=.lit∨j=15∧x=.o0∨j=16∧x=.o1) (e:jobA j=some y):y=x:=by
 rcases h with ⟨rfl,rfl⟩ | ⟨rfl,rfl⟩ | ⟨rfl,rfl⟩ | ⟨rfl,rfl⟩<;>(cases e;try rfl)
set_option maxHeartbeats 4000000 in
theorem table_law (hD:D.Ok2) (hcnt:∀ k (x:Atm),PA[k]?=some x→D.has x=decide (k < D.count)) (h:WAt σ0 ω D) {ov:V} {order:List Nat} (ho:IsL σ0 ov (vints order)) (hlt:∀ i∈order,i < 23) (h21:21∈order) (hlen:order.length≤23) :
  Does 30 (rc 142) [.loc ω,ov,.bool tn] σ0 (TblPost σ0 ω D tn order):=by
 have B:=newV_bst (σ0:=σ0) (tn:=tn) h
 refine enterG fun Q' hQ=>?_
 fail "r"
 refine Does.goP init_spec ?_
 rintro R hR v1 σ1 ⟨q1,q2⟩
 obtain rfl:v1=.none:=q1
 obtain rfl:σ1=newTab σ0 first:=q2
 fail "r"
 rw [tab_nv,tab_nl]
 generalize newV σ0 tn=σ1 at *
 generalize hτ:σ0.length=τ at *
 refine sel_joinS (fun σ'=>Bst σ0 σ' ω τ D tn [] first (800000+459 * 23) (-1)) (fun hb=>go ?_) (fun hb=>go ?_) ?_
 ·obtain ⟨f1,f2,f3,f4,f5⟩:=B.flds
  obtain ⟨dl,d1,d2⟩:=B.dec
  have nd:=new_decl_spec (k:=2) (name := "N") B.tab.inst d1 (Nat.lt_of_lt_of_le (Nat.lt_add_of_pos_right (by decide)) d2)
  have B2:=B.newDecl (k:=2) (nm := "N") (b':=800000+459 * 23) d1 (fun q=>nomatch q) (by decide)
  clear hb B hQ
  fail "r"
  exact ⟨rfl,B2⟩
 ·clear hb hQ
  fail "r"
  exact ⟨rfl,B.less (by decide)⟩
 intro σ' B1
 clear B σ1
 obtain ⟨o1,o2,o3⟩:=(ho.ext B1.ext).loop
 fail "r"
 refine for_mapR (rc 142).sc (fun I=>none) (TblL ω τ) (fun r I σ'=>TblNext σ0 ω τ D tn order r σ') ?_ ?_ _ _ _ rfl ?_
 ·rintro P hP R hR j r vars σ' ⟨pre,made,T,s,hS,B',hL,hM⟩
  have hj:j < 23:=hlt j (by rw [← hS];exact List.mem_append_right _ (.head _))
  have hS:(pre++[j])++r=order:=by rw [List.append_assoc];exact hS
  rw [show 800000+459 * (j::r).length=800000+459 * r.length+459 from rfl] at B'
  obtain ⟨f1,_⟩:=B'.flds
  have fin:∀ {σ2 made2 T2 s2},Bst σ0 σ2 ω τ D tn made2 T2 (800000+459 * r.length) s2→(∀ p∈made,p∈made2)→T <+: T2→((s2=s∧j≠21)∨∃ t:Nat,s2=t∧LitS made2 T2 D t)→(∀ x,jobA j=some x→∃ i,(x,i)∈made2)→∀ vs,Has vs (TblL ω τ)→P r ⟨(rc 142).sc,vs,fun I=>none⟩ σ2:=by
   intro σ2 made2 T2 s2 B2 p0 p1 hs hm vs hv
   refine hP (ho.ext B2.ext).loop.2.2 ⟨pre++[j],made2,T2,s2,hS,B2,fun h=>?_,fun k hk x hx=>?_⟩ rfl hv
   ·rcases hs with ⟨rfl,hj⟩ | hs
    ·rcases List.mem_append.mp h with h | h
     ·obtain ⟨t,e,q⟩:=hL h
      exact ⟨t,e,q.up B'.mkd p0 p1⟩
     ·exact absurd (List.mem_singleton.mp h).symm hj
    ·exact hs
   ·rcases List.mem_append.mp hk with h | h
    ·obtain ⟨i,hi⟩:=hM k h x hx
     exact ⟨i,p0 _ hi⟩
    ·rw [List.mem_singleton.mp h] at hx;exact hm x hx
  have atx:∀ (x:Atm),(x∈fixA∨x=.lit∨D.has x=true)→j≠21→(∀ y,jobA j=some y→y=x)→Does 19 (rc 141) [.loc ω,.loc (τ+11),.str x.name] σ' fun q=>∀ vs,Has vs (TblL ω τ)→P r ⟨(rc 142).sc,vs,fun I=>none⟩ q.2:=fun x hx hj hy=>by
   refine Does.mono (at_any hD hx σ' made T _ B') ?_
   rintro ⟨v,σ2⟩ ⟨made2,T2,B2,⟨q0,_⟩,q2,q3,i,_,hi⟩
   exact fin B2 q0 q2 (.inl ⟨rfl,hj⟩) (fun y e=>⟨i,by rw [hy y e];exact hi⟩)
  have numx:∀ (i:Int),j≠21→(∀ y,jobA j=some y→False)→Does 2 (rc 50) [.loc τ,.int i] σ' fun q=>∀ vs,Has vs (TblL ω τ)→P r ⟨(rc 142).sc,vs,fun I=>none⟩ q.2:=fun i hj hy=>by
   refine Does.mono (num_type_spec2 (b:=800000+459 * r.length) (B'.tab.less (by fail "a"))) ?_
   rintro ⟨v,σ2⟩ ⟨T2,p1,p2,p3,_⟩
   exact fin (B'.fix p3 p1 p2) (fun I h=>h) p1 (.inl ⟨rfl,hj⟩) (fun y e=>(hy y e).elim)
  have lt:∀ (c:Nat),decide ((j:Int) < (c:Nat))=decide (j < c):=fun c=>decide_eq_decide.mpr (by fail "a")
  have sub:∀ {c:Nat},¬ j < c→(j:Int) - (c:Nat)=((j - c:Nat):Int):=by intro c h;fail "a"
  have stop:∀ {c:Prop} {v:V} {σ2:St},(∀ vs,Has vs (TblL ω τ)→P r ⟨(rc 142).sc,vs,fun I=>none⟩ σ2)→c→c:=fun I h=>h
  have e10:decide ((j:Int) < 10)=decide (j < 10):=lt 10
  clear hL hM B1 hS o1 o2 o3 ho hP stop
  by_cases h1:j < 10
  ·obtain ⟨x,hx,hf⟩:∃ x,UA[j]?=some x∧x∈fixA:=by
    have:∀ j < 10,∃ x,UA[j]?=some x∧x∈fixA:=by decide +kernel
    exact this j h1
   have su:=nm_at hx (by decide) σ'
   have ax:=atx x (.inl hf) (by fail "a") fun y e=>(job_none (by fail "a") e).elim
   rw [decide_eq_true h1] at e10
   clear atx numx hx hf fin B' h1 hQ
   fail "r"
   refine Does.goC ax fun v σ2 hq=>?_
   fail "r"
   exact hq _ rfl
  rw [decide_eq_false h1] at e10
  have e13:decide ((j:Int) < 13)=decide (j < 13):=lt 13
  by_cases h2:j < 13
  ·have nx:=numx j (by fail "a") fun y e=>job_none (by fail "a") e
   rw [decide_eq_true h2] at e13
   clear atx numx fin B' h1 h2 hQ
   fail "r"
   refine Does.goC nx fun v σ2 hq=>?_
   fail "r"
   exact hq _ rfl
  rw [decide_eq_false h2] at e13
  have e15:decide ((j:Int) < 15)=decide (j < 15):=lt 15
  by_cases h3:j < 15
  ·obtain ⟨x,hx,hf⟩:∃ x,([.t,.lit]:List Atm)[j - 13]?=some x∧(j=13∧x=.t∨j=14∧x=.lit):=by
    rcases (show j=13∨j=14 by fail "a") with rfl | rfl
    ·exact ⟨_,rfl,.inl ⟨rfl,rfl⟩⟩
    ·exact ⟨_,rfl,.inr ⟨rfl,rfl⟩⟩
   have su:=nm_at hx (by decide) σ'
   rw [← sub h2] at su
   have ax:=atx x (hf.elim (fun h=>.inl (by rw [h.2];decide)) fun h=>.inr (.inl h.2)) (by fail "a") fun y=>job2 (hf.imp id .inl)
   rw [decide_eq_true h3] at e15
   clear atx numx hx hf fin B' h1 h2 h3 hQ
   fail "r"
   refine Does.goC ax fun v σ2 hq=>?_
   fail "r"
   exact hq _ rfl
  rw [decide_eq_false h3] at e15
  have e17:decide ((j:Int) < 17)=decide (j < 17):=lt 17
  by_cases h4:j < 17
  ·obtain ⟨x,hx,hf⟩:∃ x,([.o0,.o1]:List Atm)[j - 15]?=some x∧(j=15∧x=.o0∨j=16∧x=.o1):=by
    rcases (show j=15∨j=16 by fail "a") with rfl | rfl
    ·exact ⟨_,rfl,.inl ⟨rfl,rfl⟩⟩
    ·exact ⟨_,rfl,.inr ⟨rfl,rfl⟩⟩
   have su:=nm_at hx (by decide) σ'
   rw [← sub h3] at su
   have ax:=atx x (.inr (.inr (hf.elim (fun h=>by rw [h.2];exact hD.has0) fun h=>by rw [h.2];exact hD.has1))) (by fail "a") fun y=>job2 (.inr (.inr hf))
   rw [decide_eq_true h4] at e17
   clear atx numx hx hf fin B' h1 h2 h3 h4 hQ
   fail "r"
   refine Does.goC ax fun v σ2 hq=>?_
   fail "r"
   exact hq _ rfl
  rw [decide_eq_false h4] at e17
  have jn:∀ y,jobA j=some y→False:=fun y e=>job_none (by fail "a") e
  have e21:decide ((j:Int) < 21)=decide (j < 21):=lt 21
  by_cases h5:j < 21
  ·obtain ⟨x,hx⟩:∃ x,PA[j - 17]?=some x:=⟨_,List.getElem?_eq_getElem (by show j - 17 < 4;fail "a")⟩
   have su:=nm_at hx (by decide) σ'
   have lc:decide ((j:Int) - 17 < (D.count:Nat))=D.has x:=by rw [hcnt _ x hx];exact decide_eq_decide.mpr (by fail "a")
   rw [← sub h4] at su
   have W:=B'.w.ext B'.ext
   obtain ⟨ωi,ωl,_,_,_,_,_,_,_,g1,_⟩:=W.flds
   rw [decide_eq_true h5] at e21
   have hq:=fin (B'.less (by fail "a")) (fun I h=>h) (List.prefix_refl _) (.inl ⟨rfl,by fail "a"⟩) fun y e=>(jn y e).elim
   cases hh:D.has x with
   | false =>
    rw [hh] at lc
    clear atx numx hx fin B' h1 h2 h3 h4 h5 hh hQ
    fail "r"
    exact hq _ rfl
   | true =>
    have ax:=atx x (.inr (.inr hh)) (by fail "a") fun y e=>(jn y e).elim
    rw [hh] at lc
    clear atx numx hx fin B' h1 h2 h3 h4 h5 hh hQ hq
    fail "r"
    refine Does.goC ax fun v σ2 hq=>?_
    fail "r"
    exact hq _ rfl
  rw [decide_eq_false h5] at e21
  have eq21:((j:Int)==21)=decide (j=21):=(ibeq j 21).trans (decide_eq_decide.mpr (by fail "a"))
  by_cases h6:j=21
  ·have W:=B'.w.ext B'.ext
   obtain ⟨ωi,ωl,_,_,_,g4,g5,g6,_,_,_⟩:=W.flds
   rw [decide_eq_true h6] at eq21
   have L:LitD σ0 ωl D.lit:=by
    obtain ⟨ωo5,ωi5,ωg5,ωl5,a5,_,_,_,e5⟩:=B'.w.ex
    have q2:subV σ' (.loc ω) (.str "lit")=some (.loc ωl5):=sub_str (B'.ext.at a5) rfl
    rw [g4] at q2
    rw [V.loc.inj (Option.some.inj q2)]
    exact ⟨e5,hD.ownL,hD.ndL,hD.lenL⟩
   have hf:=fresh_spec (kk:=15) (c:=17) (N:=fun I=>True) (b:=800000+459 * r.length) (fr:=D.whole) hD.toOk (B'.less (by fail "a")) L (fun p hp y hy=>by
    rcases own_fix _ (hD.ownL p hp).1 y hy with h | h
    ·exact ⟨fix_noP y h,(at_fix hD.toOk h).weaken (fun I I=>trivial) (by decide)⟩
    ·subst h;exact ⟨by decide,(at_lit hD.toOk).weaken (fun I I=>trivial) (by decide)⟩)
   clear atx numx B' h1 h2 h3 h4 h5 h6 L hQ
   have fin':id _:=@fin
   clear fin
   fail "r"
   refine Does.goP hf ?_
   rintro R hR v2 σ2 ⟨made2,T2,B2,⟨q0,_⟩,q2,q3,t,ps,hv2,q4,q5,q6⟩
   cases hv2
   have hv:=B2.v
   have c1:kOk (strD id (vD τ tn s)) (.str (Str.ofString "s"))=true:=strD_kOk _ _ _
   have c2:decide ((strD id (vD τ tn s)).length < cap)=true:=decide_eq_true (show (5:Nat) < cap by decide)
   have c3:dictSetV (strD id (vD τ tn s)) (.str (Str.ofString "s")) (.int (t:Nat))=strD id (vD τ tn (t:Nat)):=by kernel_rfl
   have hq:=fin' (B2.setS (s':=(t:Nat))) q0 q2 (.inr ⟨t,rfl,q6⟩) fun y e=>(jn y e).elim
   rw [← c3] at hq
   clear hf fin' B2 q0 q2 q3 q4 q5 q6 g4 g6 f1 c3
   fail "r"
   exact hq _ rfl
  ·have nx:=numx 40 h6 jn
   rw [decide_eq_false h6] at eq21
   clear atx numx fin B' h1 h2 h3 h4 h5 h6 hQ
   fail "r"
   refine Does.goC nx fun v σ2 hq=>?_
   fail "r"
   exact hq _ rfl
 ·rintro R hR vars σ' ⟨pre,made,T,s,hS,B',hL,hM⟩
  rw [List.append_nil] at hS
  cases hS
  obtain ⟨t,rfl,hL2⟩:=hL h21
  cases hτ
  fail "r"
  exact ⟨rfl,made,T,t,B'.less (by fail "a"),hL2,hM⟩
 ·exact ⟨[],[],first,-1,rfl,B1.less (by fail "a"),fun h=>(nomatch h),fun I h=>nomatch h⟩
end
noncomputable def obOf (D:LW) (made:List (Atm×Nat)) (t:Nat):O:=match made.find? (fun p=>p.2==t&&D.has p.1) with | some p=>D.ob p.1 | none=>default
noncomputable def GX:List Atm:=[.undef,.str,.any,.unk,.err,.obj,.emp]
theorem ob_default:(default:O).Ok:=⟨(fun I h=>nomatch h),(fun I h=>nomatch h),(fun I h=>nomatch h)⟩
theorem gx_id:∀ x∈GX,∃ i < 16,first[i]?=some (rowX x)∧takeB i=takerA x∧((x=.any∨x=.err∨x=.unk∨x=.obj∨x=.emp)↔takerA x=true):=by decide +kernel
theorem gx_fix:∀ x∈GX,x∈fixA:=by decide
theorem has_notaker:∀ x∈objA,takerA x=false:=by decide
theorem gx_calm:∀ x∈GX,(rowX x).whole=-1∧(rowX x).fresh=false∧rowX x≠.bool 0 0∧rowX x≠.bool 0 1:=by decide +kernel
theorem gx_shaped:∀ x∈GX,takerA x=false→(rowX x).kind≠8∧(rowX x).kind≠9:=by decide +kernel
section
variable {n m ω τ b:Nat} {σ0 σ σ':St} {T:List Row} {v:V} {D:LW} {made:List (Atm×Nat)} {tn:Bool} {s:Int}
theorem mk_inj (hD:D.Ok) (k:Mk σ τ T D made) {p q:Atm×Nat} (hp:p∈made) (hq:q∈made) (h1:D.has p.1=true) (h2:D.has q.1=true) (e:p.2=q.2):p=q:=by
 have e1:p.1=q.1:=by
  rcases k.mark p hp h1 with a | ⟨a,d,a'⟩<;>rcases k.mark q hq h2 with c | ⟨c,d2,c'⟩
  ·rw [e] at a;exact mark_uniq (hD.has _ h1) (hD.has _ h2) a c
  ·obtain ⟨_,_,_,a,_⟩:=a
   rw [e,c'] at a;cases a
  ·obtain ⟨_,_,_,c,_⟩:=c
   rw [← e,a'] at c;cases c
  ·exact a.trans c.symm
 obtain ⟨p1,p2⟩:=p
 obtain ⟨q1,q2⟩:=q
 try dsimp only at e1 e
 rw [e1,e]
theorem ob_of (hD:D.Ok) (k:Mk σ τ T D made) {p:Atm×Nat} (hp:p∈made) (h:D.has p.1=true):obOf D made p.2=D.ob p.1:=by
 unfold obOf
 cases e:made.find? (fun q=>q.2==p.2&&D.has q.1) with
 | none =>
  have:=List.find?_eq_none.mp e p hp
  simp [h] at this
 | some q =>
  have h1:=List.find?_some e
  have h2:=List.mem_of_find?_eq_some e
  simp only [Bool.and_eq_true,beq_iff_eq] at h1
  have:=mk_inj hD k h2 hp h1.2 h h1.1
  subst this;rfl
theorem ob_okay (hD:D.Ok) (t:Nat):(obOf D made t).Ok:=by
 unfold obOf
 cases e:made.find? (fun q=>q.2==t&&D.has q.1) with
 | none=>exact ob_default
 | some q =>
  have h1:=List.find?_some e
  simp only [Bool.and_eq_true] at h1
  exact hD.obs _ h1.2
theorem world_of (hD:D.Ok) (k:Mk σ τ T D made) (h0:∃ i,(Atm.o0,i)∈made) (h1:∃ i,(Atm.o1,i)∈made) (hl:∃ i,(Atm.lit,i)∈made):∃ W:World,W.At σ τ T∧W.Of D∧Agrees made T W.x0 W.x1 W.l:=by
 obtain ⟨x0,x1,l,R,A⟩:=k.pick hD.has0 hD.has1
 obtain ⟨i0,h0⟩:=h0
 obtain ⟨i1,h1⟩:=h1
 obtain ⟨il,hl⟩:=hl
 obtain ⟨ps,Kf,a,c,d,e⟩:=k.lit il hl x0 x1 l R A
 exact ⟨⟨x0,x1,l,i0,i1,il,D.ob .o0,D.ob .o1,sortP D.inner,D.fresh⟩,⟨R,hD.obs _ hD.has0,hD.obs _ hD.has1,A.1 _ h0,A.2.1 _ h1,A.2.2 _ hl,k.obj _ h0 hD.has0 _ _ _ R A,k.obj _ h1 hD.has1 _ _ _ R A,⟨ps,Kf,a,c,d,e⟩,fun p hp=>hD.nolit p ((sortP_perm _).mem_iff.mp hp),by
  have:=(sortP_perm D.inner).length_eq;have:=hD.lenI;show (sortP D.inner).length≤3;fail "a"⟩,⟨rfl,rfl,rfl,rfl⟩,A⟩
theorem part_obj (hD:D.Ok) (k:Mk σ τ T D made) {W:World} (w:W.At σ τ T) (A:Agrees made T W.x0 W.x1 W.l) {p:Atm×Nat} (hp:p∈made) (h:D.has p.1=true):ObjAt σ τ T p.2 (rdF W.x0 W.x1 W.l (obOf D made) p.2):=by
 have:=k.obj p hp h _ _ _ w.R A
 have e:rdF W.x0 W.x1 W.l (obOf D made) p.2=rdF W.x0 W.x1 W.l (fun I=>D.ob p.1) p.2:=by
  funext nm;unfold rdF;rw [ob_of hD k hp h]
 rw [e];exact this
theorem has_row (k:Mk σ τ T D made) {p:Atm×Nat} (hp:p∈made) (h:D.has p.1=true):∃ r,T[p.2]?=some r∧(r.kind=8∨r.kind=9)∧r.whole=-1∧r.fresh=false∧(∀ s,r≠.key s)∧∀ a c,r≠.bool a c:=by
 rcases k.mark p hp h with ⟨ps,s,d,e,_⟩ | ⟨_,d,e⟩
 ·exact ⟨_,e,.inl rfl,rfl,rfl,(fun I q=>by cases q),(fun I I q=>by cases q)⟩
 ·exact ⟨_,e,.inr rfl,rfl,rfl,(fun I q=>by cases q),(fun I I q=>by cases q)⟩
structure GoalRow (T:List Row) (D:LW) (x:Atm) (t:Nat) (r:Row):Prop where
 at_:T[t]?=some r
 k6:r.kind≠6
 nv:r≠.key "never"
 whole:r.whole=-1
 fresh:r.fresh=false
 b0:r≠.bool 0 0
 b1:r≠.bool 0 1
 cls:(D.has x=true∧(r.kind=8∨r.kind=9)∧∀ s,r≠.key s)∨(x∈GX∧r=rowX x)
theorem goal_row (hD:D.Ok2) (k:Mk σ τ T D made) {x:Atm} {t:Nat} (hx:x∈D.goals) (hm:(x,t)∈made):∃ r,GoalRow T D x t r:=by
 rcases hD.goalsI x hx with h | h
 ·obtain ⟨r,a,c,d,e,f,g⟩:=has_row k hm h
  refine ⟨r,a,?_,f _,d,e,g _ _,g _ _,.inl ⟨h,c,f⟩⟩
  rcases c with c | c<;>rw [c]<;>decide
 ·have hf:=gx_fix x h
  obtain ⟨a,c,d,e⟩:=gx_calm x h
  have:=row_kind6 (x:=x) (x0:=dum) (x1:=.obj [⟨"k",0,0⟩] none none 0) (l:=.obj [⟨"p",0,0⟩] none none 0) ⟨⟨_,_,_,rfl⟩,⟨_,_,_,rfl⟩,by decide +kernel,⟨_,_,rfl⟩,by decide +kernel,by decide +kernel⟩ (fix_noP x hf)
  rw [row_fix x hf] at this
  exact ⟨_,k.fix _ hm hf,this.1,this.2,a,c,d,e,.inr ⟨h,rfl⟩⟩
theorem goal_top (hD:D.Ok2) (h:Tab σ τ T b) (k:Mk σ τ T D made) {W:World} (w:W.At σ τ T) (A:Agrees made T W.x0 W.x1 W.l) {us:List (Nat×Atm)} (hu:∀ x,x∈us.map (·.2)↔x∈D.goals) (hm:∀ q∈us,(q.2,q.1)∈made) {u:Nat} {rs:List Row} (hr:∀ r,r∈rs↔∃ q∈us,T[q.1]?=some r) (ku:KR T u (toppedR rs)) :
  ∃ S,KIs T u S∧TopAt W σ τ T S (obOf D made)∧S.any takeB=D.goals.any takerA∧(D.goals.any takerA=false→Same ((S.filter (shapedB T)).map (obOf D made)) ((D.goals.filter D.has).map D.ob)):=by
 obtain ⟨S,k1,k2,k3⟩:=ku
 have hg:∀ q∈us,q.2∈D.goals:=fun q hq=>(hu _).mp (List.mem_map.mpr ⟨q,hq,rfl⟩)
 have row:∀ q∈us,∃ r,GoalRow T D q.2 q.1 r:=fun q hq=>goal_row hD k (hg q hq) (hm q hq)
 -- the ids of S are the ids of goals
 have top_in:∀ r∈toppedR rs,r∈rs:=fun r hr'=>by
  unfold toppedR at hr'
  split at hr'
  ·rename_i q;simp at hr';rw [hr'];exact q
  ·split at hr'
   ·rename_i q;simp at hr';rw [hr'];exact q
   ·split at hr'
    ·rename_i q;simp at hr';rw [hr'];exact q
    ·exact hr'
 have sid:∀ x∈S,∃ q∈us,q.1=x:=fun x hx=>by
  obtain ⟨r,a,c⟩:=k2 x hx
  obtain ⟨q,hq,e⟩:=(hr r).mp (top_in r a)
  exact ⟨q,hq,nodup_at h.nd e c⟩
 have gid:∀ q∈us,q.2∈GX→∃ i < 16,first[i]?=some (rowX q.2)∧q.1=i∧takeB q.1=takerA q.2:=fun q hq hx=>by
  obtain ⟨i,h1,h2,h3,_⟩:=gx_id q.2 hx
  have e:=k.fix _ (hm q hq) (gx_fix _ hx)
  have e2:=(h.first h1).trans h2
  have:q.1=i:=nodup_at h.nd e e2
  exact ⟨i,h1,h2,this,by rw [this];exact h3⟩
 have tk:∀ q∈us,takeB q.1=takerA q.2:=fun q hq=>by
  rcases hD.goalsI _ (hg q hq) with hh | hx
  ·rw [has_notaker _ (hD.has _ hh)]
   exact (part_obj hD.toOk k w A (hm q hq) hh).take h
  ·obtain ⟨_,_,_,_,e⟩:=gid q hq hx;exact e
 have keyin:∀ (x:Atm),x∈GX→x∈D.goals→rowX x∈rs:=fun x hx hxg=>by
  obtain ⟨q,hq,e⟩:=List.mem_map.mp ((hu x).mpr hxg)
  subst e
  exact (hr _).mpr ⟨q,hq,k.fix _ (hm q hq) (gx_fix _ hx)⟩
 have keyof:∀ (x:Atm),x∈GX→(∃ s,rowX x=.key s)→rowX x∈rs→x∈D.goals:=fun x hx ⟨s,hs⟩ hin=>by
  obtain ⟨q,hq,e⟩:=(hr _).mp hin
  obtain ⟨r,G⟩:=row q hq
  rw [G.at_] at e
  have e:=Option.some.inj e
  rcases G.cls with ⟨_,_,c⟩ | ⟨c,c'⟩
  ·rw [hs] at e;exact absurd e (c s)
  ·have i1:rowX q.2=rowX x:=c'.symm.trans e
   obtain ⟨i,a1,a2,a3,_⟩:=gid q hq c
   obtain ⟨j,c1,c2,_⟩:=gx_id x hx
   have:i=j:=by
    rw [i1] at a2
    exact nodup_at first_nodup a2 c2
   have inj:∀ x∈GX,∀ y∈GX,rowX x=rowX y→x=y:=by decide +kernel
   rw [← inj _ c _ hx i1];exact hg q hq
 have taken:S.any takeB=D.goals.any takerA:=by
  rw [Bool.eq_iff_iff,List.any_eq_true,List.any_eq_true]
  constructor
  ·rintro ⟨x,hx,q⟩
   obtain ⟨p,hp,rfl⟩:=sid x hx
   exact ⟨p.2,hg p hp,by rw [← tk p hp];exact q⟩
  ·rintro ⟨x,hx,q⟩
   have hxG:x∈GX:=by
    rcases hD.goalsI x hx with hh | hx'
    ·rw [has_notaker _ (hD.has _ hh)] at q;cases q
    ·exact hx'
   -- some row of toppedR that takes
   have:∃ y,takerA y=true∧y∈D.goals∧y∈GX∧rowX y∈toppedR rs:=by
    unfold toppedR
    by_cases h1:Row.key "any" ∈ rs
    ·rw [if_pos h1];exact ⟨.any,rfl,keyof .any (by decide) ⟨_,rfl⟩ h1,by decide,(.head _)⟩
    ·rw [if_neg h1]
     by_cases h2:Row.key "error" ∈ rs
     ·rw [if_pos h2];exact ⟨.err,rfl,keyof .err (by decide) ⟨_,rfl⟩ h2,by decide,(.head _)⟩
     ·rw [if_neg h2]
      by_cases h3:Row.key "unknown" ∈ rs
      ·rw [if_pos h3];exact ⟨.unk,rfl,keyof .unk (by decide) ⟨_,rfl⟩ h3,by decide,(.head _)⟩
      ·rw [if_neg h3];exact ⟨x,q,hx,hxG,keyin x hxG hx⟩
   obtain ⟨y,y1,y2,y3,y4⟩:=this
   obtain ⟨z,z1,z2⟩:=k3 _ y4
   obtain ⟨p,hp,rfl⟩:=sid z z1
   refine ⟨p.1,z1,?_⟩
   obtain ⟨i,a1,a2,a3,_⟩:=gx_id y y3
   have:p.1=i:=nodup_at h.nd z2 ((h.first a1).trans a2)
   rw [this,a3];exact y1
 refine ⟨S,k1,⟨fun x hx=>?_,fun x=>ob_okay hD.toOk x,fun hf=>?_⟩,taken,fun hf=>?_⟩
 ·obtain ⟨q,hq,rfl⟩:=sid x hx
  obtain ⟨r,G⟩:=row q hq
  rcases G.cls with ⟨c,_,_⟩ | ⟨c,c'⟩
  ·exact .inr (.inr (part_obj hD.toOk k w A (hm q hq) c))
  ·cases e:takerA q.2 with
   | true=>exact .inl (by rw [tk q hq,e])
   | false =>
    have:=gx_shaped _ c e
    exact .inr (.inl ⟨by rw [tk q hq,e],r,G.at_,by rw [c'];exact this.1,by rw [c'];exact this.2⟩)
 all_goals
  have hf':D.goals.any takerA=false:=by first | exact hf | exact taken.symm.trans hf
  have nt:∀ q∈us,takerA q.2=false:=fun q hq=>by
   cases e:takerA q.2 with
   | false=>rfl
   | true=>rw [List.any_eq_true.mpr ⟨_,hg q hq,e⟩] at hf';cases hf'
  have sh:∀ x∈S.filter (shapedB T),∃ q∈us,q.1=x∧D.has q.2=true:=fun x hx=>by
   obtain ⟨a,c⟩:=List.mem_filter.mp hx
   obtain ⟨q,hq,rfl⟩:=sid x a
   refine ⟨q,hq,rfl,?_⟩
   obtain ⟨r,G⟩:=row q hq
   rcases G.cls with ⟨d,_,_⟩ | ⟨d,d'⟩
   ·exact d
   ·have:=gx_shaped _ d (nt q hq)
    unfold shapedB at c
    rw [G.at_,d'] at c
    have:=of_decide_eq_true c
    fail "a"
 ·have hn:(S.filter (shapedB T)).Nodup:=(k1.sorted.imp fun h=>Nat.ne_of_lt h).filter _
  have:=sub_length (k:=(D.goals.filter D.has).map fun a=>(made.lookup a).getD 0) hn fun x hx=>by
   obtain ⟨q,hq,rfl,hh⟩:=sh x hx
   refine List.mem_map.mpr ⟨q.2,List.mem_filter.mpr ⟨hg q hq,hh⟩,?_⟩
   have lk:∀ l:List (Atm×Nat),(l.map (·.1)).Nodup→(q.2,q.1)∈l→l.lookup q.2=some q.1:=by
    intro l
    induction l with
    | nil=>intro _ h;cases h
    | cons p l ih =>
     intro hn hp
     rw [List.map_cons,List.nodup_cons] at hn
     obtain ⟨p1,p2⟩:=p
     rw [List.lookup_cons]
     rcases List.mem_cons.mp hp with e | hp'
     ·cases e;simp
     ·have:q.2≠p1:=fun e=>hn.1 (by rw [← e];exact List.mem_map.mpr ⟨_,hp',rfl⟩)
      rw [show (q.2==p1)=false by simpa using this];exact ih hn.2 hp'
   rw [lk made k.nd (hm q hq)];rfl
  rw [List.length_map] at this
  have:=hD.goals
  fail "a"
 ·have topn:toppedR rs=rs:=by
   have no:∀ x,x∈GX→(∃ s,rowX x=.key s)→takerA x=true→rowX x∉rs:=fun x a c d e=>by
    have:=keyof x a c e
    rw [List.any_eq_true.mpr ⟨x,this,d⟩] at hf';cases hf'
   unfold toppedR
   rw [if_neg (show Row.key "any" ∉ rs from no .any (by decide) ⟨_,rfl⟩ rfl),if_neg (show Row.key "error" ∉ rs from no .err (by decide) ⟨_,rfl⟩ rfl),if_neg (show Row.key "unknown" ∉ rs from no .unk (by decide) ⟨_,rfl⟩ rfl)]
  intro o
  rw [List.mem_map,List.mem_map]
  constructor
  ·rintro ⟨x,hx,rfl⟩
   obtain ⟨q,hq,rfl,hh⟩:=sh x hx
   exact ⟨q.2,List.mem_filter.mpr ⟨hg q hq,hh⟩,(ob_of hD.toOk k (hm q hq) hh).symm⟩
  ·rintro ⟨x,hx,rfl⟩
   obtain ⟨hxg,hh⟩:=List.mem_filter.mp hx
   obtain ⟨q,hq,e⟩:=List.mem_map.mp ((hu x).mpr hxg)
   subst e
   obtain ⟨r,G⟩:=row q hq
   obtain ⟨z,z1,z2⟩:=k3 r (by rw [topn];exact (hr r).mpr ⟨q,hq,G.at_⟩)
   have e:z=q.1:=nodup_at h.nd z2 G.at_
   subst e
   refine ⟨q.1,List.mem_filter.mpr ⟨z1,?_⟩,ob_of hD.toOk k (hm q hq) hh⟩
   rcases G.cls with ⟨_,c,_⟩ | ⟨c,c'⟩
   ·unfold shapedB;rw [G.at_];exact decide_eq_true c
   ·exfalso
    have:=hD.has _ hh
    revert this c
    generalize q.2=y
    cases y<;>decide
end
section
variable {n m ω τ b:Nat} {σ0 σ σ':St} {T:List Row} {v:V} {D:LW} {made:List (Atm×Nat)} {tn:Bool} {s:Int}
noncomputable def GoalPost (D:LW) (v:V) (made':List (Atm×Nat)) (T':List Row):Prop :=
 ∃ (u:Nat) (us:List (Nat×Atm)) (rs:List Row),v=.int u∧(∀ x,x∈us.map (·.2)↔x∈D.goals)∧(∀ q∈us,(q.2,q.1)∈made')∧(∀ r,r∈rs↔∃ q∈us,T'[q.1]?=some r)∧KR T' u (toppedR rs)
theorem goal_in (hD:D.Ok2) {x:Atm} (hx:x∈D.goals):x∈fixA∨x=.lit∨D.has x=true:=by
 rcases hD.goalsI x hx with h | h
 ·exact .inr (.inr h)
 ·exact .inl (gx_fix x h)
theorem goals_kind {g:Nat} (hD:D.Ok2) (B:Bst σ0 σ ω τ D tn made T (b+459 * 5+1) s) (hg:σ0[g]?=some (.list (nmV D.goals))) (hl:D.goals.length≤5) :
  Does 20 (rc 137) [.loc ω,.loc (τ+11),.loc g] σ (AtPost σ0 σ ω τ D tn made T b s (fun I=>True) fun v made' T'=>GoalPost D v made' T'):=by
 have hg1:=B.ext.at hg
 obtain ⟨L,hL,hmem,hLl⟩:=turn_ok (tn:=tn) D.goals
 rw [← hLl] at hl
 refine kind_walk (L:=L) (w:=if tn then .lst (nmV L) else .loc g) (B.less (by fail "a")) (fun h=>?_) (fun h=>by rw [h];rfl) ?_ (fun x hx=>at_any hD (goal_in hD ((hmem x).mp hx))) ?_
 ·show ((Mine.listOf σ (.loc g)).bind fun l=>lstSlice l none none (some (-1)))=_
  rw [listOf_l hg1,if_pos h]
  show some (V.lst (nmV D.goals).reverse)=_
  rw [← hL,if_pos h,nmV,nmV,List.map_reverse]
 ·cases tn with
  | true=>exact .inl rfl
  | false=>cases hL;exact .inr ⟨_,rfl,hg⟩
 ·intro us made' T' σ2 hu B' p4
  have hu':∀ x,x∈us.map (·.2)↔x∈D.goals:=fun x=>by rw [hu];exact hmem x
  have hg':∀ q∈us,q.2∈D.goals:=fun q hq=>(hu' _).mp (List.mem_map.mpr ⟨q,hq,rfl⟩)
  have row:∀ q∈us,∃ r,GoalRow T' D q.2 q.1 r:=fun q hq=>goal_row hD B'.mkd (hg' q hq) (p4 q hq)
  have rowg:∀ q∈us,∃ r,(T'[q.1]?).getD .tpl=r∧GoalRow T' D q.2 q.1 r:=fun q hq=>by
   obtain ⟨r,G⟩:=row q hq
   exact ⟨r,by rw [G.at_];rfl,G⟩
  have fm:∀ r,r∈(us.map fun q=>(q.1,[(T'[q.1]?).getD .tpl])).flatMap (·.2)↔∃ q∈us,T'[q.1]?=some r:=fun r=>by
   rw [List.mem_flatMap]
   constructor
   ·rintro ⟨p,hp,h⟩
    obtain ⟨q,hq,rfl⟩:=List.mem_map.mp hp
    obtain ⟨r',e,G⟩:=rowg q hq
    exact ⟨q,hq,by rw [List.mem_singleton.mp h,e];exact G.at_⟩
   ·rintro ⟨q,hq,e⟩
    exact ⟨_,List.mem_map.mpr ⟨q,hq,rfl⟩,by rw [e];exact .head _⟩
  have cls:∀ r,r∈(us.map fun q=>(q.1,[(T'[q.1]?).getD .tpl])).flatMap (·.2)→r.whole=-1∧r.fresh=false∧r≠.bool 0 0∧r≠.bool 0 1:=fun r hr=>by
   obtain ⟨q,hq,e⟩:=(fm r).mp hr
   obtain ⟨r',G⟩:=row q hq
   rw [G.at_] at e
   cases e
   exact ⟨G.whole,G.fresh,G.b0,G.b1⟩
  have hul:us.length≤5:=by rw [← List.length_map (·.2),hu];exact hl
  refine Does.mono (union_krp (ps:=us.map fun q=>(q.1,[(T'[q.1]?).getD .tpl])) B'.tab (.inl (by rw [List.map_map];rfl)) (fun p hp=>?_) (fun p hp=>?_) (by rw [List.length_map];fail "a") (fun r hr q hq=>?_) ⟨fun q=>(cls _ q).2.2.1 rfl,fun q=>(cls _ q).2.2.2 rfl⟩) ?_
  ·obtain ⟨q,hq,rfl⟩:=List.mem_map.mp hp
   obtain ⟨r,e,G⟩:=rowg q hq
   dsimp only
   rw [e]
   exact kr_one B'.tab.nd B'.tab.never G.at_ G.k6 G.nv
  ·obtain ⟨q,hq,rfl⟩:=List.mem_map.mp hp
   exact (by decide:1≤7)
  ·obtain ⟨a,c,_⟩:=cls r hr
   exact ⟨(fun e=>by rw [a] at e;cases e),(fun e=>by rw [a] at e;cases e),(fun e=>by rw [c] at e;cases e)⟩
  ·rintro ⟨v3,σ3⟩ ⟨T3,q1,q2,q3,u,rfl,ku⟩
   refine ⟨T3,q1,q2,q3,u,us,_,rfl,hu',p4,fun r=>(fm r).trans ⟨?_,?_⟩,ku⟩
   ·rintro ⟨q,hq,e⟩;exact ⟨q,hq,pre_at q1 e⟩
   ·rintro ⟨q,hq,e⟩
    obtain ⟨r',G⟩:=row q hq
    have:=pre_at q1 G.at_
    rw [e] at this;cases this
    exact ⟨q,hq,G.at_⟩
end
theorem sortA_sorted (l:List Atm):(sortA l).Pairwise (fun a c=>a.ord≤c.ord):=(insSort_sorted (ord_of fun I I=>ord_inj) l).imp fun h=>Nat.not_lt.mp (of_decide_eq_false h)
theorem sortA_rev (l:List Atm):sortA l.reverse=sortA l :=
 List.Perm.eq_of_pairwise (le:=fun a c=>a.ord≤c.ord) (fun a c I I h1 h2=>ord_inj (Nat.le_antisymm h1 h2)) (sortA_sorted _) (sortA_sorted _) (((sortA_perm _).trans (List.reverse_perm l)).trans (sortA_perm l).symm)
theorem left_mapf {α β:Type} (f:α→β) (ob:β→O) (lit:List (Str×List Atm)) (ts:List α):leftO ob lit (ts.map f)=(leftO (fun a=>ob (f a)) lit ts).map f:=by
 unfold leftO
 have:∀ (lit:List (Str×List Atm)) (left:List α),lit.foldl (fun left p=>stepO ob (ts.map f) p left) (left.map f)=(lit.foldl (fun left p=>stepO (fun a=>ob (f a)) ts p left) left).map f:=by
  intro lit
  induction lit with
  | nil=>intro _;rfl
  | cons p lit ih =>
   intro left
   rewrite [List.foldl_cons,List.foldl_cons,← ih]
   congr 1
   unfold stepO
   rw [List.map_map]
   have e:((left.map f).filter fun t=>letsA ((ob t).raw p.1) p.2)=(left.filter fun t=>letsA ((ob (f t)).raw p.1) p.2).map f:=by rw [List.filter_map];rfl
   rw [e]
   have e2:((left.filter fun t=>letsA ((ob (f t)).raw p.1) p.2).map f).isEmpty=(left.filter fun t=>letsA ((ob (f t)).raw p.1) p.2).isEmpty:=by simp
   rw [e2]
   show (if apartO (ts.map fun a=>ob (f a)) p.1 then _ else _)=List.map f (if apartO (ts.map fun a=>ob (f a)) p.1 then (if (left.filter fun t=>letsA ((ob (f t)).raw p.1) p.2).isEmpty then left else left.filter fun t=>letsA ((ob (f t)).raw p.1) p.2) else left)
   split
   ·split<;>rfl
   ·rfl
 exact this lit ts
theorem left_congr {α:Type} {ob ob':α→O} {ts:List α} (h:∀ t∈ts,ob t=ob' t) (lit:List (Str×List Atm)):leftO ob lit ts=leftO ob' lit ts:=by
 unfold leftO
 have e:ts.map ob=ts.map ob':=List.map_congr_left h
 have:∀ (lit:List (Str×List Atm)) (left:List α),(∀ t∈left,t∈ts)→lit.foldl (fun left p=>stepO ob ts p left) left=lit.foldl (fun left p=>stepO ob' ts p left) left:=by
  intro lit
  induction lit with
  | nil=>intro _ _;rfl
  | cons p lit ih =>
   intro left hl
   have f:(left.filter fun t=>letsA ((ob t).raw p.1) p.2)=left.filter fun t=>letsA ((ob' t).raw p.1) p.2:=List.filter_congr fun t ht=>by rw [h t (hl t ht)]
   have s:stepO ob ts p left=stepO ob' ts p left:=by unfold stepO;rw [e,f]
   rw [List.foldl_cons,List.foldl_cons,s]
   exact ih _ fun t ht=>hl t (stepO_sub t ht)
 exact this lit ts fun I h=>h
theorem left_rev {α:Type} (ob:α→O) (lit:List (Str×List Atm)) (ts:List α):leftO ob lit ts.reverse=(leftO ob lit ts).reverse:=by
 unfold leftO
 have:∀ (lit:List (Str×List Atm)) (left:List α),lit.foldl (fun left p=>stepO ob ts.reverse p left) left.reverse=(lit.foldl (fun left p=>stepO ob ts p left) left).reverse:=by
  intro lit
  induction lit with
  | nil=>intro _;rfl
  | cons p lit ih =>
   intro left
   rewrite [List.foldl_cons,List.foldl_cons,← ih]
   congr 1
   unfold stepO
   rw [List.filter_reverse,List.map_reverse,apart_same (k:=ts.map ob) (fun o=>List.mem_reverse)]
   have e:(left.filter fun t=>letsA ((ob t).raw p.1) p.2).reverse.isEmpty=(left.filter fun t=>letsA ((ob t).raw p.1) p.2).isEmpty:=by simp
   rewrite [e]
   split
   ·split<;>rfl
   ·rfl
 exact this lit ts
section
variable {n m ω τ b:Nat} {σ0 σ σ':St} {T:List Row} {v:V} {D:LW} {made:List (Atm×Nat)} {tn:Bool} {s:Int}
theorem host_init:Does 1 (mrc 84 "__init__") [.loc σ.length,.loc τ] (σ++[.inst (Str.ofString "RefHost") []]) fun q=>q.1=.none∧q.2=σ++[.inst (Str.ofString "RefHost") (hostFs τ)]:=by
 refine enterQ fun Q' hQ=>?_
 show Sem _ (.exs (mrc 84 "__init__").body (frameW (mrc 84 "__init__") [.loc σ.length,.loc τ]) (σ++[.inst "RefHost" []]) (wEnd Q'))
 refine fld (v:=.loc τ) (fun K h=>go_sound 2 _ h) (fld rhs_c (fld (v:=.int 200) (fun K h=>go_sound 2 _ h) (fld (v:=.int 40) (fun K h=>go_sound 2 _ h) (fld (v:=.none) (fun K h=>go_sound 2 _ h) ?_))))
 refine go ?_
 fail "r"
 exact ⟨rfl,by kernel_rfl⟩
theorem WAt.fx (h:WAt σ0 ω D):∃ ωi ωl ωg,σ0[ωl]?=some (.dict (strD kindV D.lit))∧σ0[ωg]?=some (.list (nmV D.goals))∧∀ σ',Ext σ0 σ'→subV σ' (.loc ω) (.str (Str.ofString "lit"))=some (.loc ωl)∧subV σ' (.loc ω) (.str (Str.ofString "whole"))=some (.bool D.whole)∧subV σ' (.loc ω) (.str (Str.ofString "goals"))=some (.loc ωg)∧subV σ' (.loc ω) (.str (Str.ofString "inner"))=some (.loc ωi):=by
 obtain ⟨ωo,ωi,ωg,ωl,a,b,c,d,e⟩:=h.ex
 exact ⟨ωi,ωl,ωg,e,d,fun σ' X=>⟨sub_str (X.at a) rfl,sub_str (X.at a) rfl,sub_str (X.at a) rfl,sub_str (X.at a) rfl⟩⟩
theorem range_nat {k:Nat} (h:k≤4):rangeV (.int (k:Nat))=some (k:Int):=by
 show need (decide ((0:Int)≤(k:Int))&&decide ((k:Int) < 1000)) (some (k:Int))=_
 rw [decide_eq_true (show (0:Int)≤(k:Int) by fail "a"),decide_eq_true (show (k:Int) < 1000 by fail "a")]
 rfl
theorem rev_pairs {shaped:List Atm} {k:Nat} (hk:shaped.length=k):∃ P:List (Nat×Atm),P.map (·.2)=shaped.reverse∧(List.range k).map (fun (i:Nat)=>V.int (i:Int))=P.map (fun q=>V.int (q.1:Nat))∧∀ q∈P,q.1 < k∧shaped[k - 1 - q.1]?=some q.2:=by
 refine ⟨(List.range k).map fun i=>(i,(shaped[k - 1 - i]?).getD .a),?_,by rw [List.map_map];rfl,fun q hq=>?_⟩
 ·rw [List.map_map]
  apply List.ext_getElem
  ·simp [hk]
  ·intro i h1 h2
   simp at h1 h2
   simp [hk]
   rw [List.getElem?_eq_getElem (by fail "a")]
   rfl
 ·obtain ⟨i,hi,rfl⟩:=List.mem_map.mp hq
  have:=List.mem_range.mp hi
  refine ⟨this,?_⟩
  rw [List.getElem?_eq_getElem (by fail "a")];rfl
set_option maxHeartbeats 4000000 in
theorem law_right {nm:Str} {t:Nat} (hD:D.Ok2) (hgl:D.goals.length≤5) (hgP:∀ x∈D.goals,D.has x=true→x∈PA) (B:Bst σ0 σ ω τ D tn made T 700000 t) (hS:LitS made T D t) (h0:∃ i,(Atm.o0,i)∈made) (h1:∃ i,(Atm.o1,i)∈made) (hl:∃ i,(Atm.lit,i)∈made) (hn:okName nm) :
  Does 32 (rc 143) [.loc ω,.loc (τ+11),.str nm] σ fun q=>q.1=.bool true∧Ext σ0 q.2:=by
 obtain ⟨f1,f2,f3,f4,f5⟩:=B.flds
 obtain ⟨ωi,ωl,ωg,e1,e2,fx⟩:=B.w.fx
 have hlen:τ+12≤σ.length:=(List.getElem?_eq_some_iff.mp B.v).1
 have B1:Bst σ0 (σ++[.inst (Str.ofString "RefHost") (hostFs τ)]) ω τ D tn made T 700000 t:=B.fix ((Ext.push _ _).fix τ) (List.prefix_refl _) (B.tab.ext (Ext.push _ _))
 have H1:Host (σ++[.inst (Str.ofString "RefHost") (hostFs τ)]) σ.length τ:=⟨push_at _ _⟩
 refine enterG fun Q' hQ=>?_
 fail "r"
 refine Does.goP host_init ?_
 rintro R hR v1 σ1 ⟨q1,q2⟩
 obtain rfl:v1=.none:=q1
 obtain rfl:σ1=_:=q2
 clear f1 f2 f3 f4 f5
 generalize hσ1:σ++[.inst (Str.ofString "RefHost") (hostFs τ)]=σ1 at *
 generalize hη:σ.length=η at *
 clear hσ1 hη B
 obtain ⟨f1,f2,f3,f4,f5⟩:=B1.flds
 have W:=B1.w.ext B1.ext
 obtain ⟨ωo,w1,w2,w3⟩:=W.objs
 obtain ⟨g1,g2,g3,g4⟩:=fx σ1 B1.ext
 have hgo:=B1.ext.at e2
 obtain ⟨l1,l2,l3⟩:=(show IsL σ1 (.loc ωg) _ from .inr ⟨_,rfl,hgo⟩).loop
 have fx':id _:=fx
 clear fx w3
 fail "r"
 refine comp_mapG id (onName false D.has) l3 ?_ ?_ ?_
 ·intro z hz
  obtain ⟨y,hy,rfl⟩:=mem_nmV.mp hz
  clear hQ
  fail "r"
  rw [onName_eq]
 ·intro z hz _
  clear hQ
  fail "r"
 rw [List.map_id,nmV_filter _ D.has (onName_eq _ _)]
 obtain ⟨shaped,hsh⟩:∃ l,D.goals.filter D.has=l:=⟨_,rfl⟩
 rw [hsh]
 have gk:=goals_kind (b:=600000) hD (B1.less (by fail "a")) e2 hgl
 clear l1 l2 l3 w1 w2
 fail "r"
 refine Does.goP gk ?_
 rintro R hR v2 σ2 ⟨made2,T2,B2,⟨q0,_⟩,q2,q3,u,us,rs,hv2,u1,u2,u3,u4⟩
 obtain rfl:v2=_:=hv2
 have h0':∃ i,(Atm.o0,i)∈made2:=(by obtain ⟨i,h⟩:=h0;exact ⟨i,q0 _ h⟩)
 have h1':∃ i,(Atm.o1,i)∈made2:=(by obtain ⟨i,h⟩:=h1;exact ⟨i,q0 _ h⟩)
 have hl':∃ i,(Atm.lit,i)∈made2:=(by obtain ⟨i,h⟩:=hl;exact ⟨i,q0 _ h⟩)
 have hS2:=hS.up B1.mkd q0 q2
 obtain ⟨Wd,wA,wO,wG⟩:=world_of hD.toOk B2.mkd h0' h1' hl'
 obtain ⟨S,k1,U,tk,sm⟩:=goal_top hD B2.tab B2.mkd wA wG u1 u2 u3 u4
 have H2:Host σ2 η τ:=⟨q3.at hlen H1.at_⟩
 have L:LitAt Wd T2 t (if D.whole then 1 else 0) (sortP D.lit):=⟨hS2 _ _ _ wA.R wG⟩
 have hll:(sortP D.lit).length≤4:=by rw [(sortP_perm D.lit).length_eq];exact hD.lenL
 have hnd:((sortP D.lit).map (·.1)).Nodup:=((sortP_perm D.lit).map (·.1)).nodup_iff.mpr hD.ndL
 have ex:=top_excess (b:=590000) (B2.tab.less (by fail "a")) H2 wA L hll hnd k1 U
 have eF:(if S.any takeB then ("" : Str) else oneO (sortP D.lit) (Wd.inner (sortP D.lit)) ((S.filter (shapedB T2)).map (obOf D made2)))=D.first (sortP D.lit) D.inn D.goals:=by
  rw [top_eq_law hD.toOk wO,tk]
  cases ht:D.goals.any takerA with
  | true=>rfl
  | false =>
   rw [if_neg (by decide),if_neg (by decide)]
   refine one_same (sm ht) fun a c hs I p I=>?_
   unfold World.inner
   rw [ask_same hs]
 rw [eF] at ex
 obtain ⟨F,hF⟩:∃ F,D.first (sortP D.lit) D.inn D.goals=F:=⟨_,rfl⟩
 rw [hF] at ex
 have fx:∀ (σ':St),Ext σ0 σ'→_:=fx'
 obtain ⟨g1,g2,g3,g4⟩:=fx σ2 B2.ext
 obtain ⟨f1,f2,f3,f4,f5⟩:=B2.flds
 clear gk hS B1 H1 u1 u2 u3 u4 k1 U tk sm L eF h0 h1 hl wA wO wG
 fail "r"
 refine Does.goV ex fun T3 σ3 r1 r2 r3=>?_
 have B3:Bst σ0 σ3 ω τ D tn made2 T3 590000 t:=B2.fix r3 r1 r2
 have H3:=H2.fix B2.tab r3
 have hS3:=hS2.up B2.mkd (fun I h=>h) r1
 clear ex B2 H2 hS2 g1 g2 g3 g4 f1 f2 f3 f4 f5
 obtain ⟨g1,g2,g3,g4⟩:=fx σ3 B3.ext
 have lf:=law_first (goals:=.loc ωg) hD.toOk (B3.w.ext B3.ext) (.inr ⟨_,rfl,B3.ext.at e2⟩) g1
 rw [hF] at lf
 clear fx
 fail "r"
 refine sel_joinR (fun q=>q.1=.str (if D.whole then F else "")∧Ext σ3 q.2) (fun hb=>?_) (fun hb=>?_) ?_
 ·rw [if_pos hb]
  clear hb hQ
  fail "r"
  refine Does.goP lf ?_
  rintro R hR v4 σ4 ⟨a,c⟩
  exact hR (fin ⟨c,a⟩)
 ·rw [if_neg (by rw [hb];decide)]
  clear hb lf hQ
  fail "r"
  exact ⟨rfl,Ext.refl _⟩
 rintro R hR v4 σ4 ⟨a,X4⟩
 obtain rfl:v4=_:=a
 obtain ⟨E,hE⟩:∃ E:Str,(if D.whole then F else "")=E:=⟨_,rfl⟩
 refine hR ?_
 clear hR
 rw [hE]
 have X4:Ext σ3 σ4:=X4
 have B4:Bst σ0 σ4 ω τ D tn made2 T3 590000 t:=B3.fix (X4.fix τ) (List.prefix_refl _) (B3.tab.ext X4)
 have H4:Host σ4 η τ:=⟨X4.at H3.at_⟩
 clear lf B3 H3 g1 g2 g3 g4 hE hF
 have ee:(E==E)=true:=beq_self_eq_true E
 obtain ⟨k,hk⟩:∃ k,shaped.length=k:=⟨_,rfl⟩
 have ln:(nmV shaped).length=k:=by unfold nmV;rw [List.length_map,hk]
 have k4:k≤4:=by rw [← hk,← hsh];exact hD.goals
 have rg:rangeV (.int ((nmV shaped).length:Nat))=some (k:Int):=by rw [ln];exact range_nat k4
 have o1:∀ σ,loopOf σ (.rng (k:Int))=some ((List.range k).map fun (i:Nat)=>V.int (i:Int)):=fun I=>by
  show some ((List.range (Int.toNat k)).map _)=_
  rw [Int.toNat_natCast]
 obtain ⟨P,hP,hP2,hP3⟩:∃ P:List (Nat×Atm),P.map (·.2)=shaped.reverse∧(List.range k).map (fun (i:Nat)=>V.int (i:Int))=P.map (fun q=>V.int (q.1:Nat))∧∀ q∈P,q.1 < k∧shaped[k - 1 - q.1]?=some q.2:=rev_pairs hk
 rw [hP2] at o1
 have o2:loopD σ4 (.rng (k:Int))=some (false,P.map (fun q=>V.int (q.1:Nat))):=by unfold loopD;rw [o1];rfl
 have o3:∀ σ,sameItems σ (.rng (k:Int)) false (P.map fun q=>V.int (q.1:Nat))=true:=fun σ=>by
  unfold sameItems;rw [o1,show isD σ (.rng (k:Int))=false from rfl];simp [(V.eqbs_iff _ _).mpr rfl]
 have hPl:P.length≤4:=by rw [← List.length_map (·.2),hP,List.length_reverse,hk];exact k4
 have hPg:∀ q∈P,q.2∈shaped:=fun q hq=>List.mem_of_getElem? (hP3 q hq).2
 have hshD:∀ x∈shaped,D.has x=true∧x∈PA:=fun x hx=>by
  rw [← hsh] at hx
  obtain ⟨a,c⟩:=List.mem_filter.mp hx
  exact ⟨c,hgP x a c⟩
 clear hP2 o1
 fail "r"
 refine comp_rlR (fun r done σ'=>Ex3 fun (us:List (Nat×Atm)) (made':List (Atm×Nat)) (T':List Row)=>C8 (∀ q∈r,q∈P) (done=vints (us.map (·.1))) (us.map (·.2)++r.map (·.2)=P.map (·.2)) (Bst σ0 σ' ω τ D tn made' T' (500000+459 * r.length) t) (∀ p∈made2,p∈made') (T3 <+: T') (Keep τ σ4 σ') (∀ q∈us,(q.2,q.1)∈made')) ?_ ?_ ?_
 ·rintro P' hC R hR y r done σ' ⟨us,made',T',hr,rfl,hu,B',p1,p2,p3,p4⟩
  have hy:=hr y (.head _)
  have hr:∀ q∈r,q∈P:=fun q h=>hr q (.tail _ h)
  rw [show 500000+459 * (y::r).length=500000+459 * r.length+459 from rfl] at B'
  obtain ⟨y1,y2⟩:=hP3 y hy
  have su:subV σ' (.lst (nmV shaped)) (.int (((nmV shaped).length:Nat) - 1 - (y.1:Nat)))=some (.str y.2.name):=by
   rw [ln,show (k:Int) - 1 - (y.1:Int)=((k - 1 - y.1:Nat):Int) by fail "a"]
   exact sub_lst (by unfold nmV;rw [List.getElem?_map,y2];rfl) (by rw [ln];exact Nat.le_trans k4 (by decide))
  have ay:=at_any (σ0:=σ0) (ω:=ω) (τ:=τ) (tn:=tn) (s:=(t:Nat)) hD (.inr (.inr (hshD y.2 (hPg y hy)).1)) σ' made' T' _ B'
  clear hP3 y2 y1 hPg hshD hgP hD hQ
  fail "r"
  refine Does.goP ay ?_
  rintro R hR v5 σ5 ⟨made5,T5,B5,s1,s2,s3,i,hv5,s4⟩
  cases hv5
  refine hR ?_
  refine fin (hC (o3 σ5) ⟨us++[(i,y.2)],made5,T5,hr,by rw [vints,vints,List.map_append,List.map_append];rfl,by rw [List.map_append,List.append_assoc];exact hu,B5,fun p hp=>s1.1 p (p1 p hp),p2.trans s2,p3.trans s3,fun q hq=>?_⟩)
  rcases List.mem_append.mp hq with hq | hq
  ·exact s1.1 _ (p4 q hq)
  ·rw [List.mem_singleton.mp hq];exact s4
 ·exact ⟨[],made2,T3,fun I h=>h,rfl,rfl,B4.less (by fail "a"),fun I h=>h,List.prefix_refl _,Keep.refl _ _,fun I q=>nomatch q⟩
 rintro R hR vs σ5 ⟨us,made5,T5,hr,rfl,hu,B5,p1,p2,p3,p4⟩
 rw [List.map_nil,List.append_nil,hP] at hu
 replace B5:=B5.less (b':=500000) (Nat.le_add_right _ _)
 obtain ⟨W5,w5,_,A5⟩:=world_of hD.toOk B5.mkd ((by obtain ⟨i,h⟩:=h0';exact ⟨i,p1 _ h⟩)) ((by obtain ⟨i,h⟩:=h1';exact ⟨i,p1 _ h⟩)) ((by obtain ⟨i,h⟩:=hl';exact ⟨i,p1 _ h⟩))
 have H5:Host σ5 η τ:=⟨p3.at hlen H4.at_⟩
 have hus:∀ q∈us,q.2∈shaped:=fun q hq=>List.mem_reverse.mp (by rw [← hu];exact List.mem_map.mpr ⟨q,hq,rfl⟩)
 have hul:(us.map (·.1)).length≤4:=by rw [List.length_map,← List.length_map (·.2),hu,List.length_reverse,hk];exact k4
 have xs:∀ t∈us.map (·.1),ObjAt σ5 τ T5 t (rdF W5.x0 W5.x1 W5.l (obOf D made5) t):=fun t ht=>by
  obtain ⟨q,hq,rfl⟩:=List.mem_map.mp ht
  exact part_obj hD.toOk B5.mkd w5 A5 (p4 q hq) (hshD _ (hus q hq)).1
 have obs:∀ q∈us,obOf D made5 q.1=D.ob q.2:=fun q hq=>ob_of hD.toOk B5.mkd (p4 q hq) (hshD _ (hus q hq)).1
 have hO:∀ t∈us.map (·.1),(obOf D made5 t).Ok:=fun t I=>ob_okay hD.toOk t
 have eA:apartR ((us.map (·.1)).map fun t=>rdF W5.x0 W5.x1 W5.l (obOf D made5) t nm)=apartO (shaped.map D.ob) nm:=by
  rw [apart_eq w5.R hO]
  rw [show (us.map (·.1)).map (obOf D made5)=(shaped.map D.ob).reverse by
   rw [← List.map_reverse,← hu,List.map_map,List.map_map]
   exact List.map_congr_left fun q hq=>obs q hq]
  exact apart_same (fun o=>List.mem_reverse) nm
 have tl:=tells_spec (b:=400000) (nm:=nm) (ts:=us.map (·.1)) (rd:=rdF W5.x0 W5.x1 W5.l (obOf D made5)) (B5.tab.less (by fail "a")) H5 xs hn (by fail "a")
 rw [eA] at tl
 obtain ⟨A,hA⟩:∃ A,apartO (shaped.map D.ob) nm=A:=⟨_,rfl⟩
 rw [hA] at tl
 have nb:(A==A)=true:=beq_self_eq_true A
 have B4':=B4.mkd
 clear B4 H4 h0' h1' hl' hP3 o2 o3 rg eA
 fail "r"
 refine Does.goV tl fun T6 σ6 r1 r2 r3=>?_
 have B6:Bst σ0 σ6 ω τ D tn made5 T6 400000 t:=B5.fix r3 r1 r2
 have H6:=H5.fix B5.tab r3
 have xs6:∀ t∈us.map (·.1),ObjAt σ6 τ T6 t (rdF W5.x0 W5.x1 W5.l (obOf D made5) t):=fun t ht=>(xs t ht).fix B5.tab r3 r1
 have al:=apart_law (nm:=nm) (parts:=shaped) (B6.w.ext B6.ext) (fun x hx=>(hshD x hx).1) (by fail "a")
 rw [hA] at al
 clear tl
 fail "r"
 refine Does.goX al fun σ7 X7=>?_
 have X7:Ext σ6 σ7:=X7
 have B7:Bst σ0 σ7 ω τ D tn made5 T6 400000 t:=B6.fix (X7.fix τ) (List.prefix_refl _) (B6.tab.ext X7)
 have H7:Host σ7 η τ:=⟨X7.at H6.at_⟩
 have xs7:∀ t∈us.map (·.1),ObjAt σ7 τ T6 t (rdF W5.x0 W5.x1 W5.l (obOf D made5) t):=fun t ht=>(xs6 t ht).fix B6.tab (X7.fix τ) (List.prefix_refl _)
 have hS6:=((hS3.up B4' p1 p2).up B5.mkd (fun I h=>h) r1) _ _ _ w5.R ⟨fun i hi=>pre_at r1 (A5.1 i hi),fun i hi=>pre_at r1 (A5.2.1 i hi),fun i hi=>pre_at r1 (A5.2.2 i hi)⟩
 obtain ⟨f1,f2,f3,f4,f5⟩:=B7.flds
 clear al B6 H6 xs6
 have x7:=B7.ext
 cases tn with
 | false =>
  clear xs7 hS6 hO obs xs hshD hPg hgP B5 B7 fx'
  fail "r"
  exact ⟨rfl,x7⟩
 | true =>
 obtain ⟨ps,Kf,a1,a2,a3,a4⟩:=hS6
 have hpl:ps.length≤4:=by rw [← List.length_map (·.name),a3,List.length_map,(sortP_perm D.lit).length_eq];exact hD.lenL
 have td:=told_spec (b:=300000) (ts:=us.map (·.1)) (rd:=rdF W5.x0 W5.x1 W5.l (obOf D made5)) (K:=Kf) (B7.tab.less (by fail "a")) H7 a1 xs7 hul a2 (rdf_fit (T:=T5) w5 hO)
 rw [a3,told_eq w5.R hO a4,left_mapf,left_congr (ob':=fun q=>D.ob q.2) obs] at td
 have hZ:(leftO (fun q=>D.ob q.2) (sortP D.lit) us).map (·.2)=(leftO D.ob (sortP D.lit) shaped).reverse:=by
  rw [← left_rev,← hu,left_mapf]
 have hZs:∀ q∈leftO (fun q=>D.ob q.2) (sortP D.lit) us,q∈us:=leftO_sub _
 generalize leftO (fun q:Nat×Atm=>D.ob q.2) (sortP D.lit) us=Z at *
 clear xs7 xs B5 hS3 a2 a3 a4 hO
 fail "r"
 refine Does.goV td fun T8 σ8 r5 r6 r7=>?_
 have B8:Bst σ0 σ8 ω τ D true made5 T8 300000 t:=B7.fix r7 r5 r6
 obtain ⟨es,n1,n2⟩:=B8.names
 obtain ⟨f1,f2,f3,f4,f5⟩:=B8.flds
 clear td B7 H7 x7
 have lenl:(leftO D.ob (sortP D.lit) shaped).length≤4:=Nat.le_trans (left_len (sortP D.lit)) (by rw [hk];exact k4)
 have nm1:∀ q∈Z,(dictGetV es (.int (q.1:Nat))).getD (.str (Str.ofString "?"))=.str q.2.name:=fun q hq=>by
  have hq:=hZs q hq
  rw [n2.get _ (p4 q hq) (hshD _ (hus q hq)).2];rfl
 have kk:=n2.ok
 have hZn:((vints (Z.map (·.1))).map fun v=>(dictGetV es v).getD (.str (Str.ofString "?")))=nmV (Z.map (·.2)):=by
  unfold vints nmV
  rw [List.map_map,List.map_map,List.map_map]
  exact List.map_congr_left fun q hq=>nm1 q hq
 have x8:=B8.ext
 clear hshD hPg hgP B4' obs hP hu
 fail "r"
 refine comp_allG (fun v=>(dictGetV es v).getD (.str (Str.ofString "?"))) (same_lst _) ?_ ?_
 ·intro z hz
  obtain ⟨i,hi,rfl⟩:=mem_vints.mp hz
  have k1:=kk i
  clear fx' nm1 hZn hQ
  fail "r"
 rw [hZn,hZ]
 have s1:sortSrc σ8 (.lst (nmV (leftO D.ob (sortP D.lit) shaped).reverse))=some (nmV (leftO D.ob (sortP D.lit) shaped).reverse):=rfl
 have s2:=sortV_nm (K:=(leftO D.ob (sortP D.lit) shaped).reverse) (by rw [List.length_reverse];fail "a")
 rw [sortA_rev] at s2
 have s4:=sortV_nm (K:=leftO D.ob (sortP D.lit) shaped) (by fail "a")
 have X9:Ext σ8 (σ8++[.list (nmV (sortA (leftO D.ob (sortP D.lit) shaped)))]):=Ext.push _ _
 have x9:=x8.trans X9
 have fx:∀ (σ':St),Ext σ0 σ'→_:=fx'
 obtain ⟨g1,_⟩:=fx _ x9
 have ll:=left_law (k:=ωl) (lit:=D.lit) (parts:=shaped) (B8.w.ext x9) ⟨x9.at e1,hD.ownL,hD.ndL,hD.lenL⟩ (fun x hx=>by rw [← hsh] at hx;exact (List.mem_filter.mp hx).2) (by fail "a")
 have p9:=push_at σ8 (.list (nmV (sortA (leftO D.ob (sortP D.lit) shaped))))
 generalize hG:leftO D.ob (sortP D.lit) shaped=G at *
 clear fx fx' nm1 hZn B8 kk
 fail "r"
 refine Does.goX ll fun σ10 X10=>?_
 have x10:=x9.trans X10
 have s5:sortSrc σ10 (.lst (nmV G))=some (nmV G):=rfl
 have qe:eqV σ10 (.loc σ8.length) (.lst (nmV (sortA G)))=some true:=by
  have:IsL σ10 (.loc σ8.length) (nmV (sortA G)):=.inr ⟨_,rfl,X10.at p9⟩
  rw [this.eq_,decide_eq_true rfl]
 clear ll s1 p9
 fail "r"
 exact ⟨rfl,x10⟩
end
structure DX (δ:Nat) (σ σ':St):Prop where
 low:∀ k,k < σ.length→k≠δ→σ'[k]?=σ[k]?
 len:σ.length≤σ'.length
theorem DX.trans {δ:Nat} {a b c:St} (x:DX δ a b) (y:DX δ b c):DX δ a c:=⟨fun k h1 h2=>(y.low k (Nat.lt_of_lt_of_le h1 x.len) h2).trans (x.low k h1 h2),Nat.le_trans x.len y.len⟩
theorem DX.at {δ:Nat} {σ σ':St} (x:DX δ σ σ') {k:Nat} {o:Ob} (h:σ[k]?=some o) (hk:k≠δ):σ'[k]?=some o:=(x.low k (List.getElem?_eq_some_iff.mp h).1 hk).trans h
theorem Ext.dx {σ σ':St} (x:Ext σ σ') (δ:Nat):DX δ σ σ':=⟨fun k h I=>x.low k h,x.len⟩
theorem DX.set {δ:Nat} {σ σ':St} (x:DX δ σ σ') {k:Nat} (hk:σ.length≤k) (o:Ob):DX δ σ (σ'.set k o):=⟨fun i h1 h2=>by rw [List.getElem?_set_ne (by fail "a")];exact x.low i h1 h2,by rw [List.length_set];exact x.len⟩
structure DK (lo:Nat) (σ σ':St):Prop where
 low:∀ i,lo≤i→∀ es,σ[i]?=some (Ob.dict es)→σ'[i]?=some (Ob.dict es)
theorem DX.dk {δ lo:Nat} {σ σ':St} (x:DX δ σ σ') (h:δ < lo):DK lo σ σ':=⟨fun i hi es e=>x.at e (by fail "a")⟩
theorem DK.set {lo k:Nat} {σ:St} {o:Ob} (h:k < lo):DK lo σ (σ.set k o):=⟨fun i hi es e=>set_other e (by fail "a")⟩
theorem DK.setl {lo k:Nat} {σ:St} {o:Ob} {l:List V} (h:σ[k]?=some (.list l)):DK lo σ (σ.set k o):=⟨fun i hi es e=>set_other e (by rintro rfl;rw [h] at e;cases e)⟩
structure OAtL (lo:Nat) (σ:St) (k:Nat) (o:O):Prop where
 ok:o.Ok
 ge:lo≤k
 ex:∃ km,lo≤km∧σ[k]?=some (.dict [(.str "members",.loc km),(.str "texts",kV o.texts),(.str "digits",kV o.digits)])∧σ[km]?=some (.dict (strD memV o.mem))
theorem OAtL.keep {lo:Nat} {σ σ':St} {k:Nat} {o:O} (h:OAtL lo σ k o) (x:DK lo σ σ'):OAtL lo σ' k o:=by
 obtain ⟨km,a,b,c⟩:=h.ex
 exact ⟨h.ok,h.ge,km,a,x.low _ h.ge _ b,x.low _ a _ c⟩
theorem OAtL.to {lo:Nat} {σ:St} {k:Nat} {o:O} (h:OAtL lo σ k o):OAt σ k o:=(by obtain ⟨km,_,b,c⟩:=h.ex;exact ⟨h.ok,km,b,c⟩)
structure Drw (σ:St) (δ N:Nat):Prop where
 ex:∃ (a:Nat) (nv:V) (xs:List Int),σ[δ]?=some (.list [.int (a:Nat),nv])∧a+N≤1000∧IsL σ nv (xs.map .int)∧xs≠[]∧xs.length≤48∧∀ k,nv=.loc k→k < δ
theorem IsL.dx {σ σ':St} {δ:Nat} {v:V} {l:List V} (h:IsL σ v l) (x:DX δ σ σ') (hn:v≠.loc δ):IsL σ' v l:=h.imp id fun zz=>(by obtain ⟨k,a,b⟩:=zz;exact ⟨k,a,x.at b (fun e=>hn (by rw [a,e]))⟩)
theorem Drw.less {σ:St} {δ N M:Nat} (h:Drw σ δ N) (hM:M≤N):Drw σ δ M:=(by obtain ⟨a,nv,xs,h1,h2,h3⟩:=h.ex;exact ⟨a,nv,xs,h1,by fail "a",h3⟩)
theorem Drw.lt {σ:St} {δ N:Nat} (h:Drw σ δ N):δ < σ.length:=(by obtain ⟨_,_,_,h1,_⟩:=h.ex;exact (List.getElem?_eq_some_iff.mp h1).1)
theorem Drw.keep {σ σ':St} {δ N:Nat} (h:Drw σ δ N) (x:∀ (k:Nat) (o:List V),σ[k]?=some (Ob.list o)→σ'[k]?=some (Ob.list o)):Drw σ' δ N:=by
 obtain ⟨a,nv,xs,h1,h2,h3,h4⟩:=h.ex
 exact ⟨a,nv,xs,x _ _ h1,h2,h3.imp id fun zz=>(by obtain ⟨k,e,q⟩:=zz;exact ⟨k,e,x _ _ q⟩),h4⟩
theorem Drw.ext {σ σ':St} {δ N:Nat} (h:Drw σ δ N) (x:Ext σ σ'):Drw σ' δ N:=h.keep fun k o e=>x.at e
section
variable {n m ω τ b δ N:Nat} {σ0 σ σ':St} {v:V}
theorem take_spec {k:Nat} (h:Drw σ δ (N+1)) (hk:0 < k) (hk2:k≤1000):Does 1 (rc 123) [.loc δ,.int k] σ fun q=>∃ r:Nat,r < k∧q.1=.int r∧Drw q.2 δ N∧DX δ σ q.2:=by
 obtain ⟨a,nv,xs,h1,h2,h3,h4,h5,h6⟩:=h.ex
 have s0:subV σ (.loc δ) (.int 0)=some (.int (a:Nat)):=sub_loc (t:=0) h1 rfl (show (2:Nat)≤cap by decide)
 have X:DX δ σ (σ.set δ (.list [.int ((a+1:Nat):Nat),nv])):=⟨fun i I hi=>by rw [List.getElem?_set_ne (by fail "a")],by simp⟩
 have h3':=h3.dx X (fun e=>Nat.lt_irrefl _ (h6 _ e))
 have h1':(σ.set δ (.list [.int ((a+1:Nat):Nat),nv]))[δ]?=some (.list [.int ((a+1:Nat):Nat),nv]):=set_self h1
 obtain ⟨sz,hsz⟩:∃ s,xs.length=s:=⟨_,rfl⟩
 have sz0:0 < sz:=by rw [← hsz];exact List.length_pos_iff.mpr h4
 have D':Drw (σ.set δ (.list [.int ((a+1:Nat):Nat),nv])) δ N:=⟨a+1,nv,xs,h1',by fail "a",h3',h4,h5,h6⟩
 have a1:(a:Int)+1=((a+1:Nat):Int):=by fail "a"
 have d0:decide ((0:Int) ≥ 0)=true:=by decide
 have z0:Int.toNat 0=0:=rfl
 have z1:decide (0 < 2)=true:=by decide
 have z2:∀ u w:V,[u,nv].set 0 w=[w,nv]:=fun I I=>rfl
 have hl:lenV (σ.set δ (.list [.int ((a+1:Nat):Nat),nv])) nv=some sz:=by
  rcases h3' with rfl | ⟨k,rfl,hk⟩
  ·rw [len_lst,List.length_map,hsz]
  ·rw [len_loc hk,List.length_map,hsz]
 obtain ⟨i,hi⟩:∃ i,a % sz=i:=⟨_,rfl⟩
 have hi2:i < xs.length:=by rw [hsz,← hi];exact Nat.mod_lt _ sz0
 have m1:∀ σ,binV σ .Mod (.int (a:Nat)) (.int (sz:Nat))=some (.int (i:Nat)):=fun σ=>by
  rw [bin_mod_int _ _ (by fail "a")]
  congr 2
  rw [Int.fmod_eq_emod_of_nonneg _ (by fail "a")]
  fail "a"
 obtain ⟨q,hq⟩:∃ q,a / sz=q:=⟨_,rfl⟩
 have hq2:q≤a:=by rw [← hq];exact Nat.div_le_self _ _
 have m2:∀ σ,binV σ .FloorDiv (.int (a:Nat)) (.int (sz:Nat))=some (.int (q:Nat)):=fun σ=>by
  show (if (sz:Int).natAbs < 1000000∧(sz:Int)≠0 then some (V.int ((a:Int).fdiv (sz:Int))) else none)=_
  rw [if_pos (by fail "a")]
  congr 2
  rw [Int.fdiv_eq_ediv_of_nonneg _ (by fail "a")]
  fail "a"
 have m3:∀ σ,binV σ .Mult (.int (q:Nat)) (.int ((a:Int)+5))=some (.int ((q:Int) * ((a:Int)+5))):=fun σ=>by
  show (if (q:Int).natAbs < big.natAbs∧((a:Int)+5).natAbs < big.natAbs then some (V.int ((q:Int) * ((a:Int)+5))) else none)=_
  have hb:2000 < big.natAbs:=by decide
  rw [if_pos (by fail "a")]
 obtain ⟨x,hx⟩:∃ x,xs[i]?=some x:=⟨_,List.getElem?_eq_getElem hi2⟩
 have s1:subV (σ.set δ (.list [.int ((a+1:Nat):Nat),nv])) (.loc δ) (.int 1)=some nv:=sub_loc (t:=1) h1' rfl (show (2:Nat)≤cap by decide)
 have s2:subV (σ.set δ (.list [.int ((a+1:Nat):Nat),nv])) nv (.int (i:Nat))=some (.int x):=by
  have e:(xs.map V.int)[i]?=some (.int x):=by rw [List.getElem?_map,hx];rfl
  have hz:(xs.map V.int).length≤cap:=by rw [List.length_map];exact Nat.le_trans h5 (by decide)
  rcases h3' with rfl | ⟨k,rfl,hk⟩
  ·exact sub_lst e hz
  ·exact sub_loc hk e hz
 have m4:∀ σ (y:Int),binV σ .Mod (.int y) (.int (k:Nat))=some (.int (y.fmod (k:Nat))):=fun σ y=>bin_mod_int _ _ (by fail "a")
 have fin:∀ y:Int,∃ r:Nat,r < k∧V.int (y.fmod (k:Nat))=.int r∧Drw (σ.set δ (.list [.int ((a+1:Nat):Nat),nv])) δ N∧DX δ σ (σ.set δ (.list [.int ((a+1:Nat):Nat),nv])):=fun y=>by
  rw [Int.fmod_eq_emod_of_nonneg _ (by fail "a")]
  have e1:=Int.emod_nonneg y (show (k:Int)≠0 by fail "a")
  have e2:=Int.emod_lt_of_pos y (show (0:Int) < (k:Int) by fail "a")
  exact ⟨(y % (k:Int)).toNat,by fail "a",by congr 1;fail "a",D',X⟩
 clear h3 h3' D' X hq hi hi2 hsz
 refine enterH ?_
 fail "r"
 exact fin _
end
section
variable {n m ω τ b δ N:Nat} {σ0 σ σ':St} {v:V}
theorem in_two {i:Nat} (a c:Nat):inV σ (.int (i:Nat)) (.tup [.int (a:Nat),.int (c:Nat)])=some (decide (i=a∨i=c)):=by
 rw [in_ints (by rfl)]
 congr 1
 rw [Bool.eq_iff_iff,decide_eq_true_iff,List.any_eq_true]
 constructor
 ·rintro ⟨x,hx,e⟩
  have e:=(V.eqb_iff _ _).mp e
  subst e
  simp at hx;fail "a"
 ·intro h
  refine ⟨.int i,?_,(V.eqb_iff _ _).mpr rfl⟩
  rcases h with e | e<;>simp [e]
noncomputable def strz (l:List String):V:=.lst (l.map fun s=>.str (Str.ofString s))
theorem goal_tup:(V.tup [strz ["a"],strz ["b"],strz ["a", "b"],strz ["~a"],strz ["t"],strz ["1"],strz ["true"],strz ["string"],strz ["number"],strz ["any"],strz ["#0"],strz ["#1"],strz ["a", "undefined"],strz ["#0", "a"],strz [],strz ["c"]])=.tup (GK16.map kindV):=rfl
theorem own_tup:(V.tup [strz ["~a"],strz ["~b"],strz ["~1"],strz ["~true"],strz ["a"],strz ["a", "b"],strz ["t"],strz ["L"],strz ["L", "undefined"],strz ["string"],strz ["undefined"]])=.tup (OK11.map kindV):=rfl
theorem goal_fn {pick:Nat} (h:pick < 16):Is 1 (rc 126) [.int pick] σ (kindV (goalA pick),σ):=by
 apply does_is
 have sg:subV σ (.tup (GK16.map kindV)) (.int pick)=some (kindV (goalA pick)):=sub_tup (by
  rw [List.getElem?_map]
  unfold GK16
  rw [List.getElem?_map,List.getElem?_range h];rfl) (show (16:Nat)≤cap by decide)
 rw [← goal_tup] at sg
 simp only [strz,List.map_cons,List.map_nil] at sg
 refine enterH ?_
 fail "r"
theorem own_fn {pick:Nat} (h:pick < 11):Is 1 (rc 127) [.int pick] σ (kindV (ownA pick),σ):=by
 apply does_is
 have sg:subV σ (.tup (OK11.map kindV)) (.int pick)=some (kindV (ownA pick)):=sub_tup (by
  rw [List.getElem?_map]
  unfold OK11
  rw [List.getElem?_map,List.getElem?_range h];rfl) (show (11:Nat)≤cap by decide)
 rw [← own_tup] at sg
 simp only [strz,List.map_cons,List.map_nil] at sg
 refine enterH ?_
 fail "r"
end
noncomputable def chr0 (x:Atm):Str:=⟨#[(x.name.cps[0]?).getD 0]⟩
noncomputable def hashA (x:Atm):Bool:=decide (x=.o0∨x=.o1)
theorem chr_eq:∀ x∈allAtm,(chr0 x==Str.ofString "#")=hashA x:=by decide +kernel
theorem gk_filter:∀ K∈GK16,K.filter (fun x=>!hashA x)∈GK16∧∀ y∈K.filter (fun x=>!hashA x),y∈fixA:=by decide +kernel
theorem goal_mem {i:Nat} (h:i < 16):goalA i∈GK16:=List.mem_map.mpr ⟨i,List.mem_range.mpr h,rfl⟩
theorem own_mem {i:Nat} (h:i < 11):ownA i∈OK11:=List.mem_map.mpr ⟨i,List.mem_range.mpr h,rfl⟩
section
variable {n m ω τ b δ N:Nat} {σ0 σ σ':St} {v:V}
theorem chr_at (x:Atm):subV σ (.str x.name) (.int 0)=some (.str (chr0 x)):=by
 cases x<;>kernel_rfl
noncomputable def KOk (deep:Bool) (K:List Atm):Prop:=K∈GK16∧(deep=false→∀ y∈K,y∈fixA)
noncomputable def COk (K:Option (List Atm)):Prop:=∀ G,K=some G→G∈GK16
noncomputable def ObS (σ:St) (δ M:Nat) (mem:List (Str×List Atm×Bool)) (σ':St):Prop:=Drw σ' δ M∧DX δ σ σ'∧σ'[σ.length]?=some (.dict (strD memV mem))
inductive ObjPost (σ:St) (δ N:Nat) (deep:Bool) (q:V×St):Prop
 | mk (k:Nat) (o:O) (e:q.1=.loc k) (at_:OAtL σ.length q.2 k o) (d:Drw q.2 δ N) (x:DX δ σ q.2) (h:deep=false→∀ K,KUse o K→∀ y∈K,y∈fixA)
theorem object_spec {nms:List Str} {deep:Bool} (h:Drw σ δ (N+nms.length+3)) (hok:∀ s∈nms,okName s) (hnd:nms.Nodup) :
  Does 2 (rc 128) [.loc δ,.tup (nms.map V.str),.bool deep] σ (ObjPost σ δ N deep):=by
 have hδ:=h.lt
 have h1:Drw (σ++[.dict []]) δ (N+nms.length+3):=h.ext (Ext.push _ _)
 have hnl:nms.length < 1000:=by
  obtain ⟨a,_,_,_,c,_⟩:=h.ex
  fail "a"
 refine enterG fun Q' hQ=>?_
 fail "r"
 refine for_mapR (rc 128).sc (fun I=>none) [("d",.loc δ),("deep",.bool deep),("members",.loc σ.length)] (fun r I σ'=>Ex2 fun (pre:List Str) (mem:List (Str×List Atm×Bool))=>C6 (pre++r=nms) (Drw σ' δ (N+r.length+3)) (DX δ σ σ') (σ'[σ.length]?=some (.dict (strD memV mem))) (∀ p∈mem,p.1∈pre∧KOk deep p.2.1) (mem.length≤pre.length)) ?_ ?_ _ _ _ rfl ?_
 ·rintro P hP R hR y r vars σ' ⟨pre,mem,hS,hd,hx,hg,hm,hl⟩
  have hyp:y∉pre:=fun q=>by
   rw [← hS,List.nodup_append] at hnd
   exact hnd.2.2 _ q _ (.head _) rfl
  have hpl:pre.length < 1000:=Nat.lt_of_le_of_lt (by rw [← hS,List.length_append];exact Nat.le_add_right _ _) hnl
  have hS:(pre++[y])++r=nms:=by rw [List.append_assoc];exact hS
  rw [show N+(y::r).length+3=(N+r.length+3)+1 from Nat.succ_add (N+r.length) 3] at hd
  have tk:=take_spec (k:=40) hd (by decide) (by decide)
  clear hd hQ
  fail "r"
  refine Does.goP tk ?_
  rintro R hR v4 σ4 ⟨p,p1,hv,p2,p3⟩
  obtain rfl:v4=_:=hv
  have p3:DX δ σ' σ4:=p3
  have hg4:=p3.at hg (by fail "a")
  have hx4:=hx.trans p3
  have m1:binV σ4 .Mod (.int (p:Nat)) (.int 20)=some (.int ((p % 20:Nat):Nat)):=by
   rw [bin_mod_int _ _ (by decide),Int.fmod_eq_emod_of_nonneg _ (by decide)];congr 2
  have l16:decide (((p % 20:Nat):Int) < 16)=decide (p % 20 < 16):=decide_eq_decide.mpr (by fail "a")
  have sm:=same_tup (σ:=σ4) (nms.map V.str)
  obtain ⟨i,hi⟩:∃ i,p % 20=i:=⟨_,rfl⟩
  rw [hi] at m1 l16
  clear tk hi
  by_cases h16:i < 16
  ·rw [decide_eq_true h16] at l16
   have gf:=fun σ=>goal_fn (σ:=σ) h16
   have hK:=goal_mem h16
   generalize goalA i=K at *
   rw [show kindV K=.lst (nmV K) from rfl] at gf
   obtain ⟨f,hf⟩:∃ f:Bool,(((p / 20:Nat):Int)==1)=f:=⟨_,rfl⟩
   have m2:binV σ4 .FloorDiv (.int (p:Nat)) (.int 20)=some (.int ((p / 20:Nat):Nat)):=by
    show (if (20:Int).natAbs < 1000000∧(20:Int)≠0 then some (V.int ((p:Int).fdiv 20)) else none)=_
    rw [if_pos (by decide),Int.fdiv_eq_ediv_of_nonneg _ (by decide)];congr 2
   have c1:kOk (strD memV mem) (.str y)=true:=strD_kOk _ _ _
   have c2:decide ((strD memV mem).length < cap)=true:=decide_eq_true (by unfold cap strD;rw [List.length_map];fail "a")
   have ny:y∉mem.map (·.1):=fun q=>by
    obtain ⟨q1,q2,rfl⟩:=List.mem_map.mp q
    exact hyp (hm q1 q2).1
   have fin:∀ {G vs},KOk deep G→Has vs [("d",.loc δ),("deep",.bool deep),("members",.loc σ.length)]→P r ⟨(rc 128).sc,vs,fun I=>none⟩ (σ4.set σ.length (.dict (dictSetV (strD memV mem) (.str y) (.tup [.lst (nmV G),.bool f])))):=fun {G vs} hG hv=>by
    rw [show dictSetV (strD memV mem) (.str y) (.tup [.lst (nmV G),.bool f])=strD memV (mem++[(y,G,f)]) from strD_set memV mem y (G,f) ny]
    exact hP sm ⟨pre++[y],mem++[(y,G,f)],hS,p2.keep fun k o e=>set_other e (by rintro rfl;rw [hg4] at e;cases e),hx4.set (Nat.le_refl _) _,set_self hg4,fun q hq=>by
     rcases List.mem_append.mp hq with hq | hq
     ·exact ⟨List.mem_append_left _ (hm q hq).1,(hm q hq).2⟩
     ·rw [List.mem_singleton.mp hq];exact ⟨List.mem_append_right _ (.head _),hG⟩,by rw [List.length_append,List.length_append];exact Nat.add_le_add_right hl 1⟩ rfl hv
   rw [← hf] at fin
   clear hm hl p2 p1 hS hx hnd hok h1 h ny hP hf
   cases deep with
   | true =>
    have fK:=fun vs=>@fin K vs ⟨hK,fun e=>by cases e⟩
    clear fin
    fail "r"
    exact fK _ rfl
   | false =>
    have fK:=fun vs=>@fin (K.filter fun x=>!hashA x) vs ⟨(gk_filter K hK).1,fun I=>(gk_filter K hK).2⟩
    clear fin
    fail "r"
    refine comp_mapG id (onName false fun x=>!hashA x) (same_lst _) ?_ ?_ ?_
    ·intro z hz
     obtain ⟨x,hx,rfl⟩:=mem_nmV.mp hz
     have c3:=chr_at (σ:=σ4) x
     have c4:=chr_eq x (all_atm x)
     clear fK
     fail "r"
     rw [onName_eq,c4]
    ·intro z hz _
     clear fK
     fail "r"
    rw [List.map_id,nmV_filter _ (fun x=>!hashA x) (onName_eq _ _)]
    fail "r"
    exact fK _ rfl
  ·rw [decide_eq_false h16] at l16
   have fin:∀ vs,Has vs [("d",.loc δ),("deep",.bool deep),("members",.loc σ.length)]→P r ⟨(rc 128).sc,vs,fun I=>none⟩ σ4:=fun vs hv =>
    hP sm ⟨pre++[y],mem,hS,p2,hx4,hg4,fun q hq=>⟨List.mem_append_left _ (hm q hq).1,(hm q hq).2⟩,by rw [List.length_append];exact Nat.le_succ_of_le hl⟩ rfl hv
   clear hm hl p2 p1 hS hx hnd hok h1 h hP
   fail "r"
   exact fin _ rfl
 ·rintro R hR vars σ' ⟨pre,mem,hS,hd,hx,hg,hm,hl⟩
  have hmem:∀ p∈mem,KOk deep p.2.1:=fun p hp=>(hm p hp).2
  have S0:ObS σ δ (N+3) mem σ':=⟨hd,hx,hg⟩
  clear hm hl hS hd hx hg hok hnd h1 h
  fail "r"
  refine sel_joinR (fun q=>∃ h:Nat,q.1=.int h∧(deep=false→h=0)∧ObS σ δ (N+2) mem q.2) (fun hb=>?_) (fun hb=>?_) ?_
  ·have tk:=take_spec (k:=6) S0.1 (by decide) (by decide)
   have hdp:deep=false→False:=fun e=>by rw [e] at hb;cases hb
   clear hb hQ
   fail "r"
   refine Does.goP tk ?_
   rintro R hR v4 σ4 ⟨p,p1,hv,p2,p3⟩
   exact hR (fin ⟨p,hv,fun e=>absurd e hdp,p2,S0.2.1.trans p3,p3.at S0.2.2 (by fail "a")⟩)
  ·clear hb hQ
   fail "r"
   exact ⟨0,rfl,fun I=>rfl,S0.1.less (by fail "a"),S0.2⟩
  rintro R hR v4 σ4 ⟨hw,hv,hw0,S1⟩
  obtain rfl:v4=_:=hv
  have S1:ObS σ δ (N+2) mem σ4:=S1
  clear S0
  have i1:inV σ4 (.int (hw:Nat)) (.tup [.int 3,.int 5])=some (decide (hw=3∨hw=5)):=in_two 3 5
  have i3:decide ((hw:Int) > 3)=decide (3 < hw):=decide_eq_decide.mpr (by fail "a")
  have z1:deep=false→decide (hw=3∨hw=5)=false:=fun e=>decide_eq_false (by have:=hw0 e;fail "a")
  have z2:deep=false→decide (3 < hw)=false:=fun e=>decide_eq_false (by have:=hw0 e;fail "a")
  rw [← i3] at z2
  generalize decide (hw=3∨hw=5)=c1 at *
  have z1':id _:=z1
  have z2':id _:=z2
  clear z1 z2 hw0 i3
  fail "r"
  have cell:∀ {M:Nat} {σ1:St} {c:Bool} {vars:Str→Option V},ObS σ δ (M+1) mem σ1→(deep=false→c=false)→(c=true→Does 1 (rc 123) [.loc δ,.int 16] σ1 fun q=>∃ p:Nat,p < 16∧q.1=.int p∧ObS σ δ M mem q.2):=fun {M σ1 c vars} S z I=>by
   refine Does.mono (take_spec (k:=16) S.1 (by decide) (by decide)) ?_
   rintro ⟨v5,σ5⟩ ⟨p,p1,e,p2,p3⟩
   exact ⟨p,p1,e,p2,S.2.1.trans p3,p3.at S.2.2 (by fail "a")⟩
  refine sel_joinR (fun q=>∃ K:Option (List Atm),q.1=kV K∧COk K∧(deep=false→K=none)∧ObS σ δ (N+1) mem q.2) (fun hb=>?_) (fun hb=>?_) ?_
  ·have tk:=@cell (N+1) σ4 c1 vars S1 z1' hb
   have hdp:deep=false→False:=fun e=>by have z:c1=false:=z1' e;rw [hb] at z;cases z
   clear hb z1' z2' hQ cell
   fail "r"
   refine Does.goP tk ?_
   rintro R hR v5 σ5 ⟨p,p1,hv,S2⟩
   obtain rfl:v5=_:=hv
   have g1:=goal_fn (σ:=σ5) p1
   clear tk
   fail "r"
   exact ⟨some (goalA p),rfl,(fun G e=>by cases e;exact goal_mem p1),fun e=>absurd e hdp,S2⟩
  ·clear hb z1' z2' hQ cell
   fail "r"
   exact ⟨none,rfl,(fun G e=>by cases e),fun I=>rfl,S1.1.less (by fail "a"),S1.2⟩
  rintro R hR v5 σ5 ⟨tK,hv,tK1,tK2,S2⟩
  obtain rfl:v5=_:=hv
  have S2:ObS σ δ (N+1) mem σ5:=S2
  clear S1
  fail "r"
  refine sel_joinR (fun q=>∃ K:Option (List Atm),q.1=kV K∧COk K∧(deep=false→K=none)∧ObS σ δ N mem q.2) (fun hb=>?_) (fun hb=>?_) ?_
  ·have tk:=@cell N σ5 _ vars S2 z2' hb
   have hdp:deep=false→False:=fun e=>by have z:decide ((hw:Int) > 3)=false:=z2' e;rw [hb] at z;cases z
   clear hb z1' z2' hQ cell
   fail "r"
   refine Does.goP tk ?_
   rintro R hR v6 σ6 ⟨p,p1,hv,S3⟩
   obtain rfl:v6=_:=hv
   have g1:=goal_fn (σ:=σ6) p1
   clear tk
   fail "r"
   exact ⟨some (goalA p),rfl,(fun G e=>by cases e;exact goal_mem p1),fun e=>absurd e hdp,S3⟩
  ·clear hb z1' z2' hQ cell
   fail "r"
   exact ⟨none,rfl,(fun G e=>by cases e),fun I=>rfl,S2.1.less (by fail "a"),S2.2⟩
  rintro R hR v6 σ6 ⟨dK,hv,dK1,dK2,S3⟩
  obtain rfl:v6=_:=hv
  have S3:ObS σ δ N mem σ6:=S3
  clear S2 z1' z2' cell
  have dp:dictOfPairs [(.str (Str.ofString "members"),.loc σ.length),(.str (Str.ofString "texts"),kV tK),(.str (Str.ofString "digits"),kV dK)]=[(.str "members",.loc σ.length),(.str "texts",kV tK),(.str "digits",kV dK)]:=by kernel_rfl
  fail "r"
  rw [dp]
  refine ⟨σ6.length,⟨mem,tK,dK⟩,rfl,⟨⟨fun p hp=>(hmem p hp).1,tK1,dK1⟩,S3.2.1.len,σ.length,Nat.le_refl _,push_at _ _,(Ext.push _ _).at S3.2.2⟩,S3.1.ext (Ext.push _ _),S3.2.1.trans ((Ext.push _ _).dx δ),fun e K hK y hy=>?_⟩
  rcases hK with ⟨nm,f,hK⟩ | hK | hK
  ·exact (hmem _ hK).2 e y hy
  ·have hK:tK=some K:=hK
   rw [tK2 e] at hK;cases hK
  ·have hK:dK=some K:=hK
   rw [dK2 e] at hK;cases hK
 ·exact ⟨[],[],rfl,h1,(Ext.push _ _).dx δ,push_at _ _,(fun I q=>nomatch q),Nat.le_refl _⟩
end
theorem own_lit:∀ i < 11,(i=7∨i=8)∨Atm.lit∉ownA i:=by decide +kernel
section
variable {n m ω τ b δ N:Nat} {σ0 σ σ':St} {v:V}
inductive LitPost (σ:St) (δ N:Nat) (nms:List Str) (most:Bool) (q:V×St):Prop
 | mk (lit:List (Str×List Atm)) (l:Nat) (e:q.1=.loc l) (ge:σ.length≤l) (at_:q.2[l]?=some (.dict (strD kindV lit))) (own:∀ p∈lit,p.2∈OK11∧p.1∈nms∧(most=false→Atm.lit∉p.2)) (nd:(lit.map (·.1)).Nodup) (len:lit.length≤nms.length) (d:Drw q.2 δ N) (x:DX δ σ q.2)
theorem literal_spec {nms:List Str} {most:Bool} (h:Drw σ δ (N+nms.length)) (hnd:nms.Nodup):Does 2 (rc 129) [.loc δ,.tup (nms.map V.str),.bool most] σ (LitPost σ δ N nms most):=by
 have hδ:=h.lt
 have h1:Drw (σ++[.dict []]) δ (N+nms.length):=h.ext (Ext.push _ _)
 have hnl:nms.length≤1000:=by
  obtain ⟨a,_,_,_,c,_⟩:=h.ex
  fail "a"
 refine enterG fun Q' hQ=>?_
 fail "r"
 refine for_mapR (rc 129).sc (fun I=>none) [("d",.loc δ),("most",.bool most),("out",.loc σ.length)] (fun r I σ'=>Ex2 fun (pre:List Str) (lit:List (Str×List Atm))=>C7 (pre++r=nms) (Drw σ' δ (N+r.length)) (DX δ σ σ') (σ'[σ.length]?=some (.dict (strD kindV lit))) (∀ p∈lit,p.2∈OK11∧p.1∈pre∧(most=false→Atm.lit∉p.2)) (lit.length≤pre.length) ((lit.map (·.1)).Nodup)) ?_ ?_ _ _ _ rfl ?_
 ·rintro P hP R hR y r vars σ' ⟨pre,lit,hS,hd,hx,hg,hm,hl,hn⟩
  have hyp:y∉pre:=fun q=>by
   rw [← hS,List.nodup_append] at hnd
   exact hnd.2.2 _ q _ (.head _) rfl
  have hpl:pre.length≤1000:=Nat.le_trans (by rw [← hS,List.length_append];exact Nat.le_add_right _ _) hnl
  have hS:(pre++[y])++r=nms:=by rw [List.append_assoc];exact hS
  have tk:=take_spec (N:=N+r.length) (k:=13) hd (by decide) (by decide)
  clear hd hQ
  fail "r"
  refine Does.goP tk ?_
  rintro R hR v4 σ4 ⟨p,p1,hv,p2,p3⟩
  obtain rfl:v4=_:=hv
  have p3:DX δ σ' σ4:=p3
  have hg4:=p3.at hg (by fail "a")
  have hx4:=hx.trans p3
  have l11:decide ((p:Int) < 11)=decide (p < 11):=decide_eq_decide.mpr (by fail "a")
  have i1:inV σ4 (.int (p:Nat)) (.tup [.int 7,.int 8])=some (decide (p=7∨p=8)):=in_two 7 8
  have sm:=same_tup (σ:=σ4) (nms.map V.str)
  have no:∀ vs,Has vs [("d",.loc δ),("most",.bool most),("out",.loc σ.length)]→P r ⟨(rc 129).sc,vs,fun I=>none⟩ σ4:=fun vs hv =>
   hP sm ⟨pre++[y],lit,hS,p2,hx4,hg4,fun q hq=>⟨(hm q hq).1,List.mem_append_left _ (hm q hq).2.1,(hm q hq).2.2⟩,by rw [List.length_append];exact Nat.le_succ_of_le hl,hn⟩ rfl hv
  have ny:y∉lit.map (·.1):=fun q=>by
   obtain ⟨q1,q2,rfl⟩:=List.mem_map.mp q
   exact hyp (hm q1 q2).2.1
  have yes:∀ {K:List Atm} {vs},K∈OK11→(most=false→Atm.lit∉K)→Has vs [("d",.loc δ),("most",.bool most),("out",.loc σ.length)]→P r ⟨(rc 129).sc,vs,fun I=>none⟩ (σ4.set σ.length (.dict (dictSetV (strD kindV lit) (.str y) (kindV K)))):=fun {K vs} hK hKl hv=>by
   rw [show dictSetV (strD kindV lit) (.str y) (kindV K)=strD kindV (lit++[(y,K)]) from strD_set kindV lit y K ny]
   exact hP sm ⟨pre++[y],lit++[(y,K)],hS,p2.keep fun k o e=>set_other e (by rintro rfl;rw [hg4] at e;cases e),hx4.set (Nat.le_refl _) _,set_self hg4,fun q hq=>by
    rcases List.mem_append.mp hq with hq | hq
    ·exact ⟨(hm q hq).1,List.mem_append_left _ (hm q hq).2.1,(hm q hq).2.2⟩
    ·rw [List.mem_singleton.mp hq];exact ⟨hK,List.mem_append_right _ (.head _),hKl⟩,by rw [List.length_append,List.length_append];exact Nat.add_le_add_right hl 1,by
    rw [List.map_append,List.nodup_append]
    exact ⟨hn,List.pairwise_singleton _ _,fun a ha c hc e=>ny (by rw [List.mem_singleton.mp hc] at e;exact (show a=y from e)▸ha)⟩⟩ rfl hv
  have c1:kOk (strD kindV lit) (.str y)=true:=strD_kOk _ _ _
  have c2:decide ((strD kindV lit).length < cap)=true:=decide_eq_true (by unfold cap strD;rw [List.length_map];fail "a")
  clear hm hl p2 hS hx hnd h1 h ny tk hn hP
  by_cases h11:p < 11
  ·have of:=fun σ=>own_fn (σ:=σ) h11
   have hKl:=own_lit p h11
   have hK:=own_mem h11
   rw [decide_eq_true h11] at l11
   generalize ownA p=K at *
   have yK:=fun hKm vs=>@yes K vs hK hKm
   clear yes
   cases most with
   | true =>
    have yK:=yK (fun e=>by cases e)
    clear hKl i1
    fail "r"
    exact yK _ rfl
   | false =>
    by_cases h78:p=7∨p=8
    ·rw [decide_eq_true h78] at i1
     clear h78 hKl h11 yK
     fail "r"
     exact no _ rfl
    ·rw [decide_eq_false h78] at i1
     have yK:=yK fun I=>hKl.resolve_left h78
     clear h78 hKl h11
     fail "r"
     exact yK _ rfl
  ·rw [decide_eq_false h11] at l11
   clear h11 yes i1
   fail "r"
   exact no _ rfl
 ·rintro R hR vars σ' ⟨pre,lit,hS,hd,hx,hg,hm,hl,hn⟩
  rw [List.append_nil] at hS
  cases hS
  clear h1 h hnd
  fail "r"
  exact ⟨lit,_,rfl,Nat.le_refl _,hg,hm,hn,hl,hd,hx⟩
 ·exact ⟨[],[],rfl,h1,(Ext.push _ _).dx δ,push_at _ _,(fun I q=>nomatch q),Nat.le_refl _,.nil⟩
end
theorem order_has:∀ start < 23,∀ step < 22,∀ j∈[14,15,16,21],j∈(List.range 23).map fun i=>(start+(1+step) * i) % 23:=by decide +kernel
theorem lookup_some {β:Type} (x:Atm):∀ l:List (Atm×β),(l.lookup x).isSome=decide (x∈l.map (·.1))
 | []=>by simp
 | (a,b)::l=>by
  rw [List.lookup_cons,List.map_cons]
  by_cases e:x=a
  ·subst e;simp
  ·rw [show (x==a)=false by simpa using e]
   dsimp only
   rw [lookup_some x l]
   congr 1
   simp [e]
theorem lookup_in {β:Type} {x:Atm}:∀ {l:List (Atm×β)},(l.lookup x).isSome=true→∃ b,(x,b)∈l∧l.lookup x=some b
 | [],h=>by cases h
 | (a,b)::l,h=>by
  rw [List.lookup_cons] at h ⊢
  by_cases e:x=a
  ·subst e;simp
  ·rw [show (x==a)=false by simpa using e] at h ⊢
   obtain ⟨c,h1,h2⟩:=lookup_in (l:=l) h
   exact ⟨c,.tail _ h1,h2⟩
set_option genInjectivity false in
structure Raw (D:LW) (L:List (Atm×Nat×O)) (c k0 k1:Nat) (b0 b1:O) (ex:List Atm):Prop where
 c2:c=2∨c=3∨c=4
 cnt:D.count=c
 keys:L.map (·.1)=PA.take c
 objs:D.objs=L++[(.o0,k0,b0),(.o1,k1,b1)]
 goals:D.goals=PA.take c++ex
 exl:ex.length≤1
 exg:∀ x∈ex,x∈GX
 ok:∀ q∈L,q.2.2.Ok
 ok0:b0.Ok
 ok1:b1.Ok
 in0:∀ K,KUse b0 K→∀ y∈K,y∈fixA
 in1:∀ K,KUse b1 K→∀ y∈K,y∈fixA
 lit:∀ p∈D.lit,p.2∈OK11∧okName p.1
 inner:∀ p∈D.inner,p.2∈OK11∧okName p.1∧Atm.lit∉p.2
 ndL:(D.lit.map (·.1)).Nodup
 ndI:(D.inner.map (·.1)).Nodup
 lenL:D.lit.length≤4
 lenI:D.inner.length≤3
section
variable {D:LW} {L:List (Atm×Nat×O)} {c k0 k1:Nat} {b0 b1:O} {ex:List Atm}
theorem Raw.has (R:Raw D L c k0 k1 b0 b1 ex) (x:Atm):D.has x=decide (x∈PA.take c++[.o0,.o1]):=by
 unfold LW.has
 rw [lookup_some,R.objs,List.map_append,R.keys];rfl
theorem pa_class:∀ c,(c=2∨c=3∨c=4)→(∀ x∈PA.take c++[Atm.o0,.o1],x∈[Atm.p0,.p1,.p2,.p3,.o0,.o1])∧((PA.take c++[]).filter fun x=>decide (x∈PA.take c++[Atm.o0,.o1]))=PA.take c∧(∀ x∈GX,x∉PA.take c++[Atm.o0,.o1])∧(∀ k < 4,∀ x,PA[k]?=some x→decide (x∈PA.take c++[Atm.o0,.o1])=decide (k < c))∧(∀ x∈PA.take c,x∈PA)∧sortA (PA.take c)=PA.take c:=by
 intro c hc
 have h4:∀ c,(c=2∨c=3∨c=4)→∀ k < 4,∀ x,PA[k]?=some x→decide (x∈PA.take c++[Atm.o0,.o1])=decide (k < c):=by
  intro c hc k hk x hx
  have:k=0∨k=1∨k=2∨k=3:=by fail "a"
  rcases this with rfl | rfl | rfl | rfl<;>(cases hx;rcases hc with rfl | rfl | rfl<;>decide)
 refine ⟨?_,?_,?_,h4 c hc,?_,?_⟩<;>rcases hc with rfl | rfl | rfl<;>decide +kernel
theorem Raw.ob (R:Raw D L c k0 k1 b0 b1 ex) {x:Atm} (h:D.has x=true):∃ q∈D.objs,q.1=x∧D.ob x=q.2.2∧D.at x=q.2.1:=by
 unfold LW.has at h
 obtain ⟨b,h1,h2⟩:=lookup_in h
 refine ⟨(x,b),h1,rfl,?_,?_⟩
 ·unfold LW.ob;rw [h2];rfl
 ·unfold LW.at;rw [h2];rfl
theorem Raw.good (R:Raw D L c k0 k1 b0 b1 ex):D.Ok2∧D.goals.length≤5∧(∀ x∈D.goals,D.has x=true→x∈PA)∧∀ k (x:Atm),PA[k]?=some x→D.has x=decide (k < D.count):=by
 obtain ⟨c1,c2,c3,c4,c5,c6⟩:=pa_class c R.c2
 have hh:=R.has
 have oks:∀ q∈D.objs,q.2.2.Ok:=fun q hq=>by
  rw [R.objs] at hq
  rcases List.mem_append.mp hq with h | h
  ·exact R.ok q h
  ·simp at h;rcases h with rfl | rfl
   ·exact R.ok0
   ·exact R.ok1
 have nex:∀ x∈ex,D.has x=false:=fun x hx=>by rw [hh];exact decide_eq_false (c3 x (R.exg x hx))
 have fl:D.goals.filter D.has=PA.take c:=by
  rw [R.goals,List.filter_append]
  have e1:ex.filter D.has=[]:=List.filter_eq_nil_iff.mpr fun x hx=>by rw [nex x hx];decide
  have e2:(PA.take c).filter D.has=PA.take c:=List.filter_eq_self.mpr fun x hx=>by rw [hh];exact decide_eq_true (List.mem_append_left _ hx)
  rw [e1,e2,List.append_nil]
 have pl:(PA.take c).length≤4:=by rw [List.length_take];exact Nat.min_le_right _ _
 have g0:D.has .o0=true:=by rw [hh];exact decide_eq_true (List.mem_append_right _ (.head _))
 have g1:D.has .o1=true:=by rw [hh];exact decide_eq_true (List.mem_append_right _ (.tail _ (.head _)))
 have ob0:D.ob .o0=b0∧D.ob .o1=b1:=by
  have nin:∀ x,(x=Atm.o0∨x=.o1)→L.lookup x=none:=fun x hx=>by
   have:=lookup_some x L
   rw [R.keys,decide_eq_false (fun q=>by have:=c5 x q;rcases hx with rfl | rfl<;>exact absurd this (by decide))] at this
   cases e:L.lookup x with
   | none=>rfl
   | some _=>rw [e] at this;cases this
  unfold LW.ob
  rw [R.objs,List.lookup_append,List.lookup_append,nin _ (.inl rfl),nin _ (.inr rfl)]
  exact ⟨rfl,rfl⟩
 refine ⟨⟨⟨fun x hx=>?_,fun x hx=>?_,g0,g1,by rw [fl];exact pl,fun p hp=>(R.inner p hp).2.2,fun p hp=>⟨(R.inner p hp).1,(R.inner p hp).2.1⟩,R.ndI,R.lenI,R.lit,R.ndL,R.lenL⟩,?_,?_⟩,?_,?_,?_⟩
 ·obtain ⟨q,hq,_,e,_⟩:=R.ob hx
  rw [e];exact oks q hq
 ·rw [hh] at hx;exact c1 x (of_decide_eq_true hx)
 ·rintro x (rfl | rfl) K hK
  ·rw [ob0.1] at hK;exact R.in0 K hK
  ·rw [ob0.2] at hK;exact R.in1 K hK
 ·intro x hx
  rw [R.goals] at hx
  rcases List.mem_append.mp hx with h | h
  ·exact .inl (by rw [hh];exact decide_eq_true (List.mem_append_left _ h))
  ·exact .inr (R.exg x h)
 ·rw [R.goals,List.length_append];have:=R.exl;fail "a"
 ·intro x hx h
  rw [R.goals] at hx
  rcases List.mem_append.mp hx with q | q
  ·exact c5 x q
  ·rw [nex x q] at h;cases h
 ·intro k x hx
  have hk:k < 4:=(List.getElem?_eq_some_iff.mp hx).1
  rw [hh,c4 k hk x hx,R.cnt]
end
section
variable {n m ω τ b δ N:Nat} {σ0 σ σ':St} {v:V}
theorem slice_ints (ns:List Int):∀ σ,sliceV σ (.lst (ns.map .int)) none (some 48) none=some (.lst ((ns.take 48).map .int)):=fun σ=>by
 show (if (0:Int)≤48 then some (V.lst ((ns.map V.int).take (Int.toNat 48))) else none)=_
 rw [if_pos (by decide),← List.map_take];rfl
noncomputable def modI (v:V):V:=match v with | .int i=>.int (i.fmod 999983) | v=>v
theorem modI_map (ns:List Int):(ns.map V.int).map modI=(ns.map fun i=>i.fmod 999983).map .int:=by
 rw [List.map_map,List.map_map];rfl
noncomputable def setD (L:List (Str×V)) (k:Str) (v:V):List (Str×V):=if (L.any fun p=>decide (p.1=k))=true then L.map (fun p=>if decide (p.1=k)=true then (p.1,v) else p) else L++[(k,v)]
theorem strD_setD (L:List (Str×V)) (k:Str) (v:V):dictSetV (strD id L) (.str k) v=strD id (setD L k v):=by
 have key:∀ a,(V.str a).eqb (.str k)=decide (a=k):=fun a=>by
  rw [Bool.eq_iff_iff,V.eqb_iff,decide_eq_true_iff]
  exact ⟨V.str.inj,fun e=>by rw [e]⟩
 unfold dictSetV setD strD
 rw [List.any_map,show ((fun e:V×V=>e.1.eqb (.str k)) ∘ fun p:Str×V=>(V.str p.1,id p.2))=fun p=>decide (p.1=k) from funext fun p=>key p.1]
 split
 ·rw [List.map_map,List.map_map]
  refine List.map_congr_left fun p I=>?_
  show (if (V.str p.1).eqb (.str k)=true then _ else _)=(V.str (if _ then _ else _:Str×V).1,id (if _ then _ else _:Str×V).2)
  rw [key]
  split<;>rfl
 ·rw [List.map_append];rfl
structure WS (σ:St) (δ N o:Nat) (L:List (Str×V)) (objs:List (Atm×Nat×O)) (C:List (Nat×Ob)):Prop where
 drw:Drw σ δ N
 w:σ[o+2]?=some (.dict (strD id L))
 ob:σ[o]?=some (.dict (strD (fun k:Nat=>V.loc k) (objs.map fun q=>(q.1.name,q.2.1))))
 obs:∀ q∈objs,OAtL (o+3) σ q.2.1 q.2.2
 len:o+3≤σ.length
 lt:δ < o
 cel:∀ q∈C,o+3≤q.1∧σ[q.1]?=some q.2
variable {o:Nat} {L:List (Str×V)} {objs:List (Atm×Nat×O)} {C:List (Nat×Ob)}
theorem WS.step {N':Nat} (w:WS σ δ N o L objs C) (d:Drw σ' δ N') (x:DX δ σ σ'):WS σ' δ N' o L objs C :=
 ⟨d,x.at w.w (by have:=w.lt;fail "a"),x.at w.ob (by have:=w.lt;fail "a"),fun q hq=>(w.obs q hq).keep (x.dk (by have:=w.lt;fail "a")),Nat.le_trans w.len x.len,w.lt,fun q hq=>⟨(w.cel q hq).1,x.at (w.cel q hq).2 (by have:=w.lt;have:=(w.cel q hq).1;fail "a")⟩⟩
theorem WS.ext (w:WS σ δ N o L objs C) (x:Ext σ σ'):WS σ' δ N o L objs C:=w.step (w.drw.ext x) (x.dx δ)
theorem WS.less {M:Nat} (w:WS σ δ N o L objs C) (h:M≤N):WS σ δ M o L objs C:=⟨w.drw.less h,w.w,w.ob,w.obs,w.len,w.lt,w.cel⟩
theorem WS.add {k:Nat} {b:Ob} (w:WS σ δ N o L objs C) (hk:o+3≤k) (h:σ[k]?=some b):WS σ δ N o L objs ((k,b)::C):=⟨w.drw,w.w,w.ob,w.obs,w.len,w.lt,fun q hq=>by
 rcases List.mem_cons.mp hq with rfl | hq
 ·exact ⟨hk,h⟩
 ·exact w.cel q hq⟩
theorem WS.sub {C':List (Nat×Ob)} (w:WS σ δ N o L objs C) (h:∀ q∈C',q∈C):WS σ δ N o L objs C':=⟨w.drw,w.w,w.ob,w.obs,w.len,w.lt,fun q hq=>w.cel q (h q hq)⟩
theorem WS.setw (w:WS σ δ N o L objs C) (k:Str) (v:V):WS (σ.set (o+2) (.dict (dictSetV (strD id L) (.str k) v))) δ N o (setD L k v) objs C:=by
 rw [strD_setD]
 exact ⟨w.drw.keep fun k l e=>set_other e (by rintro rfl;rw [w.w] at e;cases e),set_self w.w,set_other w.ob (by fail "a"),fun q hq=>(w.obs q hq).keep (.set (by fail "a")),by rw [List.length_set];exact w.len,w.lt,fun q hq=>⟨(w.cel q hq).1,set_other (w.cel q hq).2 (by have:=(w.cel q hq).1;fail "a")⟩⟩
theorem WS.setl {k:Nat} {l l':List V} (w:WS σ δ N o L objs C) (hk:o+3≤k) (h:σ[k]?=some (.list l)) (hC:∀ q∈C,q.1≠k):WS (σ.set k (.list l')) δ N o L objs ((k,.list l')::C):=by
 obtain ⟨a,nv,xs,d1,d2,d3,d4⟩:=w.drw.ex
 have hl:=w.lt
 refine WS.add ⟨⟨a,nv,xs,set_other d1 (by fail "a"),d2,d3.imp id fun zz=>(by obtain ⟨i,e,q⟩:=zz;exact ⟨i,e,set_other q (by have:=d4.2.2 i e;fail "a")⟩),d4⟩,set_other w.w (by fail "a"),set_other w.ob (by fail "a"),fun q hq=>(w.obs q hq).keep (.setl h),by rw [List.length_set];exact w.len,w.lt,fun q hq=>⟨(w.cel q hq).1,set_other (w.cel q hq).2 (hC q hq)⟩⟩ hk (set_self h)
theorem objs_set {x:Atm} {k:Nat} {b:O} (h:x∉objs.map (·.1)):dictSetV (strD (fun k:Nat=>V.loc k) (objs.map fun q=>(q.1.name,q.2.1))) (.str x.name) (.loc k)=strD (fun k:Nat=>V.loc k) ((objs++[(x,k,b)]).map fun q=>(q.1.name,q.2.1)):=by
 have:=strD_set (fun k:Nat=>V.loc k) (objs.map fun q=>(q.1.name,q.2.1)) x.name k (fun q=>by
  rw [List.map_map] at q
  obtain ⟨p,hp,e⟩:=List.mem_map.mp q
  exact h (List.mem_map.mpr ⟨p,hp,name_inj e⟩))
 rw [this,List.map_append];rfl
theorem OAtL.low {lo lo' k:Nat} {b:O} (h:OAtL lo σ k b) (hl:lo'≤lo):OAtL lo' σ k b:=(by obtain ⟨km,a,c,d⟩:=h.ex;exact ⟨h.ok,Nat.le_trans hl h.ge,km,Nat.le_trans hl a,c,d⟩)
theorem WS.seto {x:Atm} {k lo:Nat} {b:O} (w:WS σ δ N o L objs C) (hx:x∉objs.map (·.1)) (h:OAtL lo σ k b) (hl:o+3≤lo):WS (σ.set o (.dict (dictSetV (strD (fun k:Nat=>V.loc k) (objs.map fun q=>(q.1.name,q.2.1))) (.str x.name) (.loc k)))) δ N o L (objs++[(x,k,b)]) C:=by
 rw [objs_set (b:=b) hx]
 exact ⟨w.drw.keep fun k l e=>set_other e (by rintro rfl;rw [w.ob] at e;cases e),set_other w.w (by fail "a"),set_self w.ob,fun q hq=>by
  rcases List.mem_append.mp hq with hq | hq
  ·exact (w.obs q hq).keep (.set (by fail "a"))
  ·rw [List.mem_singleton.mp hq];exact (h.low hl).keep (.set (by fail "a")),by rw [List.length_set];exact w.len,w.lt,fun q hq=>⟨(w.cel q hq).1,set_other (w.cel q hq).2 (by have:=(w.cel q hq).1;fail "a")⟩⟩
theorem wk (L:List (Str×Nat)) (k:Str):kOk (strD (fun k:Nat=>V.loc k) L) (.str k)=true:=strD_kOk _ k L
theorem WS.sorted {c:Nat} (hc:c=2∨c=3∨c=4) (w:WS σ δ N o L objs C) (hk:objs.map (·.1)=PA.take c):sortSrc σ (.loc o)=some (nmV (PA.take c))∧sortV (nmV (PA.take c))=some (nmV (PA.take c)):=by
 obtain ⟨_,_,_,_,_,c6⟩:=pa_class c hc
 constructor
 ·rw [sortSrc_d w.ob]
  unfold strD nmV
  rw [← hk,List.map_map,List.map_map,List.map_map]
  rfl
 ·have:=sortV_nm (K:=PA.take c) (by rw [List.length_take];exact Nat.lt_of_le_of_lt (Nat.min_le_right _ _) (by decide))
  rw [c6] at this;exact this
noncomputable def onNat (g:Nat→V):V→V | .int i=>g i.toNat | _=>.none
noncomputable def r23:List V:=(List.range 23).map fun (i:Nat)=>V.int (i:Int)
theorem onNat_int (g:Nat→V) (i:Nat):onNat g (.int (i:Nat))=g i:=by unfold onNat;simp
theorem r23_map (g:Nat→Nat):r23.map (onNat fun i=>.int (g i:Nat))=vints ((List.range 23).map g):=by
 unfold r23 vints
 rw [List.map_map,List.map_map]
 exact List.map_congr_left fun i I=>onNat_int _ i
theorem mem_r23 {v:V} (h:v∈r23):∃ i:Nat,i < 23∧v=.int i:=by
 unfold r23 at h
 obtain ⟨i,hi,rfl⟩:=List.mem_map.mp h
 exact ⟨i,List.mem_range.mp hi,rfl⟩
theorem rev23 {l:List Nat} (h:l.length=23):(List.range 23).map (fun i=>(l[22 - i]?).getD 0)=l.reverse:=by
 apply List.ext_getElem
 ·simp [h]
 ·intro i h1 h2
  simp at h1 h2
  simp [h]
  rw [List.getElem?_eq_getElem (by fail "a")]
  rfl
theorem names4:∀ s∈[Str.ofString "k",Str.ofString "p",Str.ofString "q",Str.ofString "0"],okName s:=by
 intro s hs
 simp only [List.mem_cons,List.not_mem_nil,or_false] at hs
 rcases hs with rfl | rfl | rfl | rfl
 ·exact .inr (.inl rfl)
 ·exact .inr (.inr (.inl rfl))
 ·exact .inr (.inr (.inr rfl))
 ·exact .inl rfl
theorem names2:∀ s∈[Str.ofString "k",Str.ofString "p"],okName s:=fun s hs=>names4 s (by
 simp only [List.mem_cons,List.not_mem_nil,or_false] at hs ⊢
 rcases hs with h | h
 ·exact .inl h
 ·exact .inr (.inl h))
theorem pa_step:∀ i < 4,∀ x,PA[i]?=some x→x∉PA.take i∧PA.take (i+1)=PA.take i++[x]:=by
 intro i hi x hx
 have:i=0∨i=1∨i=2∨i=3:=by fail "a"
 rcases this with rfl | rfl | rfl | rfl<;>(cases hx;decide)
noncomputable def wQf (Q:Fr→St→Prop) (fl:Fl) (fr:Fr) (σ:St):MS:=match fl with | .next=>.done (Q fr σ) | _=>.done False
theorem sel_joinF {hh:Nat} {G:MS→Prop} {c:Bool} {b o:List Stmt} {fr:Fr} {σ:St} {K:Fl→Fr→St→MS} (Q:Fr→St→Prop) (h1:c=true→Sem hh (.exs b fr σ (wQf Q))) (h2:c=false→Sem hh (.exs o fr σ (wQf Q))) (k:∀ fr σ',Q fr σ'→Sem hh (K .next fr σ')):SelP hh G (.exs b fr σ K) (.exs o fr σ K) c:=by
 have e:∀ {s},Sem hh (.exs s fr σ (wQf Q))→Sem hh (.exs s fr σ K):=fun h=>exs_mono h fun fl fr' σ' C A O Rm d=>by
  cases fl with
  | next=>exact k _ _ d C A O Rm
  | _=>exact d.elim
 cases c
 ·exact .s (e (h2 rfl))
 ·exact .s (e (h1 rfl))
inductive NumsQ (fr:Fr) (σ:St):Prop
 | mk (vars:Str→Option V) (nv:V) (ys:List Int) (e:fr=⟨(rc 144).sc,vars,fun I=>none⟩) (v:vars (Str.ofString "nums")=some nv) (l:IsL σ nv (ys.map .int)) (ne:ys≠[]) (len:ys.length≤48) (lt:∀ k,nv=.loc k→k < σ.length)
noncomputable def L0 (c:Int) (o:Nat):List (Str×V):=[("count",.int c),("objs",.loc o),("inner",.loc (o+1)),("fresh",.bool false)]
noncomputable def newW (σ:St) (c:Int):St:=σ++[.dict [],.dict [],.dict (strD id (L0 c σ.length))]
theorem w_nl (σ:St):(σ++[Ob.dict []]++[Ob.dict []]).length=σ.length+2:=by rw [List.length_append,List.length_append];rfl
theorem w_nv (σ:St) (c:Int):σ++[Ob.dict []]++[Ob.dict []]++[Ob.dict (dictOfPairs [(.str (Str.ofString "count"),.int c),(.str (Str.ofString "objs"),.loc σ.length),(.str (Str.ofString "inner"),.loc (σ++[Ob.dict []]).length),(.str (Str.ofString "fresh"),.bool false)])]=newW σ c:=by
 rw [show (σ++[Ob.dict []]).length=σ.length+1 from List.length_append,show dictOfPairs [(.str (Str.ofString "count"),.int c),(.str (Str.ofString "objs"),.loc σ.length),(.str (Str.ofString "inner"),.loc (σ.length+1)),(.str (Str.ofString "fresh"),.bool false)]=strD id (L0 c σ.length) by kernel_rfl,List.append_assoc,List.append_assoc]
 rfl
theorem newW_ws {c:Int} (d:Drw σ δ N) (h:δ < σ.length):WS (newW σ c) δ N σ.length (L0 c σ.length) [] [] :=
 ⟨d.ext ⟨fun k hk=>List.getElem?_append_left hk,by rw [newW,List.length_append];exact Nat.le_add_right _ _⟩,app_at σ _ 2,app_at0 σ _,fun I q=>(nomatch q),by rw [newW,List.length_append];exact Nat.le_refl _,h,fun I q=>nomatch q⟩
theorem rng_loop (c:Nat) (σ:St):loopD σ (.rng (c:Int))=some (false,(List.range c).map fun (i:Nat)=>V.int (i:Int)):=by
 show some (false,(List.range (Int.toNat c)).map _)=_
 rw [Int.toNat_natCast]
theorem rng_same (c:Nat) (σ:St):sameItems σ (.rng (c:Int)) false ((List.range c).map fun (i:Nat)=>V.int (i:Int))=true:=by
 unfold sameItems
 obtain ⟨a,b⟩:=loopD_of (rng_loop c σ)
 rw [a,b];simp [(V.eqbs_iff _ _).mpr rfl]
set_option maxHeartbeats 4000000 in
theorem law_spec {ns:List Int}:Does 33 (rc 144) [.lst (ns.map .int)] [] fun q=>q.1=.bool true:=by
 have sl:=slice_ints ns []
 refine enterG fun Q' hQ=>?_
 fail "r"
 refine comp_allG modI (same_lst _) ?_ ?_
 ·intro z hz
  obtain ⟨i,hi,rfl⟩:=List.mem_map.mp hz
  have m1:binV [] .Mod (.int i) (.int 999983)=some (.int (i.fmod 999983)):=bin_mod_int _ _ (by decide)
  clear hQ sl
  fail "r"
 rw [modI_map]
 obtain ⟨xs,hxs⟩:∃ xs,(ns.take 48).map (fun i=>i.fmod 999983)=xs:=⟨_,rfl⟩
 have xl:xs.length≤48:=by rw [← hxs,List.length_map,List.length_take];exact Nat.min_le_left _ _
 rw [hxs]
 clear hxs sl
 fail "r"
 refine sel_joinF NumsQ (fun hb=>go ?_) (fun hb=>go ?_) ?_
 ·clear hb hQ
  fail "r"
  refine ⟨_,_,[0,0,0,7,16,16,0,2,16,5,16,0,0,11,2,12,11,11,11,0,16,16,16,16,0,13,0,0,0],rfl,rfl,.inr ⟨_,rfl,rfl⟩,(nomatch ·),(by decide),fun k e=>?_⟩
  cases e;exact Nat.le_refl 1
 ·have hne:xs≠[]:=by rintro rfl;cases hb
  clear hb hQ
  fail "r"
  exact ⟨_,_,xs,rfl,rfl,.inl rfl,hne,xl,fun k e=>by cases e⟩
 rintro fr σ1 ⟨vars,nv,ys,rfl,v1,iL,ne,yl,nl⟩
 have v1:vars "nums" = some nv:=v1
 obtain ⟨vars,rfl⟩:=pin v1
 have D0:Drw (σ1++[.list [.int ((0:Nat):Nat),nv]]) σ1.length 1000:=⟨0,nv,ys,push_at _ _,Nat.le_refl _,iL.ext (Ext.push _ _),ne,yl,nl⟩
 have tk:=take_spec (k:=3) (N:=999) D0 (by decide) (by decide)
 have l2:σ1.length < (σ1++[Ob.list [.int ((0:Nat):Nat),nv]]).length:=by rw [List.length_append];exact Nat.le_refl _
 clear iL ne yl nl D0 xl
 fail "r"
 refine Does.goP tk ?_
 rintro R hR v3 σ3 ⟨r,r3,hv,d3,x3⟩
 obtain rfl:v3=_:=hv
 have S0:=newW_ws (c:=(2:Int)+(r:Int)) d3 (Nat.lt_of_lt_of_le l2 x3.len)
 clear tk d3 x3 l2
 generalize σ1.length=δ at *
 fail "r"
 rw [w_nv,w_nl]
 dsimp only
 obtain ⟨c,hc⟩:∃ c:Nat,(2:Int)+(r:Int)=(c:Int):=⟨2+r,rfl⟩
 have c24:c=2∨c=3∨c=4:=by fail "a"
 rw [hc] at S0 ⊢
 clear hc r3
 generalize newW σ3 (c:Int)=σ4 at *
 generalize σ3.length=o at *
 refine Does.goP (take_spec (k:=9) (N:=998) S0.drw (by decide) (by decide)) ?_
 rintro R hR v5 σ5 ⟨r9,q9,hv,d5,x5⟩
 obtain rfl:v5=_:=hv
 have S1:=S0.step d5 x5
 obtain ⟨wh,hwh⟩:∃ b,decide ((r9:Int) < 8)=b:=⟨_,rfl⟩
 have S2:=S1.setw (Str.ofString "whole") (.bool wh)
 rw [← hwh] at S2
 have g1:=S1.w
 have cs:=sub_str (nm := "count") (w:=.int (c:Nat)) S2.w (by kernel_rfl)
 have rg:rangeV (.int (c:Nat))=some (c:Int):=range_nat (by fail "a")
 have lr:=rng_loop c (σ5.set (o+2) (.dict (dictSetV (strD id (L0 c o)) (.str (Str.ofString "whole")) (.bool (decide ((r9:Int) < 8))))))
 clear S0 d5 x5 q9
 fail "r"
 rw [hwh] at S2 ⊢
 clear hwh lr rg cs g1 S1
 refine for_mapR (rc 144).sc (fun I=>none) [("d",.loc δ),("w",.loc (o+2))] (fun r' I σ'=>∃ objs:List (Atm×Nat×O),C5 (r'=(List.range c).drop objs.length) (objs.length≤c) (WS σ' δ (900+7 * (c - objs.length)) o (setD (L0 c o) "whole" (.bool wh)) objs []) (objs.map (·.1)=PA.take objs.length) (∀ q∈objs,q.2.2.Ok)) ?_ ?_ _ _ _ rfl ?_
 ·rintro P hP R hR i r' vars' σ' ⟨objs,hr,hi,S,hk,hok⟩
  have hic:objs.length < c:=by
   by_cases h:objs.length < c
   ·exact h
   ·rw [List.drop_eq_nil_of_le (by rw [List.length_range];fail "a")] at hr;cases hr
  rw [List.drop_eq_getElem_cons (by rw [List.length_range];exact hic),List.getElem_range] at hr
  obtain ⟨hr1,hr2⟩:=List.cons.inj hr
  subst hr1
  obtain ⟨x,hx⟩:∃ x,PA[objs.length]?=some x:=⟨_,List.getElem?_eq_getElem (by show objs.length < 4;fail "a")⟩
  have ob:=object_spec (δ:=δ) (N:=900+7 * (c - (objs.length+1))) (σ:=σ') (nms:=[Str.ofString "k",Str.ofString "p",Str.ofString "q",Str.ofString "0"]) (deep:=true) (S.drw.less (by show _+4+3≤_;fail "a")) names4 (by decide +kernel)
  clear hr S2 hQ
  fail "r"
  refine Does.goP ob ?_
  rintro R hR v7 σ7 ⟨k,b,hv,bo,bd,bx,_⟩
  obtain rfl:v7=_:=hv
  have S7:=S.step bd bx
  obtain ⟨px,pt⟩:=pa_step _ (by fail "a") x hx
  have g2:=sub_str (nm := "objs") (w:=.loc o) S7.w (by kernel_rfl)
  have g3:=S7.ob
  have kk:=wk (objs.map fun q=>(q.1.name,q.2.1)) x.name
  have kl:decide ((strD (fun k:Nat=>V.loc k) (objs.map fun q=>(q.1.name,q.2.1))).length < cap)=true:=decide_eq_true (by
   unfold strD cap;rw [List.length_map,List.length_map];fail "a")
  have S8:=S7.seto (x:=x) (by rw [hk];exact px) bo S.len
  have su:=nm_at hx (by decide) σ7
  clear ob S7
  fail "r"
  refine hP (rng_same c _) ⟨objs++[(x,k,b)],by rw [List.length_append];exact hr2,by rw [List.length_append];exact hic,by rw [List.length_append];exact S8,by rw [List.map_append,List.length_append,hk];exact pt.symm,fun q hq=>?_⟩ rfl rfl
  rcases List.mem_append.mp hq with hq | hq
  ·exact hok q hq
  ·rw [List.mem_singleton.mp hq];exact bo.ok
 ·rintro R hR vars' σ' ⟨objs,hr,hi,S,hk,hok⟩
  have hic:objs.length=c:=by
   have:=congrArg List.length hr
   rw [List.length_drop,List.length_range] at this
   have:0=c - objs.length:=this
   fail "a"
  rw [hic] at S hk
  have S:=S.less (M:=900) (Nat.le_add_right _ _)
  have wo:=sub_str (nm := "objs") (w:=.loc o) S.w (by kernel_rfl)
  obtain ⟨s1,s2⟩:=S.sorted c24 hk
  have S1:=(S.ext (Ext.push σ' (.list (nmV (PA.take c))))).add S.len (push_at _ _)
  have g1:=S1.w
  have S2:=S1.setw (Str.ofString "goals") (.loc σ'.length)
  have lt:=literal_spec (δ:=δ) (N:=890) (nms:=[Str.ofString "k",Str.ofString "p",Str.ofString "q",Str.ofString "0"]) (most:=true) (S2.drw.less (by decide)) (by decide +kernel)
  clear S S1 hr hi
  fail "r"
  generalize σ'.length=g at *
  refine Does.goP lt ?_
  rintro R hR v9 σ9 ⟨lit,l,hv,lg,l1,l2',l3,l4,l5,l6⟩
  obtain rfl:v9=_:=hv
  have S3:=(S2.step l5 l6).add (Nat.le_trans S2.len lg) l1
  have g1:=S3.w
  have S4:=S3.setw (Str.ofString "lit") (.loc l)
  have lt:=literal_spec (δ:=δ) (N:=880) (nms:=[Str.ofString "k",Str.ofString "p",Str.ofString "q"]) (most:=false) (S4.drw.less (by decide)) (by decide +kernel)
  clear S2 S3 s1 s2 wo l1 l5 l6 lg
  fail "r"
  refine Does.goP lt ?_
  rintro R hR v11 σ11 ⟨inn,e,hv,eg,e1,e2,e3,e4,e5,e6⟩
  obtain rfl:v11=_:=hv
  have S5:=(S4.step e5 e6).add (Nat.le_trans S4.len eg) e1
  have g1:=S5.w
  have S6:=S5.setw (Str.ofString "inner") (.loc e)
  have tk:=take_spec (k:=5) (N:=879) S6.drw (by decide) (by decide)
  clear S4 S5 lt e1 e5 e6 eg
  fail "r"
  refine Does.goP tk ?_
  rintro R hR v13 σ13 ⟨r5,q5,hv,d5,x5⟩
  obtain rfl:v13=_:=hv
  have S7:=S6.step d5 x5
  have g1:=S7.w
  obtain ⟨fr,hfr⟩:∃ b,decide ((r5:Int) < 4)=b:=⟨_,rfl⟩
  have S8:=S7.setw (Str.ofString "fresh") (.bool fr)
  rw [← hfr] at S8
  have ob:=object_spec (δ:=δ) (N:=870) (nms:=[Str.ofString "k",Str.ofString "p"]) (deep:=false) (S8.drw.less (by decide)) names2 (by decide +kernel)
  clear S6 S7 tk d5 x5 q5
  have no0:Atm.o0∉objs.map (·.1)∧Atm.o1∉objs.map (·.1):=by
   rw [hk]
   rcases c24 with rfl | rfl | rfl<;>decide
  fail "r"
  rw [hfr] at S8 ob ⊢
  refine Does.goP ob ?_
  rintro R hR v15 σ15 ⟨k0,b0,hv,oo0,d0,x0,in0⟩
  obtain rfl:v15=_:=hv
  have S9:=S8.step d0 x0
  have g2:=sub_str (nm := "objs") (w:=.loc o) S9.w (by kernel_rfl)
  have g3:=S9.ob
  have kk:=wk (objs.map fun q=>(q.1.name,q.2.1)) "#0"
  have kl:decide ((strD (fun k:Nat=>V.loc k) (objs.map fun q=>(q.1.name,q.2.1))).length < cap)=true:=decide_eq_true (by unfold strD cap;rw [List.length_map,List.length_map];fail "a")
  have S10:=S9.seto (x:=.o0) no0.1 oo0 S8.len
  have ob2:=object_spec (δ:=δ) (N:=860) (nms:=[Str.ofString "k",Str.ofString "p"]) (deep:=false) (S10.drw.less (by decide)) names2 (by decide +kernel)
  clear S8 S9 ob hfr g1 d0 x0
  have ok0:=oo0.ok
  clear oo0
  fail "r"
  refine Does.goP ob2 ?_
  rintro R hR v17 σ17 ⟨k1,b1,hv,oo1,d1,x1,in1⟩
  obtain rfl:v17=_:=hv
  have S11:=S10.step d1 x1
  have g2:=sub_str (nm := "objs") (w:=.loc o) S11.w (by kernel_rfl)
  have g3:=S11.ob
  have kk:=wk ((objs++[(Atm.o0,k0,b0)]).map fun q=>(q.1.name,q.2.1)) "#1"
  have kl:decide ((strD (fun k:Nat=>V.loc k) ((objs++[(Atm.o0,k0,b0)]).map fun q=>(q.1.name,q.2.1))).length < cap)=true:=decide_eq_true (by unfold strD cap;rw [List.length_map,List.length_map,List.length_append,List.length_singleton];fail "a")
  have S12:=S11.seto (x:=.o1) (by
   rw [List.map_append];intro q
   rcases List.mem_append.mp q with q | q
   ·exact no0.2 q
   ·cases List.mem_singleton.mp q) oo1 S10.len
  have tk:=take_spec (k:=3) (N:=850) (S12.drw.less (by decide)) (by decide) (by decide)
  clear S10 S11 ob2 d1 x1
  have ok1:=oo1.ok
  clear oo1
  fail "r"
  refine Does.goP tk ?_
  rintro R hR v19 σ19 ⟨r3,q3,hv,d3,x3⟩
  obtain rfl:v19=_:=hv
  have S13:=S12.step d3 x3
  have g1:=S13.w
  obtain ⟨dc,hdc⟩:∃ b,((r3:Int)==1)=b:=⟨_,rfl⟩
  have S14:=S13.setw (Str.ofString "declared") (.bool dc)
  rw [← hdc] at S14
  have tk:=take_spec (k:=14) (N:=849) S14.drw (by decide) (by decide)
  clear S12 S13 d3 x3 q3 g2 g3 kk kl
  fail "r"
  rw [hdc] at S14 tk ⊢
  refine Does.goP tk ?_
  rintro R hR v21 σ21 ⟨r14,q14,hv,d14,x14⟩
  obtain rfl:v21=_:=hv
  have S15:=S14.step d14 x14
  have gg:=sub_str (nm := "goals") (w:=.loc g) S15.w (by kernel_rfl)
  have l7:decide ((r14:Int) < 7)=decide (r14 < 7):=decide_eq_decide.mpr (by fail "a")
  clear S14 tk d14 x14 hdc
  obtain ⟨gge,gl⟩:=S15.cel (g,_) (.tail _ (.tail _ (.head _)))
  obtain ⟨_,ll⟩:=S15.cel (l,_) (.tail _ (.head _))
  obtain ⟨_,le⟩:=S15.cel (e,_) (.head _)
  fail "r"
  refine sel_joinS (fun σ'=>∃ ex:List Atm,C3 (ex.length≤1) (∀ x∈ex,x∈GX) (WS σ' δ 849 o (setD (setD (setD (setD (setD (setD (L0 c o) "whole" (.bool wh)) "goals" (.loc g)) "lit" (.loc l)) "inner" (.loc e)) "fresh" (.bool fr)) "declared" (.bool dc)) (objs++[(Atm.o0,k0,b0)]++[(Atm.o1,k1,b1)]) [(g,.list (nmV (PA.take c++ex))),(e,.dict (strD kindV inn)),(l,.dict (strD kindV lit))])) (fun hb=>go ?_) (fun hb=>go ?_) ?_
  ·have hr14:r14 < 7:=of_decide_eq_true (l7▸hb)
   obtain ⟨x,hx⟩:∃ x,GX[r14]?=some x:=⟨_,List.getElem?_eq_getElem hr14⟩
   have su:=nm_at hx (by decide) σ21
   have kl:decide ((nmV (PA.take c)).length < cap)=true:=decide_eq_true (by unfold nmV;rw [List.length_map,List.length_take];exact Nat.lt_of_le_of_lt (Nat.min_le_right _ _) (by decide))
   have S16:=(S15.sub (C':=[(e,.dict (strD kindV inn)),(l,.dict (strD kindV lit))]) (fun q hq=>by
    rcases List.mem_cons.mp hq with rfl | hq
    ·exact .head _
    ·rw [List.mem_singleton.mp hq];exact .tail _ (.head _))).setl (l':=nmV (PA.take c)++[.str x.name]) gge gl (fun q hq e=>by
    rcases List.mem_cons.mp hq with rfl | hq
    ·dsimp only at e;subst e;rw [gl] at le;cases le
    ·rw [List.mem_singleton.mp hq] at e;dsimp only at e;subst e;rw [gl] at ll;cases ll)
   clear hb hr14 S15 ll le hQ
   fail "r"
   refine ⟨rfl,[x],Nat.le_refl _,fun y hy=>by rw [List.mem_singleton.mp hy];exact List.mem_of_getElem? hx,?_⟩
   rw [nmV_app];exact S16
  ·clear hb hQ
   fail "r"
   refine ⟨rfl,[],Nat.zero_le _,fun I q=>(nomatch q),?_⟩
   rw [List.append_nil]
   refine S15.sub fun q hq=>?_
   rcases List.mem_cons.mp hq with rfl | hq
   ·exact .tail _ (.tail _ (.head _))
   rcases List.mem_cons.mp hq with rfl | hq
   ·exact .head _
   ·rw [List.mem_singleton.mp hq];exact .tail _ (.head _)
  rintro σ23 ⟨ex,ex1,ex2,S17⟩
  clear S15 gg l7 q14 ll le gl
  have tk:=take_spec (k:=4) (N:=848) S17.drw (by decide) (by decide)
  fail "r"
  refine Does.goP tk ?_
  rintro R hR v24 σ24 ⟨rn,qn,hv,dn,xn⟩
  obtain rfl:v24=_:=hv
  have S18:=S17.step dn xn
  obtain ⟨nm,hnm⟩:∃ nm,[Str.ofString "k",Str.ofString "p",Str.ofString "q",Str.ofString "0"][rn]?=some nm:=⟨_,List.getElem?_eq_getElem qn⟩
  have hn:=names4 nm (List.mem_of_getElem? hnm)
  have su:subV σ24 (.tup [.str (Str.ofString "k"),.str (Str.ofString "p"),.str (Str.ofString "q"),.str (Str.ofString "0")]) (.int (rn:Nat))=some (.str nm) :=
   sub_tup (l:=[Str.ofString "k",Str.ofString "p",Str.ofString "q",Str.ofString "0"].map V.str) (by rw [List.getElem?_map,hnm];rfl) (show (4:Nat)≤cap by decide)
  have tk:=take_spec (k:=23) (N:=847) S18.drw (by decide) (by decide)
  clear S17 dn xn hnm qn
  fail "r"
  refine Does.goP tk ?_
  rintro R hR v25 σ25 ⟨st,qst,hv,d25,x25⟩
  obtain rfl:v25=_:=hv
  have S19:=S18.step d25 x25
  have tk:=take_spec (k:=22) (N:=846) S19.drw (by decide) (by decide)
  clear S18 d25 x25 su
  fail "r"
  refine Does.goP tk ?_
  rintro R hR v26 σ26 ⟨sp,qsp,hv,d26,x26⟩
  obtain rfl:v26=_:=hv
  have S20:=S19.step d26 x26
  clear S19 d26 x26 tk
  have o1:loopD σ26 (.rng 23)=some (false,r23):=rfl
  have o3:∀ σ,sameItems σ (.rng 23) false r23=true:=fun σ=>rng_same 23 σ
  fail "r"
  refine comp_allG (onNat fun i=>.int ((st+(1+sp) * i) % 23:Nat)) (o3 _) ?_ ?_
  ·intro z hz
   obtain ⟨i,hi,rfl⟩:=mem_r23 hz
   have m1:binV σ26 .Mult (.int ((1:Int)+(sp:Nat))) (.int (i:Nat))=some (.int (((1:Int)+(sp:Int)) * (i:Int))):=by
    show (if ((1:Int)+(sp:Int)).natAbs < big.natAbs∧(i:Int).natAbs < big.natAbs then some (V.int (((1:Int)+(sp:Int)) * (i:Int))) else none)=_
    have hb:2000 < big.natAbs:=by decide
    rw [if_pos (by omega)]
   have m2:binV σ26 .Mod (.int ((st:Int)+((1:Int)+(sp:Int)) * (i:Int))) (.int 23)=some (.int (((st+(1+sp) * i) % 23:Nat):Nat)):=by
    rw [bin_mod_int _ _ (by decide),Int.fmod_eq_emod_of_nonneg _ (by decide)]
    congr 2
   have on:=onNat_int (fun i=>V.int ((st+(1+sp) * i) % 23:Nat)) i
   clear o1 o3 hQ
   fail "r"
  rw [r23_map]
  obtain ⟨order,hord⟩:∃ l,(List.range 23).map (fun i=>(st+(1+sp) * i) % 23)=l:=⟨_,rfl⟩
  rw [hord]
  have olen:order.length=23:=by rw [← hord,List.length_map,List.length_range]
  have olt:∀ j∈order,j < 23:=fun j hj=>by
   rw [← hord] at hj
   obtain ⟨k,_,rfl⟩:=List.mem_map.mp hj
   exact Nat.mod_lt _ (by decide)
  have ohas:∀ j∈[14,15,16,21],j∈order:=fun j hj=>by
   rw [← hord];exact order_has st qst sp qsp j hj
  clear hord qst qsp
  -- the law's world
  obtain ⟨D,hD⟩:∃ D:LW,D={ count:=c,whole:=wh,objs:=objs++[(Atm.o0,k0,b0)]++[(Atm.o1,k1,b1)],goals:=PA.take c++ex,lit:=lit,inner:=inn,fresh:=fr,declared:=dc }:=⟨_,rfl⟩
  have RW:Raw D objs c k0 k1 b0 b1 ex:=by
   subst hD
   exact ⟨c24,rfl,hk,List.append_assoc _ _ _,rfl,ex1,ex2,hok,ok0,ok1,in0 rfl,in1 rfl,fun p hp=>⟨(l2' p hp).1,names4 _ (l2' p hp).2.1⟩,fun p hp=>⟨(e2 p hp).1,names4 _ (List.mem_append_left [Str.ofString "0"] (e2 p hp).2.1),(e2 p hp).2.2 rfl⟩,l3,e3,l4,e4⟩
  obtain ⟨ok2,gl5,gP,cnt⟩:=RW.good
  have WA:WAt σ26 (o+2) D:=by
   refine ⟨⟨o,e,g,l,?_,?_,?_,?_,?_⟩,fun x hx=>?_⟩
   ·rw [hD];exact S20.w
   ·rw [hD];exact S20.ob
   ·rw [hD];exact (S20.cel (e,_) (.tail _ (.head _))).2
   ·rw [hD];exact (S20.cel (g,_) (.head _)).2
   ·rw [hD];exact (S20.cel (l,_) (.tail _ (.tail _ (.head _)))).2
   ·obtain ⟨q,hq,_,h1,h2⟩:=RW.ob hx
    rw [h1,h2]
    rw [hD] at hq
    exact (S20.obs q hq).to
  clear hD RW S20 hk hok l2' l3 l4 e2 e3 e4 ex1 ex2 in0 in1 ok0 ok1 no0 c24 o1
  have lr2:loopD σ26 (.rng 2)=some (false,(List.range 2).map fun (i:Nat)=>V.int (i:Int)):=rng_loop 2 _
  fail "r"
  refine for_mapR (rc 144).sc (fun I=>none) [("w",.loc (o+2)),("order",.lst (vints order)),("name",.str nm)] (fun I I σ'=>Ext σ26 σ') ?_ ?_ _ _ _ rfl ?_
  ·rintro P hP R hR i r' vars2 σ' x26
   clear lr2 hQ
   have o1:loopD σ' (.rng 23)=some (false,r23):=rfl
   fail "r"
   refine sel_joinR (fun q=>∃ od,C5 (q.1=.lst (vints od)) (Ext σ' q.2) (∀ j∈od,j < 23) (∀ j∈[14,15,16,21],j∈od) (od.length≤23)) (fun hb=>?_) (fun hb=>?_) ?_
   ·clear hb
    fail "r"
    exact ⟨order,rfl,Ext.refl _,olt,ohas,Nat.le_of_eq olen⟩
   ·clear hb
    fail "r"
    refine comp_allG (onNat fun i=>.int ((order[22 - i]?).getD 0:Nat)) (o3 _) ?_ ?_
    ·intro z hz
     obtain ⟨i,hi,rfl⟩:=mem_r23 hz
     have on:=onNat_int (fun i=>V.int ((order[22 - i]?).getD 0:Nat)) i
     have su:subV σ' (.lst (vints order)) (.int (22 - (i:Int)))=some (.int ((order[22 - i]?).getD 0:Nat)):=by
      rw [show (22:Int) - (i:Int)=((22 - i:Nat):Int) by fail "a"]
      refine sub_lst ?_ ?_
      ·unfold vints
       rw [List.getElem?_map,List.getElem?_eq_getElem (by fail "a")];rfl
      ·unfold vints;rw [List.length_map,olen];decide
     clear o1 o3
     fail "r"
    rw [r23_map,rev23 olen]
    fail "r"
    exact ⟨order.reverse,rfl,Ext.refl _,fun j h=>olt j (List.mem_reverse.mp h),fun j h=>List.mem_reverse.mpr (ohas j h),by rw [List.length_reverse,olen];exact Nat.le_refl _⟩
   rintro R hR v30 σ30 ⟨od,hv,x30,od1,od2,od3⟩
   obtain rfl:v30=_:=hv
   have x30:Ext σ' σ30:=x30
   have tb:=fun tn=>table_law (tn:=tn) (order:=od) ok2 cnt (WA.ext (x26.trans x30)) (.inl rfl) od1 (od2 21 (by decide)) od3
   clear o1 o3
   fail "r"
   refine Does.goP (tb _) ?_
   rintro R hR v31 σ31 ⟨hv,made,T,t,B,hS,hm⟩
   obtain rfl:v31=_:=hv
   have lr:=law_right ok2 gl5 gP (B.less (by decide)) hS (hm 15 (od2 15 (by decide)) .o0 rfl) (hm 16 (od2 16 (by decide)) .o1 rfl) (hm 14 (od2 14 (by decide)) .lit rfl) hn
   clear B hS hm tb od1 od2 od3
   fail "r"
   refine Does.goP lr ?_
   rintro R hR v32 σ32 ⟨hv,x32⟩
   obtain rfl:v32=_:=hv
   clear lr
   fail "r"
   exact hP (rng_same 2 _) ((x26.trans x30).trans x32) rfl rfl
  ·rintro R hR vars2 σ' x26
   fail "r"
  ·exact Ext.refl _
 ·exact ⟨[],rfl,Nat.zero_le _,S2.less (by show 900+7 * c≤998;fail "a"),rfl,fun I q=>nomatch q⟩
end
end Mine
set_option maxHeartbeats 4000000
namespace Mine
open MineH PySem PySem.W PySem.Calls PyProof.Rows PySem.SeqAt PySem.Spec
noncomputable def LawRuns:Prop:=∀ ns:List Int,ns.length≤63→Does 33 (rc 144) [.lst (ns.map .int)] [] fun q=>q.1=.bool true
theorem glob_law:globW "law" = some (.fn (rc 144)):=by kernel_rfl
theorem law_end {w:PySem.World} {s₀ s₁ s':Shared} {ns:List Int} {cl mean} (hk:HExt s₁.heap s'.heap) (ho:s'.os=s₁.os) (hg:s'.gens=#[]) :
  GoodWG Challenge.rw_xm0521_01.row.claim cl mean [ofPy (PyData.list (ns.map PyData.int))] s₁ (Except.ok (Flow.ret (.bool true))) s':=by
 refine ⟨.inl ⟨.bool true,.bool true,[],rfl,fun _=>rfl,.bool true,?_,fun _=>⟨.nil,fun _ ha=>nomatch ha⟩⟩,.of_keep hk,ho,.of_eq hg⟩
 kernel_rfl
theorem join (L:LawRuns):PySem.Challenge.rw_xm0521_01.Holds:=hd (by
 intro w s₀ s₁ mg mb G Y fa o pm cd doc dV kV ho hd hcd hD hmg hg args vals as hpre hlay hrd hwl hlo
 have KX:(Kf w.params).In s₁.heap:=Y
 clear Y ho hd hcd hD
 clear o pm cd doc dV kV
 refine Ground.open G ?_
 intro T B D TE TW
 clear D TE TW B
 clear G
 replace hmg:mg "law" = some (.ref fa):=hmg
 wrow_args hpre hlay hrd hwl hlo
 rename_i ns _ _ _ _ _ _ _ la xs _ hL _ _ _ hI _ hc _
 have hlen:ns.length≤63:=by
  have:¬ ((63:Int) < (ns.length:Int)):=hc
  omega
 let C:Ctx0:=⟨Challenge.rw_xm0521_01.row.prog,w,Kf w.params,s₁.heap,mg,mb⟩
 have O:=base_ok (C:=C) (base_k w.params) KX T.g T.b T.nolimit T.builtins
 obtain ⟨f,hf,H⟩:=O.fn _ _ _ glob_law (.inl hmg)
 cases hf
 have R:Inv C ⟨C.rn,s₁⟩ []:=⟨fun _ _ e=>e,fun _ _ e=>e,rfl,fun n p o e=>no (List.getElem?_nil.symm.trans e:(none:Option (Addr×Addr))=some p),fun i j p q a e=>no (List.getElem?_nil.symm.trans e:(none:Option (Addr×Addr))=some p),fun a ⟨e,_⟩=>no (List.getElem?_nil.symm.trans e:(none:Option (Addr×Addr))=some _)⟩
 obtain ⟨oL,eL,qL⟩:=hL
 have rep:Reps C C.rn [.lst (ns.map .int)] [.ref la]:=.cons (.lst (o:=oL) eL qL (ints_reps hI) (Nat.le_trans (Nat.le_of_eq (List.length_map _)) (Nat.le_trans hlen (by decide)))) .nil
 have Rm:Room callerA (2 * 33+1):=⟨rfl,by decide,by decide⟩
 refine wpAny_call (L ns hlen C callerA O Rm ⟨C.rn,s₁⟩ fa [.ref la] callerA _ H.at_ rep R (Rm.less (Nat.le_succ _)) fun v x W' σ' a d=>?_)
 have d:v=.bool true:=d
 subst d
 exact a.r.elB (law_end (w:=w) (s₀:=s₀) (fun b o e=>a.n.R.fz b o (a.n.S.le.fz b o e)) (congrArg (·.1) a.n.S.same) ((congrArg (·.2.1) a.n.S.same).trans hg)))
end Mine
theorem PySem.Challenge.cw_xm0521_01_holds : PySem.Challenge.rw_xm0521_01.Holds :=
 Mine.join fun ns _=>Mine.law_spec
