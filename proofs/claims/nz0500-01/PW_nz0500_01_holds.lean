import PyProof.Rows.All
import Wide.All
import OpenK.AllK
import Wide.FinOn
import Open.Boot
import Lean
import PySem.Challenge.RW_nz0500_01
set_option Elab.async false
set_option maxRecDepth 100000
set_option linter.all false
set_option genInjectivity false
set_option genSizeOf false
set_option bootstrap.genMatcherCode false
section
namespace Internal
open PySem
inductive Opr | plus | star | lp | rp | lb | rb | semi deriving DecidableEq
inductive Key | kif | kwhile | kfun | kelse deriving DecidableEq
noncomputable def Opr.s:Opr→Str | .plus=> "+" | .star=> "*" | .lp=> "(" | .rp=> ")" | .lb=> "{" | .rb=> "}" | .semi=> ";"
noncomputable def Key.s:Key→Str | .kif=> "if" | .kwhile=> "while" | .kfun=> "function" | .kelse=> "else"
inductive Wd | id (s:Str) | num (n:Int) | op (o:Opr) | key (k:Key) | eof deriving DecidableEq
noncomputable def Wd.kd:Wd→Str | .id _=> "id" | .num _=> "num" | .op _=> "op" | .key _=> "key" | .eof=> "eof"
noncomputable def Wd.s:Wd→Str | .id s=>s | .num _=> "" | .op o=>o.s | .key k=>k.s | .eof=> ""
structure Tk where
 wd:Wd
 nl:Bool
inductive Ctx | top | par | brace deriving DecidableEq
noncomputable def Ctx.s:Ctx→Str | .top=> "top" | .par=> "(" | .brace=> "{"
inductive Tree | name (s:Str) | num (n:Int) | call (ts:List Tree) | fn (names:List Str) (body:Tree)
inductive Res | ok (t:Tree) (p:Nat) | bad (p:Nat)
inductive Md
 | expr (p:Nat) (k:Ctx) (lv:Nat)
 | loop (p:Nat) (k:Ctx) (lv:Nat) (t:Tree)
 | side (p:Nat) (k:Ctx)
 | prim (p:Nat) (k:Ctx)
 | foll (p:Nat) (k:Ctx) (t:Tree)
 | args (p:Nat)
 | cond (p:Nat) (k:Ctx) (b:Bool)
 | fn (p:Nat) (k:Ctx)
 | block (p:Nat) (ts:List Tree)
 | prog (p:Nat) (ts:List Tree)
noncomputable def seq (r:Option Res) (k:Tree→Nat→Option Res):Option Res:=match r with
 | some (.ok t p)=>k t p
 | some (.bad q)=>some (.bad q)
 | none=>none
noncomputable def joins (t:Tk) (k:Ctx):Bool:=!t.nl||k==.par
noncomputable def goes (o:Opr) (lv:Nat):Bool:=(o==.plus&&decide (lv<2))||(o==.star&&decide (lv<3))
noncomputable def lvOf (o:Opr):Nat:=if o=.plus then 2 else 3
noncomputable def itemsOf:Tree→List Tree | .call ts=>ts | _=>[]
noncomputable def opOf (w:Wd):Option Opr:=match w with | .op o=>some o | _=>none
noncomputable def idOf (w:Wd):Option Str:=match w with | .id s=>some s | _=>none
theorem opOf_spec {w:Wd} {o:Opr} (h:opOf w=some o):w=.op o:=by
 cases w with
 | op o'=>rw [Option.some.inj h]
 | _=>exact by injection h
theorem idOf_spec {w:Wd} {o:Str} (h:idOf w=some o):w=.id o:=by
 cases w with
 | id o'=>rw [Option.some.inj h]
 | _=>exact by injection h
section
variable (tk:Nat→Tk) (P:Md→Option Res)
noncomputable def primS (p:Nat) (k:Ctx) (w:Wd):Option Res:=match w with
 | .num n=>some (.ok (.num n) (p+1))
 | .id s=>some (.ok (.name s) (p+1))
 | .op o=>(match o with
  | .lp=>seq (P (.expr (p+1) .par 0)) fun t q=>if (tk q).wd=.op .rp then some (.ok (.call [.name "(",t]) (q+1)) else some (.bad q)
  | .lb=>P (.block (p+1) [])
  | _=>some (.bad p))
 | .key o=>(match o with
  | .kif=>P (.cond (p+1) k true)
  | .kwhile=>P (.cond (p+1) k false)
  | .kfun=>P (.fn (p+1) k)
  | .kelse=>some (.bad p))
 | .eof=>some (.bad p)
noncomputable def PStep (md:Md):Option Res:=match md with
 | .expr p k lv=>seq (P (.side p k)) fun t q=>P (.loop q k lv t)
 | .loop p k lv t=>(match opOf (tk p).wd with
  | some o=>if (joins (tk p) k&&goes o lv)=true then seq (P (.expr (p+1) k (lvOf o))) fun r q=>P (.loop q k lv (.call [.name o.s,t,r])) else some (.ok t p)
  | none=>some (.ok t p))
 | .side p k=>if (tk p).wd=.op .plus then seq (P (.side (p+1) k)) fun t q=>some (.ok (.call [.name "+",t]) q)
  else seq (P (.prim p k)) fun t q=>P (.foll q k t)
 | .prim p k=>primS tk P p k (tk p).wd
 | .foll p k t=>if (tk p).wd=.op .lp∧joins (tk p) k=true then seq (P (.args (p+1))) fun a q=>P (.foll q k (.call (t::itemsOf a)))
  else some (.ok t p)
 | .args p=>if (tk p).wd=.op .rp then some (.ok (.call []) (p+1))
  else seq (P (.expr p .par 0)) fun a q=>if (tk q).wd=.op .rp then some (.ok (.call [a]) (q+1)) else some (.bad q)
 | .cond p k b=>if (tk p).wd=.op .lp then
   seq (P (.expr (p+1) .par 0)) fun a q=>if (tk q).wd=.op .rp then
    seq (P (.expr (q+1) k 0)) fun e q2=>if b=true∧(tk q2).wd=.key .kelse∧((tk q2).nl=false∨k≠.top) then
     seq (P (.expr (q2+1) k 0)) fun e2 q3=>some (.ok (.call [.name "if",a,e,e2]) q3)
     else some (.ok (.call [.name (if b then "if" else "while"),a,e]) q2)
    else some (.bad q)
   else some (.bad p)
 | .fn p k=>if (tk p).wd=.op .lp then
   if (tk (p+1)).wd=.op .rp then seq (P (.expr (p+2) k 0)) fun e q=>some (.ok (.fn [] e) q)
   else (match idOf (tk (p+1)).wd with
    | some s=>if (tk (p+2)).wd=.op .rp then seq (P (.expr (p+3) k 0)) fun e q=>some (.ok (.fn [s] e) q) else some (.bad (p+2))
    | none=>some (.bad (p+1)))
   else some (.bad p)
 | .block p ts=>if (tk p).wd=.op .rb then some (.ok (.call (.name "{" :: ts)) (p+1))
   else if (tk p).wd=.op .semi then P (.block (p+1) ts)
   else seq (P (.expr p .brace 0)) fun t q=>if (tk q).nl=true∨(tk q).wd=.op .semi∨(tk q).wd=.op .rb then P (.block q (ts++[t])) else some (.bad q)
 | .prog p ts=>if (tk p).wd=.eof then some (.ok (.call ts) p)
   else seq (P (.expr p .top 0)) fun t q=>if (tk q).wd=.op .semi then P (.prog (q+1) (ts++[t]))
    else if (tk q).wd=.eof∨(tk q).nl=true then P (.prog q (ts++[t])) else some (.bad q)
end
theorem ltN {C:Nat→Prop} {n:Nat} (a:∀ y,y<n→C y) (b:C n):∀ y,y<n+1→C y:=fun y h=>(Nat.lt_succ_iff_lt_or_eq.mp h).elim (a y) fun e=>e▸b
theorem lt1 {C:Nat→Prop} (a:C 0):∀ y,y<1→C y:=ltN (fun _ h=>absurd h (Nat.not_lt_zero _)) a
@[elab_as_elim] theorem lt2 {C:Nat→Prop} (a0:C 0) (a1:C 1):∀ y,y<2→C y:=ltN (lt1 a0) a1
@[elab_as_elim] theorem lt3 {C:Nat→Prop} (a0:C 0) (a1:C 1) (a2:C 2):∀ y,y<3→C y:=ltN (lt2 a0 a1) a2
@[elab_as_elim] theorem lt4 {C:Nat→Prop} (a0:C 0) (a1:C 1) (a2:C 2) (a3:C 3):∀ y,y<4→C y:=ltN (lt3 a0 a1 a2) a3
@[elab_as_elim] theorem lt9 {C:Nat→Prop} (a0:C 0) (a1:C 1) (a2:C 2) (a3:C 3) (a4:C 4) (a5:C 5) (a6:C 6) (a7:C 7) (a8:C 8):∀ y,y<9→C y:=ltN (ltN (ltN (ltN (ltN (lt4 a0 a1 a2 a3) a4) a5) a6) a7) a8
theorem sub_s {p q:Nat} (h:p+1≤q):q - p=q - (p+1)+1:=(Nat.succ_pred_eq_of_pos (Nat.sub_pos_of_lt h)).symm
theorem sub_lt1 {a b:Nat} (h:b<a):a - (b+1)<a - b:=Nat.sub_lt_sub_left h (Nat.lt_succ_self b)
@[elab_as_elim] theorem n1 {C:Nat→Prop} (a:C 0) (r:∀ n,C (n+1)):∀ i,C i:=fun i=>i.casesOn a r
@[elab_as_elim] theorem n2 {C:Nat→Prop} (a:C 0) (b:C 1) (r:∀ n,C (n+2)):∀ i,C i:=n1 a (n1 b r)
@[elab_as_elim] theorem n3 {C:Nat→Prop} (a:C 0) (b:C 1) (c:C 2) (r:∀ n,C (n+3)):∀ i,C i:=n2 a b (n1 c r)
@[elab_as_elim] theorem n4 {C:Nat→Prop} (a:C 0) (b:C 1) (c:C 2) (d:C 3) (r:∀ n,C (n+4)):∀ i,C i:=n2 a b (n2 c d r)
noncomputable def P (tk:Nat→Tk) (f:Nat):Md→Option Res:=f.rec (fun _=>none) fun _ ih=>PStep tk ih
end Internal
end
section
namespace Internal
open PySem
section
variable {o:Option Res} {g:Tree→Nat→Option Res} {r:Res} {C:Prop}
theorem seqC (h:seq o g=some r) (k1:∀ q,o=some (.bad q)→r=.bad q→C) (k2:∀ t q,o=some (.ok t q)→g t q=some r→C):C:=by
 cases o with
 | none=>exact by injection h
 | some x=>cases x with
  | bad q=>exact k1 q rfl (Option.some.inj h).symm
  | ok t q=>exact k2 t q rfl h
theorem itC {c:Prop} [Decidable c] {a b:Option Res} (h:(if c then a else b)=some r) (k1:c→a=some r→C) (k2:¬c→b=some r→C):C:=by
 by_cases q:c
 ·rw [if_pos q] at h;exact k1 q h
 ·rw [if_neg q] at h;exact k2 q h
theorem badE {q' q:Nat} {t:Tree} (h:r=.bad q') (hr:r=.ok t q):C:=by injection (h.symm.trans hr)
theorem okE {t:Tree} {q:Nat} (h:o=some r) (hr:r=.ok t q):o=some (.ok t q):=h.trans (congrArg some hr)
theorem opE {o:Opr}:Wd.op o≠.eof:=fun e=>by injection e
theorem keyE {o:Key}:Wd.key o≠.eof:=fun e=>by injection e
theorem smC {x:Res} (h:some x=some r):r=x:=(Option.some.inj h).symm
end
section
variable {tk:Nat→Tk} {f:Nat} {r:Res} {C:Prop} {p:Nat} {k:Ctx}
theorem P_expr {lv:Nat} (h:P tk (f+1) (.expr p k lv)=some r) (exprB:∀ q,P tk f (.side p k)=some (.bad q)→r=.bad q→C) (expr:∀ t q,P tk f (.side p k)=some (.ok t q)→P tk f (.loop q k lv t)=some r→C):C:=seqC h exprB expr
theorem P_loop {lv:Nat} {t:Tree} (h:P tk (f+1) (.loop p k lv t)=some r) (loopE:(∀ o,(tk p).wd=.op o→(joins (tk p) k&&goes o lv)=false)→r=.ok t p→C)
  (loopB:∀ o q,(tk p).wd=.op o→(joins (tk p) k&&goes o lv)=true→P tk f (.expr (p+1) k (lvOf o))=some (.bad q)→r=.bad q→C)
  (loop:∀ o u q,(tk p).wd=.op o→(joins (tk p) k&&goes o lv)=true→P tk f (.expr (p+1) k (lvOf o))=some (.ok u q)→P tk f (.loop q k lv (.call [.name o.s,t,u]))=some r→C):C:=by
 replace h:(match opOf (tk p).wd with
  | some o=>if (joins (tk p) k&&goes o lv)=true then seq (P tk f (.expr (p+1) k (lvOf o))) fun r q=>P tk f (.loop q k lv (.call [.name o.s,t,r])) else some (.ok t p)
  | none=>some (.ok t p))=some r:=h
 cases ho:opOf (tk p).wd with
 | none=>rw [ho] at h;exact loopE (fun o e=>by rw [e] at ho;exact nomatch (show some o=none from ho)) (smC h)
 | some o=>
  rw [ho] at h
  have hw:=opOf_spec ho
  exact itC h (fun hc h=>seqC h (fun q h1 e=>loopB o q hw hc h1 e) fun u q h1 h2=>loop o u q hw hc h1 h2) fun hc h=>loopE (fun o' e=>by rw [hw] at e;(injection e with e1;subst e1);exact Bool.eq_false_iff.mpr hc) (smC h)
theorem P_side (h:P tk (f+1) (.side p k)=some r) (plusB:∀ q,(tk p).wd=.op .plus→P tk f (.side (p+1) k)=some (.bad q)→r=.bad q→C) (plus:∀ t q,(tk p).wd=.op .plus→P tk f (.side (p+1) k)=some (.ok t q)→r=.ok (.call [.name "+",t]) q→C)
  (sideB:∀ q,(tk p).wd≠.op .plus→P tk f (.prim p k)=some (.bad q)→r=.bad q→C) (side:∀ t q,(tk p).wd≠.op .plus→P tk f (.prim p k)=some (.ok t q)→P tk f (.foll q k t)=some r→C):C:=
 itC h (fun hc h=>seqC h (fun q h1 e=>plusB q hc h1 e) fun t q h1 h2=>plus t q hc h1 (smC h2)) fun hc h=>seqC h (fun q h1 e=>sideB q hc h1 e) fun t q h1 h2=>side t q hc h1 h2
noncomputable def BodyMd (tk:Nat→Tk) (p:Nat) (k:Ctx) (md:Md):Prop:=(tk p).wd=.op .lb∧md=.block (p+1) []∨(tk p).wd=.key .kif∧md=.cond (p+1) k true∨(tk p).wd=.key .kwhile∧md=.cond (p+1) k false∨(tk p).wd=.key .kfun∧md=.fn (p+1) k
noncomputable def NoPrim (tk:Nat→Tk) (p:Nat):Prop:=(tk p).wd=.eof∨(tk p).wd=.key .kelse∨(∃ o,(tk p).wd=.op o∧o≠.lp∧o≠.lb)
theorem P_prim (h:P tk (f+1) (.prim p k)=some r) (num:∀ n,(tk p).wd=.num n→r=.ok (.num n) (p+1)→C) (id:∀ s,(tk p).wd=.id s→r=.ok (.name s) (p+1)→C)
  (parB:∀ q,(tk p).wd=.op .lp→P tk f (.expr (p+1) .par 0)=some (.bad q)→r=.bad q→C) (parE:∀ t q,(tk p).wd=.op .lp→P tk f (.expr (p+1) .par 0)=some (.ok t q)→(tk q).wd≠.op .rp→r=.bad q→C)
  (par:∀ t q,(tk p).wd=.op .lp→P tk f (.expr (p+1) .par 0)=some (.ok t q)→(tk q).wd=.op .rp→r=.ok (.call [.name "(",t]) (q+1)→C) (primK:∀ md,BodyMd tk p k md→P tk f md=some r→C) (primE:NoPrim tk p→r=.bad p→C):C:=by
 replace h:primS tk (P tk f) p k (tk p).wd=some r:=h
 cases hw:(tk p).wd with
 | num n=>rw [hw] at h;exact num n hw (smC h)
 | id s=>rw [hw] at h;exact id s hw (smC h)
 | eof=>rw [hw] at h;exact primE (.inl hw) (smC h)
 | key o=>
  rw [hw] at h
  cases o with
  | kelse=>exact primE (.inr (.inl hw)) (smC h)
  | kif=>exact primK _ (.inr (.inl ⟨hw,rfl⟩)) h
  | kwhile=>exact primK _ (.inr (.inr (.inl ⟨hw,rfl⟩))) h
  | kfun=>exact primK _ (.inr (.inr (.inr ⟨hw,rfl⟩))) h
 | op o=>
  rw [hw] at h
  have no:o≠.lp→o≠.lb→some (.bad p)=some r→C:=fun a b h=>primE (.inr (.inr ⟨o,hw,a,b⟩)) (smC h)
  cases o with
  | lp=>exact seqC h (fun q h1 e=>parB q hw h1 e) fun t q h1 h2=>itC h2 (fun hc h=>par t q hw h1 hc (smC h)) fun hc h=>parE t q hw h1 hc (smC h)
  | lb=>exact primK _ (.inl ⟨hw,rfl⟩) h
  | _=>exact no (fun e=>by injection e) (fun e=>by injection e) h
theorem P_foll {t:Tree} (h:P tk (f+1) (.foll p k t)=some r) (follE:¬((tk p).wd=.op .lp∧joins (tk p) k=true)→r=.ok t p→C) (follB:∀ q,(tk p).wd=.op .lp→joins (tk p) k=true→P tk f (.args (p+1))=some (.bad q)→r=.bad q→C)
  (foll:∀ a q,(tk p).wd=.op .lp→joins (tk p) k=true→P tk f (.args (p+1))=some (.ok a q)→P tk f (.foll q k (.call (t::itemsOf a)))=some r→C):C:=
 itC h (fun hc h=>seqC h (fun q h1 e=>follB q hc.1 hc.2 h1 e) fun a q h1 h2=>foll a q hc.1 hc.2 h1 h2) fun hc h=>follE hc (smC h)
theorem P_args (h:P tk (f+1) (.args p)=some r) (args0:(tk p).wd=.op .rp→r=.ok (.call []) (p+1)→C) (argsB:∀ q,(tk p).wd≠.op .rp→P tk f (.expr p .par 0)=some (.bad q)→r=.bad q→C)
  (argsE:∀ a q,(tk p).wd≠.op .rp→P tk f (.expr p .par 0)=some (.ok a q)→(tk q).wd≠.op .rp→r=.bad q→C) (args:∀ a q,(tk p).wd≠.op .rp→P tk f (.expr p .par 0)=some (.ok a q)→(tk q).wd=.op .rp→r=.ok (.call [a]) (q+1)→C):C:=
 itC h (fun hc h=>args0 hc (smC h)) fun hc h=>seqC h (fun q h1 e=>argsB q hc h1 e) fun a q h1 h2=>itC h2 (fun h3 h=>args a q hc h1 h3 (smC h)) fun h3 h=>argsE a q hc h1 h3 (smC h)
theorem P_cond {b:Bool} (h:P tk (f+1) (.cond p k b)=some r) (condL:(tk p).wd≠.op .lp→r=.bad p→C) (condB:∀ q,(tk p).wd=.op .lp→P tk f (.expr (p+1) .par 0)=some (.bad q)→r=.bad q→C)
  (condR:∀ a q,(tk p).wd=.op .lp→P tk f (.expr (p+1) .par 0)=some (.ok a q)→(tk q).wd≠.op .rp→r=.bad q→C) (condE:∀ a q q2,(tk p).wd=.op .lp→P tk f (.expr (p+1) .par 0)=some (.ok a q)→(tk q).wd=.op .rp→P tk f (.expr (q+1) k 0)=some (.bad q2)→r=.bad q2→C)
  (cond:∀ a q e q2,(tk p).wd=.op .lp→P tk f (.expr (p+1) .par 0)=some (.ok a q)→(tk q).wd=.op .rp→P tk f (.expr (q+1) k 0)=some (.ok e q2)→¬(b=true∧(tk q2).wd=.key .kelse∧((tk q2).nl=false∨k≠.top))→r=.ok (.call [.name (if b then "if" else "while"),a,e]) q2→C)
  (elseB:∀ a q e q2 q3,(tk p).wd=.op .lp→P tk f (.expr (p+1) .par 0)=some (.ok a q)→(tk q).wd=.op .rp→P tk f (.expr (q+1) k 0)=some (.ok e q2)→b=true→(tk q2).wd=.key .kelse→((tk q2).nl=false∨k≠.top)→P tk f (.expr (q2+1) k 0)=some (.bad q3)→r=.bad q3→C)
  (els:∀ a q e q2 e2 q3,(tk p).wd=.op .lp→P tk f (.expr (p+1) .par 0)=some (.ok a q)→(tk q).wd=.op .rp→P tk f (.expr (q+1) k 0)=some (.ok e q2)→b=true→(tk q2).wd=.key .kelse→((tk q2).nl=false∨k≠.top)→P tk f (.expr (q2+1) k 0)=some (.ok e2 q3)→r=.ok (.call [.name "if",a,e,e2]) q3→C):C:=
 itC h (fun hc h=>seqC h (fun q h1 e=>condB q hc h1 e) fun a q h1 h2=>itC h2 (fun h3 h2=>seqC h2 (fun q2 h4 e=>condE a q q2 hc h1 h3 h4 e) fun e q2 h4 h5=>itC h5 (fun h6 h5=>seqC h5 (fun q3 h7 e'=>elseB a q e q2 q3 hc h1 h3 h4 h6.1 h6.2.1 h6.2.2 h7 e') fun e2 q3 h7 h8=>els a q e q2 e2 q3 hc h1 h3 h4 h6.1 h6.2.1 h6.2.2 h7 (smC h8)) fun h6 h5=>cond a q e q2 hc h1 h3 h4 h6 (smC h5)) fun h3 h2=>condR a q hc h1 h3 (smC h2)) fun hc h=>condL hc (smC h)
noncomputable def FnNames (tk:Nat→Tk) (p:Nat) (names:List Str) (q:Nat):Prop:=names=[]∧q=p+1∨∃ s,names=[s]∧q=p+2∧(tk (p+1)).wd=.id s
theorem P_fn (h:P tk (f+1) (.fn p k)=some r) (fnL:(tk p).wd≠.op .lp→r=.bad p→C) (fnI:(tk p).wd=.op .lp→(tk (p+1)).wd≠.op .rp→(∀ s,(tk (p+1)).wd≠.id s)→r=.bad (p+1)→C)
  (fnR:∀ s,(tk p).wd=.op .lp→(tk (p+1)).wd=.id s→(tk (p+2)).wd≠.op .rp→r=.bad (p+2)→C)
  (fn:∀ names q r2,(tk p).wd=.op .lp→FnNames tk p names q→(tk q).wd=.op .rp→P tk f (.expr (q+1) k 0)=some r2→r=(match r2 with | .ok e q'=>.ok (.fn names e) q' | .bad q'=>.bad q')→C):C:=by
 refine itC h (fun hc h=>itC h (fun h1 h=>seqC h (fun q h2 e=>fn [] (p+1) _ hc (.inl ⟨rfl,rfl⟩) h1 h2 e) fun e q h2 h3=>fn [] (p+1) _ hc (.inl ⟨rfl,rfl⟩) h1 h2 (smC h3)) fun h1 h=>?_) fun hc h=>fnL hc (smC h)
 replace h:(match idOf (tk (p+1)).wd with
    | some s=>if (tk (p+2)).wd=.op .rp then seq (P tk f (.expr (p+3) k 0)) fun e q=>some (.ok (.fn [s] e) q) else some (.bad (p+2))
    | none=>some (.bad (p+1)))=some r:=h
 cases ho:idOf (tk (p+1)).wd with
 | none=>rw [ho] at h;exact fnI hc h1 (fun s e=>by rw [e] at ho;exact nomatch (show some s=none from ho)) (smC h)
 | some s=>
  rw [ho] at h
  have hw:=idOf_spec ho
  exact itC h (fun h2 h=>seqC h (fun q h3 e=>fn [s] (p+2) _ hc (.inr ⟨s,rfl,rfl,hw⟩) h2 h3 e) fun e q h3 h4=>fn [s] (p+2) _ hc (.inr ⟨s,rfl,rfl,hw⟩) h2 h3 (smC h4)) fun h2 h=>fnR s hc hw h2 (smC h)
theorem P_block {ts:List Tree} (h:P tk (f+1) (.block p ts)=some r) (blkE:(tk p).wd=.op .rb→r=.ok (.call (.name "{" :: ts)) (p+1)→C) (blkS:(tk p).wd=.op .semi→P tk f (.block (p+1) ts)=some r→C)
  (blkB:∀ q,(tk p).wd≠.op .rb→(tk p).wd≠.op .semi→P tk f (.expr p .brace 0)=some (.bad q)→r=.bad q→C)
  (blkX:∀ t q,(tk p).wd≠.op .rb→(tk p).wd≠.op .semi→P tk f (.expr p .brace 0)=some (.ok t q)→¬((tk q).nl=true∨(tk q).wd=.op .semi∨(tk q).wd=.op .rb)→r=.bad q→C)
  (blk:∀ t q,(tk p).wd≠.op .rb→(tk p).wd≠.op .semi→P tk f (.expr p .brace 0)=some (.ok t q)→((tk q).nl=true∨(tk q).wd=.op .semi∨(tk q).wd=.op .rb)→P tk f (.block q (ts++[t]))=some r→C):C:=
 itC h (fun hc h=>blkE hc (smC h)) fun hc h=>itC h (fun h1 h=>blkS h1 h) fun h1 h=>seqC h (fun q h2 e=>blkB q hc h1 h2 e) fun t q h2 h3=>itC h3 (fun h4 h3=>blk t q hc h1 h2 h4 h3) fun h4 h3=>blkX t q hc h1 h2 h4 (smC h3)
theorem P_prog {ts:List Tree} (h:P tk (f+1) (.prog p ts)=some r) (prgE:(tk p).wd=.eof→r=.ok (.call ts) p→C) (prgB:∀ q,(tk p).wd≠.eof→P tk f (.expr p .top 0)=some (.bad q)→r=.bad q→C)
  (prgX:∀ t q,(tk p).wd≠.eof→P tk f (.expr p .top 0)=some (.ok t q)→(tk q).wd≠.op .semi→¬((tk q).wd=.eof∨(tk q).nl=true)→r=.bad q→C) (prgS:∀ t q,(tk p).wd≠.eof→P tk f (.expr p .top 0)=some (.ok t q)→(tk q).wd=.op .semi→P tk f (.prog (q+1) (ts++[t]))=some r→C)
  (prg:∀ t q,(tk p).wd≠.eof→P tk f (.expr p .top 0)=some (.ok t q)→(tk q).wd≠.op .semi→((tk q).wd=.eof∨(tk q).nl=true)→P tk f (.prog q (ts++[t]))=some r→C):C:=
 itC h (fun hc h=>prgE hc (smC h)) fun hc h=>seqC h (fun q h2 e=>prgB q hc h2 e) fun t q h2 h3=>itC h3 (fun h4 h3=>prgS t q hc h2 h4 h3) fun h4 h3=>itC h3 (fun h5 h3=>prg t q hc h2 h4 h5 h3) fun h5 h3=>prgX t q hc h2 h4 h5 (smC h3)
@[elab_as_elim] theorem Q_expr {C:Res→Prop} {lv:Nat} (h:P tk (f+1) (.expr p k lv)=some r) (exprB:∀ q,P tk f (.side p k)=some (.bad q)→C (.bad q)) (expr:∀ t q,P tk f (.side p k)=some (.ok t q)→P tk f (.loop q k lv t)=some r→C r):C r:=P_expr h (fun a0 a1 e=>Eq.mpr (congrArg C e) (exprB a0 a1)) expr
@[elab_as_elim] theorem Q_side {C:Res→Prop}  (h:P tk (f+1) (.side p k)=some r) (plusB:∀ q,(tk p).wd=.op .plus→P tk f (.side (p+1) k)=some (.bad q)→C (.bad q)) (plus:∀ t q,(tk p).wd=.op .plus→P tk f (.side (p+1) k)=some (.ok t q)→C (.ok (.call [.name "+",t]) q)) (sideB:∀ q,(tk p).wd≠.op .plus→P tk f (.prim p k)=some (.bad q)→C (.bad q)) (side:∀ t q,(tk p).wd≠.op .plus→P tk f (.prim p k)=some (.ok t q)→P tk f (.foll q k t)=some r→C r):C r:=P_side h (fun a0 a1 a2 e=>Eq.mpr (congrArg C e) (plusB a0 a1 a2)) (fun a0 a1 a2 a3 e=>Eq.mpr (congrArg C e) (plus a0 a1 a2 a3)) (fun a0 a1 a2 e=>Eq.mpr (congrArg C e) (sideB a0 a1 a2)) side
@[elab_as_elim] theorem Q_prim {C:Res→Prop}  (h:P tk (f+1) (.prim p k)=some r) (num:∀ n,(tk p).wd=.num n→C (.ok (.num n) (p+1))) (id:∀ s,(tk p).wd=.id s→C (.ok (.name s) (p+1))) (parB:∀ q,(tk p).wd=.op .lp→P tk f (.expr (p+1) .par 0)=some (.bad q)→C (.bad q)) (parE:∀ t q,(tk p).wd=.op .lp→P tk f (.expr (p+1) .par 0)=some (.ok t q)→(tk q).wd≠.op .rp→C (.bad q)) (par:∀ t q,(tk p).wd=.op .lp→P tk f (.expr (p+1) .par 0)=some (.ok t q)→(tk q).wd=.op .rp→C (.ok (.call [.name "(",t]) (q+1))) (primK:∀ md,BodyMd tk p k md→P tk f md=some r→C r) (primE:NoPrim tk p→C (.bad p)):C r:=P_prim h (fun a0 a1 e=>Eq.mpr (congrArg C e) (num a0 a1)) (fun a0 a1 e=>Eq.mpr (congrArg C e) (id a0 a1)) (fun a0 a1 a2 e=>Eq.mpr (congrArg C e) (parB a0 a1 a2)) (fun a0 a1 a2 a3 a4 e=>Eq.mpr (congrArg C e) (parE a0 a1 a2 a3 a4)) (fun a0 a1 a2 a3 a4 e=>Eq.mpr (congrArg C e) (par a0 a1 a2 a3 a4)) primK (fun a0 e=>Eq.mpr (congrArg C e) (primE a0))
@[elab_as_elim] theorem Q_foll {C:Res→Prop} {t:Tree} (h:P tk (f+1) (.foll p k t)=some r) (follE:¬((tk p).wd=.op .lp∧joins (tk p) k=true)→C (.ok t p)) (follB:∀ q,(tk p).wd=.op .lp→joins (tk p) k=true→P tk f (.args (p+1))=some (.bad q)→C (.bad q)) (foll:∀ a q,(tk p).wd=.op .lp→joins (tk p) k=true→P tk f (.args (p+1))=some (.ok a q)→P tk f (.foll q k (.call (t::itemsOf a)))=some r→C r):C r:=P_foll h (fun a0 e=>Eq.mpr (congrArg C e) (follE a0)) (fun a0 a1 a2 a3 e=>Eq.mpr (congrArg C e) (follB a0 a1 a2 a3)) foll
@[elab_as_elim] theorem Q_args {C:Res→Prop}  (h:P tk (f+1) (.args p)=some r) (args0:(tk p).wd=.op .rp→C (.ok (.call []) (p+1))) (argsB:∀ q,(tk p).wd≠.op .rp→P tk f (.expr p .par 0)=some (.bad q)→C (.bad q)) (argsE:∀ a q,(tk p).wd≠.op .rp→P tk f (.expr p .par 0)=some (.ok a q)→(tk q).wd≠.op .rp→C (.bad q)) (args:∀ a q,(tk p).wd≠.op .rp→P tk f (.expr p .par 0)=some (.ok a q)→(tk q).wd=.op .rp→C (.ok (.call [a]) (q+1))):C r:=P_args h (fun a0 e=>Eq.mpr (congrArg C e) (args0 a0)) (fun a0 a1 a2 e=>Eq.mpr (congrArg C e) (argsB a0 a1 a2)) (fun a0 a1 a2 a3 a4 e=>Eq.mpr (congrArg C e) (argsE a0 a1 a2 a3 a4)) (fun a0 a1 a2 a3 a4 e=>Eq.mpr (congrArg C e) (args a0 a1 a2 a3 a4))
@[elab_as_elim] theorem Q_fn {C:Res→Prop}  (h:P tk (f+1) (.fn p k)=some r) (fnL:(tk p).wd≠.op .lp→C (.bad p)) (fnI:(tk p).wd=.op .lp→(tk (p+1)).wd≠.op .rp→(∀ s,(tk (p+1)).wd≠.id s)→C (.bad (p+1))) (fnR:∀ s,(tk p).wd=.op .lp→(tk (p+1)).wd=.id s→(tk (p+2)).wd≠.op .rp→C (.bad (p+2))) (fn:∀ names q r2,(tk p).wd=.op .lp→FnNames tk p names q→(tk q).wd=.op .rp→P tk f (.expr (q+1) k 0)=some r2→C ((match r2 with | .ok e q'=>.ok (.fn names e) q' | .bad q'=>.bad q'))):C r:=P_fn h (fun a0 e=>Eq.mpr (congrArg C e) (fnL a0)) (fun a0 a1 a2 e=>Eq.mpr (congrArg C e) (fnI a0 a1 a2)) (fun a0 a1 a2 a3 e=>Eq.mpr (congrArg C e) (fnR a0 a1 a2 a3)) (fun a0 a1 a2 a3 a4 a5 a6 e=>Eq.mpr (congrArg C e) (fn a0 a1 a2 a3 a4 a5 a6))
@[elab_as_elim] theorem Q_block {C:Res→Prop} {ts:List Tree} (h:P tk (f+1) (.block p ts)=some r) (blkE:(tk p).wd=.op .rb→C (.ok (.call (.name "{" :: ts)) (p+1))) (blkS:(tk p).wd=.op .semi→P tk f (.block (p+1) ts)=some r→C r) (blkB:∀ q,(tk p).wd≠.op .rb→(tk p).wd≠.op .semi→P tk f (.expr p .brace 0)=some (.bad q)→C (.bad q)) (blkX:∀ t q,(tk p).wd≠.op .rb→(tk p).wd≠.op .semi→P tk f (.expr p .brace 0)=some (.ok t q)→¬((tk q).nl=true∨(tk q).wd=.op .semi∨(tk q).wd=.op .rb)→C (.bad q)) (blk:∀ t q,(tk p).wd≠.op .rb→(tk p).wd≠.op .semi→P tk f (.expr p .brace 0)=some (.ok t q)→((tk q).nl=true∨(tk q).wd=.op .semi∨(tk q).wd=.op .rb)→P tk f (.block q (ts++[t]))=some r→C r):C r:=P_block h (fun a0 e=>Eq.mpr (congrArg C e) (blkE a0)) blkS (fun a0 a1 a2 a3 e=>Eq.mpr (congrArg C e) (blkB a0 a1 a2 a3)) (fun a0 a1 a2 a3 a4 a5 e=>Eq.mpr (congrArg C e) (blkX a0 a1 a2 a3 a4 a5)) blk
end
end Internal
end
section
namespace Internal
open PySem
noncomputable def Md.pos:Md→Nat | .expr p _ _ | .loop p _ _ _ | .side p _ | .prim p _ | .foll p _ _ | .args p | .cond p _ _ | .fn p _ | .block p _ | .prog p _=>p
noncomputable def Md.lo:Md→Nat | .expr p _ _ | .side p _ | .prim p _ | .args p | .cond p _ _ | .fn p _ | .block p _=>p+1 | .loop p _ _ _ | .foll p _ _ | .prog p _=>p
noncomputable def PlR (n:Nat) (md:Md):Res→Prop
 | .bad q=>md.pos≤q∧q<n
 | .ok _ q=>md.lo≤q∧q<n
theorem PlR.up {n:Nat} {md md':Md} {r:Res} (h:PlR n md r) (hp:md'.pos≤md.pos) (hl:md'.lo≤md.lo):PlR n md' r:=by
 cases r with
 | bad q=>exact ⟨Nat.le_trans hp h.1,h.2⟩
 | ok t q=>exact ⟨Nat.le_trans hl h.1,h.2⟩
theorem P_place {tk:Nat→Tk} {n:Nat} (heof:∀ p,p<n→(tk p).wd≠.eof→p+1<n):∀ f md r,P tk f md=some r→md.pos<n→PlR n md r:=by
 intro f
 induction f with
 | zero=>intro md r h;exact by injection h
 | succ f ih=>
  intro md r h hp
  have nx:∀ {p w},p<n→(tk p).wd=w→w≠.eof→p+1<n:=fun hp e hw=>heof _ hp (by rw [e];exact hw)
  have le1:∀ p:Nat,p≤p+1:=Nat.le_succ
  have ops:∀ {o},Wd.op o≠.eof:=fun e=>by injection e
  have keys:∀ {o},Wd.key o≠.eof:=fun e=>by injection e
  have go:∀ {md1 t q md2 r2},P tk f md1=some (.ok t q)→md1.pos<n→P tk f md2=some r2→md2.pos=q→md.pos≤md1.lo→md.lo≤md2.lo→PlR n md r2:=fun h1 p1 h2 e l1 l2=>by
   obtain ⟨a,b⟩:=ih _ _ h1 p1
   exact (ih _ _ h2 (by rw [e];exact b)).up (by rw [e];exact Nat.le_trans l1 a) l2
  have bd:∀ {md1 q},P tk f md1=some (.bad q)→md1.pos<n→md.pos≤md1.pos→PlR n md (.bad q):=fun h1 p1 l=>by
   have a:=ih _ _ h1 p1
   exact ⟨Nat.le_trans l a.1,a.2⟩
  have sq:∀ {md1 t q},P tk f md1=some (.ok t q)→md1.pos<n→md1.lo≤q∧q<n:=fun h1 p1=>ih _ _ h1 p1
  induction md using Md.casesOn
  case expr p k lv=>
   refine P_expr h ?_ ?_
   ·intro _ h1 ee
    subst ee
    exact bd h1 hp (Nat.le_refl _)
   ·intro _ _ h1 h2
    have a:=sq h1 hp
    exact (ih _ _ h2 a.2).up (Nat.le_of_succ_le a.1) a.1
  case loop p k lv t=>
   refine P_loop h ?_ ?_ ?_
   ·intro h1 ee
    subst ee
    exact ⟨Nat.le_refl _,hp⟩
   ·intro _ _ h0 _ h1 ee
    subst ee
    exact bd h1 (nx hp h0 ops) (le1 _)
   ·intro _ _ _ h0 _ h1 h2
    have a:=sq h1 (nx hp h0 ops)
    have b:=Nat.le_of_succ_le (Nat.le_of_succ_le a.1)
    exact (ih _ _ h2 a.2).up b b
  case side p k=>
   refine P_side h ?_ ?_ ?_ ?_
   ·intro _ h0 h1 ee
    subst ee
    exact bd h1 (nx hp h0 ops) (le1 _)
   ·intro _ _ h0 h1 ee
    subst ee
    have a:=sq h1 (nx hp h0 ops)
    exact ⟨Nat.le_of_succ_le a.1,a.2⟩
   ·intro _ h0 h1 ee
    subst ee
    exact bd h1 hp (Nat.le_refl _)
   ·intro _ _ h0 h1 h2
    have a:=sq h1 hp
    exact (ih _ _ h2 a.2).up (Nat.le_of_succ_le a.1) a.1
  case prim p k=>
   refine P_prim h ?_ ?_ ?_ ?_ ?_ ?_ ?_
   ·intro _ h0 ee
    subst ee
    exact ⟨Nat.le_refl _,nx hp h0 (fun e=>by injection e)⟩
   ·intro _ h0 ee
    subst ee
    exact ⟨Nat.le_refl _,nx hp h0 (fun e=>by injection e)⟩
   ·intro _ h0 h1 ee
    subst ee
    exact bd h1 (nx hp h0 ops) (le1 _)
   ·intro _ _ h0 h1 h2 ee
    subst ee
    have a:=sq h1 (nx hp h0 ops)
    exact ⟨Nat.le_of_succ_le (Nat.le_of_succ_le a.1),a.2⟩
   ·intro _ _ h0 h1 h2 ee
    subst ee
    have a:=sq h1 (nx hp h0 ops)
    exact ⟨Nat.le_succ_of_le (Nat.le_of_succ_le a.1),nx a.2 h2 ops⟩
   ·intro _ h0 h1
    rcases h0 with ⟨h0,rfl⟩ | ⟨h0,rfl⟩ | ⟨h0,rfl⟩ | ⟨h0,rfl⟩
    ·exact (ih _ _ h1 (nx hp h0 ops)).up (le1 _) (le1 _)
    all_goals exact (ih _ _ h1 (nx hp h0 keys)).up (le1 _) (le1 _)
   ·intro _ ee
    subst ee
    exact ⟨Nat.le_refl _,hp⟩
  case foll p k t=>
   refine P_foll h ?_ ?_ ?_
   ·intro _ ee
    subst ee
    exact ⟨Nat.le_refl _,hp⟩
   ·intro _ h0 _ h1 ee
    subst ee
    exact bd h1 (nx hp h0 ops) (le1 _)
   ·intro _ _ h0 _ h1 h2
    have a:=sq h1 (nx hp h0 ops)
    have b:=Nat.le_of_succ_le (Nat.le_of_succ_le a.1)
    exact (ih _ _ h2 a.2).up b b
  case args p=>
   refine P_args h ?_ ?_ ?_ ?_
   ·intro h0 ee
    subst ee
    exact ⟨Nat.le_refl _,nx hp h0 ops⟩
   ·intro _ _ h1 ee
    subst ee
    exact bd h1 hp (Nat.le_refl _)
   ·intro _ _ _ h1 _ ee
    subst ee
    exact ⟨Nat.le_of_succ_le (sq h1 hp).1,(sq h1 hp).2⟩
   ·intro _ _ _ h1 h2 ee
    subst ee
    exact ⟨Nat.le_succ_of_le (sq h1 hp).1,nx (sq h1 hp).2 h2 ops⟩
  case cond p k b=>
   refine P_cond h ?_ ?_ ?_ ?_ ?_ ?_ ?_
   ·intro _ ee
    subst ee
    exact ⟨Nat.le_refl _,hp⟩
   ·intro _ h0 h1 ee
    subst ee
    exact bd h1 (nx hp h0 ops) (le1 _)
   ·intro _ _ h0 h1 _ ee
    subst ee
    have a:=sq h1 (nx hp h0 ops)
    exact ⟨Nat.le_of_succ_le (Nat.le_of_succ_le a.1),a.2⟩
   ·intro _ _ _ h0 h1 h2 h3 ee
    subst ee
    have a:=sq h1 (nx hp h0 ops)
    exact bd h3 (nx a.2 h2 ops) (Nat.le_succ_of_le (Nat.le_of_succ_le (Nat.le_of_succ_le a.1)))
   ·intro _ _ _ _ h0 h1 h2 h3 _ ee
    subst ee
    have a:=sq h1 (nx hp h0 ops)
    have b:=sq h3 (nx a.2 h2 ops)
    exact ⟨Nat.le_trans (Nat.le_of_succ_le a.1) (Nat.le_of_succ_le (Nat.le_of_succ_le b.1)),b.2⟩
   ·intro _ _ _ _ _ h0 h1 h2 h3 hb h4 _ h5 ee
    clear hb
    subst ee
    have a:=sq h1 (nx hp h0 ops)
    have b:=sq h3 (nx a.2 h2 ops)
    exact bd h5 (nx b.2 h4 keys) (Nat.le_succ_of_le (Nat.le_trans (Nat.le_of_succ_le (Nat.le_of_succ_le a.1)) (Nat.le_of_succ_le (Nat.le_of_succ_le b.1))))
   ·intro _ _ _ _ _ _ h0 h1 h2 h3 hb h4 _ h5 ee
    clear hb
    subst ee
    have a:=sq h1 (nx hp h0 ops)
    have b:=sq h3 (nx a.2 h2 ops)
    have c:=sq h5 (nx b.2 h4 keys)
    exact ⟨Nat.le_trans (Nat.le_of_succ_le a.1) (Nat.le_trans (Nat.le_of_succ_le (Nat.le_of_succ_le b.1)) (Nat.le_of_succ_le (Nat.le_of_succ_le c.1))),c.2⟩
  case fn p k=>
   refine P_fn h ?_ ?_ ?_ ?_
   ·intro _ ee
    subst ee
    exact ⟨Nat.le_refl _,hp⟩
   ·intro h0 _ _ ee
    subst ee
    exact ⟨le1 _,nx hp h0 ops⟩
   ·intro _ h0 h1 _ ee
    subst ee
    exact ⟨Nat.le_add_right _ 2,nx (nx hp h0 ops) h1 (fun e=>by injection e)⟩
   ·intro names q r' h0 h1 h2 h3 ee
    subst ee
    have hq:p+1≤q∧q<n:=by
     rcases h1 with ⟨_,rfl⟩ | ⟨s,_,rfl,hs⟩
     ·exact ⟨Nat.le_refl _,nx hp h0 ops⟩
     ·exact ⟨Nat.le_succ _,nx (nx hp h0 ops) hs (fun e=>by injection e)⟩
    have a:=ih _ _ h3 (nx hq.2 h2 ops)
    cases r' with
    | bad q'=>exact ⟨Nat.le_trans (Nat.le_of_succ_le hq.1) (Nat.le_of_succ_le a.1),a.2⟩
    | ok e q'=>exact ⟨Nat.le_trans hq.1 (Nat.le_of_succ_le (Nat.le_of_succ_le a.1)),a.2⟩
  case block p ts=>
   refine P_block h ?_ ?_ ?_ ?_ ?_
   ·intro h0 ee
    subst ee
    exact ⟨Nat.le_refl _,nx hp h0 ops⟩
   ·intro h0 h1
    exact (ih _ _ h1 (nx hp h0 ops)).up (le1 _) (le1 _)
   ·intro _ _ _ h1 ee
    subst ee
    exact bd h1 hp (Nat.le_refl _)
   ·intro _ _ _ _ h1 _ ee
    subst ee
    exact ⟨Nat.le_of_succ_le (sq h1 hp).1,(sq h1 hp).2⟩
   ·intro _ _ _ _ h1 _ h2
    exact (ih _ _ h2 (sq h1 hp).2).up (Nat.le_of_succ_le (sq h1 hp).1) (Nat.le_succ_of_le (sq h1 hp).1)
  case prog p ts=>
   refine P_prog h ?_ ?_ ?_ ?_ ?_
   ·intro _ ee
    subst ee
    exact ⟨Nat.le_refl _,hp⟩
   ·intro _ _ h1 ee
    subst ee
    exact bd h1 hp (Nat.le_refl _)
   ·intro _ _ _ h1 _ _ ee
    subst ee
    exact ⟨Nat.le_of_succ_le (sq h1 hp).1,(sq h1 hp).2⟩
   ·intro _ _ _ h1 h2 h3
    have a:=sq h1 hp
    have b:=Nat.le_succ_of_le (Nat.le_of_succ_le a.1)
    exact (ih _ _ h3 (nx a.2 h2 ops)).up b b
   ·intro _ _ _ h1 _ _ h2
    have a:=sq h1 hp
    have b:=Nat.le_of_succ_le a.1
    exact (ih _ _ h2 a.2).up b b
end Internal
end
section
namespace Internal
open PySem
structure Sn where
 homes:List Ctx
 heads:List Bool
 can:Bool
 last:Bool
noncomputable def canOf:Wd→Bool | .id _=>true | .num _=>true | .op .rp=>true | .op .rb=>true | _=>false
noncomputable def lastOf:Wd→Bool | .key .kif=>true | .key .kwhile=>true | .key .kfun=>true | _=>false
noncomputable def stepS (s:Sn) (w:Wd):Sn:=match w with
 | .op .lp=>⟨.par::s.homes,s.last::s.heads,false,false⟩
 | .op .lb=>⟨.brace::s.homes,s.last::s.heads,false,false⟩
 | .op .rp=>if s.homes.length>1 then ⟨s.homes.tail,s.heads.tail,!(s.heads.headD false),false⟩ else ⟨s.homes,s.heads,true,false⟩
 | .op .rb=>if s.homes.length>1 then ⟨s.homes.tail,s.heads.tail,!(s.heads.headD false),false⟩ else ⟨s.homes,s.heads,true,false⟩
 | w=>⟨s.homes,s.heads,canOf w,lastOf w⟩
noncomputable def scan (tk:Nat→Tk):Nat→Sn
 | 0=>⟨[.top],[false],false,false⟩
 | p+1=>stepS (scan tk p) (tk p).wd
noncomputable def markOf (s:Sn) (t:Tk):Bool:=t.nl&&s.can&&(s.homes.head?==some .top||s.homes.head?==some .brace)&&!(t.wd==.key .kelse&&s.homes.head?==some .brace)
structure SAt (tk:Nat→Tk) (p:Nat) (k:Ctx) (hs:List Ctx) (ds:List Bool):Prop where
 homes:(scan tk p).homes=k::hs
 heads:(scan tk p).heads=ds
 len:ds.length=hs.length+1
 last:(scan tk p).last=false
structure SEnd (tk:Nat→Tk) (p:Nat) (k:Ctx) (hs:List Ctx) (ds:List Bool):Prop extends SAt tk p k hs ds where
 can:(scan tk p).can=true
structure SHd (tk:Nat→Tk) (p:Nat) (k:Ctx) (hs:List Ctx) (ds:List Bool):Prop where
 homes:(scan tk p).homes=k::hs
 heads:(scan tk p).heads=ds
 len:ds.length=hs.length+1
 last:(scan tk p).last=true
variable {tk:Nat→Tk} {p q:Nat} {k:Ctx} {hs:List Ctx} {ds:List Bool}
theorem scan_s:scan tk (p+1)=stepS (scan tk p) (tk p).wd:=rfl
theorem st_lp {s:Sn}:stepS s (.op .lp)=⟨.par::s.homes,s.last::s.heads,false,false⟩:=rfl
theorem st_lb {s:Sn}:stepS s (.op .lb)=⟨.brace::s.homes,s.last::s.heads,false,false⟩:=rfl
theorem st_rp {s:Sn}:stepS s (.op .rp)=if s.homes.length>1 then ⟨s.homes.tail,s.heads.tail,!(s.heads.headD false),false⟩ else ⟨s.homes,s.heads,true,false⟩:=rfl
theorem st_rb {s:Sn}:stepS s (.op .rb)=if s.homes.length>1 then ⟨s.homes.tail,s.heads.tail,!(s.heads.headD false),false⟩ else ⟨s.homes,s.heads,true,false⟩:=rfl
theorem st_id {s:Sn} {x:Str}:stepS s (.id x)=⟨s.homes,s.heads,true,false⟩:=rfl
theorem st_num {s:Sn} {x:_}:stepS s (.num x)=⟨s.homes,s.heads,true,false⟩:=rfl
theorem st_kif {s:Sn}:stepS s (.key .kif)=⟨s.homes,s.heads,false,true⟩:=rfl
theorem st_kwhile {s:Sn}:stepS s (.key .kwhile)=⟨s.homes,s.heads,false,true⟩:=rfl
theorem st_kfun {s:Sn}:stepS s (.key .kfun)=⟨s.homes,s.heads,false,true⟩:=rfl
theorem st_kelse {s:Sn}:stepS s (.key .kelse)=⟨s.homes,s.heads,false,false⟩:=rfl
theorem st_plus {s:Sn}:stepS s (.op .plus)=⟨s.homes,s.heads,false,false⟩:=rfl
theorem st_star {s:Sn}:stepS s (.op .star)=⟨s.homes,s.heads,false,false⟩:=rfl
theorem st_semi {s:Sn}:stepS s (.op .semi)=⟨s.homes,s.heads,false,false⟩:=rfl
theorem SAt.lp (h:SAt tk p k hs ds) (e:(tk p).wd=.op .lp):SAt tk (p+1) .par (k::hs) (false::ds):=by
 obtain ⟨h1,h2,h3,h4⟩:=h
 constructor<;>simp [scan_s,e,st_lp,h1,h2,h3,h4]
theorem SAt.lb (h:SAt tk p k hs ds) (e:(tk p).wd=.op .lb):SAt tk (p+1) .brace (k::hs) (false::ds):=by
 obtain ⟨h1,h2,h3,h4⟩:=h
 constructor<;>simp [scan_s,e,st_lb,h1,h2,h3,h4]
theorem SHd.lp (h:SHd tk p k hs ds) (e:(tk p).wd=.op .lp):SAt tk (p+1) .par (k::hs) (true::ds):=by
 obtain ⟨h1,h2,h3,h4⟩:=h
 constructor<;>simp [scan_s,e,st_lp,h1,h2,h3,h4]
theorem SAt.close {k':Ctx} (h:SAt tk p k' (k::hs) (false::ds)) (e:(tk p).wd=.op .rp∨(tk p).wd=.op .rb):SEnd tk (p+1) k hs ds:=by
 obtain ⟨h1,h2,h3,h4⟩:=h
 rcases e with e | e
 ·refine ⟨⟨?_,?_,?_,?_⟩,?_⟩<;>first | (simp [scan_s,e,st_rp,st_rb,h1,h2];done) | simpa using h3
 ·refine ⟨⟨?_,?_,?_,?_⟩,?_⟩<;>first | (simp [scan_s,e,st_rp,st_rb,h1,h2];done) | simpa using h3
theorem SAt.closeH {k':Ctx} (h:SAt tk p k' (k::hs) (true::ds)) (e:(tk p).wd=.op .rp):SAt tk (p+1) k hs ds:=by
 obtain ⟨h1,h2,h3,h4⟩:=h
 refine ⟨?_,?_,?_,?_⟩<;>first | (simp [scan_s,e,st_rp,h1,h2];done) | simpa using h3
theorem SAt.hd (h:SAt tk p k hs ds) (e:(tk p).wd=.key .kif∨(tk p).wd=.key .kwhile∨(tk p).wd=.key .kfun):SHd tk (p+1) k hs ds:=by
 obtain ⟨h1,h2,h3,h4⟩:=h
 rcases e with e | e | e<;>constructor<;>simp [scan_s,e,st_kif,st_kwhile,st_kfun,h1,h2,h3]
theorem SAt.leaf (h:SAt tk p k hs ds) (e:(∃ s,(tk p).wd=.id s)∨∃ m,(tk p).wd=.num m):SEnd tk (p+1) k hs ds:=by
 obtain ⟨h1,h2,h3,h4⟩:=h
 rcases e with ⟨s,e⟩ | ⟨s,e⟩
 ·refine ⟨⟨?_,?_,?_,?_⟩,?_⟩<;>simp [scan_s,e,st_id,st_num,h1,h2,h3]
 ·refine ⟨⟨?_,?_,?_,?_⟩,?_⟩<;>simp [scan_s,e,st_id,st_num,h1,h2,h3]
theorem SAt.step (h:SAt tk p k hs ds) (e:(tk p).wd=.op .plus∨(tk p).wd=.op .star∨(tk p).wd=.op .semi∨(tk p).wd=.key .kelse∨∃ s,(tk p).wd=.id s):SAt tk (p+1) k hs ds:=by
 obtain ⟨h1,h2,h3,h4⟩:=h
 rcases e with e | e | e | e | ⟨s,e⟩<;>constructor<;>simp [scan_s,e,st_plus,st_star,st_semi,st_kelse,st_id,h1,h2,h3]
noncomputable def ScanPre (tk:Nat→Tk) (k:Ctx) (hs:List Ctx) (ds:List Bool):Md→Prop
 | .expr p k' _=>k'=k∧SAt tk p k hs ds
 | .loop p k' _ _=>k'=k∧SEnd tk p k hs ds
 | .side p k'=>k'=k∧SAt tk p k hs ds
 | .prim p k'=>k'=k∧SAt tk p k hs ds
 | .foll p k' _=>k'=k∧SEnd tk p k hs ds
 | .args p=>SAt tk p .par (k::hs) (false::ds)
 | .cond p k' _=>k'=k∧SHd tk p k hs ds
 | .fn p k'=>k'=k∧SHd tk p k hs ds
 | .block p _=>SAt tk p .brace (k::hs) (false::ds)
 | .prog _ _=>False
noncomputable abbrev ScX (tk:Nat→Tk) (f:Nat):Prop:=∀ {md t q},P tk f md=some (.ok t q)→∀ {k hs ds},ScanPre tk k hs ds md→SEnd tk q k hs ds
noncomputable abbrev ScG (tk:Nat→Tk) (f:Nat) (md:Md):Prop:=∀ r,P tk f md=some r→∀ t q,r=.ok t q→∀ k hs ds,ScanPre tk k hs ds md→SEnd tk q k hs ds
section
variable {f:Nat} {k0:Ctx}
theorem sc_expr {lv:Nat} (X:ScX tk f):ScG tk (f+1) (.expr p k0 lv):=fun r h t q hr k hs ds pre=>
 P_expr h (fun _ _ e=>badE e hr) fun _ _ h1 h2=>X (okE h2 hr) ⟨pre.1,X h1 pre⟩
theorem sc_loop {lv:Nat} {t0:Tree} (X:ScX tk f):ScG tk (f+1) (.loop p k0 lv t0):=fun r h t q hr k hs ds pre=>
 P_loop h (fun _ e=>by cases e.symm.trans hr;exact pre.2) (fun _ _ _ _ _ e=>badE e hr) fun o _ _ h0 h1 h2 h3=>by
  have:o=.plus∨o=.star:=by cases o<;>simp [goes] at h1 ⊢
  have s:SAt tk _ _ hs ds:=pre.2.toSAt.step (by rcases this with rfl | rfl;exact .inl h0;exact .inr (.inl h0))
  exact X (okE h3 hr) ⟨pre.1,X h2 ⟨pre.1,s⟩⟩
theorem sc_side (X:ScX tk f):ScG tk (f+1) (.side p k0):=fun r h t q hr k hs ds pre=>
 P_side h (fun _ _ _ e=>badE e hr) (fun _ _ h0 h1 e=>by cases e.symm.trans hr;exact X h1 ⟨pre.1,pre.2.step (.inl h0)⟩) (fun _ _ _ e=>badE e hr) fun _ _ h0 h1 h2=>X (okE h2 hr) ⟨pre.1,X h1 pre⟩
theorem sc_prim (X:ScX tk f):ScG tk (f+1) (.prim p k0):=fun r h t q hr k hs ds pre=>
 P_prim h (fun _ h0 e=>by cases e.symm.trans hr;exact pre.2.leaf (.inr ⟨_,h0⟩)) (fun _ h0 e=>by cases e.symm.trans hr;exact pre.2.leaf (.inl ⟨_,h0⟩)) (fun _ _ _ e=>badE e hr) (fun _ _ _ _ _ e=>badE e hr)
  (fun _ _ h0 h1 h2 e=>by cases e.symm.trans hr;exact (X h1 (k:=.par) ⟨rfl,pre.2.lp h0⟩).toSAt.close (.inl h2))
  (fun _ h0 h1=>by
   rw [hr] at h1
   rcases h0 with ⟨h0,rfl⟩ | ⟨h0,rfl⟩ | ⟨h0,rfl⟩ | ⟨h0,rfl⟩
   ·exact X h1 (pre.2.lb h0)
   ·exact X h1 ⟨pre.1,pre.2.hd (.inl h0)⟩
   ·exact X h1 ⟨pre.1,pre.2.hd (.inr (.inl h0))⟩
   ·exact X h1 ⟨pre.1,pre.2.hd (.inr (.inr h0))⟩) fun _ e=>badE e hr
theorem sc_foll {t0:Tree} (X:ScX tk f):ScG tk (f+1) (.foll p k0 t0):=fun r h t q hr k hs ds pre=>
 P_foll h (fun _ e=>by cases e.symm.trans hr;exact pre.2) (fun _ _ _ _ e=>badE e hr) fun _ _ h0 h1 h2 h3=>X (okE h3 hr) ⟨pre.1,X h2 (pre.2.toSAt.lp h0)⟩
theorem sc_args (X:ScX tk f):ScG tk (f+1) (.args p):=fun r h t q hr k hs ds pre=>
 P_args h (fun h0 e=>by cases e.symm.trans hr;exact SAt.close pre (.inl h0)) (fun _ _ _ e=>badE e hr) (fun _ _ _ _ _ e=>badE e hr) fun _ _ h0 h1 h2 e=>by cases e.symm.trans hr;exact (X h1 (k:=.par) ⟨rfl,pre⟩).toSAt.close (.inl h2)
theorem sc_cond {b:Bool} (X:ScX tk f):ScG tk (f+1) (.cond p k0 b):=fun r h t q hr k hs ds pre=>
 P_cond h (fun _ e=>badE e hr) (fun _ _ _ e=>badE e hr) (fun _ _ _ _ _ e=>badE e hr) (fun _ _ _ _ _ _ _ e=>badE e hr)
  (fun _ _ _ _ h0 h1 h2 h3 h4 e=>by cases e.symm.trans hr;exact X h3 ⟨pre.1,(X h1 (k:=.par) ⟨rfl,pre.2.lp h0⟩).toSAt.closeH h2⟩) (fun _ _ _ _ _ _ _ _ _ _ _ _ _ e=>badE e hr)
  fun _ _ _ _ _ _ h0 h1 h2 h3 _ h4 h5 h6 e=>by cases e.symm.trans hr;exact X h6 ⟨pre.1,(X h3 ⟨pre.1,(X h1 (k:=.par) ⟨rfl,pre.2.lp h0⟩).toSAt.closeH h2⟩).toSAt.step (.inr (.inr (.inr (.inl h4))))⟩
theorem sc_fn (X:ScX tk f):ScG tk (f+1) (.fn p k0):=fun r h t q hr k hs ds pre=>
 P_fn h (fun _ e=>badE e hr) (fun _ _ _ e=>badE e hr) (fun _ _ _ _ e=>badE e hr) fun _ _ r' h0 h1 h2 h3 e=>by
  have hr':=e.symm.trans hr
  cases r' with
  | bad q'=>exact by injection hr'
  | ok e q'=>
   cases hr'
   have a1:=pre.2.lp h0
   rcases h1 with ⟨rfl,rfl⟩ | ⟨s,rfl,rfl,h1⟩
   ·exact X h3 ⟨pre.1,a1.closeH h2⟩
   ·exact X h3 ⟨pre.1,(a1.step (.inr (.inr (.inr (.inr ⟨s,h1⟩))))).closeH h2⟩
theorem sc_block {ts:List Tree} (X:ScX tk f):ScG tk (f+1) (.block p ts):=fun r h t q hr k hs ds pre=>
 P_block h (fun h0 e=>by cases e.symm.trans hr;exact SAt.close pre (.inr h0)) (fun h0 h1=>X (okE h1 hr) (SAt.step pre (.inr (.inr (.inl h0))))) (fun _ _ _ _ e=>badE e hr) (fun _ _ _ _ _ _ e=>badE e hr)
  fun _ _ h0 h1 h2 h3 h4=>X (okE h4 hr) (X h2 (k:=.brace) ⟨rfl,pre⟩).toSAt
end
theorem P_scan:∀ f md r,P tk f md=some r→∀ t q,r=.ok t q→∀ k hs ds,ScanPre tk k hs ds md→SEnd tk q k hs ds:=by
 intro f
 induction f with
 | zero=>intro md r h;exact by injection h
 | succ f ih=>
  intro md
  have X:ScX tk f:=fun h _ _ _ pre=>ih _ _ h _ _ rfl _ _ _ pre
  induction md using Md.casesOn
  case expr=>exact sc_expr X
  case loop=>exact sc_loop X
  case side=>exact sc_side X
  case prim=>exact sc_prim X
  case foll=>exact sc_foll X
  case args=>exact sc_args X
  case cond=>exact sc_cond X
  case fn=>exact sc_fn X
  case block=>exact sc_block X
  case prog=>exact fun _ _ _ _ _ _ _ _ pre=>pre.elim
theorem mark_end (h:SEnd tk p k hs ds):markOf (scan tk p) (tk p)=((tk p).nl&&(k==.top||k==.brace)&&!((tk p).wd==.key .kelse&&k==.brace)):=by
 unfold markOf
 rw [h.homes,h.can]
 cases k<;>simp<;>decide
theorem mark_op (h:SEnd tk p k hs ds) {o:Opr} (e:(tk p).wd=.op o):markOf (scan tk p) (tk p)=!joins (tk p) k:=by
 rw [mark_end h,e]
 unfold joins
 generalize (tk p).nl=b
 cases k<;>cases b<;>rfl
theorem mark_else (h:SEnd tk p k hs ds) (e:(tk p).wd=.key .kelse):markOf (scan tk p) (tk p)=((tk p).nl&&k==.top):=by
 rw [mark_end h,e]
 generalize (tk p).nl=b
 cases k<;>cases b<;>rfl
end Internal
end
section
namespace Internal
open PySem
variable {tk:Nat→Tk} {p q:Nat} {k:Ctx} {hs:List Ctx} {ds:List Bool}
theorem seq_some {r:Option Res} {k:Tree→Nat→Option Res} {x:Res} (h:seq r k=some x):(∃ t q,r=some (.ok t q)∧k t q=some x)∨(∃ q,r=some (.bad q)∧x=.bad q):=by
 rcases r with _ | r
 ·exact by injection h
 induction r using Res.casesOn
 case ok t p=>exact .inl ⟨t,p,rfl,h⟩
 case bad q=>exact .inr ⟨q,rfl,(Option.some.inj h).symm⟩
noncomputable abbrev Ole (a b:Option Res):Prop:=∀ x,a=some x→b=some x
theorem Ole.rfl {a:Option Res}:Ole a a:=fun _ h=>h
theorem Ole.seq {r r':Option Res} {k k':Tree→Nat→Option Res} (h:Ole r r') (hk:∀ t q,Ole (k t q) (k' t q)):Ole (seq r k) (seq r' k'):=by
 intro x e
 rcases seq_some e with ⟨t,q,h1,h2⟩ | ⟨q,h1,rfl⟩
 ·rw [h _ h1];exact hk _ _ _ h2
 ·rw [h _ h1];exact Eq.refl _
theorem Ole.ite {c:Prop} [Decidable c] {a a' b b':Option Res} (ha:Ole a a') (hb:Ole b b'):Ole (if c then a else b) (if c then a' else b'):=by
 by_cases hc:c
 ·rw [if_pos hc,if_pos hc];exact ha
 ·rw [if_neg hc,if_neg hc];exact hb
theorem PS_le {P P':Md→Option Res} (h:∀ md,Ole (P md) (P' md)):∀ md,Ole (PStep tk P md) (PStep tk P' md):=by
 intro md
 induction md using Md.casesOn with
 | expr p k lv=>exact .seq (h _) fun t q=>h _
 | loop p k lv t=>
  dsimp only [PStep]
  induction opOf (tk p).wd using Option.casesOn with
  | some o=>exact .ite (.seq (h _) fun t q=>h _) .rfl
  | none=>exact .rfl
 | side p k=>exact .ite (.seq (h _) fun t q=>.rfl) (.seq (h _) fun t q=>h _)
 | prim p k=>
  dsimp only [PStep]
  induction (tk p).wd using Wd.casesOn with
  | op o=>
   induction o using Opr.casesOn with
   | lp=>exact .seq (h _) fun t q=>.rfl
   | lb=>exact h _
   | _=>exact .rfl
  | key o=>
   induction o using Key.casesOn with
   | kelse=>exact .rfl
   | _=>exact h _
  | _=>exact .rfl
 | foll p k t=>exact .ite (.seq (h _) fun t q=>h _) .rfl
 | args p=>exact .ite .rfl (.seq (h _) fun t q=>.rfl)
 | cond p k b=>exact .ite (.seq (h _) fun t q=>.ite (.seq (h _) fun t q=>.ite (.seq (h _) fun t q=>.rfl) .rfl) .rfl) .rfl
 | fn p k=>
  refine .ite (.ite (.seq (h _) fun t q=>.rfl) ?_) .rfl
  induction idOf (tk (p+1)).wd using Option.casesOn with
  | some o=>exact .ite (.seq (h _) fun t q=>.rfl) .rfl
  | none=>exact .rfl
 | block p ts=>exact .ite .rfl (.ite (h _) (.seq (h _) fun t q=>.ite (h _) .rfl))
 | prog p ts=>exact .ite .rfl (.seq (h _) fun t q=>.ite (h _) (.ite (h _) .rfl))
theorem P_mono1:∀ f md,Ole (P tk f md) (P tk (f+1) md):=by
 intro f
 induction f with
 | zero=>intro md x h;exact by injection h
 | succ f ih=>exact PS_le ih
theorem P_mono {f g:Nat} (hg:f≤g) {md:Md} {x:Res} (h:P tk f md=some x):P tk g md=some x:=by
 induction hg with
 | refl=>exact h
 | step _ ih=>exact P_mono1 _ _ _ ih
theorem seq_total {md:Md} {k:Tree→Nat→Nat→Option Res} (h:∃ f x,P tk f md=some x) (hk:∀ f t q,P tk f md=some (.ok t q)→∃ g x,∀ g',g≤g'→k t q g'=some x) :
  ∃ g x,∀ g',g≤g'→seq (P tk g' md) (fun t q=>k t q g')=some x:=by
 obtain ⟨f,x,h⟩:=h
 cases x with
 | bad q=>exact ⟨f,_,fun g' hg=>by rw [P_mono hg h];rfl⟩
 | ok t q=>
  obtain ⟨g,x,hx⟩:=hk f t q h
  exact ⟨max f g,x,fun g' hg=>by rw [P_mono (by lia) h];exact hx _ (by lia)⟩
theorem total_of {md:Md} (h:∃ f x,P tk f md=some x):∃ g x,∀ g',g≤g'→P tk g' md=some x:=by
 obtain ⟨f,x,h⟩:=h;exact ⟨f,x,fun g' hg=>P_mono hg h⟩
variable {tk:Nat→Tk}
noncomputable abbrev Tot (tk:Nat→Tk) (md:Md):Prop:=∃ f x,P tk f md=some x
theorem Tot.of {md:Md} {K:Nat→Option Res} (hK:∀ g,P tk (g+1) md=K g) (h:∃ g x,∀ g',g≤g'→K g'=some x):Tot tk md:=by
 obtain ⟨g,x,h⟩:=h
 exact ⟨g+1,x,by rw [hK];exact h g (Nat.le_refl _)⟩
theorem triv {x:Res}:∃ (g:Nat) (x':Res),∀ g',g≤g'→(some x:Option Res)=some x':=⟨0,x,fun _ _=>rfl⟩
theorem P_tot {n:Nat} (heof:∀ p,p<n→(tk p).wd≠.eof→p+1<n):∀ d p,n≤p+d→∀ md,md.pos=p→p<n→Tot tk md:=by
 intro d
 induction d with
 | zero=>intro p hd md _ hp;exact absurd hp (Nat.not_lt.mpr hd)
 | succ d ih=>
  intro p hd
  have big:∀ md,p<md.pos→md.pos<n→Tot tk md:=fun md h1 h2=>ih md.pos (Nat.le_trans hd (by rw [← Nat.add_assoc,Nat.add_right_comm];exact Nat.add_le_add_right h1 d)) md rfl h2
  have nx:∀ {p w},p<n→(tk p).wd=w→w≠.eof→p+1<n:=fun hp e hw=>heof _ hp (by rw [e];exact hw)
  have pl:=fun f md t q (h:P tk f md=some (.ok t q)) hp=>P_place heof f md _ h hp
  have ops:∀ {o},Wd.op o≠.eof:=fun e=>by injection e
  have keys:∀ {o},Wd.key o≠.eof:=fun e=>by injection e
  have ls:=@Nat.le_of_succ_le
  have l1:=Nat.lt_succ_self p
  intro md0 hmd0 hp
  have prim:∀ k,Tot tk (.prim p k):=fun k=>by
   cases hw:(tk p).wd with
   | num m=>exact .of (fun g=>congrArg (primS tk (P tk g) p k) hw) triv
   | id s=>exact .of (fun g=>congrArg (primS tk (P tk g) p k) hw) triv
   | eof=>exact .of (fun g=>congrArg (primS tk (P tk g) p k) hw) triv
   | op o=>
    have hp1:=nx hp hw ops
    cases o with
    | lp=>
     refine .of (fun g=>congrArg (primS tk (P tk g) p k) hw) (seq_total (md:=.expr (p+1) .par 0) (k:=fun t q g=>if (tk q).wd=.op .rp then some (.ok (.call [.name "(",t]) (q+1)) else some (.bad q)) (big _ l1 hp1) fun f t q h=>?_)
     by_cases hc:(tk q).wd=.op .rp
     ·simp only [if_pos hc];exact triv
     ·simp only [if_neg hc];exact triv
    | lb=>exact .of (fun g=>congrArg (primS tk (P tk g) p k) hw) (total_of (big (.block (p+1) []) l1 hp1))
    | _=>exact .of (fun g=>congrArg (primS tk (P tk g) p k) hw) triv
   | key o=>
    have hp1:=nx hp hw keys
    cases o with
    | kif=>exact .of (fun g=>congrArg (primS tk (P tk g) p k) hw) (total_of (big (.cond (p+1) k true) l1 hp1))
    | kwhile=>exact .of (fun g=>congrArg (primS tk (P tk g) p k) hw) (total_of (big (.cond (p+1) k false) l1 hp1))
    | kfun=>exact .of (fun g=>congrArg (primS tk (P tk g) p k) hw) (total_of (big (.fn (p+1) k) l1 hp1))
    | kelse=>exact .of (fun g=>congrArg (primS tk (P tk g) p k) hw) triv
  have side:∀ k,Tot tk (.side p k):=fun k=>by
   by_cases hc:(tk p).wd=.op .plus
   ·exact .of (fun g=>if_pos hc) (seq_total (md:=.side (p+1) k) (k:=fun t q g=>some (.ok (.call [.name "+",t]) q)) (big _ l1 (nx hp hc ops)) fun f t q h=>triv)
   ·refine .of (fun g=>if_neg hc) (seq_total (md:=.prim p k) (k:=fun t q g=>P tk g (.foll q k t)) (prim k) fun f t q h=>?_)
    have a:=pl _ _ _ _ h hp
    exact total_of (big (.foll q k t) a.1 a.2)
  have expr:∀ k lv,Tot tk (.expr p k lv):=fun k lv=>by
   refine .of (fun g=>rfl) (seq_total (md:=.side p k) (k:=fun t q g=>P tk g (.loop q k lv t)) (side k) fun f t q h=>?_)
   have a:=pl _ _ _ _ h hp
   exact total_of (big (.loop q k lv t) a.1 a.2)
  cases md0 with
  | expr p' k lv=>obtain rfl:p'=p:=hmd0;exact expr k lv
  | side p' k=>obtain rfl:p'=p:=hmd0;exact side k
  | prim p' k=>obtain rfl:p'=p:=hmd0;exact prim k
  | loop p' k lv t=>
   obtain rfl:p'=p:=hmd0
   cases ho:(tk p').wd with
   | op o=>
    by_cases hg:(joins (tk p') k&&goes o lv)=true
    ·have hp1:=nx hp ho ops
     refine .of (fun g=>(congrArg (fun w:Wd=>match opOf w with | some o=>if (joins (tk p') k&&goes o lv)=true then seq (P tk g (.expr (p'+1) k (lvOf o))) fun r q=>P tk g (.loop q k lv (.call [.name o.s,t,r])) else some (.ok t p') | none=>some (.ok t p')) ho).trans (if_pos hg)) (seq_total (md:=.expr (p'+1) k (lvOf o)) (k:=fun r q g=>P tk g (.loop q k lv (.call [.name o.s,t,r]))) (big _ l1 hp1) fun f u q h=>?_)
     have a:=pl _ _ _ _ h hp1
     exact total_of (big (.loop q k lv _) (ls a.1) a.2)
    ·exact .of (fun g=>(congrArg (fun w:Wd=>match opOf w with | some o=>if (joins (tk p') k&&goes o lv)=true then seq (P tk g (.expr (p'+1) k (lvOf o))) fun r q=>P tk g (.loop q k lv (.call [.name o.s,t,r])) else some (.ok t p') | none=>some (.ok t p')) ho).trans (if_neg hg)) triv
   | _=>exact .of (fun g=>congrArg (fun w:Wd=>match opOf w with | some o=>if (joins (tk p') k&&goes o lv)=true then seq (P tk g (.expr (p'+1) k (lvOf o))) fun r q=>P tk g (.loop q k lv (.call [.name o.s,t,r])) else some (.ok t p') | none=>some (.ok t p')) ho) triv
  | foll p' k t=>
   obtain rfl:p'=p:=hmd0
   by_cases hc:(tk p').wd=.op .lp∧joins (tk p') k=true
   ·have hp1:=nx hp hc.1 ops
    refine .of (fun g=>if_pos hc) (seq_total (md:=.args (p'+1)) (k:=fun a q g=>P tk g (.foll q k (.call (t::itemsOf a)))) (big _ l1 hp1) fun f u q h=>?_)
    have a:=pl _ _ _ _ h hp1
    exact total_of (big (.foll q k _) (ls a.1) a.2)
   ·exact .of (fun g=>if_neg hc) triv
  | args p'=>
   obtain rfl:p'=p:=hmd0
   by_cases hc:(tk p').wd=.op .rp
   ·exact .of (fun g=>if_pos hc) triv
   ·refine .of (fun g=>if_neg hc) (seq_total (md:=.expr p' .par 0) (k:=fun a q g=>if (tk q).wd=.op .rp then some (.ok (.call [a]) (q+1)) else some (.bad q)) (expr _ _) fun f t q h=>?_)
    by_cases hc:(tk q).wd=.op .rp
    ·simp only [if_pos hc];exact triv
    ·simp only [if_neg hc];exact triv
  | cond p' k b=>
   obtain rfl:p'=p:=hmd0
   by_cases hc:(tk p').wd=.op .lp
   ·have hp1:=nx hp hc ops
    refine .of (fun g=>if_pos hc) (seq_total (md:=.expr (p'+1) .par 0) (k:=fun a q g=>if (tk q).wd=.op .rp then
     seq (P tk g (.expr (q+1) k 0)) fun e q2=>if b=true∧(tk q2).wd=.key .kelse∧((tk q2).nl=false∨k≠.top) then
      seq (P tk g (.expr (q2+1) k 0)) fun e2 q3=>some (.ok (.call [.name "if",a,e,e2]) q3)
      else some (.ok (.call [.name (if b then "if" else "while"),a,e]) q2)
     else some (.bad q)) (big _ l1 hp1) fun f a q h=>?_)
    have z:=pl _ _ _ _ h hp1
    have pq:p'<q:=ls z.1
    by_cases h1:(tk q).wd=.op .rp
    ·have hq1:=nx z.2 h1 ops
     simp only [if_pos h1]
     refine seq_total (md:=.expr (q+1) k 0) (k:=fun e q2 g=>if b=true∧(tk q2).wd=.key .kelse∧((tk q2).nl=false∨k≠.top) then
      seq (P tk g (.expr (q2+1) k 0)) fun e2 q3=>some (.ok (.call [.name "if",a,e,e2]) q3)
      else some (.ok (.call [.name (if b then "if" else "while"),a,e]) q2)) (big _ (Nat.lt_succ_of_lt pq) hq1) fun f e q2 h=>?_
     have z2:=pl _ _ _ _ h hq1
     by_cases h2:b=true∧(tk q2).wd=.key .kelse∧((tk q2).nl=false∨k≠.top)
     ·simp only [if_pos h2]
      exact seq_total (md:=.expr (q2+1) k 0) (k:=fun e2 q3 g=>some (.ok (.call [.name "if",a,e,e2]) q3)) (big _ (Nat.lt_succ_of_lt (Nat.lt_of_lt_of_le pq (ls (ls z2.1)))) (nx z2.2 h2.2.1 keys)) fun f e2 q3 h=>triv
     ·simp only [if_neg h2];exact triv
    ·simp only [if_neg h1];exact triv
   ·exact .of (fun g=>if_neg hc) triv
  | fn p' k=>
   obtain rfl:p'=p:=hmd0
   by_cases hc:(tk p').wd=.op .lp
   ·have hp1:=nx hp hc ops
    by_cases h1:(tk (p'+1)).wd=.op .rp
    ·exact .of (fun g=>(if_pos hc).trans (if_pos h1)) (seq_total (md:=.expr (p'+2) k 0) (k:=fun e q g=>some (.ok (.fn [] e) q)) (big _ (Nat.lt_succ_of_lt l1) (nx hp1 h1 ops)) fun f e q h=>triv)
    ·cases hw:(tk (p'+1)).wd with
     | id s=>
      have hp2:=nx hp1 hw (fun e=>by injection e)
      by_cases h2:(tk (p'+2)).wd=.op .rp
      ·exact .of (fun g=>(if_pos hc).trans ((if_neg h1).trans ((congrArg (fun w:Wd=>match idOf w with | some s=>if (tk (p'+2)).wd=Wd.op Opr.rp then seq (P tk g (Md.expr (p'+3) k 0)) fun e q=>some (Res.ok (Tree.fn [s] e) q) else some (Res.bad (p'+2)) | none=>some (Res.bad (p'+1))) hw).trans (if_pos h2)))) (seq_total (md:=.expr (p'+3) k 0) (k:=fun e q g=>some (.ok (.fn [s] e) q)) (big _ (Nat.lt_succ_of_lt (Nat.lt_succ_of_lt l1)) (nx hp2 h2 ops)) fun f e q h=>triv)
      ·exact .of (fun g=>(if_pos hc).trans ((if_neg h1).trans ((congrArg (fun w:Wd=>match idOf w with | some s=>if (tk (p'+2)).wd=Wd.op Opr.rp then seq (P tk g (Md.expr (p'+3) k 0)) fun e q=>some (Res.ok (Tree.fn [s] e) q) else some (Res.bad (p'+2)) | none=>some (Res.bad (p'+1))) hw).trans (if_neg h2)))) triv
     | _=>exact .of (fun g=>(if_pos hc).trans ((if_neg h1).trans (congrArg (fun w:Wd=>match idOf w with | some s=>if (tk (p'+2)).wd=Wd.op Opr.rp then seq (P tk g (Md.expr (p'+3) k 0)) fun e q=>some (Res.ok (Tree.fn [s] e) q) else some (Res.bad (p'+2)) | none=>some (Res.bad (p'+1))) hw))) triv
   ·exact .of (fun g=>if_neg hc) triv
  | block p' ts=>
   obtain rfl:p'=p:=hmd0
   by_cases hc:(tk p').wd=.op .rb
   ·exact .of (fun g=>if_pos hc) triv
   ·by_cases h1:(tk p').wd=.op .semi
    ·exact .of (fun g=>(if_neg hc).trans (if_pos h1)) (total_of (big (.block (p'+1) ts) l1 (nx hp h1 ops)))
    ·refine .of (fun g=>(if_neg hc).trans (if_neg h1)) (seq_total (md:=.expr p' .brace 0) (k:=fun t q g=>if (tk q).nl=true∨(tk q).wd=.op .semi∨(tk q).wd=.op .rb then P tk g (.block q (ts++[t])) else some (.bad q)) (expr _ _) fun f t q h=>?_)
     have a:=pl _ _ _ _ h hp
     by_cases hc:(tk q).nl=true∨(tk q).wd=.op .semi∨(tk q).wd=.op .rb
     ·simp only [if_pos hc];exact total_of (big (.block q _) a.1 a.2)
     ·simp only [if_neg hc];exact triv
  | prog p' ts=>
   obtain rfl:p'=p:=hmd0
   by_cases hc:(tk p').wd=.eof
   ·exact .of (fun g=>if_pos hc) triv
   ·refine .of (fun g=>if_neg hc) (seq_total (md:=.expr p' .top 0) (k:=fun t q g=>if (tk q).wd=.op .semi then P tk g (.prog (q+1) (ts++[t])) else if (tk q).wd=.eof∨(tk q).nl=true then P tk g (.prog q (ts++[t])) else some (.bad q)) (expr _ _) fun f t q h=>?_)
    have a:=pl _ _ _ _ h hp
    by_cases hc:(tk q).wd=.op .semi
    ·simp only [if_pos hc];exact total_of (big (.prog (q+1) _) (Nat.lt_succ_of_lt a.1) (nx a.2 hc ops))
    ·by_cases h2:(tk q).wd=.eof∨(tk q).nl=true
     ·simp only [if_neg hc,if_pos h2];exact total_of (big (.prog q _) a.1 a.2)
     ·simp only [if_neg hc,if_neg h2];exact triv
end Internal
end
section
namespace Internal
open PySem PySem.W PyProof.Rows
structure Cfg where
 prog:Program
 w:World
 K:Frag
 b:Heap
 mg:Str→Option Value
 mb:Str→Option Value
 os:OsState
structure Cfg.Ok (c:Cfg):Prop where
 X:c.K.In c.b
 g:c.b.Ns mainGlobals c.mg
 bl:c.b.Ns builtinsNs c.mb
 nolimit:c.b.NoLimit
 builtins:∀ x:Str,x ≠ "__name__" → c.mb x=bootBuiltins x
inductive AObj where
 | ns
 | it
 | tup (vs:List Value)
 | list (t:Nat) (vs:List Value)
 | dict (t:Nat) (es:List (Str × Value))
 | inst (C:Addr) (dx:Addr)
 | rng (n:Int)
 | vd (k i a:Value)
noncomputable def AObj.tag:AObj→Nat
 | .list t _=>t
 | .dict t _=>t
 | _=>0
noncomputable def AObj.priv:AObj→Prop
 | .ns=>True
 | .it=>True
 | _=>False
theorem AObj.priv_tag {o:AObj} (h:o.priv):o.tag=0:=by cases o<;>first | rfl | exact h.elim
noncomputable abbrev AH:=Addr→Option AObj
noncomputable def AH.set (H:AH) (a:Addr) (o:AObj):AH:=fun x=>if x=a then some o else H x
theorem AH.set_self {H:AH} {a:Addr} {o:AObj}:(H.set a o) a=some o:=if_pos rfl
theorem AH.set_ne {H:AH} {a x:Addr} {o:AObj} (h:x≠a):(H.set a o) x=H x:=if_neg h
noncomputable def OR (prog:Program) (w:World):AObj→Obj→Prop
 | .ns,o=>∀ vs,o.data≠.fields vs
 | .it,o=>∃ T,o.cls=.type T∧T ≠ "traceback"
 | .tup vs,o=>∃ n,o={ cls:=.type "tuple",data:=.seq vs.toArray n }
 | .list _ vs,o=>∃ n,o={ cls:=.type "list",data:=.seq vs.toArray n }
 | .dict _ es,o=>o.IsDictOf (strKind prog w) es
 | .inst C dx,o=>o={ cls:=.ref C,dict:=some dx,data:=.plain }
 | .rng n,o=>∃ t u v,o={ cls:=.type "range",data:=.fields #[.int 0 t,.int n u,.int 1 v] }
 | .vd k i a,o=>∃ bb,o.IsDictOf (strKind prog w) [("kind",k),("items",i),("attrs",a),("shared",.bool bb),("loose",.bool false)]
noncomputable def Quiet (o:Obj):Prop:=(∀ vs,o.data≠.fields vs)∨∃ T,o.cls=.type T∧T ≠ "traceback"
theorem OR.quiet {prog:Program} {w:World} {o:AObj} {co:Obj} (h:OR prog w o co):Quiet co:=by
 cases o with
 | ns=>exact .inl h
 | it=>exact .inr h
 | tup _=>obtain ⟨n,rfl⟩:=h;exact .inl fun vs q=>by injection q
 | list _ _=>obtain ⟨n,rfl⟩:=h;exact .inl fun vs q=>by injection q
 | dict _ _=>obtain ⟨es,n,_,hd,_⟩:=h;exact .inl fun vs q=>by rw [hd] at q;injection q
 | inst _ _=>subst h;exact .inl fun vs q=>by injection q
 | rng _=>obtain ⟨_,_,_,rfl⟩:=h;exact .inr ⟨"range",rfl,by decide⟩
 | vd _ _ _=>obtain ⟨_,es,n,_,hd,_⟩:=h;exact .inl fun vs q=>by rw [hd] at q;injection q
noncomputable def UpQ (S:List Addr) (h h':Heap):Prop:=∀ a o,h.get? a=some o→Quiet o→(a ∉ S→h'.get? a=some o)∧∃ sl,h'.get? a=some { o with slots:=sl }
theorem UpQ.refl (S:List Addr) (h:Heap):UpQ S h h:=fun _ o e _=>⟨fun _=>e,o.slots,e⟩
structure Inv (c:Cfg) (H:AH) (s:Shared):Prop where
 stays:c.b.StaysIn s.heap
 obj:∀ a o,H a=some o→c.b.get? a=none∧∃ co,s.heap.get? a=some co∧OR c.prog c.w o co
 gens:s.gens=#[]
 os:s.os=c.os
noncomputable def Keeps (T:Nat) (H H':AH):Prop:=∀ a o,H a=some o→(o.tag≠T→H' a=some o)∧H' a≠none
noncomputable def NsKeep (H:AH) (h h':Heap):Prop:=∀ a p,H a=some p→p.priv→∀ o,h.get? a=some o→(p=.it→h'.get? a=some o)∧∃ sl,h'.get? a=some { o with slots:=sl }
theorem NsKeep.refl (H:AH) (h:Heap):NsKeep H h h:=fun _ _ _ _ o e=>⟨fun _=>e,o.slots,e⟩
theorem ns_of_slots {h h':Heap} {a:Addr} {m:Str→Option Value} (n:h.Ns a m) (k:∀ o,h.get? a=some o→∃ sl,h'.get? a=some { o with slots:=sl }):h'.Ns a m:=by
 obtain ⟨o,es,ep,ho,hd,r⟩:=n
 obtain ⟨sl,hs⟩:=k o ho
 exact ⟨_,es,ep,hs,hd,r⟩
noncomputable abbrev LM:=List (Str × Value)
structure Fx where
 A:Around
 env:Env
 L:Addr
 T:Nat
 r:Nat
 H0:AH
 h0:Heap
 X:Str→Int→LM→AH→Prop
 its:List (Addr × (Obj→Prop))
noncomputable def OuterOk (H:AH) (l:List Env):Prop:=∀ env ∈ l,env.scope.kind≠.module∧∃ L,env.frame=some L∧H L=some .ns
structure Room (A:Around) (r:Nat):Prop where
 depth:A.depth+r<recursionLimit
 units:A.units+9*r<cLine
structure Fx.Ok (F:Fx):Prop where
 T0:F.T≠0
 loc:F.env.locals=F.L
 glb:F.env.globals=mainGlobals
 blt:F.env.builtins=builtinsNs
 kind:F.env.scope.kind=.function
 fr:(F.env.frame=some F.L∧∃ outer,F.A.frames=some (F.env::outer)∧OuterOk F.H0 outer)∨((∀ k a m H,¬F.X k a m H)∧∃ l,F.A.frames=some l∧OuterOk F.H0 l)
 hd:F.A.handled=none
 gd:F.A.guards=some []
 room:Room F.A F.r
 fresh:F.H0 F.L=none
noncomputable def look (m:LM) (x:Str):Option Value:=match m with
 | []=>none
 | (y,v)::r=>if x=y then some v else look r x
noncomputable def setL (x:Str) (v:Value):LM→LM
 | []=>[(x,v)]
 | (y,u)::r=>if x=y then (y,v)::r else (y,u)::setL x v r
theorem look_c {y:Str} {v:Value} {r:LM} {x:Str}:look ((y,v)::r) x=if x=y then some v else look r x:=rfl
theorem setL_c {x:Str} {v:Value} {y:Str} {u:Value} {r:LM}:setL x v ((y,u)::r)=if x=y then (y,v)::r else (y,u)::setL x v r:=rfl
theorem look_setL (x:Str) (v:Value) (m:LM):look (setL x v m)=fun y=>if y=x then some v else look m y:=by
 funext y
 induction m with
 | nil=>rfl
 | cons p r ih=>
  obtain ⟨z,u⟩:=p
  by_cases h:x=z
  ·subst h;simp only [setL_c,if_true,look_c]
   by_cases hy:y=x<;>simp [hy]
  ·simp only [setL_c,if_neg h,look_c,ih]
   by_cases hy:y=z
   ·subst hy;simp [Ne.symm h]
   ·simp [hy]
structure St (c:Cfg) (F:Fx) (m:LM) (H:AH) (s:Shared):Prop where
 inv:Inv c H s
 loc:s.heap.Ns F.L (look m)
 own:H F.L=some .ns
 keep:Keeps F.T F.H0 H
 nsk:NsKeep F.H0 F.h0 s.heap
 its:∀ p ∈ F.its,p.1≠F.L∧F.H0 p.1=none∧H p.1=some .it∧∃ o,s.heap.get? p.1=some o∧p.2 o
noncomputable def ExcAt (b:Heap) (C:Addr) (dx:Addr) (P:Option Value→Prop) (e:Addr) (h:Heap):Prop:=
 b.get? e=none∧∃ oe vs,h.get? e=some oe∧oe.cls=.ref C∧oe.dict=some dx∧oe.data=.fields vs ∧
  ((vs[1]?=some .none∧P none)∨∃ T oT ts v,vs[1]?=some (.ref T)∧b.get? T=none∧T≠e∧h.get? T=some oT∧oT.cls=.type "traceback" ∧ oT.data=.fields ts∧ts[3]?=some v∧P (some v))
noncomputable def XEg (c:Cfg) (F:Fx) (P:Option Value→Prop) (e:Value) (s':Shared):Prop:=
 ∃ a dx C H' k at_ tk1 tk2 tg m,e=.ref a∧Inv c H' s'∧H' F.L=some .ns∧Keeps F.T F.H0 H'∧NsKeep F.H0 F.h0 s'.heap ∧
  ExcAt c.b C dx P a s'.heap ∧
  nsIn c.K mainGlobals "ReadError" = some (some (.ref C)) ∧
  H' dx=some (.dict tg [("kind",.str k tk1),("at",.int at_ tk2)])∧s'.heap.Ns F.L (look m)∧F.X k at_ m H'
noncomputable def AnyFl (F:Fx) (o:Option Value):Prop:=o=none∨o=some .none∨o=some (rawInt F.L)
noncomputable def HeldFl (F:Fx) (o:Option Value):Prop:=o=some (rawInt F.L)
noncomputable def FreeFl (o:Option Value):Prop:=o=some .none
noncomputable abbrev XE (c:Cfg) (F:Fx):Value→Shared→Prop:=XEg c F (AnyFl F)
noncomputable def PW (c:Cfg) (F:Fx) (m:LM) (H:AH) {α:Type} (t:Sem α) (Q:α→AH→Prop):Prop:=
 ∀ s,St c F m H s→wpAny (model c.prog c.w) F.A t (fun v s'=>∃ H',St c F m H' s'∧Q v H') (XE c F) s
noncomputable def PS (c:Cfg) (F:Fx) (m:LM) (H:AH) {α:Type} (t:Sem α) (Q:α→LM→AH→Prop):Prop:=
 ∀ s,St c F m H s→wpAny (model c.prog c.w) F.A t (fun v s'=>∃ m' H',St c F m' H' s'∧Q v m' H') (XE c F) s
theorem St.toks {c:Cfg} {F:Fx} {m:LM} {H:AH} {s:Shared} (h:St c F m H s) (tk:Nat):St c F m H { s with toks:=tk }:=
 ⟨⟨h.inv.stays,h.inv.obj,h.inv.gens,h.inv.os⟩,h.loc,h.own,h.keep,h.nsk,h.its⟩
section
variable {c:Cfg} {F:Fx} {m:LM} {H:AH} {α β:Type} {Q:α→AH→Prop} {R:α→LM→AH→Prop}
theorem PW.mono {t:Sem α} {Q':α→AH→Prop} (h:PW c F m H t Q) (k:∀ v H',Q v H'→Q' v H'):PW c F m H t Q':=fun s st=>
 wpAny_mono (h s st) (fun v s' ⟨H',a,b⟩=>⟨H',a,k v H' b⟩) fun _ _ e=>e
theorem PW.pure {v:α} (h:Q v H):PW c F m H (Pure.pure v) Q:=fun s st=>wpAny_pure ⟨H,st,h⟩
theorem PW.bind {t:Sem α} {f:α→Sem β} {Q:β→AH→Prop} (h:PW c F m H t (fun v H'=>PW c F m H' (f v) Q)):PW c F m H (t >>= f) Q:=fun s st=>
 wpAny_bind (wpAny_mono (h s st) (fun v s' z=>z.elim fun H' z=>z.2 s' z.1) fun _ _ e=>e)
theorem PW.holding {vs:List Value} {t:Sem α} (h:PW c F m H t Q):PW c F m H (holding vs t) Q:=fun s st=>wpAny_holding (h s st)
theorem PW.standAt {p:Pos} {Q:Unit→AH→Prop} (h:Q () H):PW c F m H (PySem.standAt p) Q:=fun s st=>wpAny_standAt ⟨H,st,h⟩
theorem PW.release {vs ks:List Value} {Q:Unit→AH→Prop} (h:Q () H):PW c F m H (PySem.release vs ks) Q:=fun s st Γ p hΓ=>by
 rw [Sem.wp_release];exact ⟨H,st,h⟩
theorem PW.operate {vs:List Value} {t:Sem Value} {Q:Value→AH→Prop} (h:PW c F m H t Q):PW c F m H (PySem.operate vs t) Q:=by
 unfold PySem.operate
 exact PW.bind (PW.holding (h.mono fun v H' q=>PW.bind (PW.release (PW.pure q))))
theorem PS.mono {t:Sem α} {R':α→LM→AH→Prop} (h:PS c F m H t R) (k:∀ v m' H',R v m' H'→R' v m' H'):PS c F m H t R':=fun s st=>
 wpAny_mono (h s st) (fun v s' z=>z.elim fun m' z=>z.elim fun H' z=>⟨m',H',z.1,k v m' H' z.2⟩) fun _ _ e=>e
theorem PS.pure {v:α} (h:R v m H):PS c F m H (Pure.pure v) R:=fun s st=>wpAny_pure ⟨m,H,st,h⟩
theorem PS.bind {t:Sem α} {f:α→Sem β} {R:β→LM→AH→Prop} (h:PS c F m H t (fun v m' H'=>PS c F m' H' (f v) R)):PS c F m H (t >>= f) R:=fun s st=>
 wpAny_bind (wpAny_mono (h s st) (fun v s' z=>z.elim fun m' z=>z.elim fun H' z=>z.2 s' z.1) fun _ _ e=>e)
theorem PS.ofPW {t:Sem α} (h:PW c F m H t (fun v H'=>R v m H')):PS c F m H t R:=fun s st=>
 wpAny_mono (h s st) (fun v s' z=>z.elim fun H' z=>⟨m,H',z⟩) fun _ _ e=>e
theorem PS.bindW {t:Sem α} {f:α→Sem β} {R:β→LM→AH→Prop} (h:PW c F m H t (fun v H'=>PS c F m H' (f v) R)):PS c F m H (t >>= f) R:=PS.bind (PS.ofPW h)
theorem PS.holding {vs:List Value} {t:Sem α} (h:PS c F m H t R):PS c F m H (PySem.holding vs t) R:=fun s st=>wpAny_holding (h s st)
end
section
variable {c:Cfg} {F:Fx} {m:LM} {H:AH} {Q:Value→AH→Prop}
theorem PW.name_local (ok:F.Ok) {x:Str} {pos:Pos} {v:Value} (hv:look m x=some v) (h:Q v H)
  (hl:F.env.kindOf x=some .local) (hd:(x==("__debug__" : Str))=false:=by decide):PW c F m H (eval (.Name x pos) F.env) Q:=fun s st=>
 wpAny_Name (wpAny_loadName_local ok.kind hl (by rw [ok.loc];exact st.loc) hv ⟨H,st,h⟩) hd
theorem PW.loadName_local (ok:F.Ok) {x:Str} {v:Value} (hv:look m x=some v) (h:Q v H)
  (hl:F.env.kindOf x=some .local):PW c F m H (loadName F.env x) Q:=fun s st=>
 wpAny_loadName_local ok.kind hl (by rw [ok.loc];exact st.loc) hv ⟨H,st,h⟩
theorem St.K {s:Shared} (cok:c.Ok) (st:St c F m H s):c.K.In s.heap:=cok.X.keeps st.inv.stays
theorem PW.name_global (cok:c.Ok) (ok:F.Ok) {x:Str} {pos:Pos} {v:Value} (e:nsIn c.K mainGlobals x=some (some v)) (h:Q v H)
  (hx:F.env.kindOf x=some .globalImplicit) (hd:(x==("__debug__" : Str))=false:=by decide):PW c F m H (eval (.Name x pos) F.env) Q:=fun s st=>
 Calls.Name_function_global ok.kind hx (Calls.loadGlobal_global (mg:=c.mg) (by rw [ok.glb];exact cok.g.keeps st.inv.stays) (mg_of cok.X cok.g e) ⟨H,st,h⟩) hd
theorem PW.name_builtin (cok:c.Ok) (ok:F.Ok) {x:Str} {pos:Pos} {v:Value} (e:nsIn c.K mainGlobals x=some none) (hv:bootBuiltins x=some v) (hn:x ≠ "__name__") (h:Q v H)
  (hx:F.env.kindOf x=some .globalImplicit) (hd:(x==("__debug__" : Str))=false:=by decide):PW c F m H (eval (.Name x pos) F.env) Q:=fun s st=>
 Calls.Name_function_global ok.kind hx (Calls.loadGlobal_builtin (mg:=c.mg) (mb:=c.mb) (by rw [ok.glb];exact cok.g.keeps st.inv.stays) (mg_none_of cok.X cok.g e)
  (by rw [ok.blt];exact cok.bl.keeps st.inv.stays) ((cok.builtins x hn).trans hv) ⟨H,st,h⟩) hd
theorem PW.const_int {i:Int} {k:Nat} {pos:Pos} (h:∀ t,Q (.int i t) H):PW c F m H (eval (.Constant (.int i) k pos) F.env) Q:=fun s st=>
 wpAny_Constant_int ⟨H,st.toks _,h _⟩
theorem PW.const_str {x:Str} {k:Nat} {pos:Pos} (h:∀ t,Q (.str x t) H):PW c F m H (eval (.Constant (.str x) k pos) F.env) Q:=fun s st=>
 Calls.Constant_str ⟨H,st.toks _,h _⟩
theorem PW.const_bool {b:Bool} {k:Nat} {pos:Pos} (h:Q (.bool b) H):PW c F m H (eval (.Constant (.bool b) k pos) F.env) Q:=fun s st Γ p hΓ=>⟨H,st,h⟩
theorem PW.const_none {k:Nat} {pos:Pos} (h:Q .none H):PW c F m H (eval (.Constant .none k pos) F.env) Q:=fun s st Γ p hΓ=>⟨H,st,h⟩
theorem St.names {c:Cfg} {s:Shared} {l:LM} {h':Heap} (ok:F.Ok) (st:St c F m H s) (hn:h'.Ns F.L (look l)) (hs:Heap.SameBut F.L s.heap h') (tk:Nat):St c F l H { s with heap:=h',toks:=tk }:=by
 have hL:=(st.inv.obj _ _ st.own).1
 refine ⟨⟨fun b o e=>?_,fun a o e=>?_,st.inv.gens,st.inv.os⟩,hn,st.own,st.keep,fun a p e n o ho=>?_,fun p hp=>?_⟩
 ·have hb:b≠F.L:=fun q=>by rw [q,hL] at e;injection e
  exact (hs.2 b hb).trans (st.inv.stays b o e)
 ·obtain ⟨h1,co,h2,h3⟩:=st.inv.obj a o e
  refine ⟨h1,?_⟩
  by_cases hb:a=F.L
  ·subst hb
   obtain ⟨oo,es,ep,ho,hd,_⟩:=hn
   refine ⟨oo,ho,?_⟩
   rw [st.own] at e;(injection e with e1;subst e1)
   intro vs q;rw [hd] at q;injection q
  ·exact ⟨co,(hs.2 a hb).trans h2,h3⟩
 ·have hb:a≠F.L:=fun q=>by rw [q,ok.fresh] at e;injection e
  obtain ⟨h1,sl,h2⟩:=st.nsk a p e n o ho
  exact ⟨fun q=>(hs.2 a hb).trans (h1 q),sl,(hs.2 a hb).trans h2⟩
 ·obtain ⟨h1,h2,h3,o,h4,h5⟩:=st.its p hp
  exact ⟨h1,h2,h3,o,(hs.2 _ h1).trans h4,h5⟩
theorem St.store {s:Shared} {x:Str} {v:Value} {h':Heap} (ok:F.Ok) (st:St c F m H s) (hn:h'.Ns F.L (fun y=>if y=x then some v else look m y)) (hs:Heap.SameBut F.L s.heap h') (tk:Nat) :
  St c F (setL x v m) H { s with heap:=h',toks:=tk }:=st.names ok (by rw [look_setL];exact hn) hs tk
theorem PS.storeName (ok:F.Ok) {x:Str} {v:Value} {R:Unit→LM→AH→Prop} (h:R () (setL x v m) H)
  (hl:F.env.kindOf x=some .local):PS c F m H (storeName F.env x v) R:=fun s st=>
 wpAny_storeName_local hl (by rw [ok.loc];exact st.loc)
  (fun h' hn hs=>⟨_,H,St.store ok st (by rw [← ok.loc];exact hn) (by rw [← ok.loc];exact hs) _,h⟩)
  (by rw [ok.kind];rfl)
theorem PS.bindName (ok:F.Ok) {x:Str} {v:Value} {R:Unit→LM→AH→Prop} (h:R () (setL x v m) H)
  (hl:F.env.kindOf x=some .local):PS c F m H (bindName F.env x v) R:=fun s st=>wpAny_bindName (PS.storeName ok h hl s st)
end
end Internal
end
section
namespace Internal
open PySem PySem.W PyProof.Rows
section
variable {c:Cfg} {F:Fx} {m:LM} {H:AH} {Q:Value→AH→Prop}
theorem p_BinOp {l r:Expr} {op:Operator} {pos:Pos} (h:PW c F m H (eval l F.env) fun a H1=>PW c F m H1 (eval r F.env) fun b H2=>PW c F m H2 (binaryOp op a b) Q) :
  PW c F m H (eval (.BinOp l op r pos) F.env) Q:=by
 rw [eval_BinOp]
 exact PW.bind (h.mono fun a H1 h1=>PW.bind (PW.holding (h1.mono fun b H2 h2=>PW.bind (PW.standAt (PW.operate h2)))))
theorem p_Compare {l r:Expr} {op:CmpOp} {pos:Pos} (h:PW c F m H (eval l F.env) fun a H1=>PW c F m H1 (eval r F.env) fun b H2=>PW c F m H2 (compareOp op a b) Q)
  (hm:behindInMarks op r=false:=by rfl):PW c F m H (eval (.Compare l [op] [r] pos) F.env) Q:=by
 rw [eval_Compare1,markedBehindIn_of_false hm]
 exact PW.bind (h.mono fun a H1 h1=>PW.bind (PW.holding (h1.mono fun b H2 h2=>PW.bind (PW.standAt (PW.operate h2)))))
theorem p_tCompare {l r:Expr} {op:CmpOp} {pos:Pos} {w:Sem Value} {Q:Bool→AH→Prop} (h:PW c F m H (eval l F.env) fun a H1=>PW c F m H1 (eval r F.env) fun b H2=>PW c F m H2 (compareOp op a b) fun v H3=>PW c F m H3 (truthy v) Q)
  (hm:behindInMarks op r=false:=by rfl):PW c F m H (isTrue (.Compare l [op] [r] pos) F.env w) Q:=by
 rw [isTrue_Compare1,markedBehindIn_of_false hm]
 exact PW.bind (h.mono fun a H1 h1=>PW.bind (PW.holding (h1.mono fun b H2 h2=>PW.bind (PW.standAt (PW.bind (PW.operate (h2.mono fun v H3 h3=>PW.holding h3)))))))
theorem p_truthy_bool {b:Bool} {Q:Bool→AH→Prop} (h:Q b H):PW c F m H (truthy (.bool b)) Q:=fun s st=>wpAny_truthy_bool ⟨H,st,h⟩
theorem p_UnaryOp {op:PySem.UnaryOp} {x:Expr} {pos:Pos} (h:PW c F m H (eval x F.env) fun a H1=>PW c F m H1 (unaryOp op a) Q):PW c F m H (eval (.UnaryOp op x pos) F.env) Q:=by
 rw [eval_UnaryOp]
 exact PW.bind (h.mono fun a H1 h1=>PW.bind (PW.standAt (PW.holding h1)))
theorem p_tNot {x:Expr} {pos:Pos} {w:Sem Value} {Q:Bool→AH→Prop} (h:PW c F m H (isTrue x F.env (eval x F.env)) fun b H1=>Q (!b) H1):PW c F m H (isTrue (.UnaryOp .Not x pos) F.env w) Q:=by
 show PW c F m H (isTrue x F.env (eval x F.env) >>= fun b=>Pure.pure (!b)) Q
 exact PW.bind (h.mono fun b H1 h1=>PW.pure h1)
theorem p_IfExp {t b o:Expr} {pos:Pos} (h:PW c F m H (isTrue t F.env (eval t F.env)) fun v H1=>PW c F m H1 (if v then eval b F.env else eval o F.env) Q):PW c F m H (eval (.IfExp t b o pos) F.env) Q:=by
 rw [eval_IfExp]
 exact PW.bind h
theorem p_tBool {op:PySem.BoolOp} {es:List Expr} {pos:Pos} {w:Sem Value} {Q:Bool→AH→Prop} (h:PW c F m H (allTrue op es F.env) Q):PW c F m H (isTrue (.BoolOp op es pos) F.env w) Q:=h
theorem p_all_nil {op:PySem.BoolOp} {Q:Bool→AH→Prop} (h:Q (op==.And) H):PW c F m H (allTrue op [] F.env) Q:=PW.pure h
theorem p_all_and {x:Expr} {rest:List Expr} {Q:Bool→AH→Prop} (h:PW c F m H (isTrue x F.env (eval x F.env)) fun b H1=>if b then PW c F m H1 (allTrue .And rest F.env) Q else Q false H1) :
  PW c F m H (allTrue .And (x::rest) F.env) Q:=by
 show PW c F m H (isTrue x F.env (eval x F.env) >>= fun b=>match PySem.BoolOp.And,b with | .And,false=>Pure.pure false | .Or,true=>Pure.pure true | _,_=>allTrue .And rest F.env) Q
 refine PW.bind (h.mono fun b H1 h1=>?_)
 cases b
 ·exact PW.pure h1
 ·exact h1
theorem p_all_or {x:Expr} {rest:List Expr} {Q:Bool→AH→Prop} (h:PW c F m H (isTrue x F.env (eval x F.env)) fun b H1=>if b then Q true H1 else PW c F m H1 (allTrue .Or rest F.env) Q) :
  PW c F m H (allTrue .Or (x::rest) F.env) Q:=by
 show PW c F m H (isTrue x F.env (eval x F.env) >>= fun b=>match PySem.BoolOp.Or,b with | .And,false=>Pure.pure false | .Or,true=>Pure.pure true | _,_=>allTrue .Or rest F.env) Q
 refine PW.bind (h.mono fun b H1 h1=>?_)
 cases b
 ·exact h1
 ·exact PW.pure h1
theorem p_BoolOp {op:PySem.BoolOp} {es:List Expr} {pos:Pos} (h:PW c F m H (boolOp pos op (evalEach es F.env)) Q):PW c F m H (eval (.BoolOp op es pos) F.env) Q:=h
theorem p_bool_one {op:PySem.BoolOp} {x:Expr} {pos:Pos} (h:PW c F m H (eval x F.env) Q):PW c F m H (boolOp pos op (evalEach [x] F.env)) Q:=h
theorem p_bool_and {x y:Expr} {rest:List Expr} {pos:Pos} (h:PW c F m H (eval x F.env) fun v H1=>PW c F m H1 (truthy v) fun b H2=>if b then PW c F m H2 (boolOp pos .And (evalEach (y::rest) F.env)) Q else Q v H2) :
  PW c F m H (boolOp pos .And (evalEach (x::y::rest) F.env)) Q:=by
 show PW c F m H (eval x F.env >>= fun v=>standAt pos >>= fun _=>holding [v] (truthy v) >>= fun t=>match PySem.BoolOp.And,t with | .And,false | .Or,true=>Pure.pure v | _,_=>boolOp pos .And (evalEach (y::rest) F.env)) Q
 refine PW.bind (h.mono fun v H1 h1=>PW.bind (PW.standAt (PW.bind (PW.holding (h1.mono fun b H2 h2=>?_)))))
 cases b
 ·exact PW.pure h2
 ·exact h2
theorem p_bool_or {x y:Expr} {rest:List Expr} {pos:Pos} (h:PW c F m H (eval x F.env) fun v H1=>PW c F m H1 (truthy v) fun b H2=>if b then Q v H2 else PW c F m H2 (boolOp pos .Or (evalEach (y::rest) F.env)) Q) :
  PW c F m H (boolOp pos .Or (evalEach (x::y::rest) F.env)) Q:=by
 show PW c F m H (eval x F.env >>= fun v=>standAt pos >>= fun _=>holding [v] (truthy v) >>= fun t=>match PySem.BoolOp.Or,t with | .And,false | .Or,true=>Pure.pure v | _,_=>boolOp pos .Or (evalEach (y::rest) F.env)) Q
 refine PW.bind (h.mono fun v H1 h1=>PW.bind (PW.standAt (PW.bind (PW.holding (h1.mono fun b H2 h2=>?_)))))
 cases b
 ·exact h2
 ·exact PW.pure h2
theorem p_tPlain {e:Expr} {w:Sem Value} {Q:Bool→AH→Prop} (he:isTrue e F.env w=(do let v ← w;standAt e.pos;holding [v] (truthy v)))
  (h:PW c F m H w fun v H1=>PW c F m H1 (truthy v) Q):PW c F m H (isTrue e F.env w) Q:=by
 rw [he]
 exact PW.bind (h.mono fun v H1 h1=>PW.bind (PW.standAt (PW.holding h1)))
theorem p_args_nil {pos:Pos} {Q:List Value→AH→Prop} (h:Q [] H):PW c F m H (spliced (backTo pos (starEach [] F.env))) Q:=PW.pure h
theorem p_spl_cons {x:Sem Value} {rest:List (Bool × Sem Value)} {Q:List Value→AH→Prop} (h:PW c F m H x fun v H1=>PW c F m H1 (spliced rest) fun vs H2=>Q (v::vs) H2) :
  PW c F m H (spliced ((false,x)::rest)) Q:=by
 show PW c F m H (x >>= fun v=>(Pure.pure [v]:Sem (List Value)) >>= fun here=>holding here (spliced rest) >>= fun r=>Pure.pure (here++r)) Q
 exact PW.bind (h.mono fun v H1 h1=>PW.bind (PW.pure (PW.bind (PW.holding (h1.mono fun vs H2 h2=>PW.pure h2)))))
theorem p_args_cons {e:Expr} {rest:List Expr} {pos:Pos} {Q:List Value→AH→Prop} (h:PW c F m H (eval e F.env) fun v H1=>PW c F m H1 (spliced (backTo pos (starEach rest F.env))) fun vs H2=>Q (v::vs) H2)
  (he:starEach (e::rest) F.env=(false,eval e F.env)::starEach rest F.env:=by rfl):PW c F m H (spliced (backTo pos (starEach (e::rest) F.env))) Q:=by
 rw [he]
 exact p_spl_cons h
theorem evalArgs_of {M:Model} {A:Around} {E:Value→Shared→Prop} {s:Shared} {f:Value} {trees:List (Bool × Sem Value)} {Q:Args→Shared→Prop} (hp:trees.any (·.1)=false)
  (h:wpAny M A (spliced trees) (fun vs s₁=>Q ⟨vs,[]⟩ s₁) E s):wpAny M A (evalArgs f true trees []) Q E s:=by
 cases trees with
 | nil=>exact fun Γ p hΓ=>evalArgs_nil3 (show Q ⟨[],[]⟩ s from h Γ p hΓ) Γ p hΓ
 | cons x r=>
  obtain ⟨b,t⟩:=x
  have hb:b=false:=by cases b<;>simp_all
  subst hb
  exact Calls.evalArgs_plain h
theorem p_callWith (cok:c.Ok) {f:Value} {first:List Value} {trees:List (Bool × Sem Value)} {pos:Pos} (hp:trees.any (·.1)=false)
  (hk:∀ h,c.K.In h→∃ k,(k=Keeper.frame∨k=Keeper.machine∨k=Keeper.boundFrame)∧Looks (model c.prog c.w) h (keeperOf f) k)
  (h:PW c F m H (spliced trees) fun vs H1=>PW c F m H1 (call f (first++vs)) Q):PW c F m H (callWith pos f first trees []) Q:=fun s st=>
 callWith_of (P:=c.K.In) (by rw [hp];rfl) hk (evalArgs_of hp (wpAny_mono (h s st) (fun vs s1 ⟨H1,st1,k⟩=>⟨st1.K cok,k s1 st1⟩) fun _ _ e=>e))
theorem p_callWith_K (cok:c.Ok) {f:Value} {first:List Value} {trees:List (Bool × Sem Value)} {pos:Pos} (hk:keepIn c.K f=true) (hp:trees.any (·.1)=false)
  (h:PW c F m H (spliced trees) fun vs H1=>PW c F m H1 (call f (first++vs)) Q):PW c F m H (callWith pos f first trees []) Q:=p_callWith cok hp (keeps_K hk) h
theorem p_callWith_b (cok:c.Ok) {id:String} {first:List Value} {trees:List (Bool × Sem Value)} {pos:Pos} (hp:trees.any (·.1)=false)
  (h:PW c F m H (spliced trees) fun vs H1=>PW c F m H1 (call (.builtin id) (first++vs)) Q):PW c F m H (callWith pos (.builtin id) first trees []) Q:=
 p_callWith cok hp (fun _ _=>⟨.machine,.inr (.inl rfl),Looks.of_pure rfl⟩) h
theorem p_Call {func:Expr} {args:List Expr} {pos:Pos} (h:PW c F m H (eval func F.env) fun f H1=>PW c F m H1 (callWith pos f [] (backTo pos (starEach args F.env)) []) Q)
  (he:eval (.Call func args [] pos) F.env=(do callWith pos (← eval func F.env) [] (backTo pos (starEach args F.env)) (backToKw pos (keywordEach [] F.env)))) :
  PW c F m H (eval (.Call func args [] pos) F.env) Q:=by
 rw [he];exact PW.bind h
theorem p_CallN {x:Str} {xp:Pos} {args:List Expr} {pos:Pos} (h:PW c F m H (eval (.Name x xp) F.env) fun f H1=>PW c F m H1 (callWith pos f [] (backTo pos (starEach args F.env)) []) Q) :
  PW c F m H (eval (.Call (.Name x xp) args [] pos) F.env) Q:=p_Call h rfl
theorem p_MethodCall {o:Expr} {name:Str} {apos pos:Pos} {args:List Expr} {pl:Sem Bool}
  (h:PW c F m H (eval o F.env) fun ov H1=>PW c F m H1 (getMethod ov name pl) fun fx H2=>PW c F m H2 (callWith pos fx.1 fx.2 (backTo pos (starEach args F.env)) []) Q)
  (he:eval (.Call (.Attribute o name apos) args [] pos) F.env=(do
   let ov ← eval o F.env
   standAt apos.atName
   let (f,first) ← holding [ov] (getMethod ov name pl)
   callWith pos f first (backTo pos (starEach args F.env)) [])) :
  PW c F m H (eval (.Call (.Attribute o name apos) args [] pos) F.env) Q:=by
 rw [he]
 exact PW.bind (h.mono fun ov H1 h1=>PW.bind (PW.standAt (PW.bind (PW.holding h1))))
theorem p_letgo {base:Expr} {o r:Value} {Q:Unit→AH→Prop} (h:Q () H):PW c F m H (letTemporaryGo base o r) Q:=fun s st=>wpAny_letTemporaryGo ⟨H,st,h⟩
theorem p_Attr {value:Expr} {attr:Str} {pos:Pos} (h:PW c F m H (eval value F.env) fun o H1=>PW c F m H1 (getAttr o attr true) Q)
  (he:eval (.Attribute value attr pos) F.env=(do
   let o ← eval value F.env
   standAt pos.atName
   let r ← holding [o] (getAttr o attr true)
   letTemporaryGo value o r
   pure r)):PW c F m H (eval (.Attribute value attr pos) F.env) Q:=by
 rw [he]
 exact PW.bind (h.mono fun o H1 h1=>PW.bind (PW.standAt (PW.bind (PW.holding (h1.mono fun r H2 h2=>PW.bind (p_letgo (PW.pure h2)))))))
theorem p_AttrN {x attr:Str} {xp pos:Pos} (h:PW c F m H (eval (.Name x xp) F.env) fun o H1=>PW c F m H1 (getAttr o attr true) Q):PW c F m H (eval (.Attribute (.Name x xp) attr pos) F.env) Q:=p_Attr h rfl
theorem p_Sub {value slice:Expr} {pos:Pos} (h:PW c F m H (eval value F.env) fun o H1=>PW c F m H1 (eval slice F.env) fun i H2=>PW c F m H2 (subscriptTail value slice o i) Q) :
  PW c F m H (eval (.Subscript value slice pos) F.env) Q:=by
 rw [eval_Subscript]
 exact PW.bind (h.mono fun o H1 h1=>PW.bind (PW.holding (h1.mono fun i H2 h2=>PW.bind (PW.standAt h2))))
theorem p_List {elts:List Expr} {pos:Pos} (h:PW c F m H (spliced (backTo pos (starEach elts F.env))) fun vs H1=>PW c F m H1 (newList vs) Q):PW c F m H (eval (.List elts pos) F.env) Q:=by
 show PW c F m H (standAt pos >>= fun _=>spliced (backTo pos (starEach elts F.env)) >>= fun vs=>newList vs) Q
 exact PW.bind (PW.standAt (PW.bind h))
theorem p_Tuple {elts:List Expr} {k:Nat} {pos:Pos} (h:PW c F m H (spliced (backTo pos (starEach elts F.env))) fun vs H1=>PW c F m H1 (newTuple vs) Q):PW c F m H (eval (.Tuple elts k pos) F.env) Q:=by
 show PW c F m H (standAt pos >>= fun _=>spliced (backTo pos (starEach elts F.env)) >>= fun vs=>newTuple vs) Q
 exact PW.bind (PW.standAt (PW.bind h))
theorem p_opt_none {Q:Value→AH→Prop} (h:Q .none H):PW c F m H (valueOrNone (evalOpt none F.env)) Q:=PW.pure h
theorem p_opt_some {e:Expr} {Q:Value→AH→Prop} (h:PW c F m H (eval e F.env) Q):PW c F m H (valueOrNone (evalOpt (some e) F.env)) Q:=h
end
end Internal
end
section
namespace Internal
open PySem PySem.W PyProof.Rows
noncomputable def framesOf (l:List Env):List Addr:=l.filterMap (·.frame)
theorem framesOf_ns {H:AH} {l:List Env} (h:OuterOk H l):∀ a ∈ framesOf l,H a=some .ns:=fun a ha=>by
 obtain ⟨env,he,hf⟩:=List.mem_filterMap.mp ha
 obtain ⟨_,L,h1,h2⟩:=h env he
 rw [h1] at hf;(injection hf with e1;subst e1);exact h2
theorem Inv.upto {c:Cfg} {H:AH} {s:Shared} {h':Heap} {S:List Addr} (I:Inv c H s) (k:c.b.StaysIn h') (u:UpQ S s.heap h') (hS:∀ a ∈ S,H a=some .ns):Inv c H { s with heap:=h' }:=
 ⟨k,fun a o e=>by
  obtain ⟨h1,co,h2,h3⟩:=I.obj a o e
  obtain ⟨h4,sl,h5⟩:=u a co h2 h3.quiet
  refine ⟨h1,?_⟩
  by_cases ha:a ∈ S
  ·have:=hS a ha
   rw [e] at this;(injection this with e1;subst e1)
   exact ⟨_,h5,h3⟩
  ·exact ⟨co,h4 ha,h3⟩,I.gens,I.os⟩
theorem NsKeep.upto {c:Cfg} {H0 H:AH} {h0:Heap} {s:Shared} {T:Nat} {h':Heap} {S:List Addr} (I:Inv c H s) (T0:T≠0) (kp:Keeps T H0 H) (n:NsKeep H0 h0 s.heap) (u:UpQ S s.heap h') (hS:∀ a ∈ S,H a=some .ns):NsKeep H0 h0 h':=fun a p e hp o x=>by
 obtain ⟨h0,sl,h1⟩:=n a p e hp o x
 have hH:=(kp a p e).1 (by rw [AObj.priv_tag hp];exact fun q=>T0 q.symm)
 obtain ⟨_,co,h2,h3⟩:=I.obj a p hH
 rw [h1] at h2;(injection h2 with e1;subst e1)
 obtain ⟨h5,sl',h4⟩:=u a _ h1 h3.quiet
 refine ⟨fun q=>?_,sl',h4⟩
 have:=h0 q
 rw [h1] at this
 have ha:a ∉ S:=fun ha=>by have:=hS a ha;rw [hH,q] at this;cases this
 have h6:=h5 ha
 rw [h6];exact this
theorem funFrames_of {c:Cfg} {H:AH} {s:Shared} (I:Inv c H s):∀ {l:List Env},OuterOk H l→s.heap.FunFrames c.b l
 | [],_=>trivial
 | env::r,h=>by
  obtain ⟨hk,L,hf,hL⟩:=h env (.head _)
  obtain ⟨h1,co,h2,h3⟩:=I.obj _ _ hL
  exact ⟨hk,⟨L,co,hf,h1,h2,h3⟩,funFrames_of I fun e he=>h e (.tail _ he)⟩
theorem OuterOk.keeps {T:Nat} {H H':AH} {l:List Env} (T0:T≠0) (k:Keeps T H H') (o:OuterOk H l):OuterOk H' l:=fun env he=>by
 obtain ⟨h1,L,h2,h3⟩:=o env he
 exact ⟨h1,L,h2,(k _ _ h3).1 (by intro q;exact T0 q.symm)⟩
section
variable {M:Model} {A:Around} {E:Value→Shared→Prop} {s:Shared}
theorem x_entry {b:Heap} {env:Env} {outer:List Env} {L e dx:Addr} {C:Addr} {oe:Obj} {vs:Array Value} {head:Value} {hadNext:Bool} {Q:Unit→Shared→Prop}
  (hfr:A.frames=some (env::outer)) (hl:s.heap.FunFrames b (env::outer)) (hf:env.frame=some L)
  (he:s.heap.get? e=some oe) (hkb:b.StaysIn s.heap) (hen:b.get? e=none) (hd:oe.data=.fields vs) (hcl:oe.cls=.ref C) (hdx:oe.dict=some dx) (hsz:1<vs.size)
  (h:∀ h',b.StaysIn h'→UpQ (framesOf (env::outer)) s.heap h'→ExcAt b C dx (fun o=>o=some (rawInt L)) e h'→Q () { s with heap:=h' }) :
  wpAny M A (do let a ← frameOf env;let pl ← entryPlaceOf L hadNext;let b ← EntryCells.newEntry head a .none (rawInt L) .none pl;setField (.ref e) 1 b) Q E s:=by
 have hene:e ∉ (env::outer).filterMap (·.frame):=fun hm=>by
  obtain ⟨_,o,ho,hnf⟩:=hl.mem hm
  rw [he] at ho;(injection ho with e1;subst e1);exact hnf vs hd
 refine wpAny_bind (wpAny_frameOf_fun hfr hl hf fun h₁ hs₁=>wpAny_bind (wpAny_entryPlaceOf fun pl hpl=>?_))
 unfold EntryCells.newEntry newFields
 refine wpAny_bind (wpAny_newObj_type ?_ (hpl.sizeOk5 _ _ _ _ _))
 have he₁:h₁.get? e=some oe:=(hs₁.2.1 e hene).trans he
 have kb₁:b.StaysIn h₁:=fun x o hbo=>(hs₁.2.1 x fun hm=>by rw [(hl.mem hm).1] at hbo;injection hbo).trans (hkb x o hbo)
 generalize hT0:({ cls:=.type "traceback",dict:=none,data:=.fields ([head,.ref L,.none,rawInt L,.none]++(if pl.isEmpty then List.replicate 6 Value.none else pl)).toArray }:Obj)=oT
 have he₂:(h₁.push oT).get? e=some oe:=Heap.get?_push_of_some oT he₁
 refine wpAny_setField he₂ hd hsz (h _ ?_ ?_ ?_)
 ·intro x o hbo
  have hxe:x≠e:=fun q=>by rw [q,hen] at hbo;injection hbo
  rw [Heap.get?_update_other _ _ (Ne.symm hxe)]
  exact Heap.get?_push_of_some _ (kb₁ x o hbo)
 ·intro x o hx hnf
  obtain ⟨sl,hs⟩:=hs₁.2.2 x o hx
  have hxe:x≠e:=fun q=>by
   rw [q,he] at hx;(injection hx with e1;subst e1)
   rcases hnf with hnf | ⟨T,hT,_⟩
   ·exact hnf vs hd
   ·rw [hcl] at hT;injection hT
  exact ⟨fun hS=>by rw [Heap.get?_update_other _ _ (Ne.symm hxe)];exact Heap.get?_push_of_some _ ((hs₁.2.1 x hS).trans hx),sl,by rw [Heap.get?_update_other _ _ (Ne.symm hxe)];exact Heap.get?_push_of_some _ hs⟩
 ·have hTe:h₁.objs.size≠e:=Nat.ne_of_gt (Heap.lt_size he₁)
  have hd₃:=Obj.data_mapFields hd (·.setIfInBounds 1 (Value.ref h₁.objs.size))
  have hTf:oT.isFreed=false:=by subst hT0;rfl
  refine ⟨hen,_,_,Heap.get?_update_self _ he₂ (Obj.isFreed_of_fields hd₃),(Obj.cls_mapFields _ _).trans hcl,?_,hd₃,.inr ⟨h₁.objs.size,oT,_,rawInt L,by simp [hsz],kb₁.fresh,hTe,?_,by subst hT0;rfl,by subst hT0;rfl,?_,rfl⟩⟩
  ·obtain ⟨oc,od,oda,osl⟩:=oe
   dsimp only at hd hdx
   subst hd hdx
   rfl
  ·rw [Heap.get?_update_other _ _ (Ne.symm hTe)]
   exact Heap.get?_push_size _ hTf
  ·simp
theorem ExcAt.mono {b h:Heap} {C:Addr} {dx e:Addr} {P P':Option Value→Prop} (x:ExcAt b C dx P e h) (k:∀ o,P o→P' o):ExcAt b C dx P' e h:=by
 obtain ⟨h1,oe,vs,h2,h3,h4,h5,h6⟩:=x
 refine ⟨h1,oe,vs,h2,h3,h4,h5,?_⟩
 rcases h6 with ⟨a,p⟩ | ⟨T,oT,ts,v,a1,a2,a3,a4,a45,a5,a6,p⟩
 ·exact .inl ⟨a,k _ p⟩
 ·exact .inr ⟨T,oT,ts,v,a1,a2,a3,a4,a45,a5,a6,k _ p⟩
theorem x_noteFrame {b:Heap} {env:Env} {outer:List Env} {L e dx:Addr} {C:Addr} {P:Option Value→Prop} {Q:Unit→Shared→Prop}
  (hfr:A.frames=some (env::outer)) (hl:s.heap.FunFrames b (env::outer)) (hf:env.frame=some L) (hkb:b.StaysIn s.heap)
  (hx:ExcAt b C dx P e s.heap) (hP:∀ o,P o→o=none∨o=some .none∨o=some (rawInt L))
  (h:∀ h',b.StaysIn h'→UpQ (framesOf (env::outer)) s.heap h'→ExcAt b C dx (fun o=>o=some (rawInt L)) e h'→Q () { s with heap:=h' }) :
  wpAny M A (noteFrame (.ref e) env) Q E s:=by
 obtain ⟨hen,oe,vs,he,hcls,hdx,hd,h6⟩:=hx
 unfold noteFrame
 simp only [hf]
 rcases h6 with ⟨h1,_⟩ | ⟨T,oT,ts,v,h1,hnT,hTe,hT,hTc,hdT,h3,p⟩
 ·refine wpAny_bind (wpAny_field he hd h1 ?_)
  rw [if_neg (by decide)]
  exact x_entry hfr hl hf he hkb hen hd hcls hdx (Array.getElem?_eq_some_iff.mp h1).1 h
 ·refine wpAny_bind (wpAny_field he hd h1 ?_)
  rw [if_pos (show (Value.ref T != Value.none)=true from by simp)]
  refine wpAny_bind (wpAny_field hT hdT h3 ?_)
  by_cases hv:v=rawInt L
  ·subst hv
   rw [if_pos (show (rawInt L==rawInt L)=true from by simp)]
   refine wpAny_pure ?_
   have:=h s.heap hkb (UpQ.refl _ _) ⟨hen,oe,vs,he,hcls,hdx,hd,.inr ⟨T,oT,ts,_,h1,hnT,hTe,hT,hTc,hdT,h3,rfl⟩⟩
   exact this
  ·have hv':¬((v==rawInt L)=true):=by simpa using hv
   rw [if_neg hv']
   refine wpAny_bind (wpAny_setField hT hdT (Array.getElem?_eq_some_iff.mp h3).1 ?_)
   have other:∀ x,x≠T→(s.heap.update T (Obj.mapFields (·.setIfInBounds 3 Value.none))).get? x=s.heap.get? x:=fun x hb=>Heap.get?_update_other _ _ (Ne.symm hb)
   have noRecord:∀ x o,s.heap.get? x=some o→Quiet o→x≠T:=fun x o hb hnf q=>by
    rw [q,hT] at hb;(injection hb with e1;subst e1)
    rcases hnf with hnf | ⟨T',hT',hne⟩
    ·exact hnf ts hdT
    ·rw [hTc] at hT';(injection hT' with e1;subst e1);exact hne rfl
   have kb':b.StaysIn (s.heap.update T (Obj.mapFields (·.setIfInBounds 3 Value.none))):=fun x o hbo=>(other x fun q=>by rw [q,hnT] at hbo;injection hbo).trans (hkb x o hbo)
   refine x_entry (s:={ s with heap:=s.heap.update T (Obj.mapFields (·.setIfInBounds 3 Value.none)) }) hfr (hl.of_keeps fun x o hb hnf=>⟨o,(other x (noRecord x o hb (.inl hnf))).trans hb,rfl⟩) hf ((other e (Ne.symm hTe)).trans he) kb' hen hd hcls hdx (Array.getElem?_eq_some_iff.mp h1).1 ?_
   intro h' k1 k2 k3
   exact h h' k1 (fun x o hb hnf=>k2 x o ((other x (noRecord x o hb hnf)).trans hb) hnf) k3
theorem x_setFlight {b:Heap} {e dx:Addr} {C:Addr} {P:Option Value→Prop} {fr:Option Addr} {Q:Unit→Shared→Prop}
  (hkb:b.StaysIn s.heap) (hx:ExcAt b C dx P e s.heap) (hP:¬P none)
  (h:∀ h',b.StaysIn h'→UpQ [] s.heap h'→ExcAt b C dx (fun o=>o=some (fr.elim .none fun f=>rawInt f)) e h'→Q () { s with heap:=h' }) :
  wpAny M A (setFlight (.ref e) fr) Q E s:=by
 obtain ⟨hen,oe,vs,he,hcls,hdx,hd,h6⟩:=hx
 rcases h6 with ⟨h1,p⟩ | ⟨T,oT,ts,v,h1,hnT,hTe,hT,hTc,hdT,h3,p⟩
 ·exact absurd p hP
 have hsz3:3<ts.size:=(Array.getElem?_eq_some_iff.mp h3).1
 unfold setFlight
 refine wpAny_bind (wpAny_field he hd h1 ?_)
 rw [if_pos (show (Value.ref T != Value.none)=true from by simp)]
 have other:∀ x,x≠T→(s.heap.update T (Obj.mapFields (·.setIfInBounds 3 (fr.elim Value.none fun f=>rawInt f)))).get? x=s.heap.get? x:=fun x hb=>Heap.get?_update_other _ _ (Ne.symm hb)
 refine wpAny_setField hT hdT hsz3 (h _ ?_ ?_ ?_)
 ·exact fun x o hbo=>(other x fun q=>by rw [q,hnT] at hbo;injection hbo).trans (hkb x o hbo)
 ·intro x o hb hnf
  have hxT:x≠T:=fun q=>by
   rw [q,hT] at hb;(injection hb with e1;subst e1)
   rcases hnf with hnf | ⟨T',hT',hne⟩
   ·exact hnf ts hdT
   ·rw [hTc] at hT';(injection hT' with e1;subst e1);exact hne rfl
  exact ⟨fun _=>(other x hxT).trans hb,o.slots,(other x hxT).trans hb⟩
 ·exact ⟨hen,oe,vs,(other e (Ne.symm hTe)).trans he,hcls,hdx,hd,.inr ⟨T,_,_,_,h1,hnT,hTe,Heap.get?_update_self _ hT (Obj.isFreed_of_fields (Obj.data_mapFields hdT _)),(Obj.cls_mapFields _ _).trans hTc,Obj.data_mapFields hdT _,by simp [hsz3],rfl⟩⟩
end
section
variable {c:Cfg} {F:Fx}
theorem ns_upQ {S:List Addr} {h h':Heap} {a:Addr} {m:Str→Option Value} (n:h.Ns a m) (k:UpQ S h h'):h'.Ns a m:=ns_of_slots n fun o ho=>(k a o ho (.inl fun vs q=>by
 obtain ⟨oo,es,ep,ho',hd,_⟩:=n
 (injection (ho.symm.trans ho') with e1;subst e1)
 rw [hd] at q;injection q)).2
theorem Fx.Ok.outer (ok:F.Ok) {H':AH} (k:Keeps F.T F.H0 H') (own:H' F.L=some .ns):∃ l,F.A.frames=some l∧OuterOk H' l:=by
 rcases ok.fr with ⟨frm,outer,hf,ho⟩ | ⟨_,l,hf,ho⟩
 ·refine ⟨_,hf,fun env he=>?_⟩
  rcases List.mem_cons.mp he with rfl | he
  ·exact ⟨by rw [ok.kind];decide,F.L,frm,own⟩
  ·exact ho.keeps ok.T0 k env he
 ·exact ⟨l,hf,ho.keeps ok.T0 k⟩
theorem XEg.un {P:Option Value→Prop} {e:Value} {s:Shared} {Z:Prop} (x:XEg c F P e s) (k:∀ a dx C H' kk at_ tk1 tk2 tg m,e=.ref a→Inv c H' s→H' F.L=some .ns→Keeps F.T F.H0 H'→NsKeep F.H0 F.h0 s.heap→ExcAt c.b C dx P a s.heap→nsIn c.K mainGlobals "ReadError" = some (some (.ref C)) →
  H' dx=some (.dict tg [("kind",.str kk tk1),("at",.int at_ tk2)])→s.heap.Ns F.L (look m)→F.X kk at_ m H'→Z):Z:=by
 obtain ⟨a,dx,C,H',kk,at_,tk1,tk2,tg,ml,e,I,own,kp,nk,ex,hC,hd,hm,hx⟩:=x
 exact k a dx C H' kk at_ tk1 tk2 tg ml e I own kp nk ex hC hd hm hx
theorem XEg.no {P:Option Value→Prop} {e:Value} {s:Shared} {Z:Prop} (h:∀ k n m H,¬F.X k n m H) (x:XEg c F P e s):Z:=x.un fun _ _ _ _ _ _ _ _ _ _ _ _ _ _ _ _ _ _ _ hx=>(h _ _ _ _ hx).elim
theorem ExcAt.un {b:Heap} {C dx e:Addr} {P:Option Value→Prop} {h:Heap} {Z:Prop} (x:ExcAt b C dx P e h) (k:∀ oe vs,b.get? e=none→h.get? e=some oe→oe.cls=.ref C→oe.dict=some dx→oe.data=.fields vs →
  ((vs[1]?=some .none∧P none)∨∃ T oT ts v,vs[1]?=some (.ref T)∧b.get? T=none∧T≠e∧h.get? T=some oT∧oT.cls=.type "traceback" ∧ oT.data=.fields ts∧ts[3]?=some v∧P (some v))→Z):Z:=by
 obtain ⟨a,oe,vs,h1,h2,h3,h4,h5⟩:=x
 exact k oe vs a h1 h2 h3 h4 h5
theorem xe_noteFrame (ok:F.Ok) {P:Option Value→Prop} (hP:∀ o,P o→AnyFl F o) {e:Value} {s:Shared} {E:Value→Shared→Prop} {Q:Unit→Shared→Prop} (x:XEg c F P e s)
  (h:∀ s',XEg c F (HeldFl F) e s'→Q () s'):wpAny (model c.prog c.w) F.A (noteFrame e F.env) Q E s:=by
 refine x.un fun a dx C H' k at_ tk1 tk2 tg ml ee I own kp nk ex hC hd hm hx=>?_
 subst ee
 rcases ok.fr with ⟨frm,outer,hf,ho⟩ | ⟨hno,_⟩
 ·have ho':OuterOk H' (F.env::outer):=fun env he=>by
   rcases List.mem_cons.mp he with rfl | he
   ·exact ⟨by rw [ok.kind];decide,F.L,frm,own⟩
   ·exact ho.keeps ok.T0 kp env he
  exact x_noteFrame hf (funFrames_of I ho') frm I.stays ex hP fun h' k1 k2 k3=>h _
   ⟨a,dx,C,H',k,at_,tk1,tk2,tg,ml,rfl,I.upto k1 k2 (framesOf_ns ho'),own,kp,NsKeep.upto I ok.T0 kp nk k2 (framesOf_ns ho'),k3,hC,hd,ns_upQ hm k2,hx⟩
 ·exact (hno _ _ _ _ hx).elim
theorem xe_setFlight (ok:F.Ok) {P:Option Value→Prop} (hP:¬P none) {e:Value} {fr:Option Addr} {s:Shared} {E:Value→Shared→Prop} {Q:Unit→Shared→Prop} (x:XEg c F P e s)
  (h:∀ s',XEg c F (fun o=>o=some (fr.elim .none fun f=>rawInt f)) e s'→Q () s') {A:Around}:wpAny (model c.prog c.w) A (setFlight e fr) Q E s:=by
 refine x.un fun a dx C H' k at_ tk1 tk2 tg ml ee I own kp nk ex hC hd hm hx=>?_
 subst ee
 exact x_setFlight I.stays ex hP fun h' k1 k2 k3=>h _
  ⟨a,dx,C,H',k,at_,tk1,tk2,tg,ml,rfl,I.upto k1 k2 (fun _ h=>nomatch h),own,kp,NsKeep.upto I ok.T0 kp nk k2 (fun _ h=>nomatch h),k3,hC,hd,ns_upQ hm k2,hx⟩
theorem XEg.mono {P P':Option Value→Prop} {e:Value} {s:Shared} (x:XEg c F P e s) (k:∀ o,P o→P' o):XEg c F P' e s:=by
 refine x.un fun a dx C H' kk at_ tk1 tk2 tg ml ee I own kp nk ex hC hd hm hx=>?_
 subst ee
 exact ⟨a,dx,C,H',kk,at_,tk1,tk2,tg,ml,rfl,I,own,kp,nk,ex.mono k,hC,hd,hm,hx⟩
theorem xe_leaving (ok:F.Ok) {e:Value} {s:Shared} {E:Value→Shared→Prop} {Q:Unit→Shared→Prop} (x:XE c F e s)
  (h:∀ s',XEg c F FreeFl e s'→Q () s'):wpAny (model c.prog c.w) F.A (leaving F.env e) Q E s:=by
 unfold leaving
 exact wpAny_bind (xe_noteFrame ok (fun _ p=>p) x fun s' x'=>xe_setFlight ok (fr:=none) (fun q=>by injection q) x' fun s'' x''=>h s'' x'')
theorem xe_noted (ok:F.Ok) {e:Value} {s:Shared} {E:Value→Shared→Prop} (x:XE c F e s) (h:∀ s',XEg c F (HeldFl F) e s'→E e s') :
  notedBy (model c.prog c.w) F.A F.env E e s:=xe_noteFrame ok (fun _ p=>p) x h
theorem xe_cameBack (ok:F.Ok) {e:Value} {s:Shared} (x:XEg c F (HeldFl F) e s):cameBackBy (model c.prog c.w) F.A F.env (XE c F) e s:=by
 unfold cameBackBy
 have x':=x
 refine x.un fun a dx C H' kk at_ tk1 tk2 tg ml ee I own kp nk ex hC hd hm hx=>?_
 subst ee
 obtain ⟨hen,oe,vs,he,hcls,hdx,hdd,h6⟩:=ex
 rcases h6 with ⟨h1,p⟩ | ⟨T,oT,ts,v,h1,hnT,hTe,hT,hTc,hdT,h3,p⟩
 ·injection p
 refine wpAny_bind (wpAny_field he hdd h1 ?_)
 rw [if_neg (show ¬((Value.ref T==Value.none)=true) from by simp)]
 rcases ok.fr with ⟨frm,_⟩ | ⟨hno,_⟩
 ·exact xe_setFlight ok (fun q=>by injection q) x' fun s'' x''=>x''.mono fun o q=>by rw [frm] at q;exact .inr (.inr q)
 ·exact (hno _ _ _ _ hx).elim
end
end Internal
end
section
namespace Internal
open PySem PySem.W PyProof.Rows
theorem look_eq (m:LM) (x:Str):look m x=m.lookup x:=by
 induction m with
 | nil=>rfl
 | cons p r ih=>
  obtain ⟨y,v⟩:=p
  simp only [look_c,List.lookup_cons]
  by_cases h:x=y
  ·subst h;simp
  ·have:(x==y)=false:=by simpa using h
   simp [h,ih,this]
noncomputable def XC (c:Cfg) (T:Nat) (H:AH) (h:Heap) (l:List Env) (X:Str→Int→AH→Prop) (e:Value) (s':Shared):Prop:=
 ∃ a dx C H' k at_ tk1 tk2 tg,e=.ref a∧Inv c H' s'∧Keeps T H H'∧NsKeep H h s'.heap ∧
  ExcAt c.b C dx FreeFl a s'.heap ∧
  nsIn c.K mainGlobals "ReadError" = some (some (.ref C)) ∧
  H' dx=some (.dict tg [("kind",.str k tk1),("at",.int at_ tk2)])∧X k at_ H'
noncomputable def CR (c:Cfg) (T:Nat) (H:AH) (s:Shared) (Q:Value→AH→Prop) (v:Value) (s':Shared):Prop:=
 ∃ H',Inv c H' s'∧Keeps T H H'∧NsKeep H s.heap s'.heap∧Q v H'
noncomputable def CP (Q:Value→Shared→Prop) (E:Value→Shared→Prop) (r:Result) (s':Shared):Prop:=match r with | .ok (.ret v)=>Q v s' | .ok _=>False | .error e=>E e s'
noncomputable def CC (c:Cfg) (r T:Nat) (f:Value) (args:List Value) (H:AH) (Q:Value→AH→Prop) (X:Str→Int→AH→Prop):Prop:=
 ∀ (A:Around) (s:Shared) (l:List Env),Room A r→A.handled=none→A.guards=some []→A.frames=some l→OuterOk H l→Inv c H s →
  codeAny (model c.prog c.w) A (.call f ⟨args,[]⟩) (CP (CR c T H s Q) (XC c T H s.heap l X)) s
theorem CC.mono {c:Cfg} {r T:Nat} {f:Value} {args:List Value} {H:AH} {Q Q':Value→AH→Prop} {X X':Str→Int→AH→Prop} (h:CC c r T f args H Q X)
  (kq:∀ v H',Keeps T H H'→Q v H'→Q' v H') (kx:∀ k a H',Keeps T H H'→X k a H'→X' k a H'):CC c r T f args H Q' X':=fun A s l rm hh gd fr oo I=>
 codeAny_mono (h A s l rm hh gd fr oo I) fun r s' z=>by
  rcases r with e | (v | _ | _ | _)
  ·obtain ⟨a,dx,C,H',k,at_,t1,t2,tg,e1,e2,e3,e4,e5,e6,e7,e8⟩:=z
   exact ⟨a,dx,C,H',k,at_,t1,t2,tg,e1,e2,e3,e4,e5,e6,e7,kx k at_ H' e3 e8⟩
  ·exact z.elim
  ·exact z.elim
  ·exact z.elim
  ·obtain ⟨H',a,b,d,e⟩:=z
   exact ⟨H',a,b,d,kq _ H' b e⟩
theorem Room.le {A:Around} {r r':Nat} (h:Room A r) (k:r'≤r):Room A r':=⟨by have:=h.depth;lia,by have:=h.units;lia⟩
theorem CC.rank {c:Cfg} {r r' T:Nat} {f:Value} {args:List Value} {H:AH} {Q:Value→AH→Prop} {X:Str→Int→AH→Prop} (h:CC c r T f args H Q X) (k:r≤r'):CC c r' T f args H Q X:=
 fun A s l rm=>h A s l (rm.le k)
section
variable {c:Cfg} {F:Fx} {m:LM} {H:AH} {Q:Value→AH→Prop}
theorem keeps_other {T T':Nat} {H0 H H':AH} (k:Keeps T H0 H) (k':Keeps T' H H') (hT:T'=T∨∀ a o,H0 a=some o→o.tag=T'→o.tag=T):Keeps T H0 H':=fun a o e=>by
 obtain ⟨h1,h2⟩:=k a o e
 constructor
 ·intro ht
  refine (k' a o (h1 ht)).1 fun q=>?_
  rcases hT with rfl | hT
  ·exact ht q
  ·exact ht (hT a o e q)
 ·cases q:H a with
  | none=>exact absurd q h2
  | some o₂=>exact (k' a o₂ q).2
theorem nsKeep_trans {T:Nat} {H0 H:AH} {h0 h h':Heap} (T0:T≠0) (k:Keeps T H0 H) (n:NsKeep H0 h0 h) (n':NsKeep H h h'):NsKeep H0 h0 h':=fun a p e hp o y=>by
 obtain ⟨z1,sl,h1⟩:=n a p e hp o y
 obtain ⟨z2,sl',h2⟩:=n' a p ((k a p e).1 (by rw [AObj.priv_tag hp];exact fun q=>T0 q.symm)) hp _ h1
 refine ⟨fun q=>?_,sl',h2⟩
 have h3:=z1 q
 have e:=Option.some.inj (h1.symm.trans h3)
 exact (z2 q).trans (congrArg some e)
theorem p_call {r T:Nat} {f:Value} {args:List Value} {Qc:Value→AH→Prop} {Xc:Str→Int→AH→Prop} (ok:F.Ok) (h:CC c r T f args H Qc Xc) (hr:r≤F.r) (T0:T≠0)
  (hT:T=F.T∨∀ a o,F.H0 a=some o→o.tag=T→o.tag=F.T)
  (kq:∀ v H',Keeps T H H'→Qc v H'→Q v H') (kx:∀ k a H',Keeps T H H'→Xc k a H'→F.X k a m H'):PW c F m H (PySem.call f args) Q:=fun s st=>by
 obtain ⟨l,hf,ho⟩:=ok.outer st.keep st.own
 refine wpAny_mono (wpAny_call (h F.A s _ (ok.room.le hr) ok.hd ok.gd hf ho st.inv)) ?_ ?_
 ·rintro v s' ⟨H',a,b,d,e⟩
  refine ⟨H',⟨a,ns_of_slots st.loc (fun o ho=>(d _ _ st.own trivial o ho).2),(b _ _ st.own).1 (fun q=>T0 q.symm),keeps_other st.keep b hT,nsKeep_trans ok.T0 st.keep st.nsk d,fun p hp=>?_⟩,kq v H' b e⟩
  obtain ⟨h1,h2,h3,o,h4,h5⟩:=st.its p hp
  exact ⟨h1,h2,(b _ _ h3).1 (fun q=>T0 q.symm),_,(d _ _ h3 trivial o h4).1 rfl,h5⟩
 ·rintro e s' ⟨a,dx,C,H',k,at_,t1,t2,tg,e1,e2,e3,e4,e5,e6,e7,e8⟩
  exact ⟨a,dx,C,H',k,at_,t1,t2,tg,m,e1,e2,(e3 _ _ st.own).1 (fun q=>T0 q.symm),keeps_other st.keep e3 hT,nsKeep_trans ok.T0 st.keep st.nsk e4,e5.mono fun o q=>.inr (.inl q),e6,e7,ns_of_slots st.loc (fun o ho=>(e4 _ _ st.own trivial o ho).2),kx k at_ H' e3 e8⟩
end
noncomputable def retOf (f:Flow):Value:=match f with | .ret v=>v | _=>.none
noncomputable def Ext (H H':AH):Prop:=∀ a o,H a=some o→H' a=some o
structure FnOk (K:Frag) (f:Addr) (fd:FuncData) (body:List Stmt):Prop where
 at_:∃ cls od sl,K.lookup f=some ⟨cls,od,.func fd,sl⟩
 glb:fd.globals=mainGlobals
 blt:fd.builtins=builtinsNs
 code:codeIn K fd.code fd.qualname=true
 body:fd.body=.stmts body
 cell:∀ x ∈ fd.scope.names,x.2≠.cell
 co:fd.scope.isCoroutine=false
 gen:fd.scope.isGenerator=false
 kind:fd.scope.kind=.function
theorem CC.intro {c:Cfg} (cok:c.Ok) {r T:Nat} {f:Addr} {fd:FuncData} {body:List Stmt} {args:List Value} {binds:LM} {H:AH} {Q:Value→AH→Prop} {X:Str→Int→AH→Prop}
  (fn:FnOk c.K f fd body) (hbind:∀ s:Shared,c.K.In s.heap→BindsTo s fd ⟨args,[]⟩ binds) (hloc:∀ x ∈ binds,fd.scope.names.lookup x.1=some .local) (T0:T≠0)
  (h:∀ (F:Fx) (H1:AH),F.Ok→F.T=T→F.r=r→F.env=callEnv fd F.L f→(F.X=fun k a _ H=>X k a H)→F.H0=H→Ext H H1→Keeps T H H1 →
   PS c F binds.reverse H1 (execs body F.env) (fun fl m' H'=>Q (retOf fl) H')):CC c (r+1) T (.ref f) args H Q X:=fun A s l rm hh gd fr oo I=>by
 obtain ⟨cls,od,sl,hat⟩:=fn.at_
 have hK:c.K.In s.heap:=cok.X.keeps I.stays
 refine (codeAny_call_def (by have:=rm.depth;lia) (hK _ _ hat) rfl (cok.nolimit.keeps I.stays) (codeRec_of hK fn.code) fn.body (hbind _ hK) fn.cell hloc ?_ fn.co fn.gen fn.kind)
 intro h₁ hns hk₁
 have hLn:H s.heap.objs.size=none:=by
  cases q:H s.heap.objs.size with
  | none=>rfl
  | some o=>obtain ⟨_,co,h2,_⟩:=I.obj _ _ q;exact absurd (Heap.lt_size h2) (Nat.lt_irrefl _)
 have hb:c.b.get? s.heap.objs.size=none:=I.stays.fresh
 let F:Fx:=⟨A.deeper (callEnv fd s.heap.objs.size f),callEnv fd s.heap.objs.size f,s.heap.objs.size,T,r,H,s.heap,fun k a _ H=>X k a H,[]⟩
 have hext:Ext H (H.set s.heap.objs.size .ns):=fun a o e=>by
  rw [AH.set_ne (by rintro rfl;rw [hLn] at e;injection e)];exact e
 have hke:Keeps T H (H.set s.heap.objs.size .ns):=fun a o e=>⟨fun _=>hext a o e,by rw [hext a o e];simp⟩
 have ok:F.Ok:=by
  refine ⟨T0,rfl,fn.glb,fn.blt,fn.kind,.inl ⟨rfl,l,Around.frames_deeper fr,oo⟩,hh,gd,⟨?_,?_⟩,hLn⟩
  ·show A.depth+1+r<recursionLimit;have:=rm.depth;lia
  ·show A.units+3+9*r<cLine;have:=rm.units;lia
 have st:St c F binds.reverse (H.set s.heap.objs.size .ns) { s with heap:=h₁,toks:=s.toks+binds.length }:=by
  refine ⟨⟨fun b o e=>hk₁ b o (I.stays b o e),fun a o e=>?_,I.gens,I.os⟩,?_,AH.set_self,hke,fun a p e hp o ho=>⟨fun _=>hk₁ _ _ ho,o.slots,hk₁ _ _ ho⟩,fun p hp=>(nomatch hp)⟩
  ·by_cases ha:a=s.heap.objs.size
   ·subst ha
    rw [AH.set_self] at e;(injection e with e1;subst e1)
    obtain ⟨oo,es,ep,ho,hd,_⟩:=hns
    exact ⟨hb,oo,ho,fun vs q=>by rw [hd] at q;injection q⟩
   ·rw [AH.set_ne ha] at e
    obtain ⟨h1,co,h2,h3⟩:=I.obj a o e
    exact ⟨h1,co,hk₁ _ _ h2,h3⟩
  ·show h₁.Ns s.heap.objs.size (look binds.reverse)
   have:look binds.reverse=fun x=>binds.reverse.lookup x:=funext fun x=>look_eq _ x
   rw [this];exact hns
 refine wpAny_mono (h F _ ok rfl rfl rfl rfl rfl hext hke _ st) ?_ ?_
 ·rintro fl s' ⟨m',H',st',q⟩
  cases fl<;>exact ⟨H',st'.inv,st'.keep,st'.nsk,q⟩
 ·rintro e s' x
  refine xe_leaving ok x fun s'' x''=>?_
  obtain ⟨a,dx,C,H',k,at_,tk1,tk2,tg,_,rfl,I',own,kp,nk,ex,hC,hd,_,hx⟩:=x''
  exact ⟨a,dx,C,H',k,at_,tk1,tk2,tg,rfl,I',kp,nk,ex,hC,hd,hx⟩
end Internal
end
section
namespace Internal
open PySem PySem.W PyProof.Rows
section
variable {c:Cfg} {F:Fx} {m:LM} {H:AH} {s:Shared}
theorem St.fresh (st:St c F m H s):H s.heap.objs.size=none:=by
 cases q:H s.heap.objs.size with
 | none=>rfl
 | some o=>obtain ⟨_,co,h2,_⟩:=st.inv.obj _ _ q;exact absurd (Heap.lt_size h2) (Nat.lt_irrefl _)
theorem St.fresh0 (st:St c F m H s) {a:Addr} (h:H a=none):F.H0 a=none:=by
 cases q:F.H0 a with
 | none=>rfl
 | some o=>exact absurd h (st.keep a o q).2
theorem Keeps.set_fresh {T:Nat} {H0 H:AH} {a:Addr} {o:AObj} (k:Keeps T H0 H) (h0:H0 a=none):Keeps T H0 (H.set a o):=fun x p e=>by
 have hx:x≠a:=by rintro rfl;rw [h0] at e;injection e
 rw [AH.set_ne hx];exact k x p e
theorem heap_lt {h:Heap} {a:Addr} {o:Obj} (e:h.get? a=some o):a≠h.objs.size:=Nat.ne_of_lt (Heap.lt_size e)
theorem St.alloc (st:St c F m H s) {o:Obj} {ao:AObj} (ho:OR c.prog c.w ao o) (hf:o.isFreed=false) (tk:Nat) :
  St c F m (H.set s.heap.objs.size ao) { s with heap:=s.heap.push o,toks:=tk }:=by
 have hn:=st.fresh
 have hg:∀ b o',s.heap.get? b=some o'→(s.heap.push o).get? b=some o':=fun b o' e=>Heap.get?_push_of_some _ e
 refine ⟨⟨fun b o' e=>hg _ _ (st.inv.stays b o' e),fun a p e=>?_,st.inv.gens,st.inv.os⟩,?_,?_,st.keep.set_fresh (st.fresh0 hn),fun a p e hp o' h'=>?_,fun p hp=>?_⟩
 ·by_cases ha:a=s.heap.objs.size
  ·subst ha
   rw [AH.set_self] at e;(injection e with e1;subst e1)
   exact ⟨st.inv.stays.fresh,o,Heap.get?_push_size _ hf,ho⟩
  ·rw [AH.set_ne ha] at e
   obtain ⟨h1,co,h2,h3⟩:=st.inv.obj a p e
   exact ⟨h1,co,hg _ _ h2,h3⟩
 ·exact st.loc.push o
 ·have:F.L≠s.heap.objs.size:=by rintro q;have:=st.own;rw [q,hn] at this;injection this
  rw [AH.set_ne this];exact st.own
 ·obtain ⟨h1,sl,h2⟩:=st.nsk a p e hp o' h'
  exact ⟨fun q=>hg _ _ (h1 q),sl,hg _ _ h2⟩
 ·obtain ⟨h1,h2,h3,o',h4,h5⟩:=st.its p hp
  refine ⟨h1,h2,?_,o',hg _ _ h4,h5⟩
  rw [AH.set_ne (by rintro q;rw [q,hn] at h3;injection h3)];exact h3
theorem St.alloc' (st:St c F m H s) {o:Obj} (tk:Nat):St c F m H { s with heap:=s.heap.push o,toks:=tk }:=by
 have hg:∀ b o',s.heap.get? b=some o'→(s.heap.push o).get? b=some o':=fun b o' e=>Heap.get?_push_of_some _ e
 refine ⟨⟨fun b o' e=>hg _ _ (st.inv.stays b o' e),fun a p e=>?_,st.inv.gens,st.inv.os⟩,st.loc.push o,st.own,st.keep,fun a p e hp o' h'=>?_,fun p hp=>?_⟩
 ·obtain ⟨h1,co,h2,h3⟩:=st.inv.obj a p e
  exact ⟨h1,co,hg _ _ h2,h3⟩
 ·obtain ⟨h1,sl,h2⟩:=st.nsk a p e hp o' h'
  exact ⟨fun q=>hg _ _ (h1 q),sl,hg _ _ h2⟩
 ·obtain ⟨h1,h2,h3,o',h4,h5⟩:=st.its p hp
  exact ⟨h1,h2,h3,o',hg _ _ h4,h5⟩
noncomputable def Mine (F:Fx) (a:Addr) (o:AObj):Prop:=o.tag=F.T∨F.H0 a=none
theorem St.change (ok:F.Ok) (st:St c F m H s) {a:Addr} {ao ao':AObj} {co':Obj} {h':Heap} (ha:H a=some ao) (hp:¬ao.priv) (hm:Mine F a ao) (ht:ao'.tag=ao.tag)
  (hs:Heap.SameBut a s.heap h') (hc:h'.get? a=some co') (ho:OR c.prog c.w ao' co') (tk:Nat) :
  St c F m (H.set a ao') { s with heap:=h',toks:=tk }:=by
 obtain ⟨hb,co,hg,_⟩:=st.inv.obj a ao ha
 have hne:∀ x p,H x=some p→p.priv→x≠a:=fun x p e hpp=>by rintro rfl;rw [ha] at e;(injection e with e1;subst e1);exact hp hpp
 refine ⟨⟨fun b o' e=>?_,fun x p e=>?_,st.inv.gens,st.inv.os⟩,?_,?_,?_,fun x p e hpp o' h''=>?_,fun p hpp=>?_⟩
 ·exact (hs.2 b (by rintro rfl;rw [hb] at e;injection e)).trans (st.inv.stays b o' e)
 ·by_cases hx:x=a
  ·subst hx
   rw [AH.set_self] at e;(injection e with e1;subst e1)
   exact ⟨hb,co',hc,ho⟩
  ·rw [AH.set_ne hx] at e
   obtain ⟨h1,co,h2,h3⟩:=st.inv.obj x p e
   exact ⟨h1,co,(hs.2 x hx).trans h2,h3⟩
 ·exact st.loc.sameBut hs (hne _ _ st.own trivial)
 ·rw [AH.set_ne (hne _ _ st.own trivial)];exact st.own
 ·intro x p e
  by_cases hx:x=a
  ·subst hx
   refine ⟨fun hq=>?_,by rw [AH.set_self];simp⟩
   rcases hm with hm | hm
   ·have:=(st.keep x p e).1 hq
    rw [ha] at this;(injection this with e1;subst e1)
    exact absurd hm hq
   ·rw [hm] at e;injection e
  ·rw [AH.set_ne hx];exact st.keep x p e
 ·by_cases hx:x=a
  ·subst hx
   exfalso
   have hH:=(st.keep x p e)
   by_cases hq:p.tag=F.T
   ·exact ok.T0 (hq.symm.trans (AObj.priv_tag hpp))
   ·have:=hH.1 hq
    exact hne x p this hpp rfl
  ·obtain ⟨h1,sl,h2⟩:=st.nsk x p e hpp o' h''
   exact ⟨fun q=>(hs.2 x hx).trans (h1 q),sl,(hs.2 x hx).trans h2⟩
 ·obtain ⟨h1,h2,h3,o',h4,h5⟩:=st.its p hpp
  have hx:=hne _ _ h3 trivial
  exact ⟨h1,h2,by rw [AH.set_ne hx];exact h3,o',(hs.2 _ hx).trans h4,h5⟩
variable {Q:Value→AH→Prop}
theorem p_newList {vs:List Value} (tg:Nat) (h:∀ a,H a=none→Q (.ref a) (H.set a (.list tg vs))) (hsz:vs.length≤sizeLine):PW c F m H (newList vs) Q:=fun s st=>
 wpAny_newObj_type ⟨_,st.alloc (o:={ cls:=.type "list",data:=.seq vs.toArray }) (ao:=.list tg vs) ⟨_,rfl⟩ rfl s.toks,h _ st.fresh⟩ (by show vs.toArray.size≤sizeLine;simpa using hsz)
theorem p_newTuple {vs:List Value} (h:∀ a,H a=none→Q (.ref a) (H.set a (.tup vs))) (hsz:vs.length≤sizeLine):PW c F m H (newTuple vs) Q:=fun s st=>
 wpAny_newObj_type ⟨_,st.alloc (o:={ cls:=.type "tuple",data:=.seq vs.toArray }) (ao:=.tup vs) ⟨_,rfl⟩ rfl s.toks,h _ st.fresh⟩ (by show vs.toArray.size≤sizeLine;simpa using hsz)
theorem St.list (st:St c F m H s) {a:Addr} {t:Nat} {vs:List Value} (h:H a=some (.list t vs)):s.heap.PlainList a vs.toArray:=by
 obtain ⟨_,co,h2,n,rfl⟩:=st.inv.obj a _ h
 exact ⟨n,h2⟩
theorem St.tup (st:St c F m H s) {a:Addr} {vs:List Value} (h:H a=some (.tup vs)):IsTup s.heap a vs.toArray:=by
 obtain ⟨_,co,h2,n,rfl⟩:=st.inv.obj a _ h
 exact ⟨_,h2,rfl,n,rfl⟩
theorem p_listMethod {a:Addr} {t:Nat} {vs:List Value} {name:Str} {id:String} {pl:Sem Bool} {Q:Value × List Value→AH→Prop} (ha:H a=some (.list t vs)) (slot:Slot "list" name id)
  (hty:typeOf (.builtin id)=pure (.type "method_descriptor")) (h:Q (.builtin id,[.ref a]) H):PW c F m H (getMethod (.ref a) name pl) Q:=fun s st=>by
 obtain ⟨n,hn⟩:=st.list ha
 exact getMethod_builtin ⟨_,hn,rfl⟩ PySem.F.plainAttrs_list slot hty (fun a e=>by (injection e with e1;subst e1);exact ⟨_,hn,rfl⟩) ⟨H,st,h⟩
theorem p_append (ok:F.Ok) {a:Addr} {t:Nat} {vs:List Value} {x:Value} (ha:H a=some (.list t vs)) (hm:t=F.T∨F.H0 a=none) (h:Q .none (H.set a (.list t (vs++[x])))) (hsz:vs.length≤sizeLine) :
  PW c F m H (call (.builtin "list.append") [.ref a,x]) Q:=fun s st=>
 wpAny_list_append_plain (st.list ha) (fun h' hp hs=>by
  obtain ⟨n,hn⟩:=hp
  exact ⟨_,st.change ok (ao':=.list t (vs++[x])) ha (fun q=>q) hm rfl hs hn ⟨n,by simp⟩ _,h⟩) (by simpa using hsz)
theorem p_pop (ok:F.Ok) {a:Addr} {t:Nat} {vs:List Value} {x:Value} (ha:H a=some (.list t (vs++[x]))) (hm:t=F.T∨F.H0 a=none) (h:Q x (H.set a (.list t vs))) (hsz:vs.length<sizeLine) :
  PW c F m H (call (.builtin "list.pop") [.ref a]) Q:=fun s st=>by
 obtain ⟨n,hn⟩:=st.list ha
 have hz:(vs++[x]).toArray.size≤sizeLine:=by simp;lia
 refine call_meets PySem.F.slot_list_pop ⟨_,hn,rfl⟩ PySem.F.entry_list_pop (PySem.F.args_list_pop_1 _) (PySem.MeetsSeq.list_pop_last a _ n x (by simp) hz) ⟨hn,?_⟩
 have hu:=PySem.IsL.update hn (fun xs=>xs.eraseIdxIfInBounds ((vs++[x]).toArray.size - 1))
 have e:(vs++[x]).toArray.eraseIdxIfInBounds ((vs++[x]).toArray.size - 1)=vs.toArray:=by
  apply Array.toList_inj.mp
  simp [Array.eraseIdxIfInBounds,List.eraseIdx_append_of_length_le]
 rw [e] at hu
 exact ⟨_,st.change ok (ao':=.list t vs) ha (fun q=>q) hm rfl (Heap.SameBut.update ..) hu ⟨_,rfl⟩ s.toks,h⟩
theorem p_lenList {a:Addr} {t:Nat} {vs:List Value} (ha:H a=some (.list t vs)) (h:∀ tk,Q (.int vs.length tk) H) (hsz:vs.length≤sizeLine):PW c F m H (call (.builtin "len") [.ref a]) Q:=fun s st=>by
 refine Calls.call_len_list (st.list ha).isList ?_ ?_
 ·have:sizeLine=2 ^ 24:=rfl
  simp;lia
 ·have:=h (s.toks+1)
  exact ⟨H,(st.toks _),by simpa using this⟩
theorem p_getList {a:Addr} {t:Nat} {vs:List Value} {k:Int} {tk:Tok} {x:Value} (ha:H a=some (.list t vs)) (h0:0≤k) (hx:vs[k.toNat]?=some x) (h:Q x H) (hsz:vs.length≤sizeLine) :
  PW c F m H (getItem (.ref a) (.int k tk)) Q:=fun s st=>
 wpAny_getItem_list (st.list ha).isList h0 (by
  have:sizeLine=2 ^ 24:=rfl
  have:=(List.getElem?_eq_some_iff.mp hx).1
  lia) (by simpa using hx) ⟨H,st,h⟩
theorem p_getLast {a:Addr} {t:Nat} {vs:List Value} {tk:Tok} {x:Value} (ha:H a=some (.list t (vs++[x]))) (h:Q x H):PW c F m H (getItem (.ref a) (.int (-1) tk)) Q:=fun s st=>
 wpAny_getItem_list_neg (st.list ha).isList (by decide) (by simp;lia) (by decide) (by
  have:((-1:Int)+(vs++[x]).toArray.size).toNat=vs.length:=by simp;lia
  rw [this];simp) ⟨H,st,h⟩
theorem p_tailList {value slice:Expr} {a:Addr} {t:Nat} {vs:List Value} {i:Value} {ops:List Value} (ha:H a=some (.list t vs)) (h:PW c F m H (getItem (.ref a) i) Q)
  (hs:subscripted slice false (.ref a) i=operate ops (getItem (.ref a) i)):PW c F m H (subscriptTail value slice (.ref a) i) Q:=fun s st=>
 tail_any (st.list ha).isList.typeIs slot_list_getitem.lookup (h s st) hs
theorem p_setList (ok:F.Ok) {a:Addr} {t:Nat} {vs:List Value} {k:Int} {tk:Tok} {v:Value} {Q:Unit→AH→Prop} (ha:H a=some (.list t vs)) (hm:t=F.T∨F.H0 a=none) (h0:0≤k) (hk:k<vs.length)
  (h:Q () (H.set a (.list t (vs.set k.toNat v)))) (hsz:vs.length≤sizeLine):PW c F m H (setItem (.ref a) (.int k tk) v) Q:=fun s st=>by
 obtain ⟨n,hn⟩:=st.list ha
 have hl:sizeLine=2 ^ 24:=rfl
 refine ki_setAt (n:=n) hn h0 (by lia) (by simpa using hk) ?_
 have hu:=PySem.IsL.update hn (fun xs=>xs.setIfInBounds k.toNat v)
 have e:vs.toArray.setIfInBounds k.toNat v=(vs.set k.toNat v).toArray:=by simp
 rw [e] at hu
 exact ⟨_,st.change ok (ao':=.list t (vs.set k.toNat v)) ha (fun q=>q) hm rfl (Heap.SameBut.update ..) hu ⟨_,rfl⟩ s.toks,h⟩
end
end Internal
end
section
namespace Internal
open PySem PySem.W PyProof.Rows PySem.Calls Builtin Builtin.ObjectAttr
section
variable {prog:Program} {w:World}
theorem isStr_is (x:Str) (v:Value):v.isStr x=(PySem.strKind prog w).is x v:=isStr_of x v
theorem isStrOf_str {k:Str} {v:Value} (h:(PySem.strKind prog w).is k v=true):∃ t,v=.str k t:=by
 cases v<;>simp_all [PySem.strKind,Value.isStrOf]
theorem lookIn_of {o:Obj} {kvs:List (Str × Value)} (h:o.IsDictOf (PySem.strKind prog w) kvs) (name:Str):lookIn name o=some (valueAt kvs name):=by
 obtain ⟨es,ep,_,hd,hk,hp,_⟩:=h
 unfold lookIn
 rw [hd]
 dsimp only
 have q:(fun e:DictEntry=>e.key.isStr name)=fun e=>(PySem.strKind prog w).is name e.key:=funext fun e=>isStr_is name e.key
 rw [q,← hp.find name]
 cases hf:es.toList.find? (fun e=>(PySem.strKind prog w).is name e.key) with
 | some e=>rfl
 | none=>
  have:es.toList.any (·.refKey)=false:=by
   rw [List.any_eq_false]
   intro e he
   obtain ⟨k,h1,_⟩:=hk e (Array.mem_toList_iff.mp he)
   obtain ⟨t,ht⟩:=isStrOf_str h1
   simp [DictEntry.refKey,ht]
  simp [this]
theorem putName_of {o:Obj} {kvs:List (Str × Value)} (h:o.IsDictOf (PySem.strKind prog w) kvs) (name:Str) (t:Tok) (v:Value) :
  (Obj.putName name (PyData.keyHash w.params name) (.str name t) v o).IsDictOf (PySem.strKind prog w) (stored kvs name v):=by
 obtain ⟨es,ep,⟨h1,h2,h3⟩,hd,hk,hp,hn⟩:=h
 obtain ⟨oc,od,oda,osl⟩:=o
 dsimp only at hd h1 h2 h3
 subst hd h1 h2 h3
 rw [Obj.putName_eq]
 unfold Obj.putNameByArray
 dsimp only
 have q:(fun e:DictEntry=>e.key.isStr name)=fun e=>(PySem.strKind prog w).is name e.key:=funext fun e=>isStr_is name e.key
 rw [q]
 have hidx:(es.findIdx? fun e=>(PySem.strKind prog w).is name e.key)=kvs.findIdx? fun kv=>decide (kv.1=name):=by
  rw [← hp.findIdx name];obtain ⟨l⟩:=es;simp
 have hkey:=strKind_is prog w name t
 cases hi:es.findIdx? fun e=>(PySem.strKind prog w).is name e.key with
 | some i=>
  refine ⟨_,ep,⟨rfl,rfl,rfl⟩,rfl,hk.modify _ _,?_,?_⟩
  ·rw [stored,if_pos (any_of_findIdx_some (hidx▸hi))]
   have hl:(es.toList.findIdx? fun e=>(PySem.strKind prog w).is name e.key)=some i:=by rw [← hi];obtain ⟨l⟩:=es;simp
   have:=hp.modify hn hl v
   obtain ⟨l⟩:=es
   simpa using this
  ·rw [stored,if_pos (any_of_findIdx_some (hidx▸hi)),keys_map_store];exact hn
 | none=>
  have hnot:name ∉ kvs.map (·.1):=not_mem_of_findIdx_none (hidx▸hi)
  have hany:¬(kvs.any fun kv=>decide (kv.1=name))=true:=by
   rw [List.any_eq_true];rintro ⟨kv,hkv,he⟩
   exact hnot (List.mem_map.mpr ⟨kv,hkv,of_decide_eq_true he⟩)
  refine ⟨_,ep+1,⟨rfl,rfl,rfl⟩,rfl,hk.push hkey _,?_,?_⟩
  ·rw [stored,if_neg hany]
   have:=hp.append hkey (PyData.keyHash w.params name) v
   obtain ⟨l⟩:=es
   simpa using this
  ·rw [stored,if_neg hany,List.map_append,List.nodup_append]
   refine ⟨hn,by simp,?_⟩
   intro a ha b hb
   simp at hb
   subst hb
   rintro rfl
   exact hnot ha
end
section
variable {c:Cfg} {F:Fx} {m:LM} {H:AH} {s:Shared} {Q:Value→AH→Prop}
theorem St.dict (st:St c F m H s) {a:Addr} {t:Nat} {es:List (Str × Value)} (h:H a=some (.dict t es)):s.heap.DictOf (PySem.strKind c.prog c.w) a es:=by
 obtain ⟨_,co,h2,h3⟩:=st.inv.obj a _ h
 exact Heap.dictOf_iff.mpr ⟨co,h2,h3⟩
theorem St.inst (st:St c F m H s) {x C dx:Addr} {t:Nat} {es:List (Str × Value)} (hx:H x=some (.inst C dx)) (hd:H dx=some (.dict t es)) :
  ∃ od,s.heap.get? dx=some od∧od.IsDictOf (PySem.strKind c.prog c.w) es∧InstAt s.heap x { cls:=.ref C,dict:=some dx,data:=.plain } C (some od):=by
 obtain ⟨_,co,h2,h3⟩:=st.inv.obj x _ hx
 obtain ⟨_,cd,h4,h5⟩:=st.inv.obj dx _ hd
 subst h3
 exact ⟨cd,h4,h5,⟨h2,rfl,rfl,h4⟩⟩
theorem p_getDict {a:Addr} {t:Nat} {es:List (Str × Value)} {k:Str} {tk:Tok} {v:Value} (ha:H a=some (.dict t es)) (hv:valueAt es k=some v) (h:Q v H):PW c F m H (getItem (.ref a) (.str k tk)) Q:=fun s st=>by
 obtain ⟨o,es',ep,h1,h2,h3,h4,h5,h6⟩:=st.dict ha
 refine wpAny_getItem_of (f:=fun k=>valueAt es k) (strKind_is c.prog c.w k tk) ⟨o,es',ep,h1,h2,h3,h4,fun k=>?_⟩ hv ⟨H,st.toks _,h⟩
 show _=valueAt es k
 rw [← h5.find k]
 unfold findBy
 rw [← Array.find?_toList]
theorem p_setDict (ok:F.Ok) {a:Addr} {t:Nat} {es:List (Str × Value)} {k:Str} {tk:Tok} {v:Value} {Q:Unit→AH→Prop} (ha:H a=some (.dict t es)) (hm:t=F.T∨F.H0 a=none)
  (h:Q () (H.set a (.dict t (stored es k v)))) (hsz:es.length≤sizeLine):PW c F m H (setItem (.ref a) (.str k tk) v) Q:=fun s st=>
 wpAny_setItem_pairs (strKind_is c.prog c.w k tk) (st.dict ha) (fun h' hd hs=>by
  obtain ⟨o,ho,hd⟩:=Heap.dictOf_iff.mp hd
  exact ⟨_,st.change ok (ao':=.dict t (stored es k v)) ha (fun q=>q) hm rfl hs ho hd _,h⟩) hsz
theorem p_tailDict {value slice:Expr} {a:Addr} {t:Nat} {es:List (Str × Value)} {i:Value} {ops:List Value} (ha:H a=some (.dict t es)) (h:PW c F m H (getItem (.ref a) i) Q)
  (hs:subscripted slice false (.ref a) i=operate ops (getItem (.ref a) i)):PW c F m H (subscriptTail value slice (.ref a) i) Q:=fun s st=>by
 obtain ⟨o,es',ep,h1,h2,_⟩:=st.dict ha
 exact tail_any (T:="dict") ⟨o,h1,h2.1⟩ slot_dict_getitem.lookup (h s st) hs
theorem p_getField (cok:c.Ok) {x C dx:Addr} {t:Nat} {es:List (Str × Value)} {name:Str} {v:Value} {attr:Option Value} {ex:Bool} (hx:H x=some (.inst C dx)) (hd:H dx=some (.dict t es))
  (hv:valueAt es name=some v) (hh:handedIn v=true) (h:Q v H) (hg:plainGet c.K C name=true) (hc:hasDictIn c.K C=true) (ha:findIn c.K (.ref C) name=some attr) (hn:noGet c.K attr=true) :
  PW c F m H (getAttr (.ref x) name ex) Q:=fun s st=>by
 obtain ⟨od,h1,h2,I⟩:=st.inst hx hd
 exact get_value (st.K cok) I (plainGet_of hg).1 (findObj_own hc ha hn (by rw [lookIn_of h2,hv])) hh ⟨H,st.toks _,h⟩
theorem p_getMethod (cok:c.Ok) {x C dx f:Addr} {t:Nat} {es:List (Str × Value)} {name:Str} {pl:Sem Bool} {Q:Value × List Value→AH→Prop} (hx:H x=some (.inst C dx)) (hd:H dx=some (.dict t es))
  (hv:valueAt es name=none) (h:Q (.ref f,[.ref x]) H) (hg:plainGet c.K C name=true) (hf:findIn c.K (.ref C) name=some (some (.ref f))) (ht:isFn c.K (.ref f)=true) :
  PW c F m H (getMethod (.ref x) name pl) Q:=fun s st=>by
 obtain ⟨od,h1,h2,I⟩:=st.inst hx hd
 exact method_fn (st.K cok) I (plainGet_of hg).1 (plainGet_of hg).2 hf (beq_iff_eq.mp ht) (by show (lookIn name od).map _=_;rw [lookIn_of h2,hv];rfl) ⟨H,st,h⟩
theorem setField_core (X:c.K.In s.heap) {x C dx:Addr} {od:Obj} {es:List (Str × Value)} {name:Str} {v:Value} {A:Around} {E:Value→Shared→Prop} {Q:Unit→Shared→Prop} (h1:s.heap.get? dx=some od) (h2:od.IsDictOf (PySem.strKind c.prog c.w) es) (I:InstAt s.heap x { cls:=.ref C,dict:=some dx,data:=.plain } C (some od))
  (hs:findIn c.K (.ref C) "__setattr__" = some (some (.builtin "object.__setattr__"))) (hp:plainOver c.K C=true) (ht:takerIn c.K C name=some none) (hc:hasDictIn c.K C=true) (hz:es.length≤1000)
  (h:∀ h' od' tk,Heap.SameBut dx s.heap h'→h'.get? dx=some od'→od'.IsDictOf (PySem.strKind c.prog c.w) (stored es name v)→Q () { s with heap:=h',toks:=tk }):wpAny (model c.prog c.w) A (setAttr (.ref x) name v) Q E s:=by
 refine set_plain X I hs ?_
 refine osa_open (s:={ s with toks:=s.toks+1 }) X I hp ht fun b=>?_
 obtain ⟨cd,hcd,hcd'⟩:=any_some hc
 have hnew:=putName_of (prog:=c.prog) (w:=c.w) h2 name (s.toks+1) v
 obtain ⟨es',ep,hex,hdat,hks,hps,hnd⟩:=id h2
 have hfree:(Obj.putName name (PyData.keyHash c.w.params name) (.str name (s.toks+1)) v od).isFreed=false:=by
  obtain ⟨es2,ep2,_,hd2,_⟩:=hnew
  exact Obj.isFreed_of_dict hd2
 have hup:=Heap.get?_update_self (Obj.putName name (PyData.keyHash c.w.params name) (.str name (s.toks+1)) v) h1 hfree
 have hxx:=I.at_
 refine wpAny_bind (wpAny_pure (wpAny_bind (wpAny_bind (wpAny_loadPart hxx (wpAny_bind (looks_clsIn X hcd _ _ _ _ (fun _ _ e=>e) ?_))))))
 rw [hcd']
 refine wpAny_pure (a:=some dx) (wpAny_bind (wpAny_pure (wpAny_bind ?_)))
 unfold nsSet
 refine wpAny_bind (wpAny_bind (wpAny_askSetting (wpAny_pure (wpAny_bind (wpAny_mkText (wpAny_bind (wpAny_loadPart h1 ?_)))))))
 rw [hdat]
 dsimp only
 have cc:(!es'.any (·.key.isStr name)&&es'.any (·.refKey))=false:=by
  have:es'.any (·.refKey)=false:=by
   rw [Array.any_eq_false']
   intro e he
   obtain ⟨k,q1,_⟩:=hks e he
   obtain ⟨tt,q2⟩:=isStrOf_str q1
   simp [DictEntry.refKey,q2]
  rw [this,Bool.and_false]
 rw [aRefKeyMayBeTheName_at,cc]
 refine wpAny_updatePart h1 ?_
 obtain ⟨es2,ep2,_,hd2,_,hp2,_⟩:=id hnew
 have hl2:es2.size≤sizeLine+1:=by
  have a1:=hp2.length
  have a2:es2.toList.length=es2.size:=by simp
  have a3:(stored es name v).length≤es.length+1:=by
   unfold stored;split<;>simp
  have:sizeLine=2 ^ 24:=rfl
  lia
 exact wpAny_bind (wpAny_lookBehind hup (by rw [hd2];exact pastItsLine_dict hl2) (wpAny_pure (h _ _ _ (Heap.SameBut.update ..) hup hnew)))
theorem p_setField (cok:c.Ok) (ok:F.Ok) {x C dx:Addr} {t:Nat} {es:List (Str × Value)} {name:Str} {v:Value} {Q:Unit→AH→Prop} (hx:H x=some (.inst C dx)) (hd:H dx=some (.dict t es)) (hm:t=F.T∨F.H0 dx=none)
  (h:Q () (H.set dx (.dict t (stored es name v)))) (hs:findIn c.K (.ref C) "__setattr__" = some (some (.builtin "object.__setattr__"))) (hp:plainOver c.K C=true) (ht:takerIn c.K C name=some none) (hc:hasDictIn c.K C=true) (hz:es.length≤1000) :
  PW c F m H (setAttr (.ref x) name v) Q:=fun s st=>by
 obtain ⟨od,h1,h2,I⟩:=st.inst hx hd
 exact setField_core (st.K cok) h1 h2 I hs hp ht hc hz fun h' od' tk hs' hup hnew=>⟨_,st.change ok (ao':=.dict t (stored es name v)) hd (fun q=>q) hm rfl hs' hup hnew _,h⟩
end
end Internal
end
section
namespace Internal
open PySem PySem.W PyProof.Rows
section
variable {c:Cfg} {F:Fx} {m:LM} {H:AH} {R:Flow→LM→AH→Prop}
noncomputable def NX (c:Cfg) (F:Fx) (rest:List Stmt) (R:Flow→LM→AH→Prop):Flow→LM→AH→Prop:=fun f m' H'=>match f with
 | .next=>PS c F m' H' (execs rest F.env) R
 | f=>R f m' H'
theorem q_nil (h:R .next m H):PS c F m H (execs [] F.env) R:=PS.pure h
theorem q_cons {st:Stmt} {rest:List Stmt} (h:PS c F m H (exec st F.env) (NX c F rest R)):PS c F m H (execs (st::rest) F.env) R:=by
 rw [execs_cons]
 refine PS.bind (h.mono fun f m' H' h'=>?_)
 cases f<;>first | exact h' | exact PS.pure h'
theorem q_one {st:Stmt} (h:PS c F m H (exec st F.env) R):PS c F m H (execs [st] F.env) R:=q_cons (h.mono fun f m' H' h'=>by
 cases f<;>first | exact h' | exact q_nil h')
theorem q_assignN (ok:F.Ok) {x:Str} {p pos:Pos} {value:Expr} {rest:List Stmt} (h:PW c F m H (eval value F.env) fun v H'=>PS c F (setL x v m) H' (execs rest F.env) R)
  (hl:F.env.kindOf x=some .local) (hs:swapsWith value (some (.Name x p)) pos.line F.env=pure false):PS c F m H (execs (.Assign [.Name x p] value pos::rest) F.env) R:=by
 refine q_cons ?_
 rw [exec_Assign_Name F.env x p value pos hs]
 exact PS.bindW (PW.standAt (PS.bindW (h.mono fun v H' h'=>PS.bindW (PW.standAt (PS.bind (PS.bindName ok (PS.pure h') hl))))))
theorem q_expr {e:Expr} {pos:Pos} {rest:List Stmt} (h:PW c F m H (eval e F.env) fun v H'=>PS c F m H' (execs rest F.env) R)
  (hi:interactive F.env=false) (hs:swapsWith e none pos.line F.env=pure false):PS c F m H (execs (.Expr e pos::rest) F.env) R:=by
 refine q_cons ?_
 rw [exec_Expr F.env e pos hi hs]
 refine PS.bindW (PW.standAt (PS.bindW (h.mono fun v H' h'=>?_)))
 exact fun s st=>wpAny_dropValue ⟨_,H',st,h'⟩
theorem interactive_fn {env:Env} (h:env.scope.kind=.function):interactive env=false:=by unfold interactive;rw [h];rfl
theorem q_ret {e:Expr} {pos:Pos} {rest:List Stmt} (h:PW c F m H (eval e F.env) fun v H'=>R (.ret v) m H'):PS c F m H (execs (.Return (some e) pos::rest) F.env) R:=by
 refine q_cons ?_
 rw [exec_Return_some]
 exact PS.bindW (PW.standAt (PS.bindW (h.mono fun v H' h'=>PS.pure h')))
theorem q_brk {pos:Pos} {rest:List Stmt} (h:R .brk m H):PS c F m H (execs (.Break pos::rest) F.env) R:=by
 refine q_cons ?_
 show PS c F m H (standAt pos >>= fun _=>pure Flow.brk) _
 exact PS.bindW (PW.standAt (PS.pure h))
theorem q_pass {pos:Pos} {rest:List Stmt} (h:PS c F m H (execs rest F.env) R):PS c F m H (execs (.Pass pos::rest) F.env) R:=by
 refine q_cons ?_
 show PS c F m H (standAt pos >>= fun _=>pure Flow.next) _
 exact PS.bindW (PW.standAt (PS.pure h))
theorem q_if {t:Expr} {b o:List Stmt} {pos:Pos} {rest:List Stmt} (h:PW c F m H (isTrue t F.env (eval t F.env)) fun v H'=>if v then PS c F m H' (execs b F.env) (NX c F rest R) else PS c F m H' (execs o F.env) (NX c F rest R)) :
  PS c F m H (execs (.If t b o pos::rest) F.env) R:=by
 refine q_cons ?_
 rw [exec_If]
 refine PS.bindW (PW.standAt (PS.bindW (h.mono fun v H' h'=>?_)))
 cases v<;>exact h'
theorem release_unit {vs ks:List Value} {f:Unit→Sem Flow} (h:PS c F m H (f ()) R):PS c F m H (release vs ks >>= f) R:=PS.bindW (PW.release h)
theorem q_assign1 {t value:Expr} {pos:Pos} {rest:List Stmt} (h:PW c F m H (eval value F.env) fun v H1=>PS c F m H1 (assign t F.env v) fun _ m2 H2=>PS c F m2 H2 (execs rest F.env) R)
  (he:exec (.Assign [t] value pos) F.env=(do standAt pos;let v ← eval value F.env;assign t F.env v;pure .next)):PS c F m H (execs (.Assign [t] value pos::rest) F.env) R:=by
 refine q_cons ?_
 rw [he]
 exact PS.bindW (PW.standAt (PS.bindW (h.mono fun v H1 h1=>PS.bind (h1.mono fun _ m2 H2 h2=>PS.pure h2))))
theorem q_asAttr {o:Expr} {attr:Str} {p:Pos} {v:Value} {R:Unit→LM→AH→Prop} (h:PW c F m H (eval o F.env) fun ov H2=>PW c F m H2 (setAttr ov attr v) fun _ H3=>R () m H3):PS c F m H (assign (.Attribute o attr p) F.env v) R:=by
 show PS c F m H (holding [v] (eval o F.env) >>= fun ov=>standAt p.atName >>= fun _=>holding [v,ov] (setAttr ov attr v) >>= fun _=>release [v,ov] []) R
 exact PS.bindW (PW.holding (h.mono fun ov H2 h2=>PS.bindW (PW.standAt (PS.bindW (PW.holding (h2.mono fun _ H3 h3=>PS.ofPW (PW.release h3)))))))
theorem q_asSub {o i:Expr} {p:Pos} {v:Value} {R:Unit→LM→AH→Prop} (h:PW c F m H (eval o F.env) fun ov H2=>PW c F m H2 (eval i F.env) fun iv H3=>PW c F m H3 (setItem ov iv v) fun _ H4=>R () m H4):PS c F m H (assign (.Subscript o i p) F.env v) R:=by
 show PS c F m H (holding [v] (eval o F.env) >>= fun ov=>holding [v,ov] (eval i F.env) >>= fun iv=>standAt p >>= fun _=>holding [v,ov,iv] (setItem ov iv v) >>= fun _=>release _ []) R
 exact PS.bindW (PW.holding (h.mono fun ov H2 h2=>PS.bindW (PW.holding (h2.mono fun iv H3 h3=>PS.bindW (PW.standAt (PS.bindW (PW.holding (h3.mono fun _ H4 h4=>PS.ofPW (PW.release h4)))))))))
theorem q_augN (ok:F.Ok) {x:Str} {op:Operator} {p pos:Pos} {value:Expr} {rest:List Stmt} {old:Value} (ho:look m x=some old)
  (h:PW c F m H (eval value F.env) fun v H1=>PW c F m H1 (inplaceOp op old v) fun r H2=>PS c F (setL x r m) H2 (execs rest F.env) R)
  (hl:F.env.kindOf x=some .local):PS c F m H (execs (.AugAssign (.Name x p) op value pos::rest) F.env) R:=by
 refine q_cons ?_
 rw [exec_AugAssign_Name]
 exact PS.bindW (PW.standAt (PS.bindW (PW.loadName_local ok ho (PS.bindW (PW.holding (h.mono fun v H1 h1=>PS.bindW (PW.standAt (PS.bindW (PW.operate (h1.mono fun r H2 h2=>PS.bindW (PW.standAt (PS.bind (PS.bindName ok (PS.pure h2) hl)))))))))) hl)))
theorem q_augS {o i value:Expr} {op:Operator} {sp pos:Pos} {rest:List Stmt}
  (h:PW c F m H (eval o F.env) fun ov H1=>PW c F m H1 (eval i F.env) fun iv H2=>PW c F m H2 (getItem ov iv) fun old H3=>PW c F m H3 (eval value F.env) fun v H4=>PW c F m H4 (inplaceOp op old v) fun new H5=>
   PW c F m H5 (setItem ov iv new) fun _ H6=>PS c F m H6 (execs rest F.env) R)
  (he:∀ ov iv new,augStore i ov iv new=(do holding [new,ov,iv] (setItem ov iv new);release [new,ov,iv] [];pure .next)):PS c F m H (execs (.AugAssign (.Subscript o i sp) op value pos::rest) F.env) R:=by
 refine q_cons ?_
 show PS c F m H (standAt pos >>= fun _=>eval o F.env >>= fun ov=>holding [ov] (eval i F.env) >>= fun iv=>holding [ov,iv] (standAt sp >>= fun _=>getItem ov iv >>= fun old=>holding [old] (eval value F.env) >>= fun v=>standAt pos >>= fun _=>operate [old,v] (inplaceOp op old v)) >>= fun new=>standAt sp >>= fun _=>augStore i ov iv new) _
 refine PS.bindW (PW.standAt (PS.bindW (h.mono fun ov H1 h1=>PS.bindW (PW.holding (h1.mono fun iv H2 h2=>PS.bindW (PW.holding (PW.bind (PW.standAt (PW.bind (h2.mono fun old H3 h3=>PW.bind (PW.holding (h3.mono fun v H4 h4=>PW.bind (PW.standAt (PW.operate (h4.mono fun new H5 h5=>?_)))))))))))))))
 rw [he]
 exact PS.bindW (PW.standAt (PS.bindW (PW.holding (h5.mono fun _ H6 h6=>release_unit (PS.pure h6)))))
end
end Internal
end
section
namespace Internal
open PySem PySem.W PyProof.Rows
structure Fx.Like (F F':Fx):Prop where
 A:F'.A=F.A
 env:F'.env=F.env
 L:F'.L=F.L
 T:F'.T=F.T
 r:F'.r=F.r
 H0:F'.H0=F.H0
 h0:F'.h0=F.h0
 X:F'.X=F.X
section
variable {c:Cfg} {F:Fx} {m:LM} {H:AH} {R:Flow→LM→AH→Prop}
noncomputable def TurnEnd (R:Flow→LM→AH→Prop) (nxt:LM→AH→Prop):Flow→LM→AH→Prop:=fun f m H=>match f with
 | .next=>nxt m H
 | .cont=>nxt m H
 | .brk=>R .next m H
 | .ret v=>R (.ret v) m H
theorem q_while0 (ok:F.Ok) {test:Expr} {body:List Stmt} {pos:Pos} (I:Nat→LM→AH→Prop) (n:Nat) (h0:I n m H)
  (turn:∀ n m H,I n m H→PW c F m H (isTrue test F.env (eval test F.env)) fun b H'=>
   if b then PS c F m H' (execs body F.env) (TurnEnd R fun m'' H''=>∃ k,k<n∧I k m'' H'') else R .next m H') :
  PS c F m H (exec (.While test body [] pos) F.env) R:=fun s st=>by
 refine wpAny_While (codeAny_whileLoop (fun n s=>∃ m H,I n m H∧St c F m H s) (fun n s ⟨m,H,hI,st⟩=>?_) n ⟨m,H,h0,st⟩)
 have hx:∀ {e s'},XE c F e s'→notedBy (model c.prog c.w) F.A F.env (fun e s'=>cameBackBy (model c.prog c.w) F.A F.env (XE c F) e s') e s':=fun x=>xe_noted ok x fun s' x'=>xe_cameBack ok x'
 refine wpAny_mono (turn n m H hI s st) ?_ fun e s' x=>hx x
 rintro b s₂ ⟨H',st',h'⟩
 cases b
 ·exact wpAny_execs_nil ⟨m,H',st',h'⟩
 ·refine wpAny_mono (h' s₂ st') ?_ fun e s' x=>hx x
  rintro f s₃ ⟨m'',H'',st'',h''⟩
  cases f with
  | next=>obtain ⟨k,hk,hI'⟩:=h'';exact ⟨k,hk,m'',H'',hI',st''⟩
  | cont=>obtain ⟨k,hk,hI'⟩:=h'';exact ⟨k,hk,m'',H'',hI',st''⟩
  | brk=>exact ⟨m'',H'',st'',h''⟩
  | ret v=>exact ⟨m'',H'',st'',h''⟩
theorem q_while (ok:F.Ok) {test:Expr} {body rest:List Stmt} {pos:Pos} (I:Nat→LM→AH→Prop) (n:Nat) (h0:I n m H)
  (turn:∀ n m H,I n m H→PW c F m H (isTrue test F.env (eval test F.env)) fun b H'=>
   if b then PS c F m H' (execs body F.env) (TurnEnd (NX c F rest R) fun m'' H''=>∃ k,k<n∧I k m'' H'') else PS c F m H' (execs rest F.env) R) :
  PS c F m H (execs (.While test body [] pos::rest) F.env) R:=q_cons (q_while0 ok I n h0 turn)
theorem Fx.Ok.like {F':Fx} (ok:F.Ok) (l:F.Like F'):F'.Ok:=by
 obtain ⟨a1,a2,a3,a4,a5,a6,a7,a8⟩:=l
 obtain ⟨b1,b3,b4,b5,b6,b7,b8,b9,b10,b11⟩:=ok
 refine ⟨by rw [a4];exact b1,by rw [a2,a3];exact b3,by rw [a2];exact b4,by rw [a2];exact b5,by rw [a2];exact b6,by rw [a1,a2,a3,a6,a8];exact b7,by rw [a1];exact b8,by rw [a1];exact b9,by rw [a1,a5];exact b10,by rw [a3,a6];exact b11⟩
noncomputable def Fx.add (F:Fx) (it:Addr) (P:Obj→Prop):Fx:={ F with its:=(it,P)::F.its }
theorem Fx.like_add {it:Addr} {P:Obj→Prop}:F.Like (F.add it P):=⟨rfl,rfl,rfl,rfl,rfl,rfl,rfl,rfl⟩
theorem St.drop {it:Addr} {P:Obj→Prop} {s:Shared} (st:St c (F.add it P) m H s):St c F m H s:=
 ⟨st.inv,st.loc,st.own,st.keep,st.nsk,fun p hp=>st.its p (.tail _ hp)⟩
theorem St.with {it:Addr} {P:Obj→Prop} {s:Shared} {o:Obj} (st:St c F m H s) (h1:it≠F.L) (h2:F.H0 it=none) (h3:H it=some .it) (h4:s.heap.get? it=some o) (h5:P o):St c (F.add it P) m H s:=
 ⟨st.inv,st.loc,st.own,st.keep,st.nsk,fun p hp=>by
  rcases List.mem_cons.mp hp with rfl | hp
  ·exact ⟨h1,h2,h3,o,h4,h5⟩
  ·exact st.its p hp⟩
theorem St.step {it:Addr} {s:Shared} {h':Heap} {o':Obj} (st:St c F m H s) (h1:it≠F.L) (h2:F.H0 it=none) (h3:H it=some .it) (hn:∀ p ∈ F.its,p.1≠it) (hs:Heap.SameBut it s.heap h') (h4:h'.get? it=some o') (h5:∃ T,o'.cls=.type T∧T ≠ "traceback") (tk:Nat) :
  St c F m H { s with heap:=h',toks:=tk }:=by
 have hb:=(st.inv.obj _ _ h3).1
 refine ⟨⟨fun b o e=>(hs.2 b (by rintro rfl;rw [hb] at e;injection e)).trans (st.inv.stays b o e),fun a o e=>?_,st.inv.gens,st.inv.os⟩,st.loc.sameBut hs (Ne.symm h1),st.own,st.keep,fun a p e hp o ho=>?_,fun p hp=>?_⟩
 ·obtain ⟨q1,co,q2,q3⟩:=st.inv.obj a o e
  by_cases ha:a=it
  ·subst ha
   rw [h3] at e;(injection e with e1;subst e1)
   exact ⟨q1,o',h4,h5⟩
  ·exact ⟨q1,co,(hs.2 a ha).trans q2,q3⟩
 ·have ha:a≠it:=by rintro rfl;rw [h2] at e;injection e
  obtain ⟨q1,sl,q2⟩:=st.nsk a p e hp o ho
  exact ⟨fun q=>(hs.2 a ha).trans (q1 q),sl,(hs.2 a ha).trans q2⟩
 ·obtain ⟨q1,q2,q3,o,q4,q5⟩:=st.its p hp
  exact ⟨q1,q2,q3,o,(hs.2 _ (hn p hp)).trans q4,q5⟩
theorem wpAny_letOwned {M:Model} {A:Around} {E:Value→Shared→Prop} {target:Expr} {it:Addr} {v:Value} {s:Shared} {o:Obj} {T:String} {Q:Unit→Shared→Prop} (ho:s.heap.get? it=some o) (hc:o.cls=.type T) (hT:T = "list_iterator" ∨ T = "range_iterator") (h:Q () s) :
  wpAny M A (letOwnedTupleGo target (.ref it) v) Q E s:=by
 have key:∀ a,wpAny M A (do
   let o ← load it
   match o.cls,o.data with
   | .type n,.fields vs=>
    if ["enumerate","zip","dict_itemiterator","dict_reverseitemiterator","odict_iterator","itertools.zip_longest","itertools.pairwise"].contains n&&vs[0]?==some (rawInt a) then
     rule "for.unpacks-the-owned-tuple"
     updateField it 0 .none
   | _,_=>pure ()) Q E s:=by
  intro a
  refine wpAny_bind (wpAny_load ho ?_)
  have e:(["enumerate","zip","dict_itemiterator","dict_reverseitemiterator","odict_iterator","itertools.zip_longest","itertools.pairwise"]:List String).contains T=false:=by
   rcases hT with rfl | rfl<;>decide
  obtain ⟨oc,od,oda,osl⟩:=o
  cases (show oc=.type T from hc)
  clear ho hc hT
  cases oda<;>first | exact wpAny_pure h | skip
  dsimp only
  rw [e,Bool.false_and]
  exact wpAny_pure h
 clear ho hc hT
 have k2:wpAny M A (do
   let (.ref r,.ref a):=(Value.ref it,v) | return
   let o ← load r
   match o.cls,o.data with
   | .type n,.fields vs=>
    if ["enumerate","zip","dict_itemiterator","dict_reverseitemiterator","odict_iterator","itertools.zip_longest","itertools.pairwise"].contains n&&vs[0]?==some (rawInt a) then
     rule "for.unpacks-the-owned-tuple"
     updateField r 0 .none
   | _,_=>pure ()) Q E s:=by
  cases v<;>first | exact wpAny_pure h | exact key _
 cases target<;>first | exact wpAny_pure h | exact k2
theorem forLoop_any {prog:Program} {w:World} {A:Around} {s:Shared} {R:Result→Shared→Prop} {target:Expr} {it:Value} {body:List Stmt} {env:Env} (I:Nat→Shared→Prop)
  (turn:∀ n s,I n s→wpAny (model prog w) A (pyNext it) (fun r s₁=>match r with
   | none=>R (.ok .next) s₁
   | some v=>wpAny (model prog w) A (letOwnedTupleGo target it v) (fun _ s₁=>wpAny (model prog w) A (assign target env v) (fun _ s₂=>wpAny (model prog w) A (execs body env) (fun f s₃=>match f with
     | .next | .cont=>∃ m,m<n∧I m s₃
     | .brk=>R (.ok .next) s₃
     | .ret v=>R (.ok (.ret v)) s₃) (notedBy (model prog w) A env fun e s'=>R (.error e) s') s₂) (notedBy (model prog w) A env fun e s'=>R (.error e) s') s₁) (notedBy (model prog w) A env fun e s'=>R (.error e) s') s₁) (notedBy (model prog w) A env fun e s'=>R (.error e) s') s)
  (n:Nat) (h:I n s):codeAny (model prog w) A (.forLoop target it body [] env) R s:=by
 refine codeAny_loop' rfl I (fun n s hI=>?_) n h
 show wpAny _ _ ((forTurn target it body [] env).onRaise (fun x=>do noteFrame x env;theTreesLotGoes x)) _ _ s
 refine wpAny_noted ?_
 unfold forTurn
 refine wpAny_bind (wpAny_standAt (wpAny_bind (wpAny_onRaise (wpAny_mono (turn n s hI) (fun r s₁ h₁=>?_) fun _ _ h'=>wpAny_standAt h'))))
 cases r with
 | none=>exact wpAny_pure (.inr ⟨rfl,codeAny_block (wpAny_execs_nil h₁)⟩)
 | some v=>
  refine wpAny_bind (wpAny_mono h₁ (fun _ s₁' h₁'=>?_) fun _ _ h'=>h')
  refine wpAny_bind (wpAny_mono h₁' (fun _ s₂ h₂=>wpAny_bind (wpAny_mono h₂ (fun f s₃ h₃=>?_) fun _ _ h'=>h')) fun _ _ h'=>h')
  cases f with
  | next=>exact wpAny_pure (.inl ⟨rfl,h₃⟩)
  | cont=>exact wpAny_pure (.inl ⟨rfl,h₃⟩)
  | brk=>exact wpAny_pure h₃
  | ret v=>exact wpAny_pure h₃
end
end Internal
end
section
namespace Internal
open PySem PySem.W PyProof.Rows
section
variable {c:Cfg} {F:Fx} {m:LM} {H:AH} {R:Flow→LM→AH→Prop}
noncomputable def NotIt (H H':AH):Prop:=∀ a o,H a=some o→o≠.it→H' a=some o
noncomputable def AH.del (H:AH) (a:Addr):AH:=fun x=>if x=a then none else H x
theorem St.forget {it:Addr} {s:Shared} {h':Heap} (st:St c F m H s) (h1:it≠F.L) (h2:F.H0 it=none) (h3:H it=some .it) (hn:∀ p ∈ F.its,p.1≠it) (hs:Heap.ExtBut it s.heap h') (tk:Nat) :
  St c F m (H.del it) { s with heap:=h',toks:=tk }:=by
 have hb:=(st.inv.obj _ _ h3).1
 refine ⟨⟨fun b o e=>hs b o (by rintro rfl;rw [hb] at e;injection e) (st.inv.stays b o e),fun a o e=>?_,st.inv.gens,st.inv.os⟩,st.loc.extBut hs (Ne.symm h1),?_,fun a o e=>?_,fun a p e hp o ho=>?_,fun p hp=>?_⟩
 ·unfold AH.del at e
  split at e
  ·injection e
  ·rename_i ha
   obtain ⟨q1,co,q2,q3⟩:=st.inv.obj a o e
   exact ⟨q1,co,hs a co ha q2,q3⟩
 ·unfold AH.del;rw [if_neg (Ne.symm h1)];exact st.own
 ·have ha:a≠it:=by rintro rfl;rw [h2] at e;injection e
  unfold AH.del;rw [if_neg ha];exact st.keep a o e
 ·have ha:a≠it:=by rintro rfl;rw [h2] at e;injection e
  obtain ⟨q1,sl,q2⟩:=st.nsk a p e hp o ho
  exact ⟨fun q=>hs _ _ ha (q1 q),sl,hs _ _ ha q2⟩
 ·obtain ⟨q1,q2,q3,o,q4,q5⟩:=st.its p hp
  refine ⟨q1,q2,?_,o,hs _ _ (hn p hp) q4,q5⟩
  unfold AH.del;rw [if_neg (hn p hp)];exact q3
theorem NotIt.del {it:Addr} (h3:H it=some .it):NotIt H (H.del it):=fun a o e ho=>by
 unfold AH.del
 rw [if_neg (by rintro rfl;rw [h3] at e;(injection e with e1;subst e1);exact ho rfl)]
 exact e
noncomputable def ForP (c:Cfg) (F:Fx) (m:LM) (H:AH) (target:Expr) (body:List Stmt) (v:Value) (R:Flow→LM→AH→Prop):Prop:=∀ s,St c F m H s →
 wpAny (model c.prog c.w) F.A (pyIter v) (fun it s₂=>wpAny (model c.prog c.w) F.A (runOwn (.forLoop target it body [] F.env) F.env) (fun f s'=>∃ m' H',St c F m' H' s'∧R f m' H') (XE c F) s₂) (XE c F) s
theorem q_for {target iter:Expr} {body rest:List Stmt} {pos:Pos} (h:PW c F m H (eval iter F.env) fun v H1=>ForP c F m H1 target body v (NX c F rest R))
  (hs:∀ x,foldedSetIterable iter F.env x=pure x):PS c F m H (execs (.For target iter body [] pos::rest) F.env) R:=by
 refine q_cons ?_
 rw [exec_For]
 refine PS.bindW (PW.standAt (PS.bindW (h.mono fun v H1 h1=>?_)))
 rw [hs]
 refine PS.bindW (PW.pure (PS.bindW (PW.standAt ?_)))
 intro s st
 exact wpAny_bind (wpAny_holding (h1 s st))
theorem q_forList (ok:F.Ok) {target:Expr} {body:List Stmt} {l:Addr} {t:Nat} {vs:List Value} (hl:H l=some (.list t vs)) (I:Nat→LM→AH→Prop) (hI:∀ i m H,I i m H→∃ t,H l=some (.list t vs))
  (h0:∀ H2,Ext H H2→I 0 m H2)
  (turn:∀ F' i x m H,F.Like F'→F'.Ok→vs[i]?=some x→I i m H→PS c F' m H (assign target F'.env x) fun _ m1 H1=>PS c F' m1 H1 (execs body F'.env) (TurnEnd R fun m' H'=>I (i+1) m' H'))
  (fin:∀ m H H',I vs.length m H→NotIt H H'→R .next m H'):ForP c F m H target body (.ref l) R:=fun s st=>by
 refine wpAny_pyIter_list (st.list hl).isList ?_
 have st1:=st.alloc (o:={ cls:=.type "list_iterator",data:=.fields #[.ref l,.int 0 0] }) (ao:=.it) ⟨"list_iterator",rfl,by decide⟩ rfl s.toks
 have hnew:=Heap.get?_push_size s.heap (o:={ cls:=.type "list_iterator",data:=.fields #[.ref l,.int 0 0] }) rfl
 have hfr:=st.fresh
 generalize hit:s.heap.objs.size=it at *
 have hitL:it≠F.L:=by rintro rfl;have:=st.own;rw [hfr] at this;injection this
 have hit0:F.H0 it=none:=st.fresh0 hfr
 have hitn:∀ p ∈ F.its,p.1≠it:=fun p hp q=>by have:=(st.its p hp).2.2.1;rw [q,hfr] at this;injection this
 have hx:∀ {e s'},XE c F e s'→notedBy (model c.prog c.w) F.A F.env (fun e s'=>cameBackBy (model c.prog c.w) F.A F.env (XE c F) e s') e s':=fun x=>xe_noted ok x fun s' x'=>xe_cameBack ok x'
 have e0:Ext H (H.set it .it):=fun a o e=>by rw [AH.set_ne (by rintro rfl;rw [hfr] at e;injection e)];exact e
 have hstart:∃ i m H,vs.length - 0=vs.length - i∧i≤vs.length∧I i m H∧St c F m H { s with heap:=s.heap.push { cls:=.type "list_iterator",data:=.fields #[.ref l,.int 0 0] } }∧H it=some .it∧Heap.IsListIter (s.heap.push { cls:=.type "list_iterator",data:=.fields #[.ref l,.int 0 0] }) it l i:=
  ⟨0,m,_,rfl,Nat.zero_le _,h0 _ e0,st1,AH.set_self,_,hnew,rfl,rfl⟩
 refine wpAny_runOwn (A:=F.A) (h:=none) (forLoop_any (fun n s=>∃ i m H,n=vs.length - i∧i≤vs.length∧I i m H∧St c F m H s∧H it=some .it∧Heap.IsListIter s.heap it l i) ?_ (vs.length - 0) hstart)
 rintro n s ⟨i,m,H,hn,hle,hi,st,hHit,hiter⟩
 obtain ⟨t',hl'⟩:=hI _ _ _ hi
 cases hxi:vs[i]? with
 | none=>
  have hi':i=vs.length:=Nat.le_antisymm hle (List.getElem?_eq_none_iff.mp hxi)
  subst hi'
  refine wpAny_pyNext_list_end ok.hd hiter (st.list hl').isList (by simpa using hxi) fun h' hext=>?_
  exact ⟨m,_,st.forget hitL hit0 hHit hitn hext s.toks,fin m H _ hi (NotIt.del hHit)⟩
 | some x=>
  have hlt:=(List.getElem?_eq_some_iff.mp hxi).1
  refine wpAny_pyNext_list_item hiter (st.list hl').isList (by simpa using hxi) fun h' hiter' hsb=>?_
  obtain ⟨o',ho',hc',hd'⟩:=id hiter'
  have st':=st.step hitL hit0 hHit hitn hsb ho' ⟨"list_iterator",hc',by decide⟩ s.toks
  refine wpAny_letOwned (T:="list_iterator") ho' hc' (.inl rfl) ?_
  have stw:=st'.with (P:=fun o=>o.cls=.type "list_iterator" ∧ o.data=.fields #[.ref l,.int ((i+1:Nat):Int) 0]) hitL hit0 hHit ho' ⟨hc',hd'⟩
  have body:=turn _ i x m H Fx.like_add (ok.like Fx.like_add) hxi hi _ stw
  refine wpAny_mono body ?_ fun e s' x=>hx x
  rintro _ s₂ ⟨m1,H1,st1,z⟩
  refine wpAny_mono (z s₂ st1) ?_ fun e s' x=>hx x
  rintro f s₃ ⟨m'',H'',st'',z⟩
  have again:I (i+1) m'' H''→∃ k,k<n∧∃ i m H,k=vs.length - i∧i≤vs.length∧I i m H∧St c F m H s₃∧H it=some .it∧Heap.IsListIter s₃.heap it l i:=fun hI'=>by
   obtain ⟨_,_,q3,o,q4,q5,q6⟩:=st''.its (it,_) (.head _)
   exact ⟨vs.length - (i+1),hn▸Nat.sub_lt_sub_left hlt (Nat.lt_succ_self i),i+1,m'',H'',rfl,hlt,hI',st''.drop,q3,o,q4,q5,q6⟩
  cases f with
  | next=>exact again z
  | cont=>exact again z
  | brk=>exact ⟨m'',H'',st''.drop,z⟩
  | ret v=>exact ⟨m'',H'',st''.drop,z⟩
end
end Internal
end
section
namespace Internal
open PySem PySem.W PyProof.Rows
section
variable {c:Cfg} {F:Fx} {m:LM} {H:AH} {R:Flow→LM→AH→Prop} {Q:Value→AH→Prop}
theorem p_range {n:Int} {t:Tok} (h:∀ a,H a=none→Q (.ref a) (H.set a (.rng n))):PW c F m H (call (.type "range") [.int n t]) Q:=fun s st=>
 call_range_1 ⟨_,st.alloc (o:={ cls:=.type "range",data:=.fields #[.int 0 s.toks,.int n t,.int 1 (s.toks+1)] }) (ao:=.rng n) ⟨_,_,_,rfl⟩ rfl _,h _ st.fresh⟩
theorem q_forRange (ok:F.Ok) {target:Expr} {body:List Stmt} {l:Addr} {n:Int} (hl:H l=some (.rng n)) (hn0:-(2 ^ 60)≤n) (hn1:n≤2 ^ 60) (I:Nat→LM→AH→Prop)
  (h0:∀ H2,Ext H H2→I 0 m H2)
  (turn:∀ F' (i:Nat) tk m H,F.Like F'→F'.Ok→(i:Int)<n→I i m H→PS c F' m H (assign target F'.env (.int i tk)) fun _ m1 H1=>PS c F' m1 H1 (execs body F'.env) (TurnEnd R fun m' H'=>I (i+1) m' H'))
  (fin:∀ m H H',I n.toNat m H→NotIt H H'→R .next m H'):ForP c F m H target body (.ref l) R:=fun s st=>by
 obtain ⟨hb,co,hg,t0,t1,t2,rfl⟩:=st.inv.obj _ _ hl
 have hsz:Builtin.Range.rangeSize 0 n 1=if (0:Int)<n then n else 0:=by rw [rangeSize_one];split<;>simp
 refine wpAny_pyIter_range hg (small_one (by decide) (by decide) (by lia) (by lia)) ?_
 have hnew:=Heap.get?_push_size s.heap (o:={ cls:=.type "range_iterator",data:=.fields #[rawInt 0,rawInt (Builtin.Range.rangeSize 0 n 1),rawInt 1] }) rfl
 have st1:=st.alloc (o:={ cls:=.type "range_iterator",data:=.fields #[rawInt 0,rawInt (Builtin.Range.rangeSize 0 n 1),rawInt 1] }) (ao:=.it) ⟨"range_iterator",rfl,by decide⟩ rfl s.toks
 have hfr:=st.fresh
 generalize hit:s.heap.objs.size=it at *
 have hitL:it≠F.L:=by rintro rfl;have:=st.own;rw [hfr] at this;injection this
 have hit0:F.H0 it=none:=st.fresh0 hfr
 have hitn:∀ p ∈ F.its,p.1≠it:=fun p hp q=>by have:=(st.its p hp).2.2.1;rw [q,hfr] at this;injection this
 have hx:∀ {e s'},XE c F e s'→notedBy (model c.prog c.w) F.A F.env (fun e s'=>cameBackBy (model c.prog c.w) F.A F.env (XE c F) e s') e s':=fun x=>xe_noted ok x fun s' x'=>xe_cameBack ok x'
 have e0:Ext H (H.set it .it):=fun a o e=>by rw [AH.set_ne (by rintro rfl;rw [hfr] at e;injection e)];exact e
 have hstart:∃ i m H,n.toNat - 0=n.toNat - i∧i≤n.toNat∧I i m H∧St c F m H { s with heap:=s.heap.push { cls:=.type "range_iterator",data:=.fields #[rawInt 0,rawInt (Builtin.Range.rangeSize 0 n 1),rawInt 1] } }∧H it=some .it ∧
   IsRangeIter (s.heap.push { cls:=.type "range_iterator",data:=.fields #[rawInt 0,rawInt (Builtin.Range.rangeSize 0 n 1),rawInt 1] }) it (i:Nat) ((n.toNat:Int) - i) 1:=
  ⟨0,m,_,rfl,Nat.zero_le _,h0 _ e0,st1,AH.set_self,by
   unfold IsRangeIter
   have e1:Builtin.Range.rangeSize 0 n 1=(n.toNat:Int) - (0:Nat):=by rw [hsz];split<;>lia
   rw [← e1];exact hnew⟩
 refine wpAny_runOwn (A:=F.A) (h:=none) (forLoop_any (fun k s=>∃ i m H,k=n.toNat - i∧i≤n.toNat∧I i m H∧St c F m H s∧H it=some .it∧IsRangeIter s.heap it (i:Nat) ((n.toNat:Int) - i) 1) ?_ (n.toNat - 0) hstart)
 rintro k s ⟨i,m,H,hk,hle,hi,st,hHit,hiter⟩
 by_cases hlt:i<n.toNat
 ·refine wpAny_pyNext_range_item hiter (by lia) fun h' hiter' hsb=>?_
  have st':=st.step hitL hit0 hHit hitn hsb hiter' ⟨"range_iterator",rfl,by decide⟩ (s.toks+1)
  refine wpAny_letOwned (T:="range_iterator") hiter' rfl (.inr rfl) ?_
  have stw:=st'.with (P:=fun o=>o={ cls:=.type "range_iterator",dict:=none,data:=.fields #[rawInt ((i:Nat)+1),rawInt ((n.toNat:Int) - i - 1),rawInt 1],slots:=#[] }) hitL hit0 hHit hiter' rfl
  have body:=turn _ i s.toks m H Fx.like_add (ok.like Fx.like_add) (Int.lt_toNat.mp hlt) hi _ stw
  refine wpAny_mono body ?_ fun e s' x=>hx x
  rintro _ s₂ ⟨m1,H1,st1,z⟩
  refine wpAny_mono (z s₂ st1) ?_ fun e s' x=>hx x
  rintro f s₃ ⟨m'',H'',st'',z⟩
  have again:I (i+1) m'' H''→∃ k',k'<k∧∃ i m H,k'=n.toNat - i∧i≤n.toNat∧I i m H∧St c F m H s₃∧H it=some .it∧IsRangeIter s₃.heap it (i:Nat) ((n.toNat:Int) - i) 1:=fun hI'=>by
   obtain ⟨_,_,q3,o,q4,rfl⟩:=st''.its (it,_) (.head _)
   refine ⟨n.toNat - (i+1),hk▸Nat.sub_lt_sub_left hlt (Nat.lt_succ_self i),i+1,m'',H'',rfl,hlt,hI',st''.drop,q3,?_⟩
   unfold IsRangeIter
   have e1:(((i+1:Nat)):Int)=(i:Int)+1:=rfl
   have e2:(n.toNat:Int) - ((i:Int)+1)=(n.toNat:Int) - i - 1:=(Int.sub_sub _ _ _).symm
   rw [e1,e2];exact q4
  cases f with
  | next=>exact again z
  | cont=>exact again z
  | brk=>exact ⟨m'',H'',st''.drop,z⟩
  | ret v=>exact ⟨m'',H'',st''.drop,z⟩
 ·have hi':i=n.toNat:=Nat.le_antisymm hle (Nat.le_of_not_lt hlt)
  subst hi'
  refine wpAny_pyNext_range_end ok.hd hiter (by lia) fun h' hext=>?_
  exact ⟨m,_,st.forget hitL hit0 hHit hitn hext s.toks,fin m H _ hi (NotIt.del hHit)⟩
end
end Internal
end
section
namespace Internal
open PySem PySem.W PyProof.Rows
structure Sc (F:Fx) (ns:List (Str × NameKind)):Prop where
 eq:∀ x k,ns.lookup x=some k→k=.local∨k=.globalImplicit→F.env.kindOf x=some k
 dbg:ns.lookup ("__debug__" : Str)=none
theorem Sc.kl {F:Fx} {x:Str} {ns:List (Str × NameKind)} (s:Sc F ns) (e:ns.lookup x=some .local):F.env.kindOf x=some .local:=s.eq x _ e (.inl rfl)
theorem Sc.kg {F:Fx} {x:Str} {ns:List (Str × NameKind)} (s:Sc F ns) (e:ns.lookup x=some .globalImplicit):F.env.kindOf x=some .globalImplicit:=s.eq x _ e (.inr rfl)
theorem Sc.notDbg {F:Fx} {x:Str} {k:NameKind} {ns:List (Str × NameKind)} (s:Sc F ns) (e:ns.lookup x=some k):(x==("__debug__" : Str))=false:=by
 have:x≠("__debug__" : Str):=by rintro rfl;rw [s.dbg] at e;injection e
 simpa using this
theorem Sc.like {F F':Fx} {ns:List (Str × NameKind)} (s:Sc F ns) (l:F.Like F'):Sc F' ns:=⟨fun x k h1 h2=>by rw [l.env];exact s.eq x k h1 h2,s.dbg⟩
theorem CC.enter {c:Cfg} (cok:c.Ok) {r T:Nat} {f:Addr} {fd:FuncData} {body:List Stmt} {args:List Value} {binds:LM} {H:AH} {Q:Value→AH→Prop} {X:Str→Int→AH→Prop}
  (fn:FnOk c.K f fd body) (hdbg:fd.scope.names.lookup ("__debug__" : Str)=none) (hbind:∀ s:Shared,c.K.In s.heap→BindsTo s fd ⟨args,[]⟩ binds) (hloc:∀ x ∈ binds,fd.scope.names.lookup x.1=some .local) (T0:T≠0) {m0:LM} (hm0:binds.reverse=m0)
  (h:∀ (F:Fx) (H1:AH),F.Ok→F.T=T→F.r=r→Sc F fd.scope.names→F.env=callEnv fd F.L f→(F.X=fun k a _ H=>X k a H)→F.H0=H→Ext H H1→Keeps T H H1 →
   PS c F m0 H1 (execs body F.env) (fun fl m' H'=>Q (retOf fl) H')):CC c (r+1) T (.ref f) args H Q X:=
 CC.intro cok fn hbind hloc T0 fun F H1 ok e1 e2 e3 e4 e5 e6 e7=>hm0▸h F H1 ok e1 e2 ⟨fun x k h _=>by rw [e3];exact h,hdbg⟩ e3 e4 e5 e6 e7
section
variable {c:Cfg} {F:Fx} {m:LM} {H:AH} {Q:Value→AH→Prop}
variable {ns:List (Str × NameKind)}
theorem p_nl (ok:F.Ok) (sc:Sc F ns) {x:Str} {pos:Pos} {v:Value} (hv:look m x=some v) (hl:ns.lookup x=some .local) (h:Q v H):PW c F m H (eval (.Name x pos) F.env) Q:=PW.name_local ok hv h (sc.kl hl) (sc.notDbg hl)
theorem p_ng (cok:c.Ok) (ok:F.Ok) (sc:Sc F ns) {x:Str} {pos:Pos} {v:Value} (e:nsIn c.K mainGlobals x=some (some v)) (hl:ns.lookup x=some .globalImplicit) (h:Q v H):PW c F m H (eval (.Name x pos) F.env) Q:=PW.name_global cok ok e h (sc.kg hl) (sc.notDbg hl)
theorem p_nb (cok:c.Ok) (ok:F.Ok) (sc:Sc F ns) {x:Str} {pos:Pos} {v:Value} (e:nsIn c.K mainGlobals x=some none) (hv:bootBuiltins x=some v) (hl:ns.lookup x=some .globalImplicit) (hn:x ≠ "__name__") (h:Q v H):PW c F m H (eval (.Name x pos) F.env) Q:=
 PW.name_builtin cok ok e hv hn h (sc.kg hl) (sc.notDbg hl)
theorem q_asN (ok:F.Ok) (sc:Sc F ns) {x:Str} {p pos:Pos} {value:Expr} {rest:List Stmt} {R:Flow→LM→AH→Prop} (hl:ns.lookup x=some .local) (hs:swapsWith value (some (.Name x p)) pos.line F.env=pure false)
  (h:PW c F m H (eval value F.env) fun v H'=>PS c F (setL x v m) H' (execs rest F.env) R):PS c F m H (execs (.Assign [.Name x p] value pos::rest) F.env) R:=q_assignN ok h (sc.kl hl) hs
theorem q_agN (ok:F.Ok) (sc:Sc F ns) {x:Str} {op:Operator} {p pos:Pos} {value:Expr} {rest:List Stmt} {R:Flow→LM→AH→Prop} {old:Value} (ho:look m x=some old) (hl:ns.lookup x=some .local)
  (h:PW c F m H (eval value F.env) fun v H1=>PW c F m H1 (inplaceOp op old v) fun r H2=>PS c F (setL x r m) H2 (execs rest F.env) R):PS c F m H (execs (.AugAssign (.Name x p) op value pos::rest) F.env) R:=q_augN ok ho h (sc.kl hl)
theorem q_ex (ok:F.Ok) {e:Expr} {pos:Pos} {rest:List Stmt} {R:Flow→LM→AH→Prop} (hs:swapsWith e none pos.line F.env=pure false) (h:PW c F m H (eval e F.env) fun v H'=>PS c F m H' (execs rest F.env) R) :
  PS c F m H (execs (.Expr e pos::rest) F.env) R:=q_expr h (interactive_fn ok.kind) hs
theorem p_add {a b:Int} {t u:Tok} (h:∀ tk,Q (.int (a+b) tk) H):PW c F m H (binaryOp .Add (.int a t) (.int b u)) Q:=fun s st=>add_int ⟨H,st.toks _,h _⟩
theorem p_sub {a b:Int} {t u:Tok} (h:∀ tk,Q (.int (a - b) tk) H):PW c F m H (binaryOp .Sub (.int a t) (.int b u)) Q:=fun s st=>sub_int ⟨H,st.toks _,h _⟩
theorem p_iadd {a b:Int} {t u:Tok} (h:∀ tk,Q (.int (a+b) tk) H):PW c F m H (inplaceOp .Add (.int a t) (.int b u)) Q:=fun s st=>iadd_int ⟨H,st.toks _,h _⟩
theorem p_isub {a b:Int} {t u:Tok} (h:∀ tk,Q (.int (a - b) tk) H):PW c F m H (inplaceOp .Sub (.int a t) (.int b u)) Q:=fun s st=>isub_int ⟨H,st.toks _,h _⟩
theorem p_mul {a b:Int} {t u:Tok} (h:∀ tk,Q (.int (a*b) tk) H) (hm:IntMulOk a b):PW c F m H (binaryOp .Mult (.int a t) (.int b u)) Q:=fun s st=>mul_int ⟨H,st.toks _,h _⟩ hm
theorem p_mod {a b:Int} {t u:Tok} (hb:b≠0) (h:∀ tk,Q (.int (a.fmod b) tk) H):PW c F m H (binaryOp .Mod (.int a t) (.int b u)) Q:=fun s st=>mod_int' hb ⟨H,st.toks _,h _⟩
theorem p_eqi {a b:Int} {t u:Tok} (h:Q (.bool (a==b)) H):PW c F m H (compareOp .Eq (.int a t) (.int b u)) Q:=fun s st=>eq_int ⟨H,st,h⟩
theorem p_lti {a b:Int} {t u:Tok} (h:Q (.bool (decide (a<b))) H):PW c F m H (compareOp .Lt (.int a t) (.int b u)) Q:=fun s st=>lt_int ⟨H,st,h⟩
theorem p_lei {a b:Int} {t u:Tok} (h:Q (.bool (decide (a≤b))) H):PW c F m H (compareOp .LtE (.int a t) (.int b u)) Q:=fun s st=>le_int ⟨H,st,h⟩
theorem p_gti {a b:Int} {t u:Tok} (h:Q (.bool (decide (a>b))) H):PW c F m H (compareOp .Gt (.int a t) (.int b u)) Q:=fun s st=>gt_int ⟨H,st,h⟩
theorem p_gei {a b:Int} {t u:Tok} (h:Q (.bool (decide (a≥b))) H):PW c F m H (compareOp .GtE (.int a t) (.int b u)) Q:=fun s st=>ge_int ⟨H,st,h⟩
theorem p_eqs {x y:Str} {t u:Tok} (h:Q (.bool (x==y)) H):PW c F m H (compareOp .Eq (.str x t) (.str y u)) Q:=fun s st=>eq_str ⟨H,st,h⟩
theorem p_nes {x y:Str} {t u:Tok} (h:Q (.bool (x != y)) H):PW c F m H (compareOp .NotEq (.str x t) (.str y u)) Q:=fun s st=>ne_str ⟨H,st,h⟩
end
end Internal
end
section
namespace Internal
open PySem PySem.W PyProof.Rows
section
variable {c:Cfg} {F:Fx} {m:LM} {H:AH} {s:Shared}
theorem St.growL (ok:F.Ok) (st:St c F m H s) {h':Heap} (k:∀ a o,a≠F.L→s.heap.get? a=some o→h'.get? a=some o) (kL:h'.Ns F.L (look m)) (tk:Nat):St c F m H { s with heap:=h',toks:=tk }:=by
 have hL:=(st.inv.obj _ _ st.own).1
 refine ⟨⟨fun b o e=>k b o (by rintro rfl;rw [hL] at e;injection e) (st.inv.stays b o e),fun a o e=>?_,st.inv.gens,st.inv.os⟩,kL,st.own,st.keep,fun a p e hp o ho=>?_,fun p hp=>?_⟩
 ·obtain ⟨h1,co,h2,h3⟩:=st.inv.obj a o e
  refine ⟨h1,?_⟩
  by_cases ha:a=F.L
  ·subst ha
   obtain ⟨oo,es,ep,ho,hd,_⟩:=kL
   rw [st.own] at e;(injection e with e1;subst e1)
   exact ⟨oo,ho,fun vs q=>by rw [hd] at q;injection q⟩
  ·exact ⟨co,k a co ha h2,h3⟩
 ·have ha:a≠F.L:=by rintro rfl;rw [ok.fresh] at e;injection e
  obtain ⟨h1,sl,h2⟩:=st.nsk a p e hp o ho
  exact ⟨fun q=>k _ _ ha (h1 q),sl,k _ _ ha h2⟩
 ·obtain ⟨h1,h2,h3,o,h4,h5⟩:=st.its p hp
  exact ⟨h1,h2,h3,o,k _ _ h1 h4,h5⟩
theorem St.grow (ok:F.Ok) (st:St c F m H s) {h':Heap} (k:∀ a o,s.heap.get? a=some o→h'.get? a=some o) (tk:Nat):St c F m H { s with heap:=h',toks:=tk }:=
 st.growL ok (fun a o _=>k a o) (st.loc.keeps k) tk
theorem St.name (st:St c F m H s) {a:Addr} {ao:AObj} {o:Obj} (hn:H a=none) (hb:c.b.get? a=none) (hg:s.heap.get? a=some o) (ho:OR c.prog c.w ao o):St c F m (H.set a ao) s:=by
 refine ⟨⟨st.inv.stays,fun x p e=>?_,st.inv.gens,st.inv.os⟩,st.loc,?_,st.keep.set_fresh (st.fresh0 hn),st.nsk,fun p hp=>?_⟩
 ·by_cases hx:x=a
  ·subst hx;rw [AH.set_self] at e;(injection e with e1;subst e1);exact ⟨hb,o,hg,ho⟩
  ·rw [AH.set_ne hx] at e;exact st.inv.obj x p e
 ·rw [AH.set_ne (by rintro q;have:=st.own;rw [q,hn] at this;injection this)];exact st.own
 ·obtain ⟨h1,h2,h3,o',h4,h5⟩:=st.its p hp
  exact ⟨h1,h2,by rw [AH.set_ne (by rintro q;rw [q,hn] at h3;injection h3)];exact h3,o',h4,h5⟩
noncomputable def others (h:Heap) (L:Addr):List (Addr × Obj):=(List.range h.objs.size).filterMap fun a=>if a=L then none else (h.get? a).map fun o=>(a,o)
theorem others_mem {h:Heap} {L a:Addr} {o:Obj} (ha:a≠L) (ho:h.get? a=some o):(a,o) ∈ others h L:=by
 unfold others
 rw [List.mem_filterMap]
 exact ⟨a,List.mem_range.mpr (Heap.lt_size ho),by rw [if_neg ha,ho];rfl⟩
theorem others_of {h:Heap} {L:Addr} {p:Addr × Obj} (hp:p ∈ others h L):p.1≠L∧h.get? p.1=some p.2:=by
 unfold others at hp
 rw [List.mem_filterMap] at hp
 obtain ⟨a,_,e⟩:=hp
 split at e
 ·injection e
 ·rename_i ha
  obtain ⟨o,ho,rfl⟩:=Option.map_eq_some_iff.mp e
  exact ⟨ha,ho⟩
noncomputable def noHeap:Heap:={ objs:=#[] }
theorem noHeap_get (a:Addr):noHeap.get? a=none:=by
 cases q:noHeap.get? a with
 | none=>rfl
 | some o=>exact absurd (Heap.lt_size q) (Nat.not_lt_zero _)
theorem St.fr (st:St c F m H s):Fr noHeap F.L s.heap (look m):=⟨st.loc,fun b o e=>(by rw [noHeap_get] at e;injection e),Nat.zero_le _⟩
theorem St.news (st:St c F m H s):News noHeap F.L s.heap (others s.heap F.L):=fun p hp=>⟨(others_of hp).2,(others_of hp).1,noHeap_get _⟩
theorem St.ofNews (ok:F.Ok) (st:St c F m H s) {h':Heap} {l:List (Addr × Obj)} (F':Fr noHeap F.L h' (look m)) (N:News noHeap F.L h' (l++others s.heap F.L)) (tk:Nat):St c F m H { s with heap:=h',toks:=tk }:=
 st.growL ok (fun a o ha e=>(N _ (List.mem_append_right _ (others_mem ha e))).1) F'.ns tk
theorem St.newOne (ok:F.Ok) (st:St c F m H s) {h':Heap} {o:Obj} {ao:AObj} (F':Fr noHeap F.L h' (look m)) (N:News noHeap F.L h' ((s.heap.objs.size,o)::others s.heap F.L)) (ho:OR c.prog c.w ao o) (tk:Nat) :
  St c F m (H.set s.heap.objs.size ao) { s with heap:=h',toks:=tk }:=by
 have st':=st.ofNews ok (l:=[(s.heap.objs.size,o)]) F' N tk
 have hb:c.b.get? s.heap.objs.size=none:=st.inv.stays.fresh
 exact st'.name st.fresh hb (N _ (.head _)).1 ho
variable {Q:Value→AH→Prop}
theorem p_concat (ok:F.Ok) {a b:Addr} {t u:Nat} {vs ws:List Value} (tg:Nat) (ha:H a=some (.list t vs)) (hb:H b=some (.list u ws)) (h:∀ x,H x=none→Q (.ref x) (H.set x (.list tg (vs++ws)))) (hsz:vs.length+ws.length≤sizeLine) :
  PW c F m H (binaryOp .Add (.ref a) (.ref b)) Q:=fun s st=>
 add_lists st.fr st.news (st.list ha).isList (st.list hb).isList (fun h' F' N'=>⟨_,st.newOne ok F' N' (ao:=.list tg (vs++ws)) ⟨_,rfl⟩ s.toks,h _ st.fresh⟩) hsz
theorem p_listOf (ok:F.Ok) {a:Addr} {t:Nat} {vs:List Value} (tg:Nat) (ha:H a=some (.list t vs)) (h:∀ x,H x=none→Q (.ref x) (H.set x (.list tg vs))) (hsz:vs.length≤sizeLine):PW c F m H (call (.type "list") [.ref a]) Q:=fun s st=>by
 obtain ⟨n,hn⟩:=st.list ha
 refine call_list_seq a (.inl rfl) hn rfl rfl (fun h' c' k hnew=>?_) (by simpa using hsz)
 have st':=st.grow ok k s.toks
 exact ⟨_,st'.name (ao:=.list tg vs) st.fresh st.inv.stays.fresh hnew ⟨_,rfl⟩,h _ st.fresh⟩
theorem p_max (ok:F.Ok) {a b:Int} {t u:Tok} (h:∀ tk,Q (.int (if b>a then b else a) tk) H):PW c F m H (call (.builtin "max") [.int a t,.int b u]) Q:=fun s st=>
 max_two_ints ok.hd fun h' tk k=>⟨H,st.grow ok k tk,by
  have h1:=h u
  have h2:=h t
  split
  ·rename_i hc;rw [if_pos hc] at h1;exact h1
  ·rename_i hc;rw [if_neg hc] at h2;exact h2⟩
theorem p_abs {a:Int} {t:Tok} (h:∀ tk,Q (.int (if a<0 then -a else a) tk) H):PW c F m H (call (.builtin "abs") [.int a t]) Q:=fun s st=>call_abs_int fun u tk=>⟨H,st.toks _,h u⟩
theorem p_int {a:Int} {t:Tok} (h:Q (.int a t) H):PW c F m H (call (.type "int") [.int a t]) Q:=fun s st=>call_int_int ⟨H,st,h⟩
theorem p_isNone {v:Value} (hv:∀ x t,v≠.bytes x t) (h:Q (.bool (v==.none)) H) (hp:plainIs v .none=true):PW c F m H (compareOp .Is v .none) Q:=fun s st=>wpAny_is_plain hp ⟨H,st,h⟩
theorem p_is {a b:Value} (hp:plainIs a b=true) (h:Q (.bool (a==b)) H):PW c F m H (compareOp .Is a b) Q:=fun s st=>wpAny_is_plain hp ⟨H,st,h⟩
theorem p_isNot {a b:Value} (hp:plainIs a b=true) (h:Q (.bool (a != b)) H):PW c F m H (compareOp .IsNot a b) Q:=fun s st=>wpAny_isNot_plain hp ⟨H,st,h⟩
theorem p_inList {a:Addr} {t:Nat} {vs:List Value} {ys:List Str} {k:Str} {tk:Tok} (ha:H a=some (.list t vs)) (hi:StrsAre vs ys) (h:Q (.bool (ys.any (·==k))) H):PW c F m H (compareOp .In (.str k tk) (.ref a)) Q:=fun s st=>
 in_list_strs (st.list ha).isList hi ⟨H,st,h⟩
theorem p_inTup {a:Addr} {vs:List Value} {ys:List Str} {k:Str} {tk:Tok} (ha:H a=some (.tup vs)) (hi:StrsAre vs ys) (h:Q (.bool (ys.any (·==k))) H):PW c F m H (compareOp .In (.str k tk) (.ref a)) Q:=fun s st=>
 in_tuple_strs (st.tup ha) (by simpa using hi) ⟨H,st,h⟩
theorem p_inStr {x y:Str} {t u:Tok} (h:Q (.bool !(Builtin.Str.occurrences x y 0 x.length 1).isEmpty) H):PW c F m H (compareOp .In (.str y u) (.str x t)) Q:=fun s st=>PyProof.Rows.in_str ⟨H,st,h⟩
end
end Internal
end
section
namespace Internal
open PySem PySem.W PyProof.Rows
theorem tup_slice2 {prog:Program} {w:World} {A:Around} {E:Value→Shared→Prop} {s:Shared} {t sl:Addr} {x y z:Value} {u:Tok} {Q:Value→Shared→Prop} (ht:IsTup s.heap t #[x,y,z]) (hs:s.heap.IsSliceOf sl .none (.int 2 u) .none)
  (h:Q (.ref s.heap.objs.size) { s with heap:=s.heap.push { cls:=.type "tuple",data:=.seq #[x,y] } }):wpAny (model prog w) A (getItem (.ref t) (.ref sl)) Q E s:=by
 obtain ⟨os,hos,hcs,hds⟩:=id hs
 have hTs:s.TypeIs (.ref sl) "slice":=⟨os,hos,hcs⟩
 unfold getItem
 try with_reducible refine wpAny_holding ?_
 first | refine wpAny_bind (wpAny_pure ?_) | skip
 refine wpAny_bind (wpAny_sequenceKey ht.typeIs (by decide) ?_)
 refine wpAny_bind (wpAny_callSpecial?_slot (name:=Str.ofString "__getitem__") ht.typeIs slot_tuple_getitem
  (wpAny_call_entry slot_tuple_getitem ht.typeIs entry_tuple_getitem ?_ (args_tuple_getitem _ _)))
 show wpAny _ _ (Builtin.Tuple.tupleItemsOf (.ref t) >>= _) _ _ s
 refine wpAny_bind (tupleItemsOf_ ht ?_)
 refine wpAny_bind (wpAny_typeOf hTs ?_)
 rw [if_pos (by decide)]
 refine wpAny_bind ?_
 unfold Builtin.Slice.sliceApplied Builtin.Slice.sliceFields
 refine wpAny_bind (wpAny_bind (wpAny_field hos hds (x:=.none) rfl (wpAny_bind (wpAny_field hos hds (x:=.int 2 u) rfl (wpAny_bind (wpAny_field hos hds (x:=.none) rfl (wpAny_pure ?_)))))))
 refine wpAny_bind (slicePart_none ?_)
 show wpAny _ _ (if ((1:Int)==0)=true then _ else _) _ _ s
 rw [if_neg (by decide)]
 refine wpAny_bind (slicePart_none (wpAny_bind (slicePart_int (wpAny_bind (wpAny_pure ?_)))))
 show wpAny _ _ (pure ((0:Int),(1:Int),2)) _ _ s
 refine wpAny_pure ?_
 have hdrop:sizeOk (.seq #[x,y]):=by show 2≤sizeLine;decide
 show wpAny _ _ (if ((0:Int)==0&&(1:Int)==1&&(2==3))=true then _ else _) _ _ s
 rw [if_neg (by decide)]
 have e:((List.range 2).filterMap fun (k:Nat)=>(#[x,y,z]:Array Value)[((0:Int)+(k:Int)*1).toNat]?).toArray=#[x,y]:=by rfl
 rw [e]
 first
  | exact wpAny_bind (m:=Builtin.Tuple.tupleExact _) (wpAny_newObj_type (wpAny_pure ⟨_,rfl,wpAny_pure h⟩) hdrop)
  | exact wpAny_bind (m:=Builtin.Tuple.tupleExact _) (wpAny_newObj_type (wpAny_bind (wpAny_pure (wpAny_pure ⟨_,rfl,wpAny_pure h⟩))) hdrop)
  | exact wpAny_bind (wpAny_bind (m:=Builtin.Tuple.tupleExact _) (wpAny_newObj_type (wpAny_pure (wpAny_pure ⟨_,rfl,wpAny_pure h⟩)) hdrop))
  | exact wpAny_bind (wpAny_bind (m:=Builtin.Tuple.tupleExact _) (wpAny_newObj_type (wpAny_pure ⟨_,rfl,wpAny_pure h⟩) hdrop))
section
variable {c:Cfg} {F:Fx} {m:LM} {H:AH} {s:Shared} {Q:Value→AH→Prop}
noncomputable def SliceP (c:Cfg) (F:Fx) (m:LM) (H:AH) (value slice:Expr) (o l u:Value) (Q:Value→AH→Prop):Prop:=∀ s,St c F m H s →
 wpAny (model c.prog c.w) F.A (subscriptTail value slice o (.ref s.heap.objs.size)) (fun v s'=>∃ H',St c F m H' s'∧Q v H') (XE c F)
  { s with heap:=s.heap.push { cls:=.type "slice",data:=.fields #[l,u,.none] } }
theorem p_SubS {value:Expr} {l u:Option Expr} {p pos:Pos}
  (h:PW c F m H (eval value F.env) fun o H1=>PW c F m H1 (valueOrNone (evalOpt l F.env)) fun lv H2=>PW c F m H2 (valueOrNone (evalOpt u F.env)) fun uv H3=>SliceP c F m H3 value (.Slice l u none p) o lv uv Q) :
  PW c F m H (eval (.Subscript value (.Slice l u none p) pos) F.env) Q:=fun s st=>by
 refine Subscript_ (wpAny_mono (h s st) ?_ fun _ _ e=>e)
 rintro o s1 ⟨H1,st1,h1⟩
 show wpAny _ _ (valueOrNone (evalOpt l F.env) >>= fun l=>holding [l] (valueOrNone (evalOpt u F.env)) >>= fun u=>holding [l,u] (valueOrNone (evalOpt none F.env)) >>= fun s=>newFields "slice" [l,u,s]) _ _ _
 refine wpAny_bind (wpAny_mono (h1 s1 st1) ?_ fun _ _ e=>e)
 rintro lv s2 ⟨H2,st2,h2⟩
 refine wpAny_bind (wpAny_holding (wpAny_mono (h2 s2 st2) ?_ fun _ _ e=>e))
 rintro uv s3 ⟨H3,st3,h3⟩
 refine wpAny_bind (wpAny_holding (wpAny_pure ?_))
 unfold newFields
 exact wpAny_newObj_type (h3 s3 st3) (by show [lv,uv,Value.none].toArray.size≤sizeLine+2;simp;decide)
theorem St.push2 (ok:F.Ok) (st:St c F m H s) {o1 o2:Obj} {ao:AObj} (ho:OR c.prog c.w ao o2) (hf:o2.isFreed=false) (tk:Nat) :
  ∃ x,x=s.heap.objs.size+1∧H x=none∧St c F m (H.set x ao) { s with heap:=(s.heap.push o1).push o2,toks:=tk }:=by
 have st1:=st.alloc' (o:=o1) s.toks
 refine ⟨_,rfl,?_,?_⟩
 ·have:=st1.fresh
  rwa [Heap.size_push] at this
 ·have:=st1.alloc (o:=o2) (ao:=ao) ho hf tk
  rwa [Heap.size_push] at this
theorem p_sliceList (ok:F.Ok) {value slice:Expr} {a:Addr} {t:Nat} {vs:List Value} {lv uv:Value} {lo hi:Option Int} {ws:List Value} (tg:Nat) (ha:H a=some (.list t vs)) (pl:IsPart lv lo) (pu:IsPart uv hi)
  (hw:slicePick vs.toArray lo hi none=ws.toArray) (h:∀ x,H x=none→Q (.ref x) (H.set x (.list tg ws))) (hsz:vs.length≤sizeLine) (hs:∀ o i,subscripted slice false o i=operate [i,o] (getItem o i)) :
  SliceP c F m H value slice (.ref a) lv uv Q:=fun s st=>by
 have hl:=(st.list ha).isList
 refine tail_any (Heap.IsList.typeIs (s:={ s with heap:=s.heap.push { cls:=.type "slice",data:=.fields #[lv,uv,.none] } }) (hl.push _)) slot_list_getitem.lookup ?_ (hs _ _)
 refine wpAny_getItem_list_slice (hl.push _) (Heap.IsSliceOf.new ..) pl pu .none (by simp) ?_ (by simpa using hsz)
 rw [hw]
 obtain ⟨x,hx,hx0,st'⟩:=st.push2 ok (o1:={ cls:=.type "slice",data:=.fields #[lv,uv,.none] }) (o2:={ cls:=.type "list",data:=.seq ws.toArray }) (ao:=.list tg ws) ⟨_,rfl⟩ rfl s.toks
 subst hx
 exact ⟨_,st',by
  show Q (.ref (s.heap.push _).objs.size) _
  rw [Heap.size_push];exact h _ hx0⟩
theorem p_sliceFrom (ok:F.Ok) {value slice:Expr} {a:Addr} {t:Nat} {vs:List Value} {x:Int} {tk:Tok} (tg:Nat) (ha:H a=some (.list t vs)) (h0:0≤x) (h:∀ y,H y=none→Q (.ref y) (H.set y (.list tg (vs.drop x.toNat)))) (hsz:vs.length≤sizeLine)
  (hs:∀ o i,subscripted slice false o i=operate [i,o] (getItem o i)):SliceP c F m H value slice (.ref a) (.int x tk) .none Q:=
 p_sliceList ok tg ha (.int x tk) .none (by
  obtain ⟨n,rfl⟩:=Int.eq_ofNat_of_zero_le h0
  rw [slicePick_from' vs.toArray n];simp) h hsz hs
theorem p_sliceUpto (ok:F.Ok) {value slice:Expr} {a:Addr} {t:Nat} {vs:List Value} {x:Int} {tk:Tok} (tg:Nat) (ha:H a=some (.list t vs)) (h0:0≤x) (h:∀ y,H y=none→Q (.ref y) (H.set y (.list tg (vs.take x.toNat)))) (hsz:vs.length≤sizeLine)
  (hs:∀ o i,subscripted slice false o i=operate [i,o] (getItem o i)):SliceP c F m H value slice (.ref a) .none (.int x tk) Q:=
 p_sliceList ok tg ha .none (.int x tk) (by
  obtain ⟨n,rfl⟩:=Int.eq_ofNat_of_zero_le h0
  rw [slicePick_upto' vs.toArray n];simp) h hsz hs
theorem p_sliceTup2 (ok:F.Ok) {value slice:Expr} {a:Addr} {x y z:Value} {tk:Tok} (ha:H a=some (.tup [x,y,z])) (h:∀ q,H q=none→Q (.ref q) (H.set q (.tup [x,y])))
  (hs:∀ o i,subscripted slice false o i=operate [i,o] (getItem o i)):SliceP c F m H value slice (.ref a) .none (.int 2 tk) Q:=fun s st=>by
 have ht:=st.tup ha
 have ht':IsTup (s.heap.push { cls:=.type "slice",data:=.fields #[.none,.int 2 tk,.none] }) a #[x,y,z]:=by
  obtain ⟨o,h1,h2,n,h3⟩:=ht
  exact ⟨o,Heap.get?_push_of_some _ h1,h2,n,h3⟩
 refine tail_any (IsTup.typeIs (s:={ s with heap:=s.heap.push { cls:=.type "slice",data:=.fields #[.none,.int 2 tk,.none] } }) ht') slot_tuple_getitem.lookup ?_ (hs _ _)
 refine tup_slice2 ht' (Heap.IsSliceOf.new ..) ?_
 obtain ⟨q,hx,hx0,st'⟩:=st.push2 ok (o1:={ cls:=.type "slice",data:=.fields #[.none,.int 2 tk,.none] }) (o2:={ cls:=.type "tuple",data:=.seq #[x,y] }) (ao:=.tup [x,y]) ⟨_,rfl⟩ rfl s.toks
 subst hx
 exact ⟨_,st',by
  show Q (.ref (s.heap.push _).objs.size) _
  rw [Heap.size_push];exact h _ hx0⟩
theorem p_getTup {a:Addr} {vs:List Value} {k:Int} {tk:Tok} {x:Value} (ha:H a=some (.tup vs)) (h0:0≤k) (hx:vs[k.toNat]?=some x) (h:Q x H) (hsz:vs.length≤sizeLine):PW c F m H (getItem (.ref a) (.int k tk)) Q:=fun s st=>by
 have hlt:=(List.getElem?_eq_some_iff.mp hx).1
 have:sizeLine=2 ^ 24:=rfl
 exact getItem_tuple (st.tup ha) (by lia) (by lia) (PySem.seqIndex_of h0 (by simp;lia)) (by simpa using hx) ⟨H,st,h⟩
theorem p_tailTup {value slice:Expr} {a:Addr} {vs:List Value} {i:Value} {ops:List Value} (ha:H a=some (.tup vs)) (h:PW c F m H (getItem (.ref a) i) Q)
  (hs:subscripted slice false (.ref a) i=operate ops (getItem (.ref a) i)):PW c F m H (subscriptTail value slice (.ref a) i) Q:=fun s st=>
 tail_any (st.tup ha).typeIs slot_tuple_getitem.lookup (h s st) hs
theorem p_getStr {x:Str} {k:Int} {t u:Tok} {cp:Nat} (h0:0≤k) (hk:k<2 ^ 62) (hx:x.cps[k.toNat]?=some cp) (h:∀ tk,Q (.str ⟨#[cp]⟩ tk) H):PW c F m H (getItem (.str x t) (.int k u)) Q:=fun s st=>by
 have hlt:=(Array.getElem?_eq_some_iff.mp hx).1
 refine getItem_str (c:=cp) ?_ ?_ ⟨H,st.toks _,h _⟩
 ·simp;lia
 ·rw [PySem.seqIndex_of h0 (show k<x.length by unfold Str.length;lia)]
  simpa using hx
theorem p_tailStr {value slice:Expr} {x:Str} {t:Tok} {i:Value} {ops:List Value} (h:PW c F m H (getItem (.str x t) i) Q)
  (hs:subscripted slice false (.str x t) i=operate ops (getItem (.str x t) i)):PW c F m H (subscriptTail value slice (.str x t) i) Q:=fun s st=>
 tail_any (typeIs_str s x t) slot_str_getitem.lookup (h s st) hs
end
end Internal
end
section
namespace Internal
open PySem PySem.W PyProof.Rows
theorem CC.make {c:Cfg} (cok:c.Ok) {r T:Nat} {C fI:Addr} {args:List Value} {H:AH} {Q:Value→AH→Prop} {X:Str→Int→AH→Prop} (hm:makesIn c.K C=true)
  (hi:findIn c.K (.ref C) "__init__" = some (some (.ref fI))) (hf:typeIn c.K (.ref fI)=some (.type "function")) (T0:T≠0)
  (h:∀ x dx H1,H x=none→H dx=none→x≠dx→Ext H H1→H1 x=some (.inst C dx)→H1 dx=some (.dict 99 []) →
   CC c r 99 (.ref fI) (.ref x::args) H1 (fun v H'=>v=.none∧(∀ a o,H1 a=some o→a≠dx→H' a=some o)∧∃ es ao,H' dx=some (.dict 99 es)∧(∀ o,OR c.prog c.w (.dict 99 es) o→OR c.prog c.w ao o)∧Q (.ref x) (H'.set dx ao)) (fun _ _ _=>False)) :
  CC c (r+2) T (.ref C) args H Q X:=fun A s l rm hh gd fr oo I=>by
 have XK:c.K.In s.heap:=cok.X.keeps I.stays
 obtain ⟨hp,g,d,t,os⟩:=s
 have hn1:H hp.objs.size=none:=by
  cases q:H hp.objs.size with
  | none=>rfl
  | some o=>obtain ⟨_,co,h2,_⟩:=I.obj _ _ q;exact absurd (Heap.lt_size h2) (Nat.lt_irrefl _)
 have hn2:H (hp.objs.size+1)=none:=by
  cases q:H (hp.objs.size+1) with
  | none=>rfl
  | some o=>obtain ⟨_,co,h2,_⟩:=I.obj _ _ q;exact absurd (Nat.lt_succ_of_lt (Heap.lt_size h2)) (Nat.lt_irrefl _)
 have hb1:c.b.get? hp.objs.size=none:=I.stays.fresh
 have hb2:c.b.get? (hp.objs.size+1)=none:=by
  cases q:c.b.get? (hp.objs.size+1) with
  | none=>rfl
  | some o=>exact absurd (Nat.lt_succ_of_lt (Heap.lt_size (I.stays _ o q))) (Nat.lt_irrefl _)
 refine make_core (makes_of XK hm) (looks_findIn XK hi) (fun self=>bind_fn XK self hf) (.inl rfl) ?_
 have hg:∀ b o,hp.get? b=some o→((hp.push emptyDict).push (instObj C hp.objs.size)).get? b=some o:=fun b o e=>Heap.get?_push_of_some _ (Heap.get?_push_of_some _ e)
 let H1:AH:=(H.set hp.objs.size (.dict 99 [])).set (hp.objs.size+1) (.inst C hp.objs.size)
 have hne:hp.objs.size+1≠hp.objs.size:=by lia
 have hext:Ext H H1:=fun a o e=>by
  show ((H.set hp.objs.size (.dict 99 [])).set (hp.objs.size+1) (.inst C hp.objs.size)) a=some o
  rw [AH.set_ne (by rintro rfl;rw [hn2] at e;injection e),AH.set_ne (by rintro rfl;rw [hn1] at e;injection e)];exact e
 have hdx:H1 hp.objs.size=some (.dict 99 []):=by
  show ((H.set hp.objs.size (.dict 99 [])).set (hp.objs.size+1) (.inst C hp.objs.size)) hp.objs.size=_
  rw [AH.set_ne (Ne.symm hne),AH.set_self]
 have I1:Inv c H1 ⟨(hp.push emptyDict).push (instObj C hp.objs.size),g,d,t,os⟩:=by
  refine ⟨fun b o e=>hg b o (I.stays b o e),fun a o e=>?_,I.gens,I.os⟩
  by_cases h1:a=hp.objs.size+1
  ·subst h1
   have:H1 (hp.objs.size+1)=some (.inst C hp.objs.size):=AH.set_self
   rw [this] at e;(injection e with e1;subst e1)
   refine ⟨hb2,_,?_,rfl⟩
   have:=Heap.get?_push_size (hp.push emptyDict) (o:=instObj C hp.objs.size) rfl
   rwa [Heap.size_push] at this
  ·by_cases h2:a=hp.objs.size
   ·subst h2
    rw [hdx] at e;(injection e with e1;subst e1)
    exact ⟨hb1,_,Heap.get?_push_of_some _ (Heap.get?_push_size _ rfl),⟨#[],0,⟨rfl,rfl,rfl⟩,rfl,(fun e he=>by simp at he),.nil,List.nodup_nil⟩⟩
   ·have e':H a=some o:=by
     have:H1 a=H a:=by
      show ((H.set hp.objs.size (.dict 99 [])).set (hp.objs.size+1) (.inst C hp.objs.size)) a=_
      rw [AH.set_ne h1,AH.set_ne h2]
     rw [← this];exact e
    obtain ⟨q1,co,q2,q3⟩:=I.obj a o e'
    exact ⟨q1,co,hg _ _ q2,q3⟩
 have rm':Room (A.under (.builtin "type.__call__" ⟨.ref C::args,[]⟩)) r:=⟨by rw [depth_under_make];have:=rm.depth;lia,by rw [units_under_make];have:=rm.units;lia⟩
 have oo':OuterOk H1 l:=fun env he=>by
  obtain ⟨z1,L,z2,z3⟩:=oo env he
  exact ⟨z1,L,z2,hext _ _ z3⟩
 refine codeAny_mono (h (hp.objs.size+1) hp.objs.size H1 hn2 hn1 hne hext AH.set_self hdx (A.under (.builtin "type.__call__" ⟨.ref C::args,[]⟩)) _ l rm' hh gd fr oo' I1) ?_
 intro r s' z
 rcases r with e | (_ | _ | _ | v)
 ·obtain ⟨a,dx,C,H',k,at_,t1,t2,tg,e1,e2,e3,e4,e5,e6,e7,e8⟩:=z
  exact e8.elim
 ·exact z.elim
 ·exact z.elim
 ·exact z.elim
 ·obtain ⟨H',I',kp,nk,rfl,oth,es,ao,hes,hao,hq⟩:=z
  refine ⟨rfl,?_⟩
  show CR _ _ _ _ _ _ _
  refine ⟨H'.set hp.objs.size ao,⟨I'.stays,fun a o e=>?_,I'.gens,I'.os⟩,fun a o e=>?_,fun a p e hpp o ho=>?_,hq⟩
  ·by_cases ha:a=hp.objs.size
   ·subst ha
    rw [AH.set_self] at e;(injection e with e1;subst e1)
    obtain ⟨q1,co,q2,q3⟩:=I'.obj _ (.dict 99 es) hes
    exact ⟨q1,co,q2,hao _ q3⟩
   ·rw [AH.set_ne ha] at e;exact I'.obj a o e
  ·have ha:a≠hp.objs.size:=by rintro rfl;rw [hn1] at e;injection e
   rw [AH.set_ne ha]
   have:=oth a o (hext a o e) ha
   exact ⟨fun _=>this,by rw [this];simp⟩
  ·obtain ⟨n1,sl,n2⟩:=nk a p (hext a p e) hpp o (hg _ _ ho)
   exact ⟨n1,sl,n2⟩
end Internal
end
section
namespace Internal
open PySem PySem.W PyProof.Rows
section
variable {c:Cfg} {F:Fx} {m m':LM} {H H':AH} {s:Shared}
theorem St.at (st:St c F m H s) (a:Addr) {h':Heap} {tk:Nat} (hne:∀ x,x≠a→H' x=H x) (hk:∀ x o,x≠a→s.heap.get? x=some o→h'.get? x=some o) (hb:c.b.get? a=none) (ho:∀ p,H' a=some p→∃ co,h'.get? a=some co∧OR c.prog c.w p co)
  (hL:h'.Ns F.L (look m')) (own:H' F.L=some .ns) (kp:∀ o,F.H0 a=some o→((o.tag≠F.T→H' a=some o)∧H' a≠none)∧¬o.priv) (it:∀ p ∈ F.its,p.1≠a):St c F m' H' { s with heap:=h',toks:=tk }:=by
 refine ⟨⟨fun x o e=>hk x o (fun q=>by rw [q,hb] at e;injection e) (st.inv.stays x o e),fun x p e=>?_,st.inv.gens,st.inv.os⟩,hL,own,fun x o e=>?_,fun x p e hp o h=>?_,fun p hp=>?_⟩
 ·by_cases hx:x=a
  ·subst hx;exact ⟨hb,ho p e⟩
  ·rw [hne x hx] at e
   exact (st.inv.obj x p e).imp id fun h=>h.imp fun co h=>⟨hk x co hx h.1,h.2⟩
 ·by_cases hx:x=a
  ·subst hx;exact (kp o e).1
  ·rw [hne x hx];exact st.keep x o e
 ·have hx:x≠a:=fun q=>(kp p (q▸e)).2 hp
  exact (st.nsk x p e hp o h).imp (fun h q=>hk x o hx (h q)) fun h=>h.imp fun sl h=>hk x _ hx h
 ·have hx:=it p hp
  exact (st.its p hp).imp id fun h=>h.imp id fun h=>⟨(hne _ hx).trans h.1,h.2.imp fun o h=>⟨hk _ o hx h.1,h.2⟩⟩
theorem St.stepP {a:Addr} {p:AObj} {h':Heap} {o':Obj} (st:St c F m H s) (h1:a≠F.L) (h2:F.H0 a=none) (h3:H a=some p) (hn:∀ p ∈ F.its,p.1≠a) (hs:Heap.SameBut a s.heap h') (h4:h'.get? a=some o') (h5:OR c.prog c.w p o') (tk:Nat):St c F m H { s with heap:=h',toks:=tk }:=
 st.at a (fun _ _=>rfl) (fun x o hx e=>(hs.2 x hx).trans e) (st.inv.obj _ _ h3).1 (fun q e=>⟨o',h4,by (injection (h3.symm.trans e) with e1;subst e1);exact h5⟩) (st.loc.sameBut hs (Ne.symm h1)) st.own (fun o e=>by injection (h2.symm.trans e)) hn
theorem AH.del_self {a:Addr}:(H.del a) a=none:=if_pos rfl
theorem AH.del_ne {a x:Addr} (h:x≠a):(H.del a) x=H x:=if_neg h
theorem St.forgetP {a:Addr} {p:AObj} {h':Heap} (st:St c F m H s) (h1:a≠F.L) (h2:F.H0 a=none) (h3:H a=some p) (hn:∀ p ∈ F.its,p.1≠a) (hs:Heap.ExtBut a s.heap h') (tk:Nat):St c F m (H.del a) { s with heap:=h',toks:=tk }:=
 st.at a (fun _ hx=>AH.del_ne hx) (fun x o hx e=>hs x o hx e) (st.inv.obj _ _ h3).1 (fun q e=>by injection (AH.del_self.symm.trans e)) (st.loc.extBut hs (Ne.symm h1)) ((AH.del_ne (Ne.symm h1)).trans st.own) (fun o e=>by injection (h2.symm.trans e)) hn
theorem St.retag0 {a:Addr} {ao ao':AObj} (st:St c F m H s) (ha:H a=some ao) (h0:F.H0 a=none) (hp:¬ao.priv) (ho:∀ o,OR c.prog c.w ao o→OR c.prog c.w ao' o):St c F m (H.set a ao') s:=
 have hne:∀ x p,H x=some p→p.priv→x≠a:=fun x p e hpp q=>hp (by rw [q,ha] at e;(injection e with e1;subst e1);exact hpp)
 st.at a (h':=s.heap) (tk:=s.toks) (fun _ hx=>AH.set_ne hx) (fun _ _ _ e=>e) (st.inv.obj _ _ ha).1 (fun q e=>by (injection (AH.set_self.symm.trans e) with e1;subst e1);exact (st.inv.obj _ _ ha).2.imp fun co h=>⟨h.1,ho _ h.2⟩) st.loc ((AH.set_ne (hne _ _ st.own trivial)).trans st.own) (fun o e=>by injection (h0.symm.trans e)) fun p hp=>hne _ .it (st.its p hp).2.2.1 trivial
end
noncomputable def Pub98 (H H':AH):Prop:=∀ a o,H a=some o→¬o.priv→o.tag≠98→H' a=some o
theorem Pub98.trans {H H1 H2:AH} (x:Pub98 H H1) (y:Pub98 H1 H2):Pub98 H H2:=fun a o e h1 h2=>y a o (x a o e h1 h2) h1 h2
theorem Pub98.set {H:AH} {a:Addr} {o:AObj} (h:∀ p,H a=some p→p.priv∨p.tag=98):Pub98 H (H.set a o):=fun x p e h1 h2=>by
 rw [AH.set_ne (by rintro rfl;exact (h p e).elim h1 h2)];exact e
theorem Pub98.del {H:AH} {a:Addr} (h:∀ p,H a=some p→p.priv∨p.tag=98):Pub98 H (H.del a):=fun x p e h1 h2=>by
 rw [AH.del_ne (by rintro rfl;exact (h p e).elim h1 h2)];exact e
theorem compLoop_any {prog:Program} {w:World} {A:Around} {R:Result→Shared→Prop} {s:Shared} {elt target iter:Expr} {scope:Scope} {pos:Pos} {it acc:Value} {env:Env} (I:Nat→Shared→Prop)
  (turn:∀ n s,I n s→wpAny (model prog w) A (pyNext it) (fun r s₁=>match r with
   | none=>R (.ok .next) s₁
   | some v=>wpAny (model prog w) A (letOwnedTupleGo target it v) (fun _ s₁=>wpAny (model prog w) A (assign target env v) (fun _ s₂=>wpAny (model prog w) A (eval elt env) (fun x s₃=>
     wpAny (model prog w) A (call (.builtin "list.append") [acc,x]) (fun _ s₄=>∃ m,m<n∧I m s₄) (fun _ _=>False) s₃)
     (fun _ _=>False) s₂) (fun _ _=>False) s₁) (fun _ _=>False) s₁) (fun _ _=>False) s)
  (n:Nat) (h:I n s):codeAny (model prog w) A (.compLoop (.ListComp elt [⟨target,iter,[],0⟩] scope pos) 0 it acc env) R s:=by
 refine codeAny_loop rfl I (fun n s hI=>?_) n h
 show wpAny _ _ ((compTurn (.ListComp elt [⟨target,iter,[],0⟩] scope pos) 0 it acc env).onRaise (fun x=>do noteFrame x env;theTreesLotGoes x)) _ _ s
 refine wpAny_noted ?_
 rw [compTurn_list1]
 refine wpAny_bind (wpAny_standAt (wpAny_bind (wpAny_mono (turn n s hI) (fun r s₁ h₁=>?_) fun _ _ h'=>h'.elim)))
 cases r with
 | none=>exact wpAny_pure h₁
 | some v=>
  refine wpAny_bind (wpAny_mono h₁ (fun _ s₁' h₁'=>?_) fun _ _ h'=>h'.elim)
  exact wpAny_bind (wpAny_mono h₁' (fun _ s₂ h₂=>wpAny_bind (wpAny_bind (wpAny_mono h₂ (fun x s₃ h₃=>wpAny_bind (wpAny_mono h₃
   (fun _ s₄ h₄=>wpAny_pure (wpAny_pure ⟨rfl,h₄⟩)) fun _ _ h'=>h'.elim)) fun _ _ h'=>h'.elim))) fun _ _ h'=>h'.elim)
section
variable {c:Cfg} {F:Fx} {m:LM} {H:AH} {s:Shared}
theorem St.back (ok:F.Ok) (st:St c F m H s) {LC:Addr} {H':AH} {s':Shared} (hL:LC≠F.L) (h0:F.H0 LC=none) (hi:∀ p ∈ F.its,p.1≠LC) (I:Inv c H' s') (kp:Keeps F.T (H.del LC) H') (nk:NsKeep (H.del LC) s.heap s'.heap):St c F m H' s':=by
 have kd:∀ {a o},a≠LC→H a=some o→(o.tag≠F.T→H' a=some o)∧H' a≠none:=fun ha e=>kp _ _ ((AH.del_ne ha).trans e)
 have kv:∀ {a o},a≠LC→H a=some o→o.priv→H' a=some o:=fun ha e hp=>(kd ha e).1 (by rw [AObj.priv_tag hp];exact fun q=>ok.T0 q.symm)
 have nv:∀ {a p o},a≠LC→H a=some p→p.priv→s.heap.get? a=some o→(p=.it→s'.heap.get? a=some o)∧∃ sl,s'.heap.get? a=some { o with slots:=sl }:=fun ha e hp=>nk _ _ ((AH.del_ne ha).trans e) hp _
 refine ⟨I,ns_of_slots st.loc fun o ho=>(nv (Ne.symm hL) st.own trivial ho).2,kv (Ne.symm hL) st.own trivial,fun a o e=>?_,fun a p e hp o y=>?_,fun p hp=>?_⟩
 ·have ha:a≠LC:=by rintro rfl;rw [h0] at e;injection e
  obtain ⟨h1,h2⟩:=st.keep a o e
  refine ⟨fun ht=>(kd ha (h1 ht)).1 ht,?_⟩
  cases q:H a with
  | none=>exact absurd q h2
  | some o₂=>exact (kd ha q).2
 ·have ha:a≠LC:=by rintro rfl;rw [h0] at e;injection e
  obtain ⟨z1,sl,h1⟩:=st.nsk a p e hp o y
  obtain ⟨z2,h2⟩:=nv ha ((st.keep a p e).1 (by rw [AObj.priv_tag hp];exact fun q=>ok.T0 q.symm)) hp h1
  exact ⟨fun q=>(z2 q).trans (h1.symm.trans (z1 q)),h2⟩
 ·obtain ⟨h1,h2,h3,o,h4,h5⟩:=st.its p hp
  exact ⟨h1,h2,kv (hi p hp) h3 trivial,_,(nv (hi p hp) h3 trivial h4).1 rfl,h5⟩
noncomputable def Fx.comp (F:Fx) (cenv:Env) (LC:Addr) (H:AH) (h:Heap):Fx:={ A:=F.A,env:=cenv,L:=LC,T:=F.T,r:=F.r,H0:=H.del LC,h0:=h,X:=fun _ _ _ _=>False,its:=[] }
structure CLp (c:Cfg) (F:Fx) (m:LM) (LC it D l:Addr) (i:Nat) (ys:List Value) (H:AH) (s:Shared):Prop where
 st:St c F m H s
 ns:∃ mc,s.heap.Ns LC (look mc)
 own:H LC=some .ns
 iter:Heap.IsListIter s.heap it l i
 it:H it=some .it
 acc:H D=some (.list 98 ys)
structure CFx (F:Fx) (LC it D:Addr):Prop where
 T:F.T≠98
 c1:LC≠F.L
 c2:F.H0 LC=none
 i1:it≠F.L
 i2:F.H0 it=none
 i3:∀ p ∈ F.its,p.1≠it
 i4:∀ p ∈ F.its,p.1≠LC
 d:F.H0 D=none
 fr:∃ fl,F.A.frames=some fl∧∀ env ∈ fl,env.scope.kind≠.module∧∃ L,env.frame=some L∧L≠LC
theorem CFx.okF {LC it D:Addr} {h:Heap} {cenv:Env} (K:CFx F LC it D) (ok:F.Ok) (st:St c F m H s) (hl1:cenv.locals=LC) (hl2:cenv.globals=mainGlobals) (hl3:cenv.builtins=builtinsNs) (hl4:cenv.scope.kind=.function):(F.comp cenv LC H h).Ok:=by
 obtain ⟨fl,hfl,hf⟩:=K.fr
 obtain ⟨fl',hfl',ho⟩:=ok.outer st.keep st.own
 (injection (hfl.symm.trans hfl') with e1;subst e1)
 refine ⟨ok.T0,hl1,hl2,hl3,hl4,.inr ⟨fun _ _ _ _ q=>q,fl,hfl,fun env he=>?_⟩,ok.hd,ok.gd,ok.room,AH.del_self⟩
 obtain ⟨z1,L,z2,z3⟩:=hf env he
 obtain ⟨_,L',z4,z5⟩:=ho env he
 (injection (z2.symm.trans z4) with e1;subst e1)
 exact ⟨z1,L,z2,(AH.del_ne z3).trans z5⟩
theorem comp_loop (ok:F.Ok) {elt target iter:Expr} {scope:Scope} {pos:Pos} {cenv:Env} {LC D it l:Addr} {vs:List Value} (K:CFx F LC it D)
  (hl1:cenv.locals=LC) (hl2:cenv.globals=mainGlobals) (hl3:cenv.builtins=builtinsNs) (hl4:cenv.scope.kind=.function)
  (P:Nat→List Value→AH→Prop) (hP:∀ i ys H H',P i ys H→Pub98 H H'→P i ys H') (hI:∀ i ys H,P i ys H→∃ t,H l=some (.list t vs))
  (turn:∀ (F':Fx) i x ys m0 H,F'.Ok→F'.env=cenv→F'.T=F.T→F'.r=F.r→vs[i]?=some x→P i ys H →
   PS c F' m0 H (assign target F'.env x) fun _ m1 H1=>PW c F' m1 H1 (eval elt F'.env) fun y H'=>P (i+1) (ys++[y]) H')
  (hvs:vs.length≤sizeLine) (st:CLp c F m LC it D l 0 [] H s) (h0:P 0 [] H) {Rr:Result→Shared→Prop}
  (fin:∀ H' ys s',St c F m H' s'→P vs.length ys H'→H' D=some (.list 98 ys)→H' LC=some .ns→(∃ mc,s'.heap.Ns LC (look mc))→Rr (.ok .next) s') :
  codeAny (model c.prog c.w) F.A (.compStart (.ListComp elt [⟨target,iter,[],0⟩] scope pos) 0 (.ref it) (.ref D) cenv) Rr s:=by
 have loop:codeAny (model c.prog c.w) F.A (.compLoop (.ListComp elt [⟨target,iter,[],0⟩] scope pos) 0 (.ref it) (.ref D) cenv) Rr s:=by
  refine compLoop_any (fun n s=>∃ i ys H,n=vs.length - i∧i≤vs.length∧ys.length=i∧P i ys H∧CLp c F m LC it D l i ys H s) ?_ (vs.length - 0) ⟨0,[],H,rfl,Nat.zero_le _,rfl,h0,st⟩
  rintro n s ⟨i,ys,H,hn,hle,hys,hi,⟨st,⟨mc,hns⟩,a3,hiter,a4,hD⟩⟩
  obtain ⟨t',hl'⟩:=hI _ _ _ hi
  have hLit:LC≠it:=by rintro rfl;rw [a3] at a4;cases a4
  have hDit:D≠it:=by rintro rfl;rw [hD] at a4;cases a4
  have hDL:D≠LC:=by rintro rfl;rw [hD] at a3;cases a3
  cases hxi:vs[i]? with
  | none=>
   have hi':i=vs.length:=Nat.le_antisymm hle (List.getElem?_eq_none_iff.mp hxi)
   subst hi'
   refine wpAny_pyNext_list_end ok.hd hiter (st.list hl').isList (by simpa using hxi) fun h' hext=>?_
   exact fin _ ys _ (st.forgetP K.i1 K.i2 a4 K.i3 hext s.toks) (hP _ _ _ _ hi (.del fun p e=>.inl (by rw [a4] at e;(injection e with e1;subst e1);trivial))) ((AH.del_ne hDit).trans hD) ((AH.del_ne hLit).trans a3) ⟨mc,hns.extBut hext hLit⟩
  | some x=>
   have hlt:=(List.getElem?_eq_some_iff.mp hxi).1
   refine wpAny_pyNext_list_item hiter (st.list hl').isList (by simpa using hxi) fun h' hiter' hsb=>?_
   obtain ⟨o',ho',hc',hd'⟩:=id hiter'
   have st1:=st.stepP K.i1 K.i2 a4 K.i3 hsb ho' (show OR _ _ .it o' from ⟨"list_iterator",hc',by decide⟩) s.toks
   refine wpAny_letOwned (T:="list_iterator") ho' hc' (.inl rfl) ?_
   have stF:St c (F.comp cenv LC H h') mc H { s with heap:=h' }:=
    ⟨st1.inv,hns.sameBut hsb hLit,a3,fun a o e=>by
     have ha:a≠LC:=fun q=>by
      replace e:(H.del LC) a=some o:=e
      rw [q,AH.del_self] at e;injection e
     rw [show H a=some o from (AH.del_ne ha).symm.trans e]
     exact ⟨fun _=>rfl,fun q=>by injection q⟩,NsKeep.refl _ _,fun p hp=>(nomatch hp)⟩
   have noX:∀ {e s'},XE c (F.comp cenv LC H h') e s'→False:=fun x=>x.no fun _ _ _ _ q=>q
   refine wpAny_mono (turn _ i x ys mc H (K.okF ok st hl1 hl2 hl3 hl4) rfl rfl rfl hxi hi _ stF) ?_ fun e s' x=>noX x
   rintro _ s₂ ⟨m1,H1,st2,z⟩
   refine wpAny_mono (z s₂ st2) ?_ fun e s' x=>noX x
   rintro y s₃ ⟨H',st3,hp3⟩
   clear z st2
   have st4:St c F m H' s₃:=st1.back ok K.c1 K.c2 K.i4 st3.inv st3.keep st3.nsk
   have hD':H' D=some (.list 98 ys):=(st3.keep D _ ((AH.del_ne hDL).trans hD)).1 (fun q=>K.T q.symm)
   have hit':H' it=some .it:=(st3.keep it _ ((AH.del_ne (Ne.symm hLit)).trans a4)).1 (fun q=>ok.T0 q.symm)
   have hitr:=(st3.nsk it .it ((AH.del_ne (Ne.symm hLit)).trans a4) trivial o' ho').1 rfl
   refine wpAny_list_append_plain (st4.list hD') (fun h'' hpl hsb2=>?_) (by rw [List.size_toArray,hys];lia)
   obtain ⟨k2,hk2⟩:=hpl
   have st5:=st4.change ok (ao':=.list 98 (ys++[y])) hD' (fun q=>q) (.inr K.d) rfl hsb2 hk2 ⟨k2,by simp⟩ s₃.toks
   exact ⟨vs.length - (i+1),hn▸Nat.sub_lt_sub_left hlt (Nat.lt_succ_self i),i+1,ys++[y],_,rfl,hlt,by simp [hys],hP _ _ _ _ hp3 (.set fun p e=>by rw [hD'] at e;(injection e with e1;subst e1);exact .inr rfl),
    st5,⟨m1,st3.loc.sameBut hsb2 (Ne.symm hDL)⟩,(AH.set_ne (Ne.symm hDL)).trans st3.own,⟨o',(hsb2.2 _ (Ne.symm hDit)).trans hitr,hc',hd'⟩,(AH.set_ne (Ne.symm hDit)).trans hit',AH.set_self⟩
 exact codeAny_compStart_list loop (wpAny_pyIter_listiter st.iter loop)
theorem closure_ok {scope:Scope} {env:Env} (h:∀ x ∈ scope.names,x.2=.free→∃ a,env.cells.lookup x.1=some a):∃ cl,closureFor scope env=pure cl∧∀ x ∈ scope.names,x.2=.free→cl.lookup x.1=env.cells.lookup x.1:=by
 have key:∀ (l:List (Str × NameKind)) (acc:List (Str × Addr)),(∀ x ∈ l,x.2=.free→∃ a,env.cells.lookup x.1=some a)→(∀ x a,acc.lookup x=some a→env.cells.lookup x=some a) →
   ∃ cl,(forIn l acc fun x cs=>(if x.2==.free then (do let a ← cellOf env x.1;pure (ForInStep.yield ((x.1,a)::cs))) else pure (ForInStep.yield cs):Sem (ForInStep (List (Str × Addr)))))=(pure cl:Sem (List (Str × Addr)))∧(∀ x a,cl.lookup x=some a→env.cells.lookup x=some a) ∧
    (∀ x a,acc.lookup x=some a→(cl.lookup x).isSome)∧∀ x ∈ l,x.2=.free→(cl.lookup x.1).isSome:=by
  intro l
  induction l with
  | nil=>exact fun acc _ ha=>⟨acc,rfl,ha,fun x a e=>by rw [e];rfl,fun x hx=>nomatch hx⟩
  | cons p l ih=>
   obtain ⟨n,k⟩:=p
   intro acc hl ha
   by_cases hk:k=.free
   ·subst hk
    obtain ⟨a,hc⟩:=hl (n,.free) (.head _) rfl
    have ha':∀ x b,List.lookup x ((n,a)::acc)=some b→env.cells.lookup x=some b:=fun x b e=>by
     rw [List.lookup_cons] at e
     split at e
     ·rename_i q;rw [beq_iff_eq.mp q,hc];exact e
     ·exact ha x b e
    obtain ⟨cl,e1,e2,e3,e4⟩:=ih ((n,a)::acc) (fun x hx=>hl x (.tail _ hx)) ha'
    refine ⟨cl,?_,e2,fun x b e=>?_,fun x hx hf=>?_⟩
    ·rw [List.forIn_cons]
     show ((cellOf env n >>= fun a=>pure (ForInStep.yield ((n,a)::acc))) >>= _)=_
     unfold cellOf
     rw [hc]
     exact e1
    ·cases q:List.lookup x ((n,a)::acc) with
     | some b'=>exact e3 x b' q
     | none=>
      rw [List.lookup_cons] at q
      split at q
      ·injection q
      ·rw [e] at q;injection q
    ·rcases List.mem_cons.mp hx with rfl | hx
     ·exact e3 n a (by rw [List.lookup_cons,beq_self_eq_true])
     ·exact e4 x hx hf
   ·obtain ⟨cl,e1,e2,e3,e4⟩:=ih acc (fun x hx=>hl x (.tail _ hx)) ha
    refine ⟨cl,?_,e2,e3,fun x hx hf=>?_⟩
    ·rw [List.forIn_cons]
     have:(k==NameKind.free)=false:=by simpa using hk
     show ((if (k==NameKind.free)=true then _ else pure (ForInStep.yield acc)) >>= _)=_
     rw [this]
     exact e1
    ·rcases List.mem_cons.mp hx with rfl | hx
     ·exact absurd hf hk
     ·exact e4 x hx hf
 obtain ⟨cl,e1,e2,_,e4⟩:=key scope.names [] h (fun x a e=>by injection e)
 refine ⟨cl,?_,fun x hx hf=>?_⟩
 ·unfold closureFor
  rw [← bind_pure (pure cl),← e1]
 ·obtain ⟨a,ha⟩:=Option.isSome_iff_exists.mp (e4 x hx hf)
  rw [ha,e2 _ _ ha]
structure CompFin (c:Cfg) (F:Fx) (m:LM) (D LC:Addr) (ys:List Value) (H':AH) (s':Shared):Prop where
 st:St c F m H' s'
 lL:LC≠F.L
 l0:F.H0 LC=none
 li:∀ p ∈ F.its,p.1≠LC
 own:H' LC=some .ns
 ne:D≠LC
 acc:H' D=some (.list 98 ys)
 d0:F.H0 D=none
 ns:∃ mc,s'.heap.Ns LC (look mc)
theorem CompFin.out {D LC:Addr} {ys:List Value} {H':AH} {s':Shared} (X:CompFin c F m D LC ys H' s') (ok:F.Ok) {m':LM} {s2:Shared} {h':Heap} (st:St c F m' H' s2) (hsb:Heap.SameBut LC s2.heap h') (tk:Nat):St c F m' ((H'.del LC).set D (.list 0 ys)) { s2 with heap:=h',toks:=tk }:=
 (st.forgetP X.lL X.l0 X.own X.li hsb.extBut tk).retag0 (ao':=.list 0 ys) ((AH.del_ne X.ne).trans X.acc) X.d0 id fun _ o=>o
theorem comp_core (ok:F.Ok) {elt target iter:Expr} {scope:Scope} {pos:Pos} {Q:Value→AH→Prop}
  (hkind:scope.kind=.function) (hnames:∀ x ∈ scope.names,x.2=.local→scope.names.lookup x.1=some .local) (hcell:∀ x ∈ scope.names,x.2≠.cell) (hfree:∀ x ∈ scope.names,x.2=.free→∃ a,F.env.cells.lookup x.1=some a)
  (hs:∀ x,foldedSetIterable iter F.env x=pure x) (hT:F.T≠98)
  (h:PW c F m H (eval iter F.env) fun v H1=>∃ l t vs,v=.ref l∧H1 l=some (.list t vs)∧vs.length≤sizeLine∧∃ P:Nat→List Value→AH→Prop,(∀ i ys H H',P i ys H→Pub98 H H'→P i ys H')∧(∀ i ys H,P i ys H→∃ t,H l=some (.list t vs))∧P 0 [] H1 ∧
   (∀ (F':Fx) i x ys m0 H,F'.Ok→F'.env.scope=relabel scope F.env→(∀ x ∈ scope.names,x.2=.free→F'.env.cells.lookup x.1=F.env.cells.lookup x.1)→F'.T=F.T→F'.r=F.r→vs[i]?=some x→P i ys H →
    PS c F' m0 H (assign target F'.env x) fun _ m1 H1=>PW c F' m1 H1 (eval elt F'.env) fun y H'=>P (i+1) (ys++[y]) H') ∧
   (∀ D ys H',P vs.length ys H'→H' D=some (.list 0 ys)→H1 D=none→Q (.ref D) H'))
  {u:Option (Value→Sem Unit)} {Q':Value→Shared→Prop} {p0:Pos} (hu:∀ D LC ys H' s',CompFin c F m D LC ys H' s'→Q (.ref D) ((H'.del LC).set D (.list 0 ys))→compPost (model c.prog c.w) F.A (XE c F) u Q' (.ref D) LC (.ok .next) s') {s:Shared} (st:St c F m H s) :
  wpAny (model c.prog c.w) F.A (comprehension (.ListComp elt [⟨target,iter,[],0⟩] scope pos) scope F.env p0 (newList []) false (eval iter F.env) u) Q' (XE c F) s:=by
 obtain ⟨cl,hclos,hcl⟩:=closure_ok hfree
 refine wpAny_comprehension_free (use:=u) rfl hs hclos hkind hnames ?_
 refine wpAny_mono (h s st) ?_ fun _ _ e=>e
 rintro v s1 ⟨H1,st1,l,t,vs,rfl,hl,hvs,P,hP,hI,hP0,turn,fin⟩
 clear h st
 refine wpAny_pyIter_list (st1.list hl).isList ?_
 have it0:=st1.fresh
 have st2:=st1.alloc (o:={ cls:=.type "list_iterator",data:=.fields #[.ref l,.int 0 0] }) (ao:=.it) ⟨"list_iterator",rfl,by decide⟩ rfl s1.toks
 have git:=Heap.get?_push_size s1.heap (o:={ cls:=.type "list_iterator",data:=.fields #[.ref l,.int 0 0] }) rfl
 have loc1:=st1.own
 obtain ⟨fl,hfl,hout⟩:=ok.outer st1.keep st1.own
 have b1:=fun a (q:H1 a=none)=>st1.fresh0 q
 have i1:=st1.its
 generalize s1.heap.objs.size=it at *
 refine wpAny_newObj_type ?_ (Nat.zero_le _)
 have D0:=st2.fresh
 have st3:=st2.alloc (o:={ cls:=.type "list",data:=.seq #[] }) (ao:=.list 98 []) ⟨0,rfl⟩ rfl s1.toks
 have git3:=Heap.get?_push_of_some { cls:=.type "list",data:=.seq #[] } git
 generalize (s1.heap.push { cls:=.type "list_iterator",data:=.fields #[.ref l,.int 0 0] }).objs.size=D at *
 refine wpAny_newFunctionEnv hcell (fun x hx=>nomatch hx) (fun h4 hns hsb=>?_) hkind
 have C0:=st3.fresh
 have st4:=st3.alloc (o:={ cls:=.type "dict",data:=.dict #[] }) (ao:=.ns) (fun vs q=>by injection q) rfl s1.toks
 have git4:=Heap.get?_push_of_some { cls:=.type "dict",data:=.dict #[] } git3
 generalize hLC:((s1.heap.push { cls:=.type "list_iterator",data:=.fields #[.ref l,.int 0 0] }).push { cls:=.type "list",data:=.seq #[] }).objs.size=LC at *
 have Dit:D≠it:=by rintro rfl;rw [AH.set_self] at D0;injection D0
 have hD1:H1 D=none:=(AH.set_ne Dit).symm.trans D0
 have LCD:LC≠D:=by rintro rfl;rw [AH.set_self] at C0;injection C0
 have LCit:LC≠it:=by rintro rfl;rw [AH.set_ne (Ne.symm Dit),AH.set_self] at C0;injection C0
 have hC1:H1 LC=none:=by rw [AH.set_ne LCD,AH.set_ne LCit] at C0;exact C0
 have nl:∀ {a},H1 a=none→a≠F.L:=by rintro a q rfl;rw [loc1] at q;injection q
 have ni:∀ {a},H1 a=none→∀ p ∈ F.its,p.1≠a:=fun q p hp z=>by have:=(i1 p hp).2.2.1;rw [z,q] at this;injection this
 have hns':h4.Ns LC (look []):=hns
 have oo:h4.get? LC≠none∧∃ o,h4.get? LC=some o∧OR c.prog c.w .ns o:=by
  obtain ⟨oo,es,ep,ho,hd,_⟩:=hns'
  exact ⟨by rw [ho];exact (fun q=>by injection q),oo,ho,fun vs q=>by rw [hd] at q;injection q⟩
 obtain ⟨_,oC,hoC,hOC⟩:=oo
 have st5:=st4.stepP (nl hC1) (b1 _ hC1) AH.set_self (ni hC1) hsb hoC hOC (s1.toks+([]:List (Str × Value)).length)
 have pub:Pub98 H1 (((H1.set it .it).set D (.list 98 [])).set LC .ns):=((Pub98.set fun p e=>by rw [it0] at e;injection e).trans (Pub98.set fun p e=>by rw [D0] at e;injection e)).trans (.set fun p e=>by rw [C0] at e;injection e)
 have K:CFx F LC it D:=⟨hT,nl hC1,b1 _ hC1,nl it0,b1 _ it0,ni it0,ni hC1,b1 _ hD1,fl,hfl,fun env he=>by
  obtain ⟨z1,L,z2,z3⟩:=hout env he
  exact ⟨z1,L,z2,by rintro rfl;rw [hC1] at z3;injection z3⟩⟩
 refine comp_loop ok K (cenv:={ newEnv scope LC F.env.globals cl F.env.qual none .none (some F.env) F.env.builtins with scope:=relabel scope F.env }) rfl ok.glb ok.blt hkind P hP hI
  (fun F' i x ys m0 H a b d e f g=>turn F' i x ys m0 H a (by rw [b]) (fun y hy hf=>by rw [b];exact hcl y hy hf) d e f g) hvs
  ⟨st5,⟨[],hns'⟩,AH.set_self,⟨_,(hsb.2 it (Ne.symm LCit)).trans git4,rfl,rfl⟩,by rw [AH.set_ne (Ne.symm LCit),AH.set_ne (Ne.symm Dit),AH.set_self],by rw [AH.set_ne (Ne.symm LCD),AH.set_self]⟩ (hP _ _ _ _ hP0 pub) ?_
 intro H' ys s' st' hp' hD' hLC' hmc
 have hD6:(H'.del LC) D=some (.list 98 ys):=(AH.del_ne (Ne.symm LCD)).trans hD'
 exact hu D LC ys H' s' ⟨st',nl hC1,b1 _ hC1,ni hC1,hLC',Ne.symm LCD,hD',b1 _ hD1,hmc⟩ (fin D ys _ (hP _ _ _ _ hp' ((Pub98.del fun p e=>by rw [hLC'] at e;(injection e with e1;subst e1);exact .inl trivial).trans (.set fun p e=>by rw [hD6] at e;(injection e with e1;subst e1);exact .inr rfl))) AH.set_self hD1)
theorem p_ListComp (ok:F.Ok) {elt target iter:Expr} {scope:Scope} {pos:Pos} {Q:Value→AH→Prop}
  (hkind:scope.kind=.function) (hnames:∀ x ∈ scope.names,x.2=.local→scope.names.lookup x.1=some .local) (hcell:∀ x ∈ scope.names,x.2≠.cell) (hfree:∀ x ∈ scope.names,x.2=.free→∃ a,F.env.cells.lookup x.1=some a)
  (hs:∀ x,foldedSetIterable iter F.env x=pure x) (hT:F.T≠98)
  (h:PW c F m H (eval iter F.env) fun v H1=>∃ l t vs,v=.ref l∧H1 l=some (.list t vs)∧vs.length≤sizeLine∧∃ P:Nat→List Value→AH→Prop,(∀ i ys H H',P i ys H→Pub98 H H'→P i ys H')∧(∀ i ys H,P i ys H→∃ t,H l=some (.list t vs))∧P 0 [] H1 ∧
   (∀ (F':Fx) i x ys m0 H,F'.Ok→F'.env.scope=relabel scope F.env→(∀ x ∈ scope.names,x.2=.free→F'.env.cells.lookup x.1=F.env.cells.lookup x.1)→F'.T=F.T→F'.r=F.r→vs[i]?=some x→P i ys H →
    PS c F' m0 H (assign target F'.env x) fun _ m1 H1=>PW c F' m1 H1 (eval elt F'.env) fun y H'=>P (i+1) (ys++[y]) H') ∧
   (∀ D ys H',P vs.length ys H'→H' D=some (.list 0 ys)→H1 D=none→Q (.ref D) H')) :
  PW c F m H (eval (.ListComp elt [⟨target,iter,[],0⟩] scope pos) F.env) Q:=fun s st=>by
 rw [eval_ListComp]
 refine comp_core ok hkind hnames hcell hfree hs hT h (fun D LC ys H' s' X q=>?_) st
 exact X.ns.elim fun mc hmc=>⟨_,hmc,fun h' hsb=>⟨_,X.out ok X.st hsb _,q⟩⟩
end
end Internal
end
section
namespace Internal
open PySem PySem.W PyProof.Rows
section
variable {c:Cfg} {F:Fx} {m:LM} {H:AH} {s:Shared} {Q:Value→AH→Prop}
theorem q_unpack (ok:F.Ok) {elts:List Expr} {k:Nat} {pos:Pos} {t:Addr} {vs:List Value} {R:Unit→LM→AH→Prop} (ht:H t=some (.tup vs))
  (hn:(assignEach elts F.env).length=vs.length) (hstar:(assignEach elts F.env).findIdx? (·.1)=none)
  (h:PS c F m H (assignInOrder ((assignEach elts F.env).map (·.2)) vs) R):PS c F m H (assign (.Tuple elts k pos) F.env (.ref t)) R:=fun s st=>by
 refine assign_Tuple_tuple ok.hd (st.tup ht) (by simpa using hn) hstar fun h' hext=>?_
 exact h _ (st.grow ok (fun a o e=>hext a o (heap_lt e) e) s.toks)
theorem q_aio_nil {ts:List (Value→Sem Unit)} {R:Unit→LM→AH→Prop} (h:R () m H):PS c F m H (assignInOrder ts []) R:=by
 cases ts<;>exact PS.pure h
theorem q_aio_N (ok:F.Ok) {ns:List (Str × NameKind)} (sc:Sc F ns) {x:Str} {p:Pos} {es:List Expr} {v:Value} {vs:List Value} {R:Unit→LM→AH→Prop} (hl:ns.lookup x=some .local)
  (h:PS c F (setL x v m) H (assignInOrder ((assignEach es F.env).map (·.2)) vs) R):PS c F m H (assignInOrder ((assignEach (.Name x p::es) F.env).map (·.2)) (v::vs)) R:=by
 show PS c F m H (holding vs (assign (.Name x p) F.env v) >>= fun _=>assignInOrder ((assignEach es F.env).map (·.2)) vs) R
 refine PS.bind (PS.holding ?_)
 show PS c F m H (standAt p >>= fun _=>bindName F.env x v) _
 exact PS.bindW (PW.standAt (PS.bindName ok h (sc.kl hl)))
theorem q_asName (ok:F.Ok) {ns:List (Str × NameKind)} (sc:Sc F ns) {x:Str} {p:Pos} {v:Value} {R:Unit→LM→AH→Prop} (hl:ns.lookup x=some .local) (h:R () (setL x v m) H):PS c F m H (assign (.Name x p) F.env v) R:=by
 show PS c F m H (standAt p >>= fun _=>bindName F.env x v) _
 exact PS.bindW (PW.standAt (PS.bindName ok h (sc.kl hl)))
theorem seq_iadd:seqSlot? (.type "list") (dunderI "add")=pure (some (.builtin "list.__iadd__")):=by
 unfold seqSlot?
 rw [PySem.F.slot_list_iadd.lookup];rfl
theorem fills_iadd:fillsInplaceSlot (.type "list") "add" (Operator.Add==.Add)=pure false:=by
 unfold fillsInplaceSlot
 show (typeLookup (.type "list") (dunderI "add") >>= fun fi=>pure (fi.isSome&&!isSeqSlot fi))=pure false
 rw [PySem.F.slot_list_iadd.lookup];rfl
theorem wpAny_iadd {prog:Program} {w:World} {A:Around} {E:Value→Shared→Prop} {s:Shared} {a b:Value} {Q:Value→Shared→Prop} (ha:s.TypeIs a "list") (hb:s.TypeIs b "list")
  (hc:wpAny (model prog w) A (call (.builtin "list.__iadd__") [a,b]) Q E s):wpAny (model prog w) A (inplaceOp .Add a b) Q E s:=by
 unfold inplaceOp
 refine wpAny_holding ?_
 refine wpAny_bind (wpAny_typeOf ha (wpAny_bind (wpAny_of_eq fills_iadd ?_)))
 show wpAny _ A (if false=true then _ else _) Q E s
 rw [if_neg Bool.false_ne_true]
 refine wpAny_bind (wpAny_binaryOp1_none (nm:="add") ha hb noFill_list_add ?_)
 refine wpAny_bind (wpAny_of_eq seq_iadd ?_)
 exact wpAny_bind (wpAny_rule hc)
theorem p_iaddList (ok:F.Ok) {a b:Addr} {t u:Nat} {vs ws:List Value} (ha:H a=some (.list t vs)) (hb:H b=some (.list u ws)) (hm:t=F.T∨F.H0 a=none) (h:Q (.ref a) (H.set a (.list t (vs++ws)))) (hne:ws≠[])
  (hsz:vs.length+ws.length≤sizeLine):PW c F m H (inplaceOp .Add (.ref a) (.ref b)) Q:=fun s st=>by
 obtain ⟨n,hn⟩:=st.list ha
 obtain ⟨n2,hn2⟩:=st.list hb
 refine wpAny_iadd ⟨_,hn,rfl⟩ ⟨_,hn2,rfl⟩ ?_
 refine call_meets PySem.F.slot_list_iadd ⟨_,hn,rfl⟩ PySem.F.entry_list_iadd (PySem.F.args_list_iadd_2 _ _) (PySem.AutoSeq1.list___iadd___list_list_0 a vs.toArray n b ws.toArray n2 ?_ ?_ ?_) ⟨hn,hn2,?_⟩
 ·have this:Builtin.List.listTooLong (vs.length+ws.length)=false:=by
   simp [Builtin.List.listTooLong];lia
  simp [this]
 ·simp;lia
 ·simp;lia
 ·have hu:=PySem.IsL.update hn (fun x=>x++ws.toArray)
  have e:vs.toArray++ws.toArray=(vs++ws).toArray:=by simp
  rw [e] at hu
  exact ⟨_,st.change ok (ao':=.list t (vs++ws)) ha (fun q=>q) hm rfl (Heap.SameBut.update ..) hu ⟨_,rfl⟩ s.toks,h⟩
theorem p_mulList (ok:F.Ok) {a:Addr} {t:Nat} {x:Value} {n:Int} {u:Tok} (tg:Nat) (ha:H a=some (.list t [x])) (h0:0≤n) (hn:n≤2 ^ 20) (h:∀ y,H y=none→Q (.ref y) (H.set y (.list tg (List.replicate n.toNat x)))) :
  PW c F m H (binaryOp .Mult (.ref a) (.int n u)) Q:=fun s st=>by
 obtain ⟨k,hk⟩:=st.list ha
 refine mul_list st.fr st.news hk (by lia) (by lia) (by simp;lia) fun h' F' N'=>?_
 have e:(List.foldl (fun x1 x2=>x1++x2) #[] (List.replicate (if ([x].toArray).isEmpty=true then 0 else n.toNat) [x].toArray))=(List.replicate n.toNat x).toArray:=by
  have key:∀ (k:Nat) (acc:Array Value),List.foldl (fun x1 x2=>x1++x2) acc (List.replicate k #[x])=acc++(List.replicate k x).toArray:=by
   intro k
   induction k with
   | zero=>intro acc;simp
   | succ k ih=>intro acc;rw [List.replicate_succ,List.foldl_cons,ih];apply Array.toList_inj.mp;simp [List.replicate_succ]
  have:=key n.toNat #[]
  simpa using this
 rw [e] at N'
 exact ⟨_,st.newOne ok F' N' (ao:=.list tg (List.replicate n.toNat x)) ⟨_,rfl⟩ s.toks,h _ st.fresh⟩
theorem AH.set_set {H:AH} {a:Addr} {o o':AObj}:(H.set a o).set a o'=H.set a o':=by
 funext y;unfold AH.set;split<;>rfl
theorem p_Dict (ok:F.Ok) {keys:List (Option Expr)} {values:List Expr} {pos:Pos} {pairs:List (Sem Value × Sem Value)} (tg:Nat)
  (hshape:(evalEachOpt keys F.env).zip ((evalEach values F.env).map fun v=>do let x ← v;standAt pos;pure x)=pairs.map fun p=>(some p.1,p.2)) (h0:pairs≠[]) (hlen:pairs.length≤15)
  (h:∀ D,H D=none→PW c F m (H.set D (.dict 5 [])) (evalPairs pairs) fun vs H2=>∃ kvs,Carries (PySem.strKind c.prog c.w) vs kvs∧H2 D=some (.dict 5 [])∧Q (.ref D) (H2.set D (.dict tg (merged [] kvs)))) :
  PW c F m H (eval (.Dict keys values pos) F.env) Q:=fun s st=>by
 refine wpAny_Dict_pairs (knd:=PySem.strKind c.prog c.w) hshape h0 hlen ?_
 have hok:OR c.prog c.w (.dict 5 []) { cls:=.type "dict",data:=.dict #[] }:=⟨#[],0,⟨rfl,rfl,rfl⟩,rfl,(fun e he=>by simp at he),.nil,List.nodup_nil⟩
 have st1:=st.alloc (o:={ cls:=.type "dict",data:=.dict #[] }) (ao:=.dict 5 []) hok rfl s.toks
 have hfr:=st.fresh
 refine wpAny_mono (h _ hfr _ st1) ?_ fun _ _ e=>e
 rintro vs s1 ⟨H2,st2,kvs,hc,hD,hq⟩
 refine ⟨kvs,hc,st2.dict hD,fun h' hd hs=>?_⟩
 obtain ⟨o,ho,hd⟩:=Heap.dictOf_iff.mp hd
 have hD0:F.H0 s.heap.objs.size=none:=st.fresh0 hfr
 have st3:=st2.change ok (ao':=.dict 5 (merged [] kvs)) hD (fun q=>q) (.inr hD0) rfl hs ho hd (s1.toks+vs.length)
 have st4:=st3.retag0 (ao':=.dict tg (merged [] kvs)) AH.set_self hD0 id fun _ o=>o
 rw [AH.set_set] at st4
 exact ⟨_,st4,hq⟩
theorem p_pairs_nil {Q:List (Value × Value)→AH→Prop} (h:Q [] H):PW c F m H (evalPairs []) Q:=PW.pure h
theorem p_pairs_cons {k v:Sem Value} {rest:List (Sem Value × Sem Value)} {Q:List (Value × Value)→AH→Prop} (h:PW c F m H k fun kv H1=>PW c F m H1 v fun vv H2=>PW c F m H2 (evalPairs rest) fun vs H3=>Q ((kv,vv)::vs) H3) :
  PW c F m H (evalPairs ((k,v)::rest)) Q:=by
 show PW c F m H (k >>= fun kv=>holding [kv] v >>= fun vv=>holding [kv,vv] (evalPairs rest) >>= fun r=>pure ((kv,vv)::r)) Q
 exact PW.bind (h.mono fun kv H1 h1=>PW.bind (PW.holding (h1.mono fun vv H2 h2=>PW.bind (PW.holding (h2.mono fun vs H3 h3=>PW.pure h3)))))
end
end Internal
end
section
namespace Internal
open PySem PySem.W PyProof.Rows
theorem lk_self {x:Str} {v:Value} {m:LM}:look (setL x v m) x=some v:=by rw [look_setL];simp
theorem lk_ne {x y:Str} {v u:Value} {m:LM} (h:(y==x)=false) (e:look m y=some u):look (setL x v m) y=some u:=by
 rw [look_setL];have:y≠x:=by simpa using h
 simp only [if_neg this];exact e
end Internal
end
section
namespace Internal
open PySem PySem.W PyProof.Rows
inductive V
 | none | bool (b:Bool) | int (n:Int) | str (s:Str) | fn (a:Addr) | cell (i:Nat)
 | tup (l:List V) | lst (l:List V) | obj (C:Addr) (l:List V) | vec (k:Str) (i a:V) | nm (v:V)
inductive LV | v (x:V) | own (l:List V) | un
inductive Root | lst (l:List V) | dict (fs:List (Str × V)) | hid (p:Nat) | inst (C:Addr) (fs:List (Str × V)) | stay (H0:AH)
structure Fst where
 G:List (Str × LV)
 r:List Root
inductive Fl | next | brk | ret (v:V)
inductive Out | ok (v:V) (r:List Root) | exc (k:Str) (n:Int)
inductive Tr:Type→Type 1
 | ret {α} (a:α):Tr α
 | exc {α} (k:Str) (n:Int):Tr α
 | stuck {α}:Tr α
 | ask {α} (P:V→Prop) (k:V→Tr α):Tr α
 | call {α} (f:Addr) (as:List V) (r:List Root) (k:V→List Root→Tr α):Tr α
 | comp {α} (f:V→List Root→Tr (V × Fst)) (l:List V) (r:List Root) (k:List V→List Root→Tr α):Tr α
 | loop {α} (turn:Fst→Tr (Option Fl × Fst)) (s:Fst) (k:Fl→Fst→Tr α):Tr α
 | forl {α} (turn:V→Fst→Tr (Option Fl × Fst)) (n:Nat) (item:Nat→V) (s:Fst) (k:Fl→Fst→Tr α):Tr α
section
noncomputable def Tr.bind {α β:Type} (t:Tr α) (g:α→Tr β):Tr β:=@Tr.rec (fun α _=>∀ β,(α→Tr β)→Tr β) (fun a β g=>g a) (fun k n β g=>.exc k n) (fun β g=>.stuck) (fun P _ ih β g=>.ask P fun v=>ih v β g)
 (fun f as r _ ih β g=>.call f as r fun v r'=>ih v r' β g) (fun f l r _ _ ih β g=>.comp f l r fun ys r'=>ih ys r' β g) (fun u s _ _ ih β g=>.loop u s fun fl s'=>ih fl s' β g) (fun u n it s _ _ ih β g=>.forl u n it s fun fl s'=>ih fl s' β g) α t β g
noncomputable def Again (I:Fst→Prop) (D:Fl→Fst→Prop) (p:Option Fl × Fst):Prop:=match p.1 with
 | none=>I p.2
 | some fl=>D fl p.2
section
variable (R:Addr→List V→List Root→(Out→Prop)→Prop)
noncomputable def W {α:Type} (xp:Str→Int→Prop) (t:Tr α) (Q:α→Prop):Prop:=@Tr.rec (fun α _=>(Str→Int→Prop)→(α→Prop)→Prop) (fun a xp Q=>Q a) (fun k n xp Q=>xp k n) (fun xp Q=>False) (fun P _ ih xp Q=>∃ v,P v∧ih v xp Q)
 (fun f as r _ ih xp Q=>∃ Z:Out→Prop,R f as r Z∧(∀ v r',Z (.ok v r')→ih v r' xp Q)∧∀ kd n,Z (.exc kd n)→xp kd n)
 (fun f l r _ ihf ih xp Q=>∃ I:Nat→List V→List Root→Prop,I 0 [] r∧(∀ i x ys r,l[i]?=some x→I i ys r→ihf x r (fun _ _=>False) fun p=>I (i+1) (ys++[p.1]) p.2.r)∧∀ ys r,I l.length ys r→ih ys r xp Q)
 (fun u s _ iht ih xp Q=>∃ (I:Nat→Fst→Prop) (n:Nat),I n s∧∀ n s,I n s→iht s xp (Again (fun s'=>∃ m,m<n∧I m s') fun fl s'=>ih fl s' xp Q))
 (fun u n it s _ iht ih xp Q=>∃ I:Nat→Fst→Prop,I 0 s∧(∀ i s,i<n→I i s→iht (it i) s xp (Again (I (i+1)) fun fl s'=>ih fl s' xp Q))∧∀ s,I n s→ih .next s xp Q) α t xp Q
end
section
variable {R:Addr→List V→List Root→(Out→Prop)→Prop} {α β:Type} {xp:Str→Int→Prop}
theorem W.askE {P:V→Prop} {k:V→Tr α} {Q:α→Prop} (h:W R xp (.ask P k) Q):∃ v,P v∧W R xp (k v) Q:=h
theorem W.callE {f:Addr} {as:List V} {r:List Root} {k:V→List Root→Tr α} {Q:α→Prop} (h:W R xp (.call f as r k) Q):∃ Z:Out→Prop,R f as r Z∧(∀ v r',Z (.ok v r')→W R xp (k v r') Q)∧∀ kd n,Z (.exc kd n)→xp kd n:=h
theorem W.compE {f:V→List Root→Tr (V × Fst)} {l:List V} {r:List Root} {k:List V→List Root→Tr α} {Q:α→Prop} (h:W R xp (.comp f l r k) Q):∃ I:Nat→List V→List Root→Prop,I 0 [] r∧(∀ i x ys r,l[i]?=some x→I i ys r→W R (fun _ _=>False) (f x r) fun p=>I (i+1) (ys++[p.1]) p.2.r)∧∀ ys r,I l.length ys r→W R xp (k ys r) Q:=h
theorem W.loopE {u:Fst→Tr (Option Fl × Fst)} {s:Fst} {k:Fl→Fst→Tr α} {Q:α→Prop} (h:W R xp (.loop u s k) Q):∃ (I:Nat→Fst→Prop) (n:Nat),I n s∧∀ n s,I n s→W R xp (u s) (Again (fun s'=>∃ m,m<n∧I m s') fun fl s'=>W R xp (k fl s') Q):=h
theorem W.forlE {u:V→Fst→Tr (Option Fl × Fst)} {n:Nat} {it:Nat→V} {s:Fst} {k:Fl→Fst→Tr α} {Q:α→Prop} (h:W R xp (.forl u n it s k) Q):∃ I:Nat→Fst→Prop,I 0 s∧(∀ i s,i<n→I i s→W R xp (u (it i) s) (Again (I (i+1)) fun fl s'=>W R xp (k fl s') Q))∧∀ s,I n s→W R xp (k .next s) Q:=h
theorem Again.mono {I:Fst→Prop} {D D':Fl→Fst→Prop} {p:Option Fl × Fst} (h:Again I D p) (k':∀ fl s,D fl s→D' fl s):Again I D' p:=by
 obtain ⟨_ | fl,s⟩:=p
 ·exact h
 ·exact k' fl s h
theorem W.mono (t:Tr α):∀ {xp:Str→Int→Prop} {Q Q':α→Prop},W R xp t Q→(∀ a,Q a→Q' a)→W R xp t Q':=by
 induction t with
 | ret a=>exact fun h k=>k _ h
 | exc=>exact fun h _=>h
 | stuck=>exact fun h _=>h
 | ask P k ih=>exact fun h kk=>h.imp fun v h=>⟨h.1,ih v h.2 kk⟩
 | call f as r k ih=>exact fun h kk=>h.imp fun Z h=>⟨h.1,fun v r' z=>ih v r' (h.2.1 v r' z) kk,h.2.2⟩
 | comp f l r k _ ih=>exact fun h kk=>h.imp fun I h=>⟨h.1,h.2.1,fun ys r z=>ih ys r (h.2.2 ys r z) kk⟩
 | loop t s k iht ih=>exact fun h kk=>h.imp fun I h=>h.imp fun n h=>⟨h.1,fun n s hi=>iht s (h.2 n s hi) fun p q=>q.mono fun fl s' z=>ih fl s' z kk⟩
 | forl t n it s k iht ih=>exact fun h kk=>h.imp fun I h=>⟨h.1,fun i s hi hI=>iht _ s (h.2.1 i s hi hI) fun p q=>q.mono fun fl s' z=>ih fl s' z kk,fun s hs=>ih _ s (h.2.2 s hs) kk⟩
theorem W.bind {β:Type} (t:Tr α):∀ {xp:Str→Int→Prop} {g:α→Tr β} {Q:β→Prop},W R xp (t.bind g) Q→W R xp t fun a=>W R xp (g a) Q:=by
 induction t with
 | ret a=>exact fun h=>h
 | exc=>exact fun h=>h
 | stuck=>exact fun h=>h
 | ask P k ih=>exact fun h=>h.imp fun v h=>⟨h.1,ih v h.2⟩
 | call f as r k ih=>exact fun h=>h.imp fun Z h=>⟨h.1,fun v r' z=>ih v r' (h.2.1 v r' z),h.2.2⟩
 | comp f l r k _ ih=>exact fun h=>h.imp fun I h=>⟨h.1,h.2.1,fun ys r z=>ih ys r (h.2.2 ys r z)⟩
 | loop t s k iht ih=>exact fun h=>h.imp fun I h=>h.imp fun n h=>⟨h.1,fun n s hi=>W.mono _ (h.2 n s hi) fun p q=>q.mono fun fl s' z=>ih fl s' z⟩
 | forl t n it s k iht ih=>exact fun h=>h.imp fun I h=>⟨h.1,fun i s hi hI=>W.mono _ (h.2.1 i s hi hI) fun p q=>q.mono fun fl s' z=>ih fl s' z,fun s hs=>ih _ s (h.2.2 s hs)⟩
end
end
end Internal
end
section
namespace Internal
open PySem PySem.W PyProof.Rows
theorem noneE {α:Type _} {a:α} {C:Prop} (h:none=some a):C:=by injection h
theorem ftE {C:Prop} (h:false=true):C:=by injection h
universe u
section
section
variable {α β:Type}
noncomputable def need (P:Prop) (t:Tr α):Tr α:=.ask (fun _=>P) fun _=>t
noncomputable def opt {β:Type u} (o:Option β) (k:β→Tr α):Tr α:=match o with | some b=>k b | none=>.stuck
noncomputable def chk (b:Bool) (t:Tr α):Tr α:=match b with | true=>t | false=>.stuck
noncomputable def dInt (v:V) (k:Int→Tr α):Tr α:=match v with | .int n=>k n | _=>.stuck
noncomputable def dStr (v:V) (k:Str→Tr α):Tr α:=match v with | .str n=>k n | _=>.stuck
noncomputable def dBool (v:V) (k:Bool→Tr α):Tr α:=match v with | .bool n=>k n | _=>.stuck
noncomputable def dLst (v:V) (k:List V→Tr α):Tr α:=match v with | .lst n=>k n | _=>.stuck
noncomputable def dTup (v:V) (k:List V→Tr α):Tr α:=match v with | .tup n=>k n | _=>.stuck
noncomputable def dCell (v:V) (k:Nat→Tr α):Tr α:=match v with | .cell n=>k n | _=>.stuck
noncomputable def dFn (v:V) (k:Addr→Tr α):Tr α:=match v with | .fn n=>k n | _=>.stuck
noncomputable def dV (v:LV) (k:V→Tr α):Tr α:=match v with | .v x=>k x | _=>.stuck
end
inductive XV | name (x:Str) | tup (l:List Expr) | list (l:List Expr) | sub (o i:Expr) | attr (o:Expr) (a:Str) (p:Pos) | call (f:Expr) (as:List Expr) (ks:List Keyword) | slc (lo hi st:Option Expr) | comp | set | star | no
noncomputable def xv:Expr→XV
 | .Name x _=>.name x
 | .Tuple l _ _=>.tup l
 | .List l _=>.list l
 | .Subscript o i _=>.sub o i
 | .Attribute o a p=>.attr o a p
 | .Call f as ks _=>.call f as ks
 | .Slice lo hi st _=>.slc lo hi st
 | .ListComp _ _ _ _=>.comp
 | .SetComp _ _ _ _=>.comp
 | .DictComp _ _ _ _ _=>.comp
 | .Set _ _ _=>.set
 | .Starred _ _=>.star
 | _=>.no
noncomputable def slc? (x:Expr):Option (Option Expr × Option Expr × Option Expr):=match xv x with | .slc lo hi st=>some (lo,hi,st) | _=>none
noncomputable def nameOf (x:Expr):Option Str:=match xv x with | .name n=>some n | _=>none
noncomputable def isStarred (x:Expr):Bool:=match xv x with | .star=>true | _=>false
noncomputable def isSet (x:Expr):Bool:=match xv x with | .set=>true | _=>false
noncomputable def isComp (x:Expr):Bool:=match xv x with | .comp=>true | _=>false
noncomputable def isTup (x:Expr):Bool:=match xv x with | .tup _=>true | _=>false
noncomputable def plainBase (x:Expr):Bool:=match xv x with | .call f as _=>(nameOf f).isNone||!as.isEmpty | _=>true
structure Tabs where
 g:List (Str × V)
 m:List (Str × Addr)
 f:List Addr
 c:List (Str × V)
 s:List (Addr × List Int)
noncomputable def ctab:List (Addr × List Str):=[(539,["kind","value","at","newline"]),(141,["kind","name","attrs"]),(163,["kind","items","tags","attrs","code"]),(70,["kind","attrs"]),(91,["kind","attrs"]),(520,["source","ahead","contexts"]),(567,["tokens","place"])]
noncomputable def fnames (C:Addr):List Str:=(ctab.lookup C).getD []
noncomputable def gset (x:Str) (v:LV) (G:List (Str × LV)):List (Str × LV):=G.rec [(x,v)] fun y r ih=>if x=y.1 then (y.1,v)::r else y::ih
noncomputable def LV.vis (l:LV):Option LV:=match l with | .un=>none | l=>some l
noncomputable def glook (x:Str) (G:List (Str × LV)):Option LV:=G.rec none fun y _ ih=>if x=y.1 then y.2.vis else ih
noncomputable def dset (x:Str) (v:V) (l:List (Str × V)):Option (List (Str × V)):=l.rec none fun y r ih=>if y.1=x then some ((y.1,v)::r) else ih.map (y::·)
noncomputable def dlook (x:Str) (l:List (Str × V)):Option V:=l.rec none fun y _ ih=>if y.1=x then some y.2 else ih
noncomputable def Fst.set (s:Fst) (x:Str) (v:LV):Fst:=⟨gset x v s.G,s.r⟩
noncomputable def Fst.put (s:Fst) (i:Nat) (x:Root):Fst:=⟨s.G,s.r.set i x⟩
noncomputable def frz (x:Str) (lv:LV) (s:Fst):V × Fst:=match lv with
 | .v v=>(v,s)
 | .own l=>(.lst l,s.set x (.v (.lst l)))
 | .un=>(.none,s)
noncomputable def few (n:Nat):Bool:=Nat.ble n 20
noncomputable def evN (tb:Tabs) (ns:List (Str × NameKind)) (x:Str) (s:Fst):Tr (LV × Fst):=opt (ns.lookup x) fun k=>match k with
 | .local=>opt (glook x s.G) fun lv=>.ret (lv,s)
 | .globalImplicit=>opt (tb.g.lookup x) fun v=>.ret (.v v,s)
 | .globalExplicit=>.stuck
 | _=>opt (tb.c.lookup x) fun v=>.ret (.v v,s)
noncomputable def rlst (r:List Root) (i:Nat):Option (List V):=match r[i]? with | some (.lst l)=>some l | _=>none
noncomputable def rdic (r:List Root) (i:Nat):Option (List (Str × V)):=match r[i]? with | some (.dict l)=>some l | _=>none
noncomputable def lstOf (r:List Root) (lv:LV):Option (List V):=match lv with
 | .own l=>some l
 | .v x=>(match x with
  | .lst l=>some l
  | .cell i=>rlst r i
  | _=>none)
 | .un=>none
noncomputable def one? {α:Type} (l:List α):Option α:=match l with | [x]=>some x | _=>none
noncomputable def arith (op:Operator) (a b:Int) (s:Fst):Tr (V × Fst):=match op with
 | .Add=>.ask (fun v=>v=.int (a+b)) fun v=>.ret (v,s)
 | .Sub=>.ask (fun v=>v=.int (a - b)) fun v=>.ret (v,s)
 | .Mod=>.ask (fun v=>b≠0∧v=.int (a.fmod b)) fun v=>.ret (v,s)
 | .Mult=>.ask (fun v=>IntMulOk a b∧v=.int (a*b)) fun v=>.ret (v,s)
 | _=>.stuck
noncomputable def larith (op:Operator) (l:List V) (b:V) (s:Fst):Tr (V × Fst):=match op with
 | .Add=>dLst b fun b=>need (l.length+b.length≤sizeLine) (.ret (.lst (l++b),s))
 | .Mult=>dInt b fun n=>opt (one? l) fun x=>.ask (fun v=>(0≤n∧n≤2 ^ 20)∧v=.lst (List.replicate n.toNat x)) fun v=>.ret (v,s)
 | _=>.stuck
noncomputable def binop (op:Operator) (a b:V) (s:Fst):Tr (V × Fst):=match a with
 | .int a=>dInt b fun b=>arith op a b s
 | .lst l=>larith op l b s
 | _=>.stuck
noncomputable def str? (v:V):Option Str:=match v with | .str x=>some x | _=>none
noncomputable def strsOf (l:List V):Option (List Str):=l.rec (some []) fun x _ ih=>(str? x).bind fun s=>ih.map (s::·)
noncomputable def veq (u v:V):Option Bool:=(str? v).bind fun y=>match u with | .str x=>some (x==y) | .int _=>some false | _=>none
noncomputable def isNone (v:V):Bool:=match v with | .none=>true | _=>false
noncomputable def pair? (l:List V):Option (Str × V):=match l with | [x,u]=>(str? x).map fun s=>(s,u) | _=>none
noncomputable def cmpI (op:CmpOp) (x y:Int):Option Bool:=match op with
 | .Eq=>some (x==y) | .Lt=>some (decide (x<y)) | .LtE=>some (decide (x≤y)) | .Gt=>some (decide (x>y)) | .GtE=>some (decide (x≥y)) | _=>none
noncomputable def cmpS (op:CmpOp) (x y:Str):Option Bool:=match op with | .Eq=>some (x==y) | .NotEq=>some (x != y) | _=>none
noncomputable def inL (x:Str) (l:List V) (s:Fst):Tr (V × Fst):=opt (strsOf l) fun ys=>.ret (.bool (ys.any (·==x)),s)
noncomputable def cmpIn (x:Str) (b:LV) (s:Fst):Tr (V × Fst):=match b with
 | .v y=>(match y with
  | .tup l=>inL x l s
  | .str y=>.ret (.bool !(Builtin.Str.occurrences y x 0 y.length 1).isEmpty,s)
  | y=>opt (lstOf s.r (.v y)) fun l=>inL x l s)
 | lv=>opt (lstOf s.r lv) fun l=>inL x l s
noncomputable def cmp3 (op:CmpOp) (a b:V) (s:Fst):Tr (V × Fst):=match a with
 | .int x=>dInt b fun y=>opt (cmpI op x y) fun c=>.ask (fun v=>v=.bool c) fun v=>.ret (v,s)
 | .str x=>dStr b fun y=>opt (cmpS op x y) fun c=>.ret (.bool c,s)
 | .tup l=>dTup b fun l'=>(match op with
  | .Eq=>opt (pair? l) fun p=>opt (pair? l') fun q=>opt (veq p.2 q.2) fun e=>.ask (fun w=>w=.bool ((p.1==q.1)&&e)) fun w=>.ret (w,s)
  | _=>.stuck)
 | _=>.stuck
noncomputable def cmpop (op:CmpOp) (a:V) (b:LV) (s:Fst):Tr (V × Fst):=match op with
 | .Is=>dV b fun b=>chk (isNone b) (.ret (.bool (isNone a),s))
 | .IsNot=>dV b fun b=>chk (isNone b) (.ret (.bool (!isNone a),s))
 | .In=>dStr a fun x=>cmpIn x b s
 | op=>dV b fun b=>cmp3 op a b s
noncomputable def attrR (a:Str) (i:Nat) (s:Fst):Root→Tr (V × Fst)
 | .hid _=>chk (i==0&&a == "contexts") (.ret (.cell 1,s))
 | .inst C fs=>chk ((fnames C).contains a) (opt (dlook a fs) fun v=>.ret (v,s))
 | _=>.stuck
noncomputable def attrOf (a:Str) (v:V) (s:Fst):Tr (V × Fst):=match v with
 | .obj C l=>opt (dlook a ((fnames C).zip l)) fun v=>.ret (v,s)
 | .vec k i at_=>opt (dlook a [("kind",.str k),("items",i),("attrs",at_)]) fun v=>.ret (v,s)
 | .cell i=>opt s.r[i]? fun x=>attrR a i s x
 | _=>.stuck
noncomputable def idxL (l:List V) (k:Int) (s:Fst):Tr (V × Fst):=.ask (fun v=>l.length≤sizeLine∧(0≤k∧l[k.toNat]?=some v∨k=-1∧∃ l',l=l'++[v])) fun v=>.ret (v,s)
noncomputable def subI (lv:LV) (k:Int) (s:Fst):Tr (V × Fst):=match lv with
 | .v x=>(match x with
  | .tup l=>.ask (fun v=>l.length≤sizeLine∧0≤k∧l[k.toNat]?=some v) fun v=>.ret (v,s)
  | .str x=>.ask (fun v=>0≤k∧k<2 ^ 62∧∃ cp,x.cps[k.toNat]?=some cp∧v=.str ⟨#[cp]⟩) fun v=>.ret (v,s)
  | x=>opt (lstOf s.r (.v x)) fun l=>idxL l k s)
 | lv=>opt (lstOf s.r lv) fun l=>idxL l k s
noncomputable def subS (lv:LV) (k:Str) (s:Fst):Tr (V × Fst):=dV lv fun x=>match x with
 | .nm v=>chk (k == "names") (.ret (v,s))
 | .cell j=>opt (rdic s.r j) fun fs=>opt (dlook k fs) fun v=>.ret (v,s)
 | _=>.stuck
noncomputable def subOf (lv:LV) (i:V) (s:Fst):Tr (V × Fst):=match i with
 | .int k=>subI lv k s
 | .str k=>subS lv k s
 | _=>.stuck
noncomputable def popP (l:List V) (u:V):Prop:=l.length≤sizeLine∧∃ l' x,l=l'++[x]∧u=.tup [x,.lst l']
noncomputable def unlst (v:V):Option (List V):=match v with | .lst l=>some l | _=>none
noncomputable def pop? (u:V):Option (V × List V):=match u with | .tup l=>(match l with | [x,y]=>(unlst y).map fun l=>(x,l) | _=>none) | _=>none
noncomputable def lstep (l:List V) (put:List V→Fst) (m:Str) (as:List V):Tr (V × Fst):=match as with
 | []=>chk (m == "pop") (.ask (popP l) fun u=>opt (pop? u) fun p=>.ret (p.1,put p.2))
 | v::r=>chk (m == "append" && r.isEmpty) (need (l.length≤sizeLine) (.ret (.none,put (l++[v]))))
noncomputable def noStar (l:List Expr):Bool:=l.all fun x=>!isStarred x
noncomputable def isOwn (lv:LV):Bool:=match lv with | .own _=>true | _=>false
noncomputable def noOwn (G:List (Str × LV)):Bool:=G.all fun p=>!isOwn p.2
noncomputable def isFree (k:NameKind):Bool:=match k with | .free=>true | _=>false
noncomputable def isCell (k:NameKind):Bool:=match k with | .cell=>true | _=>false
noncomputable def isLocal (k:NameKind):Bool:=match k with | .local=>true | _=>false
noncomputable def compOk (tb:Tabs) (ns:List (Str × NameKind)) (sc:Scope):Bool:=(sc.names.all fun x=>!isCell x.2&&(!isFree x.2||((tb.c.lookup x.1).isSome&&(ns.lookup x.1==some .cell)))&&(!isLocal x.2||sc.names.lookup x.1==some .local))&&((sc.kind==.function)&&(sc.names.lookup ("__debug__" : Str)).isNone)
noncomputable def gen? (l:List Comprehension):Option (Expr × Expr):=(one? l).bind fun g=>if g.ifs.isEmpty&&g.is_async==0 then some (g.target,g.iter) else none
noncomputable def loc (ns:List (Str × NameKind)) (x:Str):Bool:=ns.lookup x==some .local
noncomputable def tNames (l:List Expr):Option (List Str):=l.rec (some []) fun x _ ih=>(nameOf x).bind fun n=>ih.map (n::·)
noncomputable def setAll (ns:List (Str × NameKind)):List Str→List V→Fst→Option Fst:=fun xs=>xs.rec (fun vs s=>match vs with | []=>some s | _::_=>none) fun x _ ih vs s=>match vs with
 | []=>none
 | v::vs=>if loc ns x then ih vs (s.set x (.v v)) else none
noncomputable def tgt (ns:List (Str × NameKind)) (t:Expr) (v:V) (s:Fst):Tr Fst:=match xv t with
 | .name x=>chk (loc ns x) (.ret (s.set x (.v v)))
 | .tup ts=>opt (tNames ts) fun xs=>dTup v fun l=>opt (setAll ns xs l s) fun s'=>.ret s'
 | _=>.stuck
noncomputable def isV (v:V):Option Bool:=match v with | .vec _ _ _=>some true | .obj C _=>if C=91 then some false else none | _=>none
noncomputable def lenOf (lv:LV) (s:Fst):Tr (V × Fst):=match lv with
 | .v x=>(match x with
  | .str x=>.ask (fun v=>x.length≤1000∧v=.int x.length) fun v=>.ret (v,s)
  | x=>opt (lstOf s.r (.v x)) fun l=>.ask (fun v=>l.length≤sizeLine∧v=.int l.length) fun v=>.ret (v,s))
 | lv=>opt (lstOf s.r lv) fun l=>.ask (fun v=>l.length≤sizeLine∧v=.int l.length) fun v=>.ret (v,s)
noncomputable def biList (v:V) (s:Fst):Tr (V × Fst):=dLst v fun l=>need (l.length≤sizeLine) (.ret (.lst l,s))
noncomputable def biInt (v:V) (s:Fst):Tr (V × Fst):=dInt v fun n=>.ret (.int n,s)
noncomputable def biAbs (v:V) (s:Fst):Tr (V × Fst):=dInt v fun n=>.ret (.int (if n<0 then -n else n),s)
noncomputable def bi1 (f:Str):Option (V→Fst→Tr (V × Fst)):=if f = "list" then some biList else if f = "int" then some biInt else if f = "abs" then some biAbs else none
noncomputable def biMax (u v:V) (s:Fst):Tr (V × Fst):=dInt u fun a=>dInt v fun b=>.ask (fun v=>v=.int (if b>a then b else a)) fun v=>.ret (v,s)
noncomputable def biIsi (u v:V) (s:Fst):Tr (V × Fst):=dFn v fun C=>chk (C==120) (opt (isV u) fun b=>.ret (.bool b,s))
noncomputable def bi2 (f:Str):Option (V→V→Fst→Tr (V × Fst)):=if f = "max" then some biMax else if f = "isinstance" then some biIsi else none
noncomputable def slc (tb:Tabs) (v a b:V) (s:Fst):Tr (V × Fst):=match v with
 | .tup l=>chk (isNone a) (dInt b fun n=>.ask (fun v=>n=2∧∃ x y z,l=[x,y,z]∧v=.tup [x,y]) fun v=>.ret (v,s))
 | .lst l=>(match isNone a with
  | true=>dInt b fun n=>.ask (fun v=>(l.length≤sizeLine∧0≤n)∧v=.lst (l.take n.toNat)) fun v=>.ret (v,s)
  | false=>dInt a fun n=>chk (isNone b) (.ask (fun v=>(l.length≤sizeLine∧0≤n)∧v=.lst (l.drop n.toNat)) fun v=>.ret (v,s)))
 | .fn a'=>chk (isNone a) (dInt b fun n=>opt tb.s.head? fun p=>need ((p.1=a'∧0≤n)∧p.2.length≤sizeLine) (.ret (.lst ((p.2.take n.toNat).map .int),s)))
 | _=>.stuck
noncomputable def nowOf (x:Option Str) (lv:LV) (s:Fst):Option LV:=match lv with
 | .own _=>x.bind fun x=>glook x s.G
 | .v x=>some (.v x)
 | .un=>none
structure Ev where
 E:List (Str × NameKind)→Expr→Fst→Tr (V × Fst)
 T:List (Str × NameKind)→Expr→Fst→Tr (Bool × Fst)
noncomputable def boolOf (t:Tr (V × Fst)):Tr (Bool × Fst):=t.bind fun p=>dBool p.1 fun b=>.ret (b,p.2)
section
variable (tb:Tabs) (r:Ev) (ns:List (Str × NameKind))
noncomputable def evL (es:List Expr):Fst→Tr (List V × Fst):=es.rec (fun s=>.ret ([],s)) fun e _ ih s=>chk (!isStarred e) ((r.E ns e s).bind fun p=>(ih p.2).bind fun q=>.ret (p.1::q.1,q.2))
noncomputable def evR (e:Expr) (s:Fst):Tr (LV × Fst):=match nameOf e with
 | some x=>evN tb ns x s
 | none=>(r.E ns e s).bind fun p=>.ret (.v p.1,p.2)
noncomputable def evO (o:Option Expr) (s:Fst):Tr (V × Fst):=match o with | some e=>r.E ns e s | none=>.ret (.none,s)
noncomputable def evCmp (a:Expr) (op:CmpOp) (b:Expr) (s:Fst):Tr (V × Fst):=chk (!isSet b) ((r.E ns a s).bind fun p=>(evR tb r ns b p.2).bind fun q=>cmpop op p.1 q.1 q.2)
noncomputable def onB (op:PySem.BoolOp) (b:Bool):Bool:=match op with | .And=>b | .Or=>!b
noncomputable def evB (op:PySem.BoolOp) (es:List Expr):Fst→Tr (V × Fst):=es.rec (fun _=>.stuck) fun x rest ih s=>match rest with
 | []=>r.E ns x s
 | _::_=>(r.E ns x s).bind fun p=>dBool p.1 fun b=>match onB op b with | true=>ih p.2 | false=>.ret (.bool b,p.2)
noncomputable def evA (op:PySem.BoolOp) (es:List Expr):Fst→Tr (Bool × Fst):=es.rec (fun s=>.ret (op==.And,s)) fun x _ ih s=>(r.T ns x s).bind fun p=>match onB op p.1 with | true=>ih p.2 | false=>.ret (p.1,p.2)
noncomputable def evSub (o i:Expr) (s:Fst):Tr (V × Fst):=match slc? i with
 | some x=>chk x.2.2.isNone ((r.E ns o s).bind fun p=>(evO r ns x.1 p.2).bind fun q=>(evO r ns x.2.1 q.2).bind fun u=>slc tb p.1 q.1 u.1 u.2)
 | none=>(evR tb r ns o s).bind fun p=>(r.E ns i p.2).bind fun q=>opt (nowOf (nameOf o) p.1 q.2) fun lv=>subOf lv q.1 q.2
noncomputable def evBi (f:Str) (args:List Expr) (s:Fst):Tr (V × Fst):=chk (noStar args) (match args with
 | []=>.stuck
 | e::es=>match es with
  | []=>if f = "len" then (evR tb r ns e s).bind fun p=>lenOf p.1 p.2 else opt (bi1 f) fun g=>(r.E ns e s).bind fun p=>g p.1 p.2
  | b::es=>match es with
   | []=>opt (bi2 f) fun g=>(r.E ns e s).bind fun p=>(r.E ns b p.2).bind fun q=>g p.1 q.1 q.2
   | _::_=>.stuck)
noncomputable def evC (a:Addr) (first:List V) (args:List Expr) (s:Fst):Tr (V × Fst):=(evL r ns args s).bind fun p=>.call a (first++p.1) p.2.r fun v r'=>.ret (v,⟨p.2.G,r'⟩)
noncomputable def evF (f:Str) (args:List Expr) (s:Fst):Tr (V × Fst):=opt (ns.lookup f) fun k=>match k with
 | .globalImplicit=>(match tb.g.lookup f with
  | some v=>dFn v fun a=>chk (tb.f.contains a&&noStar args) (evC r ns a [] args s)
  | none=>evBi tb r ns f args s)
 | _=>.stuck
noncomputable def lmth (m:Str):Bool:=m == "append" || m == "pop"
noncomputable def metA (C:Addr) (m:Str):Option Addr:=if C=567 then (if m = "next_token" then some 564 else none) else if C=520 then tb.m.lookup m else none
noncomputable def methR (m:Str) (args:List Expr) (i:Nat) (s:Fst):Root→Tr (V × Fst)
 | .lst _=>chk (lmth m) ((evL r ns args s).bind fun q=>opt (rlst q.2.r i) fun l=>lstep l (fun l'=>q.2.put i (.lst l')) m q.1)
 | .hid _=>chk (i==0) (opt (tb.m.lookup m) fun f=>evC r ns f [.cell 0] args s)
 | .inst C fs=>chk (!(fs.map (·.1)).contains m) (opt (metA tb C m) fun f=>evC r ns f [.cell i] args s)
 | _=>.stuck
noncomputable def ownOf (x:Str) (s:Fst):Option (List V):=(glook x s.G).bind fun lv=>match lv with | .own l=>some l | _=>none
noncomputable def evM (o:Expr) (m:Str) (args:List Expr) (ok:Bool) (s:Fst):Tr (V × Fst):=chk (ok&&(plainBase o&&(noStar args&&few args.length))) ((evR tb r ns o s).bind fun p=>match p.1 with
 | .v x=>dCell x fun i=>opt p.2.r[i]? fun rt=>methR tb r ns m args i p.2 rt
 | .own _=>chk (lmth m) ((evL r ns args p.2).bind fun q=>opt (nameOf o) fun x=>opt (ownOf x q.2) fun l=>lstep l (fun l'=>q.2.set x (.own l')) m q.1)
 | .un=>.stuck)
noncomputable def evComp (elt:Expr) (gens:List Comprehension) (sc:Scope) (s:Fst):Tr (V × Fst):=opt (gen? gens) fun g=>chk (compOk tb ns sc&&!isSet g.2) ((r.E ns g.2 s).bind fun p=>dLst p.1 fun l=>chk (noOwn p.2.G) (need (l.length≤sizeLine)
 (.comp (fun v rr=>(tgt sc.names g.1 v ⟨[],rr⟩).bind fun s'=>r.E sc.names elt s') l p.2.r fun ys rr=>.ret (.lst ys,⟨p.2.G,rr⟩))))
noncomputable def stepE (e:Expr) (s:Fst):Tr (V × Fst):=match e with
 | .Name x _=>(evN tb ns x s).bind fun p=>.ret (frz x p.1 p.2)
 | .Constant k _ _=>(match k with
  | .int i=>.ret (.int i,s)
  | .str x=>.ret (.str x,s)
  | .bool b=>.ret (.bool b,s)
  | .none=>.ret (.none,s)
  | _=>.stuck)
 | .List es _=>(evL r ns es s).bind fun p=>chk (few p.1.length) (.ret (.lst p.1,p.2))
 | .Tuple es _ _=>(evL r ns es s).bind fun p=>chk (few p.1.length) (.ret (.tup p.1,p.2))
 | .BinOp a op b _=>(r.E ns a s).bind fun p=>(r.E ns b p.2).bind fun q=>binop op p.1 q.1 q.2
 | .Compare a ops bs _=>opt (one? ops) fun op=>opt (one? bs) fun b=>evCmp tb r ns a op b s
 | .BoolOp op es _=>evB r ns op es s
 | .UnaryOp op x _=>(r.E ns x s).bind fun p=>(match op with
  | .Not=>dBool p.1 fun b=>.ret (.bool (!b),p.2)
  | .USub=>dInt p.1 fun n=>.ret (.int (-n),p.2)
  | _=>.stuck)
 | .IfExp t b o _=>(r.T ns t s).bind fun p=>match p.1 with | true=>r.E ns b p.2 | false=>r.E ns o p.2
 | .Attribute o a _=>chk (plainBase o) ((r.E ns o s).bind fun p=>attrOf a p.1 p.2)
 | .Subscript o i _=>evSub tb r ns o i s
 | .Call f args kws pos=>chk kws.isEmpty (match xv f with
   | .name f=>evF tb r ns f args s
   | .attr o m apos=>evM tb r ns o m args (apos.endLine==pos.line) s
   | _=>.stuck)
 | .ListComp elt gens sc _=>evComp tb r ns elt gens sc s
 | _=>.stuck
noncomputable def stepT (e:Expr) (s:Fst):Tr (Bool × Fst):=match e with
 | .BoolOp op es _=>evA r ns op es s
 | .UnaryOp op x _=>(match op with
  | .Not=>(r.T ns x s).bind fun p=>.ret (!p.1,p.2)
  | _=>.stuck)
 | .Compare a ops bs _=>opt (one? ops) fun op=>opt (one? bs) fun b=>boolOf (evCmp tb r ns a op b s)
 | .Name _ _=>boolOf (r.E ns e s)
 | .Constant _ _ _=>boolOf (r.E ns e s)
 | .Call _ _ _ _=>boolOf (r.E ns e s)
 | .Attribute _ _ _=>boolOf (r.E ns e s)
 | .Subscript _ _ _=>boolOf (r.E ns e s)
 | _=>.stuck
end
noncomputable def ev (tb:Tabs) (d:Nat):Ev:=d.rec ⟨fun _ _ _=>.stuck,fun _ _ _=>.stuck⟩ fun _ ih=>⟨fun ns e s=>stepE tb ih ns e s,fun ns e s=>stepT tb ih ns e s⟩
section
variable (tb:Tabs) (r:Ev) (ns:List (Str × NameKind))
noncomputable def stor (o i v:V) (s:Fst):Tr Fst:=dCell o fun j=>match i with
 | .int k=>opt (rlst s.r j) fun l=>need ((0≤k∧k<l.length)∧l.length≤sizeLine) (.ret (s.put j (.lst (l.set k.toNat v))))
 | .str k=>opt (rdic s.r j) fun fs=>opt (dset k v fs) fun fs'=>need (fs.length≤1000) (.ret (s.put j (.dict fs')))
 | _=>.stuck
noncomputable def astR (a:Str) (v:V) (i:Nat) (s:Fst):Root→Tr Fst
 | .inst C fs=>chk (C==567&&a == "place") (opt (dset a v fs) fun fs'=>need (fs.length≤1000) (.ret (s.put i (.inst C fs'))))
 | _=>.stuck
noncomputable def astor (o:V) (a:Str) (v:V) (s:Fst):Tr Fst:=match o with
 | .vec _ _ _=>chk (a == "shared") (dBool v fun _=>.ret s)
 | .cell i=>opt s.r[i]? fun x=>astR a v i s x
 | _=>.stuck
noncomputable def asg (t value:Expr) (s:Fst):Tr Fst:=chk (!isComp value) (match xv t with
 | .name x=>chk (loc ns x) (match xv value with
   | .list es=>(evL r ns es s).bind fun p=>chk (few p.1.length) (.ret (p.2.set x (.own p.1)))
   | _=>(r.E ns value s).bind fun p=>.ret (p.2.set x (.v p.1)))
 | .tup ts=>chk (!isTup value) ((r.E ns value s).bind fun p=>tgt ns t p.1 p.2)
 | .sub o i=>(r.E ns value s).bind fun p=>(r.E ns o p.2).bind fun q=>(r.E ns i q.2).bind fun u=>stor q.1 u.1 p.1 u.2
 | .attr o a _=>(r.E ns value s).bind fun p=>(r.E ns o p.2).bind fun q=>astor q.1 a p.1 q.2
 | _=>.stuck)
noncomputable def iop (op:Operator) (a b:Int) (k:V→Tr Fst):Tr Fst:=match op with
 | .Add=>.ask (fun v=>v=.int (a+b)) k
 | .Sub=>.ask (fun v=>v=.int (a - b)) k
 | .FloorDiv=>.ask (fun v=>(b≠0∧Builtin.divisionGoesByPylong a b=false)∧v=.int (a.fdiv b)) k
 | _=>.stuck
noncomputable def isAdd (op:Operator):Bool:=match op with | .Add=>true | _=>false
noncomputable def aug (t:Expr) (op:Operator) (value:Expr) (s:Fst):Tr Fst:=match xv t with
 | .name x=>chk (loc ns x) (opt (glook x s.G) fun lv=>dV lv fun old=>(r.E ns value s).bind fun p=>match old with
   | .int n=>dInt p.1 fun k=>iop op n k fun v=>.ret (p.2.set x (.v v))
   | .cell j=>chk (isAdd op) (opt (rlst p.2.r j) fun l=>dLst p.1 fun w=>need (w≠[]∧l.length+w.length≤sizeLine) (.ret (p.2.put j (.lst (l++w)))))
   | _=>.stuck)
 | .sub o i=>chk (slc? i).isNone ((r.E ns o s).bind fun p=>(r.E ns i p.2).bind fun q=>dCell p.1 fun j=>(subOf (.v (.cell j)) q.1 q.2).bind fun old=>(r.E ns value old.2).bind fun u=>dInt old.1 fun n=>dInt u.1 fun k=>iop op n k fun new=>stor (.cell j) q.1 new u.2)
 | _=>.stuck
noncomputable def turnE (t:Tr (Fl × Fst)):Tr (Option Fl × Fst):=t.bind fun p=>match p.1 with
 | .next=>.ret (none,p.2)
 | .brk=>.ret (some .next,p.2)
 | .ret v=>.ret (some (.ret v),p.2)
noncomputable def callArg (f:Str) (x:Expr):Option (List Expr):=match xv x with | .call g as ks=>if nameOf g=some f&&ks.isEmpty then some as else none | _=>none
noncomputable def goF (go:Fst→Tr (Fl × Fst)) (fl:Fl) (s:Fst):Tr (Fl × Fst):=match fl with | .next=>go s | fl=>.ret (fl,s)
noncomputable def evWh (t:Expr) (body:Fst→Tr (Fl × Fst)) (s:Fst):Tr (Option Fl × Fst):=(r.T ns t s).bind fun p=>match p.1 with | true=>turnE (body p.2) | false=>.ret (some .next,p.2)
noncomputable def evFt (t:Expr) (body:Fst→Tr (Fl × Fst)) (v:V) (s:Fst):Tr (Option Fl × Fst):=(tgt ns t v s).bind fun s=>turnE (body s)
noncomputable def evFor (t it:Expr) (body:Fst→Tr (Fl × Fst)) (s:Fst) (go:Fl→Fst→Tr (Fl × Fst)):Tr (Fl × Fst):=chk (!isSet it) (match callArg "range" it with
 | some es=>chk ((tb.g.lookup ("range" : Str)).isNone&&(ns.lookup ("range" : Str)==some .globalImplicit&&noStar es)) (opt (one? es) fun e=>(r.E ns e s).bind fun p=>dInt p.1 fun n=>need (-(2 ^ 60)≤n∧n≤2 ^ 60) (.forl (evFt ns t body) n.toNat (fun i=>.int i) p.2 go))
 | none=>(r.E ns it s).bind fun p=>dLst p.1 fun l=>.forl (evFt ns t body) l.length (fun i=>l.getD i .none) p.2 go)
noncomputable def evRs (x:Expr) (s:Fst):Tr (Fl × Fst):=opt (callArg "ReadError" x) fun args=>chk (noStar args&&(ns.lookup ("ReadError" : Str)==some .globalImplicit)) ((evL r ns args s).bind fun p=>match p.1 with
 | a::l=>(match l with
  | [b]=>dStr a fun k=>dInt b fun n=>.exc k n
  | _=>.stuck)
 | []=>.stuck)
noncomputable def evS (d:Nat):List Stmt→Fst→Tr (Fl × Fst):=d.rec (fun _ _=>.stuck) fun _ ih l s=>match l with
 | []=>.ret (.next,s)
 | st::rest=>match st with
  | .Expr e _=>chk (!isComp e) ((r.E ns e s).bind fun p=>ih rest p.2)
  | .Return e _=>opt e fun e=>(r.E ns e s).bind fun p=>.ret (.ret p.1,p.2)
  | .Break _=>.ret (.brk,s)
  | .Pass _=>ih rest s
  | .If t b o _=>(r.T ns t s).bind fun p=>(match p.1 with | true=>ih b p.2 | false=>ih o p.2).bind fun q=>goF (ih rest) q.1 q.2
  | .While t b o _=>chk o.isEmpty (.loop (evWh r ns t (ih b)) s (goF (ih rest)))
  | .For t it b o _=>chk o.isEmpty (evFor tb r ns t it (ih b) s (goF (ih rest)))
  | .Assign ts v _=>opt (one? ts) fun t=>(asg r ns t v s).bind fun s=>ih rest s
  | .AugAssign t op v _=>(aug r ns t op v s).bind fun s=>ih rest s
  | .Raise x c _=>opt x fun x=>chk c.isNone (evRs r ns x s)
  | _=>.stuck
end
end
end Internal
end
section
namespace Internal
open PySem PySem.W PyProof.Rows
section
theorem Ext.trans {H1 H2 H3:AH} (x:Ext H1 H2) (y:Ext H2 H3):Ext H1 H3:=fun a o h=>y a o (x a o h)
theorem Ext.set {H:AH} {a:Addr} {o:AObj} (h:H a=none):Ext H (H.set a o):=fun x p e=>by
 rw [AH.set_ne (by rintro rfl;rw [h] at e;injection e)];exact e
noncomputable def Fz (H H':AH):Prop:=∀ a o,H a=some o→o.tag=0→¬o.priv→H' a=some o
theorem Fz.refl (H:AH):Fz H H:=fun _ _ h _ _=>h
theorem Fz.trans {H1 H2 H3:AH} (x:Fz H1 H2) (y:Fz H2 H3):Fz H1 H3:=fun a o h t p=>y a o (x a o h t p) t p
theorem Fz.ofExt {H H':AH} (h:Ext H H'):Fz H H':=fun a o e _ _=>h a o e
theorem Fz.ofKeeps {T:Nat} {H H':AH} (h:Keeps T H H') (T0:T≠0):Fz H H':=fun a o e t _=>(h a o e).1 (by rw [t];exact Ne.symm T0)
theorem Fz.ofNotIt {H H':AH} (h:NotIt H H'):Fz H H':=fun a o e _ p=>h a o e fun q=>p (by rw [q];trivial)
theorem Fz.set {H:AH} {a:Addr} {o:AObj} (h:∀ p,H a=some p→p.tag≠0):Fz H (H.set a o):=fun x p e t _=>by
 rw [AH.set_ne (by rintro rfl;exact h p e t)];exact e
theorem Fz.set1 {H:AH} {a:Addr} {o p:AObj} (h:H a=some p) (t:p.tag≠0):Fz H (H.set a o):=.set fun q e=>by (injection (h.symm.trans e) with e1;subst e1);exact t
section
variable (ad:Nat→Addr) (H:AH)
noncomputable def Rep (x:V):Value→Prop:=@V.rec (fun _=>Value→Prop) (fun _=>List Value→Prop) (fun w=>w=.none) (fun b w=>w=.bool b) (fun n w=>∃ t,w=.int n t) (fun s w=>∃ t,w=.str s t) (fun a w=>w=.ref a) (fun i w=>w=.ref (ad i))
 (fun _ ih w=>∃ a ws,w=.ref a∧H a=some (.tup ws)∧ih ws) (fun _ ih w=>∃ a ws,w=.ref a∧H a=some (.list 0 ws)∧ih ws)
 (fun C _ ih w=>∃ a d es,w=.ref a∧H a=some (.inst C d)∧H d=some (.dict 0 es)∧es.map (·.1)=fnames C∧ih (es.map (·.2)))
 (fun k _ _ ihi iha w=>∃ a d t iv av,w=.ref a∧H a=some (.inst 120 d)∧H d=some (.vd (.str k t) iv av)∧ihi iv∧iha av)
 (fun _ ih w=>∃ a u,w=.ref a∧H a=some (.dict 0 [("names",u)])∧ih u)
 (fun ws=>ws=[]) (fun _ _ ihx ihl ws=>∃ w ws',ws=w::ws'∧ihx w∧ihl ws') x
noncomputable def Reps (l:List V):List Value→Prop:=@V.rec_1 (fun _=>Value→Prop) (fun _=>List Value→Prop) (fun w=>w=.none) (fun b w=>w=.bool b) (fun n w=>∃ t,w=.int n t) (fun s w=>∃ t,w=.str s t) (fun a w=>w=.ref a) (fun i w=>w=.ref (ad i))
 (fun _ ih w=>∃ a ws,w=.ref a∧H a=some (.tup ws)∧ih ws) (fun _ ih w=>∃ a ws,w=.ref a∧H a=some (.list 0 ws)∧ih ws)
 (fun C _ ih w=>∃ a d es,w=.ref a∧H a=some (.inst C d)∧H d=some (.dict 0 es)∧es.map (·.1)=fnames C∧ih (es.map (·.2)))
 (fun k _ _ ihi iha w=>∃ a d t iv av,w=.ref a∧H a=some (.inst 120 d)∧H d=some (.vd (.str k t) iv av)∧ihi iv∧iha av)
 (fun _ ih w=>∃ a u,w=.ref a∧H a=some (.dict 0 [("names",u)])∧ih u)
 (fun ws=>ws=[]) (fun _ _ ihx ihl ws=>∃ w ws',ws=w::ws'∧ihx w∧ihl ws') l
end
section
variable {ad:Nat→Addr} {H H':AH}
theorem Rep.tup {a:Addr} {l:List V} {ws:List Value} (h:H a=some (.tup ws)) (r:Reps ad H l ws):Rep ad H (.tup l) (.ref a):=⟨a,ws,rfl,h,r⟩
theorem Rep.lst {a:Addr} {l:List V} {ws:List Value} (h:H a=some (.list 0 ws)) (r:Reps ad H l ws):Rep ad H (.lst l) (.ref a):=⟨a,ws,rfl,h,r⟩
theorem Rep.int {n:Int} {t:Tok}:Rep ad H (.int n) (.int n t):=⟨t,rfl⟩
theorem Rep.cell {i:Nat}:Rep ad H (.cell i) (.ref (ad i)):=rfl
theorem Rep.fn {a:Addr}:Rep ad H (.fn a) (.ref a):=rfl
theorem Rep.none:Rep ad H .none .none:=rfl
theorem Rep.bool {b:Bool}:Rep ad H (.bool b) (.bool b):=rfl
theorem Rep.str {n:Str} {t:Tok}:Rep ad H (.str n) (.str n t):=⟨t,rfl⟩
theorem Rep.tupE {l:List V} {w:Value} (h:Rep ad H (.tup l) w):∃ a ws,w=.ref a∧H a=some (.tup ws)∧Reps ad H l ws:=h
theorem Rep.lstE {l:List V} {w:Value} (h:Rep ad H (.lst l) w):∃ a ws,w=.ref a∧H a=some (.list 0 ws)∧Reps ad H l ws:=h
theorem Rep.objE {C:Addr} {l:List V} {w:Value} (h:Rep ad H (.obj C l) w):∃ a d es,w=.ref a∧H a=some (.inst C d)∧H d=some (.dict 0 es)∧es.map (·.1)=fnames C∧Reps ad H l (es.map (·.2)):=h
theorem Rep.vecE {k:Str} {i u:V} {w:Value} (h:Rep ad H (.vec k i u) w):∃ a d t iv av,w=.ref a∧H a=some (.inst 120 d)∧H d=some (.vd (.str k t) iv av)∧Rep ad H i iv∧Rep ad H u av:=h
theorem Rep.nmE {u:V} {w:Value} (h:Rep ad H (.nm u) w):∃ a v,w=.ref a∧H a=some (.dict 0 [("names",v)])∧Rep ad H u v:=h
theorem Reps.cons {x:V} {w:Value} {l:List V} {ws:List Value} (a:Rep ad H x w) (b:Reps ad H l ws):Reps ad H (x::l) (w::ws):=⟨w,ws,rfl,a,b⟩
theorem Reps.nil:Reps ad H [] []:=rfl
theorem Reps.one {x:V} {w:Value} (a:Rep ad H x w):Reps ad H [x] [w]:=.cons a .nil
theorem Reps.un {x:V} {l:List V} {ws:List Value} {C:List Value→Prop} (h:Reps ad H (x::l) ws) (k:∀ w ws',Rep ad H x w→Reps ad H l ws'→C (w::ws')):C ws:=by
 obtain ⟨w,ws',rfl,a,b⟩:=h;exact k _ _ a b
theorem Rep.fz (k:Fz H H') (x:V):∀ {v:Value},Rep ad H x v→Rep ad H' x v:=
 @V.rec (fun x=>∀ {v:Value},Rep ad H x v→Rep ad H' x v) (fun l=>∀ {v:List Value},Reps ad H l v→Reps ad H' l v) (fun h=>h) (fun _ _ h=>h) (fun _ _ h=>h) (fun _ _ h=>h) (fun _ _ h=>h) (fun _ _ h=>h)
  (fun _ ih _ h=>h.tupE.imp fun a h=>h.imp fun ws h=>⟨h.1,k _ _ h.2.1 rfl id,ih h.2.2⟩) (fun _ ih _ h=>h.lstE.imp fun a h=>h.imp fun ws h=>⟨h.1,k _ _ h.2.1 rfl id,ih h.2.2⟩)
  (fun _ _ ih _ h=>h.objE.imp fun a h=>h.imp fun d h=>h.imp fun es h=>⟨h.1,k _ _ h.2.1 rfl id,k _ _ h.2.2.1 rfl id,h.2.2.2.1,ih h.2.2.2.2⟩)
  (fun _ _ _ i1 i2 _ h=>h.vecE.imp fun a h=>h.imp fun d h=>h.imp fun t h=>h.imp fun iv h=>h.imp fun av h=>⟨h.1,k _ _ h.2.1 rfl id,k _ _ h.2.2.1 rfl id,i1 h.2.2.2.1,i2 h.2.2.2.2⟩)
  (fun _ ih _ h=>h.nmE.imp fun a h=>h.imp fun u h=>⟨h.1,k _ _ h.2.1 rfl id,ih h.2.2⟩) (fun h=>h) (fun _ _ i1 i2 _ h=>h.imp fun w h=>h.imp fun ws h=>⟨h.1,i1 h.2.1,i2 h.2.2⟩) x
theorem Rep.handed {v:Value} (x:V):Rep ad H x v→handedIn v=true:=
 have hd:∀ {u},v=u→handedIn u=true→handedIn v=true:=fun e h=>e▸h
 @V.casesOn (fun x=>Rep ad H x v→handedIn v=true) x (fun h=>hd h rfl) (fun _ h=>hd h rfl) (fun _ h=>h.elim fun t h=>hd h rfl) (fun _ h=>h.elim fun t h=>hd h rfl) (fun _ h=>hd h rfl) (fun _ h=>hd h rfl)
  (fun _ h=>h.tupE.elim fun a h=>h.elim fun ws h=>hd h.1 rfl) (fun _ h=>h.lstE.elim fun a h=>h.elim fun ws h=>hd h.1 rfl) (fun _ _ h=>h.objE.elim fun a h=>h.elim fun d h=>h.elim fun es h=>hd h.1 rfl)
  (fun _ _ _ h=>h.vecE.elim fun a h=>h.elim fun d h=>h.elim fun t h=>h.elim fun i h=>h.elim fun u h=>hd h.1 rfl) (fun _ h=>h.nmE.elim fun a h=>h.elim fun u h=>hd h.1 rfl)
theorem Reps.len {l:List V}:∀ {ws:List Value},Reps ad H l ws→ws.length=l.length:=by
 induction l with
 | nil=>exact fun h=>congrArg List.length h
 | cons x l ih=>exact fun h=>h.un (C:=fun ws=>ws.length=l.length+1) fun w ws a b=>congrArg Nat.succ (ih b)
theorem Reps.fz (k:Fz H H') {l:List V}:∀ {ws:List Value},Reps ad H l ws→Reps ad H' l ws:=by
 induction l with
 | nil=>exact fun h=>h
 | cons x l ih=>exact fun h=>h.imp fun w h=>h.imp fun ws h=>⟨h.1,Rep.fz k x h.2.1,ih h.2.2⟩
theorem Reps.get {l:List V}:∀ {ws:List Value} {i:Nat} {x:V},Reps ad H l ws→l[i]?=some x→∃ w,ws[i]?=some w∧Rep ad H x w:=by
 induction l with
 | nil=>exact fun _ e=>by injection e
 | cons y l ih=>exact fun {ws i x} h=>h.un (C:=fun ws=>(y::l)[i]?=some x→∃ w,ws[i]?=some w∧Rep ad H x w) fun w ws a b=>match i with
  | 0=>fun e=>⟨w,rfl,Option.some.inj e▸a⟩
  | i+1=>fun e=>ih (i:=i) b e
theorem Reps.get' {l:List V} {ws:List Value} {i:Nat} {w:Value} (h:Reps ad H l ws) (e:ws[i]?=some w):∃ x,l[i]?=some x∧Rep ad H x w:=by
 have hi:i<l.length:=by rw [← h.len];exact (List.getElem?_eq_some_iff.mp e).1
 obtain ⟨w',a,b⟩:=h.get (List.getElem?_eq_getElem hi)
 (injection (a.symm.trans e) with e1;subst e1)
 exact ⟨_,List.getElem?_eq_getElem hi,b⟩
theorem Reps.append {l l':List V} {ws':List Value} (h':Reps ad H l' ws'):∀ {ws:List Value},Reps ad H l ws→Reps ad H (l++l') (ws++ws'):=by
 induction l with
 | nil=>intro ws h;cases (h:ws=[]);exact h'
 | cons y l ih=>exact fun h=>h.un (C:=fun ws=>Reps ad H (y::l++l') (ws++ws')) fun w ws a b=>.cons a (ih b)
theorem Reps.snoc {l:List V} {ws:List Value} {x:V} {w:Value} (h:Reps ad H l ws) (h':Rep ad H x w):Reps ad H (l++[x]) (ws++[w]):=.append (.one h') h
theorem Reps.last {l:List V} {x:V}:∀ {ws:List Value},Reps ad H (l++[x]) ws→∃ w1 w,ws=w1++[w]∧Reps ad H l w1∧Rep ad H x w:=by
 induction l with
 | nil=>exact fun h=>h.un (C:=fun ws=>∃ w1 w,ws=w1++[w]∧Reps ad H [] w1∧Rep ad H x w) fun w ws a b=>⟨[],w,by rw [show ws=[] from b];rfl,rfl,a⟩
 | cons y l ih=>exact fun h=>h.un (C:=fun ws=>∃ w1 w,ws=w1++[w]∧Reps ad H (y::l) w1∧Rep ad H x w) fun w ws a b=>(ih b).elim fun w1 h=>h.elim fun v h=>⟨w::w1,v,congrArg (w::·) h.1,.cons a h.2.1,h.2.2⟩
theorem Reps.set {l:List V} {x:V} {w:Value} (e:Rep ad H x w):∀ {ws:List Value} {i:Nat},Reps ad H l ws→Reps ad H (l.set i x) (ws.set i w):=by
 induction l with
 | nil=>intro ws i h;cases (h:ws=[]);exact rfl
 | cons y l ih=>exact fun {ws i} h=>h.un (C:=fun ws=>Reps ad H ((y::l).set i x) (ws.set i w)) fun w ws a b=>match i with
  | 0=>.cons e b
  | i+1=>.cons a (ih b)
theorem Reps.drop {l:List V}:∀ {ws:List Value} {n:Nat},Reps ad H l ws→Reps ad H (l.drop n) (ws.drop n):=by
 induction l with
 | nil=>intro ws n h;cases (h:ws=[]);rw [List.drop_nil,List.drop_nil];exact rfl
 | cons y l ih=>exact fun {ws n} h=>match n with
  | 0=>h
  | n+1=>h.un (C:=fun ws=>Reps ad H ((y::l).drop (n+1)) (ws.drop (n+1))) fun w ws a b=>ih b
theorem Reps.take {l:List V}:∀ {ws:List Value} {n:Nat},Reps ad H l ws→Reps ad H (l.take n) (ws.take n):=by
 induction l with
 | nil=>intro ws n h;cases (h:ws=[]);rw [List.take_nil,List.take_nil];exact rfl
 | cons y l ih=>exact fun {ws n} h=>match n with
  | 0=>rfl
  | n+1=>h.un (C:=fun ws=>Reps ad H ((y::l).take (n+1)) (ws.take (n+1))) fun w ws a b=>.cons a (ih b)
theorem Reps.replicate {x:V} {w:Value} (h:Rep ad H x w) (n:Nat):Reps ad H (List.replicate n x) (List.replicate n w):=by
 induction n with
 | zero=>exact rfl
 | succ n ih=>exact .cons h ih
theorem Reps.ints {l:List Int} {ws:List Value} (h:IntsAre ws l):Reps ad H (l.map .int) ws:=by
 induction h with
 | nil=>exact rfl
 | cons n t h ih=>exact .cons .int ih
theorem str?_spec {x:V} {s:Str} (h:str? x=some s):x=.str s:=by
 cases x<;>cases h;rfl
theorem Reps.strs {l:List V}:∀ {ws:List Value} {ys:List Str},Reps ad H l ws→strsOf l=some ys→StrsAre ws ys:=by
 induction l with
 | nil=>intro ws ys h e;cases (h:ws=[]);(injection e with e1;subst e1);exact .nil
 | cons y l ih=>
  intro ws ys h e
  obtain ⟨s,e1,e2⟩:=Option.bind_eq_some_iff.mp (show ((str? y).bind fun s=>(strsOf l).map (s::·))=some ys from e)
  obtain ⟨zs,e3,rfl⟩:=Option.map_eq_some_iff.mp e2
  cases str?_spec e1
  exact h.un (C:=fun ws=>StrsAre ws (s::zs)) fun w ws a b=>a.elim fun t q=>q▸.cons _ _ (ih b e3)
theorem Reps.fld {f:Str × V} {fs:List (Str × V)} {C:List (Str × Value)→Prop}:∀ {es:List (Str × Value)},Reps ad H ((f::fs).map (·.2)) (es.map (·.2))→es.map (·.1)=(f::fs).map (·.1) →
  (∀ v es',Rep ad H f.2 v→Reps ad H (fs.map (·.2)) (es'.map (·.2))→es'.map (·.1)=fs.map (·.1)→C ((f.1,v)::es'))→C es:=by
 intro es h e c
 rcases es with _ | ⟨⟨k,v⟩,es⟩
 ·injection e
 ·have e1:k=f.1:=(List.cons.inj e).1
  subst e1
  obtain ⟨w,ws',q,a1,a2⟩:=h
  have q1:v=w:=(List.cons.inj q).1
  have q2:es.map (·.2)=ws':=(List.cons.inj q).2
  exact c _ _ (q1▸a1) (q2▸a2) (List.cons.inj e).2
theorem Reps.dlook {a:Str} {fs:List (Str × V)} {x:V}:∀ {es:List (Str × Value)},Reps ad H (fs.map (·.2)) (es.map (·.2))→es.map (·.1)=fs.map (·.1)→dlook a fs=some x→∃ w,valueAt es a=some w∧Rep ad H x w:=by
 induction fs with
 | nil=>exact fun _ _ d=>by injection d
 | cons f fs ih=>
  intro es h e d
  refine h.fld (C:=fun es=>∃ w,valueAt es a=some w∧Rep ad H x w) e fun v es a1 a2 e'=>?_
  replace d:(if f.1=a then some f.2 else Internal.dlook a fs)=some x:=d
  by_cases q:f.1=a
  ·rw [if_pos q] at d
   exact ⟨v,by simp [valueAt,q],Option.some.inj d▸a1⟩
  ·rw [if_neg q] at d
   exact (ih a2 e' d).imp fun w h=>⟨by simpa [valueAt,q] using h.1,h.2⟩
theorem zip_fst {l:List V}:∀ {ks:List Str} {ws:List Value},ws.length=ks.length→Reps ad H l ws→(ks.zip l).map (·.1)=ks∧(ks.zip l).map (·.2)=l:=by
 intro ks ws h r
 have e:=r.len
 exact ⟨List.map_fst_zip (by lia),List.map_snd_zip (by lia)⟩
theorem stored_hit {a k:Str} {u v:Value} {es:List (Str × Value)} (hk:k=a) (hn:∀ kv ∈ es,kv.1≠a):stored ((k,u)::es) a v=(k,v)::es:=by
 have:es.map (fun kv=>if kv.1=a then (kv.1,v) else kv)=es:=by
  conv=>rhs;rw [← List.map_id es]
  exact List.map_congr_left fun kv h=>by simp [hn kv h]
 simp [stored,hk,this]
theorem stored_skip {a k:Str} {u v:Value} {es:List (Str × Value)} (hk:¬k=a):stored ((k,u)::es) a v=(k,u)::stored es a v:=by
 unfold stored
 simp only [List.any_cons,hk,decide_false,Bool.false_or,List.map_cons,if_false]
 split<;>rfl
theorem Reps.dset {a:Str} {x:V} {v:Value} (hv:Rep ad H x v) {fs:List (Str × V)}:∀ {fs':List (Str × V)} {es:List (Str × Value)},(es.map (·.1)).Nodup→Reps ad H (fs.map (·.2)) (es.map (·.2))→es.map (·.1)=fs.map (·.1)→dset a x fs=some fs' →
  (stored es a v).map (·.1)=fs'.map (·.1)∧Reps ad H (fs'.map (·.2)) ((stored es a v).map (·.2))∧fs'.map (·.1)=fs.map (·.1):=by
 induction fs with
 | nil=>exact fun _ _ _ d=>by injection d
 | cons f fs ih=>
  intro fs' es hn h e d
  refine h.fld (C:=fun es=>(es.map (·.1)).Nodup→(stored es a v).map (·.1)=fs'.map (·.1)∧Reps ad H (fs'.map (·.2)) ((stored es a v).map (·.2))∧fs'.map (·.1)=(f::fs).map (·.1)) e (fun u es a1 a2 e' hn=>?_) hn
  replace d:(if f.1=a then some ((f.1,x)::fs) else (Internal.dset a x fs).map (f::·))=some fs':=d
  have hn':=List.nodup_cons.mp hn
  by_cases q:f.1=a
  ·rw [if_pos q] at d
   rw [stored_hit q fun kv hkv z=>hn'.1 (by exact List.mem_map.mpr ⟨kv,hkv,z.trans q.symm⟩),← Option.some.inj d]
   exact ⟨congrArg (f.1::·) e',.cons hv a2,rfl⟩
  ·rw [if_neg q] at d
   obtain ⟨z,h1,rfl⟩:=Option.map_eq_some_iff.mp d
   have:=ih hn'.2 a2 e' h1
   rw [stored_skip q]
   exact ⟨congrArg (f.1::·) this.1,.cons a1 this.2.1,congrArg (f.1::·) this.2.2⟩
end
end
end Internal
end
section
namespace Internal
open PySem PySem.W PyProof.Rows
structure Mc where
 g:Cfg
 ad:Nat→Addr
 da:Nat→Addr
 hid:Nat→AH→Prop
 n:Nat
noncomputable def Mc.off (e:Mc) (a:Addr):Prop:=∀ i,i<e.n→a≠e.ad i∧a≠e.da i
structure Mc.Ok (e:Mc):Prop where
 cok:e.g.Ok
 inj:∀ i j,i<e.n→j<e.n→e.ad i=e.ad j→i=j
 injd:∀ i j,i<e.n→j<e.n→e.da i=e.da j→i=j
 sep:∀ i j,i<e.n→j<e.n→e.ad i≠e.da j
 hidK:∀ p H H',e.hid p H→(∀ a o,H a=some o→¬o.priv→(o.tag=0∨o.tag=4)→(o.tag=4→e.off a)→H' a=some o)→e.hid p H'
 hidC:∀ p H,e.hid p H→∃ d src al,H (e.ad 0)=some (.inst 520 d)∧H d=some (.dict 4 [("source",src),("ahead",al),("contexts",.ref (e.ad 1))])
noncomputable def Fds (ad:Nat→Addr) (H:AH) (fs:List (Str × V)) (es:List (Str × Value)):Prop:=es.map (·.1)=fs.map (·.1)∧(es.map (·.1)).Nodup∧Reps ad H (fs.map (·.2)) (es.map (·.2))
noncomputable def RootRep (e:Mc) (H:AH) (i:Nat) (x:Root):Prop:=match x with
 | .lst l=>∃ ws,H (e.ad i)=some (.list 4 ws)∧Reps e.ad H l ws
 | .dict fs=>∃ es,H (e.ad i)=some (.dict 4 es)∧Fds e.ad H fs es
 | .hid p=>e.hid p H
 | .stay H0=>∀ a o,H0 a=some o→o.tag=4→e.off a→H a=some o
 | .inst C fs=>H (e.ad i)=some (.inst C (e.da i))∧∃ es,H (e.da i)=some (.dict 4 es)∧Fds e.ad H fs es
noncomputable def RootsRep (e:Mc) (r:List Root) (H:AH):Prop:=∀ i x,r[i]?=some x→i<e.n∧RootRep e H i x
noncomputable def LRep (e:Mc) (F:Fx) (H:AH) (lv:LV) (v:Value):Prop:=match lv with
 | .v x=>Rep e.ad H x v
 | .own l=>∃ a ws,v=.ref a∧H a=some (.list 5 ws)∧Reps e.ad H l ws∧F.H0 a=none
 | .un=>False
theorem LRep.vis {e:Mc} {F:Fx} {H:AH} {lv:LV} {v:Value} (h:LRep e F H lv v):lv.vis=some lv:=by cases lv<;>first | rfl | exact h.elim
structure SimF (e:Mc) (F:Fx) (s:Fst) (m:LM) (H:AH):Prop where
 loc:∀ x lv,glook x s.G=some lv→∃ v,look m x=some v∧LRep e F H lv v
 own:∀ x y l l' v,glook x s.G=some (.own l)→glook y s.G=some (.own l')→look m x=some v→look m y=some v→x=y
 roots:RootsRep e s.r H
theorem glook_set {x:Str} {v:LV} (hv:v.vis=some v) (y:Str) (G:List (Str × LV)):glook y (gset x v G)=if y=x then some v else glook y G:=by
 induction G with
 | nil=>
  show (if y=x then v.vis else none)=_
  rw [hv];rfl
 | cons p r ih=>
  show glook y (if x=p.1 then (p.1,v)::r else p::gset x v r)=if y=x then some v else (if y=p.1 then p.2.vis else glook y r)
  by_cases h:x=p.1
  ·rw [if_pos h]
   show (if y=p.1 then v.vis else glook y r)=_
   rw [hv,← h]
   by_cases hy:y=x
   ·rw [if_pos hy,if_pos hy]
   ·rw [if_neg hy,if_neg hy,if_neg hy]
  ·rw [if_neg h]
   show (if y=p.1 then p.2.vis else glook y (gset x v r))=_
   rw [ih]
   by_cases hy:y=p.1
   ·rw [if_pos hy,if_neg fun z=>h (z.symm.trans hy),if_pos hy]
   ·rw [if_neg hy,if_neg hy]
section
variable {e:Mc} {F:Fx} {s:Fst} {m:LM} {H H':AH}
theorem Fds.fz {ad:Nat→Addr} {fs:List (Str × V)} {es:List (Str × Value)} (k:Fz H H') (h:Fds ad H fs es):Fds ad H' fs es:=⟨h.1,h.2.1,h.2.2.fz k⟩
noncomputable def Off (e:Mc) (H H':AH) (i:Nat):Prop:=(∀ a o,H a=some o→¬o.priv→(o.tag=0∨o.tag=4)→(o.tag=4→e.off a)→H' a=some o)∧(∀ o,H (e.ad i)=some o→o.tag=4→H' (e.ad i)=some o)∧∀ o,H (e.da i)=some o→o.tag=4→H' (e.da i)=some o
theorem RootRep.keep {i:Nat} (E:e.Ok) (k:Fz H H') (h4:Off e H H' i) (x:Root):RootRep e H i x→RootRep e H' i x:=match x with
 | .lst l=>fun h=>h.imp fun ws h=>⟨h4.2.1 _ h.1 rfl,h.2.fz k⟩
 | .dict fs=>fun h=>h.imp fun es h=>⟨h4.2.1 _ h.1 rfl,h.2.fz k⟩
 | .hid p=>fun h=>E.hidK p H H' h h4.1
 | .stay H0=>fun h a o q t f=>h4.1 a o (h a o q t f) (fun p=>absurd (AObj.priv_tag p) (by rw [t];decide)) (.inr t) fun _=>f
 | .inst C fs=>fun h=>⟨k _ _ h.1 rfl id,h.2.imp fun es h=>⟨h4.2.2 _ h.1 rfl,h.2.fz k⟩⟩
theorem RootsRep.keep {r:List Root} (E:e.Ok) (h:RootsRep e r H) (k:Fz H H') (h4:∀ i,Off e H H' i):RootsRep e r H':=fun i x hx=>⟨(h i x hx).1,.keep E k (h4 i) x (h i x hx).2⟩
theorem Off.ext (k:Ext H H') (i:Nat):Off e H H' i:=⟨fun a o h _ _ _=>k a o h,fun o h _=>k _ o h,fun o h _=>k _ o h⟩
theorem RootsRep.ext {r:List Root} (E:e.Ok) (h:RootsRep e r H) (k:Ext H H'):RootsRep e r H':=h.keep E (.ofExt k) (.ext k)
theorem LRep.fz {lv:LV} {v:Value} (k:Fz H H') (k5:∀ a ws,H a=some (.list 5 ws)→H' a=some (.list 5 ws)) (h:LRep e F H lv v):LRep e F H' lv v:=by
 cases lv with
 | v x=>exact Rep.fz k x h
 | own l=>exact h.imp fun a h=>h.imp fun ws h=>⟨h.1,k5 _ _ h.2.1,h.2.2.1.fz k,h.2.2.2⟩
 | un=>exact h.elim
theorem SimF.move (S:SimF e F s m H) (k:Fz H H') (k5:∀ a ws,H a=some (.list 5 ws)→H' a=some (.list 5 ws)) {r':List Root} (h:RootsRep e r' H'):SimF e F ⟨s.G,r'⟩ m H':=
 ⟨fun x lv hx=>(S.loc x lv hx).imp fun v h=>⟨h.1,h.2.fz k k5⟩,S.own,h⟩
theorem SimF.ext (S:SimF e F s m H) (E:e.Ok) (k:Ext H H'):SimF e F s m H':=S.move (.ofExt k) (fun a ws h=>k _ _ h) (S.roots.ext E k)
theorem ifs {α:Type _} {p:Prop} [Decidable p] {a b c:Option α} {C:Prop} (h:(if p then a else b)=c) (k1:p→a=c→C) (k2:¬p→b=c→C):C:=by
 by_cases q:p
 ·rw [if_pos q] at h;exact k1 q h
 ·rw [if_neg q] at h;exact k2 q h
theorem SimF.upd (S:SimF e F s m H) (E:e.Ok) {x:Str} {l:List V} {a:Addr} {ws:List Value} {o:AObj} {lv:LV} (hx:glook x s.G=some (.own l)) (hm:look m x=some (.ref a)) (ha:H a=some (.list 5 ws))
  (hl:LRep e F (H.set a o) lv (.ref a)):SimF e F (s.set x lv) m (H.set a o):=by
 have k:Fz H (H.set a o):=.set1 ha (by exact (by decide:(5:Nat)≠0))
 have g:=fun y=>glook_set hl.vis (x:=x) y s.G
 have k':∀ b p,H b=some p→p.tag≠5→(H.set a o) b=some p:=fun b p hb hp=>by
  rw [AH.set_ne fun q=>hp (by rw [q,ha] at hb;(injection hb with e1;subst e1);rfl)];exact hb
 refine ⟨fun y lv' hy=>ifs ((g y).symm.trans hy) (fun q h=>⟨_,by rw [q];exact hm,Option.some.inj h▸hl⟩) fun q h=>(S.loc y lv' h).imp fun v z=>⟨z.1,?_⟩,
  fun y z l1 l2 v hy hz h1 h2=>ifs ((g y).symm.trans hy) (fun q h=>ifs ((g z).symm.trans hz) (fun q' _=>q.trans q'.symm) fun q' h'=>q.trans (S.own x z l l2 v hx h' (q▸h1) h2)) fun q h=>ifs ((g z).symm.trans hz) (fun q' _=>(S.own y x l1 l v h hx h1 (q'▸h2)).trans q'.symm) fun q' h'=>S.own _ _ _ _ _ h h' h1 h2,
  S.roots.keep E k fun i=>⟨fun b p hb _ ht _=>k' b p hb fun z=>by rw [z] at ht;exact absurd ht (by decide),fun p hp ht=>k' _ p hp fun z=>(nomatch ht.symm.trans z),fun p hp ht=>k' _ p hp fun z=>(nomatch ht.symm.trans z)⟩⟩
 cases lv' with
 | un=>exact z.2.elim
 | v u=>exact Rep.fz k u z.2
 | own l'=>
  obtain ⟨b,us,h1,h2,h3,h4⟩:=z.2
  exact ⟨b,us,h1,by rw [AH.set_ne fun w=>q (S.own _ _ _ _ _ h hx z.1 (by rw [hm,h1,w]))];exact h2,h3.fz k,h4⟩
theorem SimF.puts (S:SimF e F s m H) (E:e.Ok) {i:Nat} {b:Addr} {o p:AObj} {x:Root} (hi:i<e.n) (hb:b=e.ad i∨b=e.da i) (hp:H b=some p) (ht:p.tag=4) (h:RootRep e (H.set b o) i x):SimF e F (s.put i x) m (H.set b o):=by
 have k:Fz H (H.set b o):=.set1 hp (by rw [ht];decide)
 have no:¬e.off b:=fun z=>hb.elim (z i hi).1 (z i hi).2
 refine S.move k (fun a ws h=>by rw [AH.set_ne fun q=>by rw [q,hp] at h;(injection h with e1;subst e1);cases ht];exact h) fun j y hy=>?_
 by_cases q:i=j
 ·subst q
  have q:y=x:=by
   rw [List.getElem?_set,if_pos rfl] at hy
   split at hy
   ·exact (Option.some.inj hy).symm
   ·injection hy
  rw [q];exact ⟨hi,h⟩
 ·rw [List.getElem?_set_ne q] at hy
  have hj:=(S.roots j y hy).1
  refine ⟨hj,.keep E k ⟨fun c r hc _ _ h4=>?_,fun r hr _=>?_,fun r hr _=>?_⟩ y (S.roots j y hy).2⟩
  ·rw [AH.set_ne fun z=>no (by rw [z,hp] at hc;(injection hc with e1;subst e1);exact z▸h4 ht)];exact hc
  ·rw [AH.set_ne fun z=>hb.elim (fun w=>q (E.inj _ _ hj hi (z.trans w)).symm) fun w=>E.sep _ _ hj hi (z.trans w)];exact hr
  ·rw [AH.set_ne fun z=>hb.elim (fun w=>E.sep _ _ hi hj (z.trans w).symm) fun w=>q (E.injd _ _ hj hi (z.trans w)).symm];exact hr
theorem SimF.bind (S:SimF e F s m H) {x:Str} {lv:LV} {v:Value} (h:LRep e F H lv v) (hn:∀ l,lv=.own l→∀ y l',glook y s.G=some (.own l')→look m y≠some v):SimF e F (s.set x lv) (setL x v m) H:=by
 have g:=fun y=>glook_set h.vis (x:=x) y s.G
 have gm:=fun y=>congrFun (look_setL x v m) y
 refine ⟨fun y lv' hy=>ifs ((g y).symm.trans hy) (fun q h'=>⟨v,(gm y).trans (if_pos q),Option.some.inj h'▸h⟩) fun q h'=>(S.loc y lv' h').imp fun u z=>⟨(gm y).trans ((if_neg q).trans z.1),z.2⟩,
  fun y z l1 l2 u hy hz h1 h2=>?_,S.roots⟩
 rw [gm] at h1 h2
 refine ifs ((g y).symm.trans hy) (fun q a=>ifs ((g z).symm.trans hz) (fun q' _=>q.trans q'.symm) fun q' b=>?_) fun q a=>ifs ((g z).symm.trans hz) (fun q' b=>?_) fun q' b=>?_
 ·rw [if_pos q] at h1;rw [if_neg q'] at h2
  exact absurd (h2.trans h1.symm) (hn _ (Option.some.inj a) _ _ b)
 ·rw [if_neg q] at h1;rw [if_pos q'] at h2
  exact absurd (h1.trans h2.symm) (hn _ (Option.some.inj b) _ _ a)
 ·rw [if_neg q] at h1;rw [if_neg q'] at h2
  exact S.own _ _ _ _ _ a b h1 h2
theorem SimF.bindV (S:SimF e F s m H) {x:Str} {y:V} {v:Value} (h:Rep e.ad H y v):SimF e F (s.set x (.v y)) (setL x v m) H:=S.bind (lv:=.v y) h fun _ q=>by injection q
end
end Internal
end
section
namespace Internal
open PySem PySem.W PyProof.Rows
section
variable {R:Addr→List V→List Root→(Out→Prop)→Prop} {α β:Type} {xp:Str→Int→Prop} {Q:α→Prop} {C:Prop} {D:Value→Prop} {ad:Nat→Addr} {H:AH} {x:V} {a:Value}
theorem W.opt {β:Type _} {o:Option β} {k:β→Tr α} (h:W R xp (Internal.opt o k) Q) (c:∀ b,o=some b→W R xp (k b) Q→C):C:=by
 cases o with
 | none=>exact h.elim
 | some b=>exact c b rfl h
theorem W.chk {b:Bool} {t:Tr α} (h:W R xp (Internal.chk b t) Q):b=true∧W R xp t Q:=by
 cases b
 ·exact h.elim
 ·exact ⟨rfl,h⟩
theorem W.need {P:Prop} {t:Tr α} (h:W R xp (Internal.need P t) Q):P∧W R xp t Q:=(W.askE h).elim fun _ h=>h
theorem W.dV {v:LV} {k:V→Tr α} (h:W R xp (Internal.dV v k) Q) (c:∀ x,v=.v x→W R xp (k x) Q→C):C:=by
 cases v with
 | v x=>exact c x rfl h
 | own _=>exact h.elim
 | un=>exact h.elim
theorem Rep.dInt {k:Int→Tr α} (ha:Rep ad H x a) (h:W R xp (Internal.dInt x k) Q) (c:∀ n t,W R xp (k n) Q→D (.int n t)):D a:=by
 induction x using V.casesOn
 case int n=>exact ha.elim fun t e=>e▸c n t h
 all_goals exact (show False from h).elim
theorem Rep.dStr {k:Str→Tr α} (ha:Rep ad H x a) (h:W R xp (Internal.dStr x k) Q) (c:∀ n t,W R xp (k n) Q→D (.str n t)):D a:=by
 induction x using V.casesOn
 case str n=>exact ha.elim fun t e=>e▸c n t h
 all_goals exact (show False from h).elim
theorem Rep.dBool {k:Bool→Tr α} (ha:Rep ad H x a) (h:W R xp (Internal.dBool x k) Q) (c:∀ b,W R xp (k b) Q→D (.bool b)):D a:=by
 induction x using V.casesOn
 case bool n=>exact (show a=.bool n from ha)▸c n h
 all_goals exact (show False from h).elim
theorem Rep.dLst {k:List V→Tr α} (ha:Rep ad H x a) (h:W R xp (Internal.dLst x k) Q) (c:∀ l a ws,H a=some (.list 0 ws)→Reps ad H l ws→W R xp (k l) Q→D (.ref a)):D a:=by
 induction x using V.casesOn
 case lst l=>exact ha.lstE.elim fun b q=>q.elim fun ws q=>q.1▸c l b ws q.2.1 q.2.2 h
 all_goals exact (show False from h).elim
theorem Rep.dLstE {k:List V→Tr α} (ha:Rep ad H x a) (h:W R xp (Internal.dLst x k) Q):∃ l b ws,a=.ref b∧H b=some (.list 0 ws)∧Reps ad H l ws∧W R xp (k l) Q:=ha.dLst (D:=fun a=>∃ l b ws,a=.ref b∧H b=some (.list 0 ws)∧Reps ad H l ws∧W R xp (k l) Q) h fun l b ws h1 h2 h=>⟨l,b,ws,rfl,h1,h2,h⟩
theorem Rep.dTup {k:List V→Tr α} (ha:Rep ad H x a) (h:W R xp (Internal.dTup x k) Q) (c:∀ l a ws,H a=some (.tup ws)→Reps ad H l ws→W R xp (k l) Q→D (.ref a)):D a:=by
 induction x using V.casesOn
 case tup l=>exact ha.tupE.elim fun b q=>q.elim fun ws q=>q.1▸c l b ws q.2.1 q.2.2 h
 all_goals exact (show False from h).elim
theorem Rep.dCell {k:Nat→Tr α} (ha:Rep ad H x a) (h:W R xp (Internal.dCell x k) Q) (c:∀ i,x=.cell i→W R xp (k i) Q→D (.ref (ad i))):D a:=by
 induction x using V.casesOn
 case cell i=>exact (show a=.ref (ad i) from ha)▸c i rfl h
 all_goals exact (show False from h).elim
theorem Rep.dFn {k:Addr→Tr α} (ha:Rep ad H x a) (h:W R xp (Internal.dFn x k) Q) (c:∀ i,W R xp (k i) Q→D (.ref i)):D a:=by
 induction x using V.casesOn
 case fn i=>exact (show a=.ref i from ha)▸c i h
 all_goals exact (show False from h).elim
theorem Rep.isNone (ha:Rep ad H x a) (c:Internal.isNone x=false→plainIs a .none=true→(∀ x t,a≠.bytes x t)→(a==.none)=false→C) (c':x=.none→a=.none→C):C:=by
 have hd:∀ {v:Value},a=v→plainIs v .none=true→(∀ x t,v≠.bytes x t)→(v==.none)=false→Internal.isNone x=false→C:=fun e h1 h2 h3 h4=>c h4 (e▸h1) (e▸h2) (e▸h3)
 have rf:∀ {v},a=.ref v→Internal.isNone x=false→C:=fun e h=>hd e rfl (fun _ _ q=>by injection q) rfl h
 induction x using V.casesOn
 case none=>exact c' rfl ha
 case bool=>exact hd ha rfl (fun _ _ q=>by injection q) rfl rfl
 case int=>exact ha.elim fun t e=>hd e rfl (fun _ _ q=>by injection q) rfl rfl
 case str=>exact ha.elim fun t e=>hd e rfl (fun _ _ q=>by injection q) rfl rfl
 case fn=>exact rf ha rfl
 case cell=>exact rf ha rfl
 case tup=>exact ha.tupE.elim fun a h=>h.elim fun ws h=>rf h.1 rfl
 case lst=>exact ha.lstE.elim fun a h=>h.elim fun ws h=>rf h.1 rfl
 case nm=>exact ha.nmE.elim fun a h=>h.elim fun ws h=>rf h.1 rfl
 case obj=>exact ha.objE.elim fun a h=>h.elim fun ws h=>h.elim fun es h=>rf h.1 rfl
 case vec=>exact ha.vecE.elim fun a h=>h.elim fun ws h=>h.elim fun es h=>h.elim fun es h=>h.elim fun es h=>rf h.1 rfl
end
section
variable {c:Cfg} {F:Fx} {m:LM} {H:AH}
theorem PW.conv {α:Type} {t:Sem α} {Q Q':α→AH→Prop} (h:PW c F m H t Q) (k:∀ v H' s,St c F m H' s→Q v H'→∃ H'',St c F m H'' s∧Q' v H''):PW c F m H t Q':=fun s st=>
 wpAny_mono (h s st) (fun v s' z=>z.elim fun H' z=>k v H' s' z.1 z.2) fun _ _ e=>e
variable {Q:Value→AH→Prop}
theorem p_eqTup2 (ok:F.Ok) {a b:Addr} {k1 k2:Str} {t1 t2:Tok} {v1 v2:Value} {e:Bool} (ha:H a=some (.tup [.str k1 t1,v1])) (hb:H b=some (.tup [.str k2 t2,v2]))
  (he:∀ A s,PySem.SeqAt.EqAt A s v1 v2 e) (h:Q (.bool ((k1==k2)&&e)) H):PW c F m H (compareOp .Eq (.ref a) (.ref b)) Q:=fun s st=>by
 have hu:F.A.units<cLine:=by have:=ok.room.units;lia
 refine PySem.SeqAt.eq_tupleAt (e:=fun j=>if j=0 then k1==k2 else e) (st.tup ha) (st.tup hb) hu ?_ ?_
 ·intro j h1 h2
  have h1':j<2:=by simpa using h1
  revert h1 h2
  refine lt2 ?_ ?_ j h1'<;>intro h1 h2
  ·exact PySem.SeqAt.EqAt.str_str k1 t1 k2 t2
  ·exact he _ _
 ·have e2:((List.range (min [Value.str k1 t1,v1].toArray.size [Value.str k2 t2,v2].toArray.size)).all (fun j=>if j=0 then k1==k2 else e)&&[Value.str k1 t1,v1].toArray.size==[Value.str k2 t2,v2].toArray.size)=((k1==k2)&&e):=by
   show ((List.range 2).all _&&true)=_
   simp [List.range_succ]
  exact ⟨H,st,by rw [e2];exact h⟩
theorem St.retag {s:Shared} (ok:F.Ok) (st:St c F m H s) {a:Addr} {ao ao':AObj} (ha:H a=some ao) (hm:Mine F a ao) (hp:¬ao.priv) (ho:∀ o,OR c.prog c.w ao o→OR c.prog c.w ao' o):St c F m (H.set a ao') s:=by
 have hne:∀ x p,H x=some p→p.priv→x≠a:=fun x p e hpp q=>hp (by rw [q,ha] at e;(injection e with e1;subst e1);exact hpp)
 refine ⟨⟨st.inv.stays,fun x p e=>?_,st.inv.gens,st.inv.os⟩,st.loc,(AH.set_ne (hne _ _ st.own trivial)).trans st.own,fun x p e=>?_,st.nsk,fun p hpp=>(st.its p hpp).imp id fun h=>h.imp id fun h=>⟨(AH.set_ne (hne _ AObj.it h.1 trivial)).trans h.1,h.2⟩⟩
 ·by_cases hx:x=a
  ·subst hx
   (injection (AH.set_self.symm.trans e) with e1;subst e1)
   exact (st.inv.obj x _ ha).imp id fun h=>h.imp fun co h=>⟨h.1,ho _ h.2⟩
  ·rw [AH.set_ne hx] at e;exact st.inv.obj x p e
 ·by_cases hx:x=a
  ·subst hx
   refine ⟨fun hq=>?_,by rw [AH.set_self];exact fun q=>by injection q⟩
   refine hm.elim (fun hm=>?_) fun hm=>by injection (hm.symm.trans e)
   cases ha.symm.trans ((st.keep x p e).1 hq)
   exact absurd hm hq
  ·rw [AH.set_ne hx];exact st.keep x p e
end
noncomputable def GoodP (e:Mc) (g:Nat) (f:Addr) (as:List V) (r:List Root) (Z:Out→Prop):Prop:=∀ H ws,RootsRep e r H→Reps e.ad H as ws →
 CC e.g g 4 (.ref f) ws H (fun v H'=>∃ x r',Z (.ok x r')∧Rep e.ad H' x v∧RootsRep e r' H') (fun k n _=>Z (.exc k n))
noncomputable abbrev GoodC (e:Mc) (g:Nat) (f:Addr) (as:List V) (r:List Root) (o:Out):Prop:=GoodP e g f as r (fun x=>o=x)
noncomputable def FldOk (K:Frag) (C:Addr) (name:Str):Prop:=(plainGet K C name=true∧hasDictIn K C=true)∧findIn K (.ref C) name=some none
structure MetOk (K:Frag) (C:Addr) (name:Str) (f:Addr):Prop where
 get:plainGet K C "x" = true
 find:findIn K (.ref C) name=some (some (.ref f))
 fn:isFn K (.ref f)=true
 keep:keepIn K (.ref f)=true
structure IsiOk (K:Frag) (D:Addr) (b:Bool):Prop where
 one:kitOne K (.ref D) (.ref 120)=some b
 get:plainGet K D "__class__" = true
 dict:hasDictIn K D=true
 cls:findIn K (.ref D) "__class__" = some (some (.builtin "object.__class__"))
 mro:mroIn K D (.type "object")=some true
structure Tabs.Ok (e:Mc) (tb:Tabs):Prop where
 g:∀ x v,tb.g.lookup x=some v→∃ w,nsIn e.g.K mainGlobals x=some (some w)∧∀ H,Rep e.ad H v w
 b:∀ x:Str,x ∈ (["len","list","max","range","isinstance","int","abs"]:List Str)→nsIn e.g.K mainGlobals x=some none
 f:∀ a,tb.f.contains a=true→keepIn e.g.K (.ref a)=true
 m:∀ x a,tb.m.lookup x=some a→MetOk e.g.K 520 x a∧∀ u v w:Value,valueAt ([("source",u),("ahead",v),("contexts",w)]:List (Str × Value)) x=none
 n:MetOk e.g.K 567 "next_token" 564
 c:∀ C name,name ∈ fnames C→FldOk e.g.K C name
 v:∀ name,name ∈ (["kind","items","attrs"]:List Str)→FldOk e.g.K 120 name
 st:∀ C,C=567∨C=120→findIn e.g.K (.ref C) "__setattr__" = some (some (.builtin "object.__setattr__"))∧plainOver e.g.K C=true∧hasDictIn e.g.K C=true
 sn:takerIn e.g.K 567 "place" = some none∧takerIn e.g.K 120 "shared" = some none
 i:IsiOk e.g.K 120 true∧IsiOk e.g.K 91 false∧specialIn e.g.K (.builtin "object.__class__") "__get__" = some (some (.builtin "getset_descriptor.__get__"))∧takesIn e.g.K (.builtin "object.__class__")=some true
 s:∀ p,tb.s.head?=some p→∃ vs,e.g.b.IsList p.1 vs.toArray∧IntsAre vs p.2
noncomputable def CellAt (b:Heap) (env:Env) (x:Str) (w:Value):Prop:=∃ a,b.IsCell a (some w)∧env.cells.lookup x=some a∧env.kindOf x=some .cell
structure FrOk (e:Mc) (tb:Tabs) (R:Addr→List V→List Root→(Out→Prop)→Prop) (F:Fx) (ns:List (Str × NameKind)) (xp:Str→Int→Prop):Prop where
 E:e.Ok
 tk:tb.Ok e
 ok:F.Ok
 sc:Sc F ns
 T:F.T=4
 X:∀ k n m H,xp k n→F.X k n m H
 R:∀ f as r Z,R f as r Z→GoodP e F.r f as r Z
 cel:∀ x v k,tb.c.lookup x=some v→ns.lookup x=some k→k=.cell∨k=.free→∃ w,CellAt e.g.b F.env x w∧∀ H,Rep e.ad H v w
section
variable {e:Mc} {F:Fx} {m:LM} {H H':AH} {s:Fst} {α β:Type}
noncomputable def Pst (e:Mc) (F:Fx) (m:LM) (H:AH) (rel:AH→β→α→Prop) (Q:β × Fst→Prop) (a:α) (H':AH):Prop:=∃ p:β × Fst,rel H' p.1 a∧SimF e F p.2 m H'∧Fz H H'∧Q p
noncomputable abbrev PE (e:Mc) (F:Fx) (m:LM) (H:AH) (t:Sem α) (rel:AH→β→α→Prop) (Q:β × Fst→Prop):Prop:=PW e.g F m H t (Pst e F m H rel Q)
theorem Pst.ret {v:α} {x:β} {rel:AH→β→α→Prop} {Q:β × Fst→Prop} (S:SimF e F s m H) (hr:rel H x v) (h:Q (x,s)):Pst e F m H rel Q v H:=⟨(x,s),hr,S,.refl H,h⟩
theorem Pst.fz {H0:AH} {rel:AH→β→α→Prop} {Q:β × Fst→Prop} {v:α} (k:Fz H0 H) (h:Pst e F m H rel Q v H'):Pst e F m H0 rel Q v H':=h.imp fun p h=>⟨h.1,h.2.1,k.trans h.2.2.1,h.2.2.2⟩
theorem Pst.new {v:Value} {x:V} {Q:V × Fst→Prop} {a:Addr} {o:AObj} (E:e.Ok) (ha:H a=none) (S:SimF e F s m H) (hr:Rep e.ad (H.set a o) x v) (h:Q (x,s)):Pst e F m H (Rep e.ad) Q v (H.set a o):=⟨(x,s),hr,S.ext E (.set ha),.ofExt (.set ha),h⟩
theorem PE.fz {t:Sem α} {rel:AH→β→α→Prop} {Q:β × Fst→Prop} {H0:AH} (k:Fz H0 H) (h:PE e F m H t rel Q):PW e.g F m H t (Pst e F m H0 rel Q):=h.mono fun v H'=>Pst.fz k
theorem PE.then {t:Sem α} {rel:AH→β→α→Prop} {Q:β × Fst→Prop} {G:α→AH→Prop} (h:PE e F m H t rel Q)
  (k:∀ v H' x s,rel H' x v→SimF e F s m H'→Fz H H'→Q (x,s)→G v H'):PW e.g F m H t G:=h.mono fun v H' z=>z.elim fun p z=>k v H' p.1 p.2 z.1 z.2.1 z.2.2.1 z.2.2.2
end
section
variable {e:Mc} {tb:Tabs} {R:Addr→List V→List Root→(Out→Prop)→Prop} {F:Fx} {ns:List (Str × NameKind)} {xp:Str→Int→Prop} {m:LM} {H:AH} {s:Fst}
theorem one?_spec {α:Type} {l:List α} {x:α} (h:one? l=some x):l=[x]:=by
 rcases l with _ | ⟨y,_ | ⟨z,l⟩⟩
 ·exact noneE h
 ·exact congrArg (fun z=>[z]) (Option.some.inj h)
 ·exact noneE h
theorem arith_sound {op:Operator} {a b:Int} {t u:Tok} {Q:V × Fst→Prop} (S:SimF e F s m H) (h:W R xp (arith op a b s) Q):PE e F m H (binaryOp op (.int a t) (.int b u)) (Rep e.ad) Q:=by
 induction op using Operator.casesOn
 case Add=>exact (W.askE h).elim fun v h=>p_add fun tk=>Pst.ret S (h.1▸Rep.int) h.2
 case Sub=>exact (W.askE h).elim fun v h=>p_sub fun tk=>Pst.ret S (h.1▸Rep.int) h.2
 case Mult=>exact (W.askE h).elim fun v h=>p_mul (fun tk=>Pst.ret S (h.1.2▸Rep.int) h.2) h.1.1
 case Mod=>exact (W.askE h).elim fun v h=>p_mod h.1.1 fun tk=>Pst.ret S (h.1.2▸Rep.int) h.2
 all_goals exact (show False from h).elim
theorem larith_sound (fr:FrOk e tb R F ns xp) {op:Operator} {l:List V} {y:V} {a:Addr} {ws:List Value} {b:Value} {Q:V × Fst→Prop} (h1:H a=some (.list 0 ws)) (r1:Reps e.ad H l ws) (hb:Rep e.ad H y b) (S:SimF e F s m H) (h:W R xp (larith op l y s) Q):PE e F m H (binaryOp op (.ref a) b) (Rep e.ad) Q:=by
 induction op using Operator.casesOn
 case Add=>
  refine hb.dLst (D:=fun b=>PE e F m H (binaryOp _ _ b) (Rep e.ad) Q) h fun l' a' ws' h2 r2 h=>?_
  exact p_concat fr.ok 0 h1 h2 (fun q hq=>Pst.new fr.E hq S (.lst AH.set_self (.append (r2.fz (.ofExt (.set hq))) (r1.fz (.ofExt (.set hq))))) h.need.2) (by rw [r1.len,r2.len];exact h.need.1)
 case Mult=>
  refine hb.dInt (D:=fun b=>PE e F m H (binaryOp _ _ b) (Rep e.ad) Q) h fun n t h=>?_
  refine h.opt fun x ho h=>(W.askE h).elim fun v h=>?_
  rw [one?_spec ho] at r1
  refine r1.un (C:=fun ws=>H a=some (.list 0 ws)→PE e F m H (binaryOp _ _ _) (Rep e.ad) Q) (fun w ws' p q h1=>?_) h1
  rw [show ws'=[] from q] at h1
  exact p_mulList fr.ok 0 h1 h.1.1.1 h.1.1.2 fun q hq=>Pst.new fr.E hq S (h.1.2▸.lst AH.set_self (.replicate (Rep.fz (.ofExt (.set hq)) _ p) _)) h.2
 all_goals exact (show False from h).elim
theorem binop_sound (fr:FrOk e tb R F ns xp) {op:Operator} {x y:V} {a b:Value} {Q:V × Fst→Prop} (ha:Rep e.ad H x a) (hb:Rep e.ad H y b) (S:SimF e F s m H) (h:W R xp (binop op x y s) Q) :
  PE e F m H (binaryOp op a b) (Rep e.ad) Q:=by
 induction x using V.casesOn
 case int n=>
  refine ha.elim fun t q=>q▸?_
  refine hb.dInt (D:=fun b=>PE e F m H (binaryOp _ _ b) (Rep e.ad) Q) h fun k u h=>?_
  exact arith_sound S h
 case lst l=>exact ha.lstE.elim fun a h'=>h'.elim fun ws h'=>h'.1▸larith_sound fr h'.2.1 h'.2.2 hb S h
 all_goals exact (show False from h).elim
theorem rlst_spec {r:List Root} {i:Nat} {l:List V} (h:rlst r i=some l):r[i]?=some (.lst l):=by
 unfold rlst at h
 generalize r[i]?=x at h ⊢
 rcases x with _ | x
 ·exact noneE h
 induction x using Root.casesOn
 case lst l'=>exact congrArg (some <| Root.lst ·) (Option.some.inj h)
 all_goals exact noneE h
theorem rdic_spec {r:List Root} {i:Nat} {l:List (Str × V)} (h:rdic r i=some l):r[i]?=some (.dict l):=by
 unfold rdic at h
 generalize r[i]?=x at h ⊢
 rcases x with _ | x
 ·exact noneE h
 induction x using Root.casesOn
 case dict l'=>exact congrArg (some <| Root.dict ·) (Option.some.inj h)
 all_goals exact noneE h
theorem lstOf_sound {lv:LV} {v:Value} {l:List V} {D:Value→Prop} (S:SimF e F s m H) (hl:LRep e F H lv v) (h:lstOf s.r lv=some l) (c:∀ a t ws,H a=some (.list t ws)→Reps e.ad H l ws→D (.ref a)):D v:=by
 cases lv with
 | un=>exact hl.elim
 | own l'=>exact hl.elim fun a q=>q.elim fun ws q=>q.1▸c a 5 ws q.2.1 (Option.some.inj h▸q.2.2.1)
 | v x=>
  induction x using V.casesOn
  case cell i=>exact (S.roots i _ (rlst_spec h)).2.elim fun ws q=>(show v=.ref (e.ad i) from hl)▸c _ 4 ws q.1 q.2
  case lst l'=>exact (Rep.lstE hl).elim fun a q=>q.elim fun ws q=>q.1▸c a 0 ws q.2.1 (Option.some.inj h▸q.2.2)
  all_goals exact noneE h
theorem inL_tup {x:Str} {t:Tok} {a:Addr} {l:List V} {ws:List Value} {Q:V × Fst→Prop} (S:SimF e F s m H) (h1:H a=some (.tup ws)) (r:Reps e.ad H l ws) (h:W R xp (inL x l s) Q):PE e F m H (compareOp .In (.str x t) (.ref a)) (Rep e.ad) Q:=
 h.opt fun ys hs h=>p_inTup h1 (r.strs hs) (Pst.ret S .bool h)
theorem inL_lst {x:Str} {t:Tok} {a:Addr} {tg:Nat} {l:List V} {ws:List Value} {Q:V × Fst→Prop} (S:SimF e F s m H) (h1:H a=some (.list tg ws)) (r:Reps e.ad H l ws) (h:W R xp (inL x l s) Q):PE e F m H (compareOp .In (.str x t) (.ref a)) (Rep e.ad) Q:=
 h.opt fun ys hs h=>p_inList h1 (r.strs hs) (Pst.ret S .bool h)
theorem cmpIn_sound {x:Str} {t:Tok} {y:LV} {b:Value} {Q:V × Fst→Prop} (hb:LRep e F H y b) (S:SimF e F s m H) (h:W R xp (cmpIn x y s) Q):PE e F m H (compareOp .In (.str x t) b) (Rep e.ad) Q:=by
 have key:W R xp (opt (lstOf s.r y) fun l=>inL x l s) Q→PE e F m H (compareOp .In (.str x t) b) (Rep e.ad) Q:=fun h=>h.opt fun l hl h=>by
  refine lstOf_sound (D:=fun b=>PE e F m H (compareOp _ _ b) (Rep e.ad) Q) S hb hl fun a tg ws h1 r=>?_
  exact inL_lst S h1 r h
 cases y with
 | un=>exact key h
 | own l=>exact key h
 | v y=>
  induction y using V.casesOn
  case tup l=>exact (Rep.tupE hb).elim fun a q=>q.elim fun ws q=>q.1▸inL_tup S q.2.1 q.2.2 h
  case str z=>exact hb.elim fun t e=>e▸p_inStr (Pst.ret S .bool h)
  all_goals exact key h
theorem cmpI_sound {op:CmpOp} {x y:Int} {t u:Tok} {c:Bool} {Q:Value→AH→Prop} (h:cmpI op x y=some c) (k:Q (.bool c) H):PW e.g F m H (compareOp op (.int x t) (.int y u)) Q:=by
 induction op using CmpOp.casesOn
 case Eq=>exact p_eqi (Option.some.inj h▸k)
 case Lt=>exact p_lti (Option.some.inj h▸k)
 case LtE=>exact p_lei (Option.some.inj h▸k)
 case Gt=>exact p_gti (Option.some.inj h▸k)
 case GtE=>exact p_gei (Option.some.inj h▸k)
 all_goals exact noneE h
theorem cmpS_sound {op:CmpOp} {x y:Str} {t u:Tok} {c:Bool} {Q:Value→AH→Prop} (h:cmpS op x y=some c) (k:Q (.bool c) H):PW e.g F m H (compareOp op (.str x t) (.str y u)) Q:=by
 induction op using CmpOp.casesOn
 case Eq=>exact p_eqs (Option.some.inj h▸k)
 case NotEq=>exact p_nes (Option.some.inj h▸k)
 all_goals exact noneE h
theorem veq_spec {ad:Nat→Addr} {u v:V} {a b:Value} {c:Bool} (hu:Rep ad H u a) (hv:Rep ad H v b) (h:veq u v=some c) (A:Around) (s:Shared):PySem.SeqAt.EqAt A s a b c:=by
 obtain ⟨y,e1,e2⟩:=Option.bind_eq_some_iff.mp h
 rw [str?_spec e1] at hv
 obtain ⟨t,rfl⟩:=hv
 induction u using V.casesOn
 case str x=>exact hu.elim fun t e=>e▸Option.some.inj e2▸PySem.SeqAt.EqAt.str_str _ _ _ _
 case int x=>exact hu.elim fun t e=>e▸Option.some.inj e2▸PySem.SeqAt.EqAt.int_str _ _ _ _
 all_goals exact noneE e2
theorem pair?_spec {l:List V} {p:Str × V} {ws:List Value} {D:List Value→Prop} {ad:Nat→Addr} (r:Reps ad H l ws) (h:pair? l=some p) (c:∀ t v,Rep ad H p.2 v→D [.str p.1 t,v]):D ws:=by
 rcases l with _ | ⟨x,_ | ⟨u,_ | ⟨y,l⟩⟩⟩
 ·exact noneE h
 ·exact noneE h
 ·obtain ⟨s,e1,e2⟩:=Option.map_eq_some_iff.mp h
  subst e2
  rw [str?_spec e1] at r
  refine r.un (C:=D) fun w ws a b=>?_
  refine b.un (C:=fun ws=>D (w::ws)) fun v ws b d=>?_
  rw [show ws=[] from d]
  exact a.elim fun t e=>e▸c t v b
 ·exact noneE h
theorem eqP_sound (fr:FrOk e tb R F ns xp) {l l':List V} {a a':Addr} {ws ws':List Value} {Q:V × Fst→Prop} (h1:H a=some (.tup ws)) (r1:Reps e.ad H l ws) (h2:H a'=some (.tup ws')) (r2:Reps e.ad H l' ws') (S:SimF e F s m H)
  (h:W R xp (opt (pair? l) fun p=>opt (pair? l') fun q=>opt (veq p.2 q.2) fun e=>.ask (fun w=>w=.bool ((p.1==q.1)&&e)) fun w=>.ret (w,s)) Q):PE e F m H (compareOp .Eq (.ref a) (.ref a')) (Rep e.ad) Q:=by
 refine h.opt fun p hp h=>h.opt fun p' hp' h=>h.opt fun c hc h=>(W.askE h).elim fun v h=>?_
 refine pair?_spec (D:=fun ws=>H a=some (.tup ws)→PE e F m H (compareOp _ _ _) (Rep e.ad) Q) r1 hp (fun t u ru h1=>?_) h1
 refine pair?_spec (D:=fun ws=>H a'=some (.tup ws)→PE e F m H (compareOp _ _ _) (Rep e.ad) Q) r2 hp' (fun t' u' ru' h2=>?_) h2
 exact p_eqTup2 fr.ok h1 h2 (veq_spec ru ru' hc) (Pst.ret S (h.1▸.bool) h.2)
theorem cmp3_sound (fr:FrOk e tb R F ns xp) {op:CmpOp} {x y:V} {a b:Value} {Q:V × Fst→Prop} (ha:Rep e.ad H x a) (hb:Rep e.ad H y b) (S:SimF e F s m H) (h:W R xp (cmp3 op x y s) Q):PE e F m H (compareOp op a b) (Rep e.ad) Q:=by
 induction x using V.casesOn
 case int n=>
  refine ha.elim fun t q=>q▸?_
  refine hb.dInt (D:=fun b=>PE e F m H (compareOp _ _ b) (Rep e.ad) Q) h fun k u h=>?_
  exact h.opt fun c hc h=>(W.askE h).elim fun v h=>cmpI_sound hc (Pst.ret S (h.1▸.bool) h.2)
 case str n=>
  refine ha.elim fun t q=>q▸?_
  refine hb.dStr (D:=fun b=>PE e F m H (compareOp _ _ b) (Rep e.ad) Q) h fun k u h=>?_
  exact h.opt fun c hc h=>cmpS_sound hc (Pst.ret S .bool h)
 case tup l=>
  refine ha.tupE.elim fun a q=>q.elim fun ws q=>q.1▸?_
  refine hb.dTup (D:=fun b=>PE e F m H (compareOp _ _ b) (Rep e.ad) Q) h fun l' a' ws' h2 r2 h=>?_
  induction op using CmpOp.casesOn
  case Eq=>exact eqP_sound fr q.2.1 q.2.2 h2 r2 S h
  all_goals exact (show False from h).elim
 all_goals exact (show False from h).elim
theorem cmpop_sound (fr:FrOk e tb R F ns xp) {op:CmpOp} {x:V} {y:LV} {a b:Value} {Q:V × Fst→Prop} (ha:Rep e.ad H x a) (hb:LRep e F H y b) (S:SimF e F s m H) (h:W R xp (cmpop op x y s) Q) :
  PE e F m H (compareOp op a b) (Rep e.ad) Q:=by
 have key:W R xp (dV y fun y=>cmp3 op x y s) Q→PE e F m H (compareOp op a b) (Rep e.ad) Q:=fun h=>h.dV fun z e h=>cmp3_sound fr ha (by rw [e] at hb;exact hb) S h
 have non:∀ {t:Tr (V × Fst)},W R xp (dV y fun y=>chk (isNone y) t) Q→b=.none∧W R xp t Q:=fun h=>h.dV fun z e h=>by
  rw [e] at hb
  exact Rep.isNone hb (fun h1 _ _ _=>by injection (h1.symm.trans h.chk.1)) fun e1 e2=>⟨e2,h.chk.2⟩
 induction op using CmpOp.casesOn
 case Is=>
  obtain ⟨rfl,h⟩:=non h
  exact ha.isNone (fun h1 h2 h3 h4=>p_isNone h3 (Pst.ret (x:=V.bool (isNone x)) S (by rw [h4,h1];exact .bool) h) h2) fun h1 h2=>p_isNone (by rw [h2];exact fun _ _ q=>by injection q) (Pst.ret (x:=V.bool (isNone x)) S (by rw [h2,h1];exact .bool) h) (by rw [h2];rfl)
 case IsNot=>
  obtain ⟨rfl,h⟩:=non h
  exact ha.isNone (fun h1 h2 h3 h4=>p_isNot h2 (Pst.ret (x:=V.bool (!isNone x)) S (by rw [bne,h4,h1];exact .bool) h)) fun h1 h2=>p_isNot (by rw [h2];rfl) (Pst.ret (x:=V.bool (!isNone x)) S (by rw [h2,h1];exact .bool) h)
 case In=>
  refine ha.dStr (D:=fun a=>PE e F m H (compareOp _ a _) (Rep e.ad) Q) h fun k t h=>?_
  exact cmpIn_sound hb S h
 all_goals exact key h
end
end Internal
end
section
namespace Internal
open PySem PySem.W PyProof.Rows
section
variable {c:Cfg} {F:Fx} {m:LM} {H:AH} {Q:Value→AH→Prop}
theorem p_fld (cok:c.Ok) {x C dx:Addr} {t:Nat} {es:List (Str × Value)} {name:Str} {v:Value} {ex:Bool} (hx:H x=some (.inst C dx)) (hd:H dx=some (.dict t es)) (hv:valueAt es name=some v) (hh:handedIn v=true) (h:Q v H) (ok:FldOk c.K C name):PW c F m H (getAttr (.ref x) name ex) Q:=
 p_getField cok hx hd hv hh h ok.1.1 ok.1.2 ok.2 rfl
theorem p_getVd (cok:c.Ok) {x C dx:Addr} {k i a:Value} {name:Str} {v:Value} {ex:Bool} (hx:H x=some (.inst C dx)) (hd:H dx=some (.vd k i a))
  (hv:∀ bb,valueAt ([("kind",k),("items",i),("attrs",a),("shared",.bool bb),("loose",.bool false)]:List (Str × Value)) name=some v) (hh:handedIn v=true) (h:Q v H) (ok:FldOk c.K C name) :
  PW c F m H (getAttr (.ref x) name ex) Q:=fun s st=>by
 obtain ⟨_,co,h2,h3⟩:=st.inv.obj x _ hx
 obtain ⟨_,cd,h4,bb,h5⟩:=st.inv.obj dx _ hd
 subst h3
 exact get_value (st.K cok) (⟨h2,rfl,rfl,h4⟩:InstAt s.heap x { cls:=.ref C,dict:=some dx,data:=.plain } C (some cd)) (plainGet_of ok.1.1).1 (findObj_own ok.1.2 ok.2 rfl (by rw [lookIn_of h5,hv])) hh ⟨H,st.toks _,h⟩
end
theorem dlook_mem {a:Str} {x:V} {fs:List (Str × V)}:dlook a fs=some x→a ∈ fs.map (·.1):=by
 induction fs with
 | nil=>exact fun h=>by injection h
 | cons f fs ih=>exact fun h=>ifs (show (if f.1=a then some f.2 else dlook a fs)=some x from h) (fun q _=>q▸.head _) fun _ h=>.tail _ (ih h)
theorem valueAt_none {a:Str} {es:List (Str × Value)} (h:a ∉ es.map (·.1)):valueAt es a=none:=by
 unfold valueAt
 rw [List.find?_eq_none.mpr fun p hp q=>h (List.mem_map.mpr ⟨p,hp,of_decide_eq_true q⟩)]
 rfl
theorem valueAt_app {a:Str} {v:Value} {es es':List (Str × Value)} (h:valueAt es a=some v):valueAt (es++es') a=some v:=by
 unfold valueAt at h ⊢
 obtain ⟨p,h1,h2⟩:=Option.map_eq_some_iff.mp h
 rw [List.find?_append,h1]
 exact congrArg some h2
theorem subscripted_plain {i:Expr} (h:slc? i=none) (o v:Value):subscripted i false o v=operate [o,v] (getItem o v):=by
 induction i using Expr.casesOn<;>first | rfl | exact noneE (Eq.symm h)
theorem slc?_spec {i:Expr} {x:Option Expr × Option Expr × Option Expr} (h:slc? i=some x):∃ p,i=.Slice x.1 x.2.1 x.2.2 p:=by
 induction i using Expr.casesOn<;>first | exact noneE h | exact (Option.some.inj h)▸⟨_,rfl⟩
section
variable {e:Mc} {tb:Tabs} {R:Addr→List V→List Root→(Out→Prop)→Prop} {F:Fx} {ns:List (Str × NameKind)} {xp:Str→Int→Prop} {m:LM} {H:AH} {s:Fst}
theorem valueAt_ctx {a b c:Value}:valueAt ([("source",a),("ahead",b),("contexts",c)]:List (Str × Value)) "contexts" = some c:=by kernel_rfl
theorem valueAt_names {a:Value}:valueAt ([("names",a)]:List (Str × Value)) "names" = some a:=by kernel_rfl
theorem ctx_mem:(("contexts" : Str)) ∈ fnames 520:=List.contains_iff_mem.mp (show (fnames 520).contains "contexts" = true by kernel_rfl)
theorem attrR_sound (fr:FrOk e tb R F ns xp) {a:Str} {i:Nat} {x:Root} {ex:Bool} {Q:V × Fst→Prop} (hr:RootRep e H i x) (S:SimF e F s m H) (h:W R xp (attrR a i s x) Q):PE e F m H (getAttr (.ref (e.ad i)) a ex) (Rep e.ad) Q:=by
 cases x with
 | stay=>exact (show False from h).elim
 | lst=>exact (show False from h).elim
 | dict=>exact (show False from h).elim
 | hid p=>
  obtain ⟨q,h⟩:=h.chk
  have q1:i=0:=beq_iff_eq.mp (Bool.and_eq_true_iff.mp q).1
  have q2:a = "contexts":=beq_iff_eq.mp (Bool.and_eq_true_iff.mp q).2
  subst q1 q2
  obtain ⟨d,src,al,h1,h2⟩:=fr.E.hidC _ _ hr
  exact p_fld fr.E.cok h1 h2 valueAt_ctx rfl (Pst.ret (x:=V.cell 1) S rfl h) (fr.tk.c _ _ ctx_mem)
 | inst C fs=>
  obtain ⟨q,h⟩:=h.chk
  obtain ⟨h1,es,h2,h3,_,h4⟩:=hr
  refine h.opt fun v hv h=>?_
  obtain ⟨w,e1,e2⟩:=h4.dlook h3 hv
  exact p_fld fr.E.cok h1 h2 e1 (e2.handed v) (Pst.ret S e2 h) (fr.tk.c _ _ (List.contains_iff_mem.mp q))
theorem attrOf_sound (fr:FrOk e tb R F ns xp) {a:Str} {x:V} {v:Value} {ex:Bool} {Q:V × Fst→Prop} (ha:Rep e.ad H x v) (S:SimF e F s m H) (h:W R xp (attrOf a x s) Q):PE e F m H (getAttr v a ex) (Rep e.ad) Q:=by
 induction x using V.casesOn
 case cell i=>exact h.opt fun x hx h=>(show v=.ref (e.ad i) from ha)▸attrR_sound fr (S.roots i x hx).2 S h
 case obj C l=>
  obtain ⟨a',d,es,rfl,h1,h2,h3,h4⟩:=ha.objE
  refine h.opt fun x hx h=>?_
  have hz:=zip_fst (ks:=fnames C) (by rw [← h3,List.length_map,List.length_map]) h4
  obtain ⟨w,e1,e2⟩:=Reps.dlook (fs:=(fnames C).zip l) (by rw [hz.2];exact h4) (by rw [hz.1];exact h3) hx
  exact p_fld fr.E.cok h1 h2 e1 (e2.handed x) (Pst.ret S e2 h) (fr.tk.c C a (hz.1▸dlook_mem hx))
 case vec k i at_=>
  obtain ⟨a',d,t,iv,av,rfl,h1,h2,h3,h4⟩:=ha.vecE
  refine h.opt fun x hx h=>?_
  obtain ⟨w,e1,e2⟩:=Reps.dlook (fs:=[("kind",.str k),("items",i),("attrs",at_)]) (es:=[("kind",.str k t),("items",iv),("attrs",av)]) (.cons (.str (ad:=e.ad) (H:=H)) (.cons h3 (.one h4))) rfl hx
  exact p_getVd fr.E.cok h1 h2 (fun bb=>valueAt_app e1) (e2.handed x) (Pst.ret S e2 h) (fr.tk.v a (dlook_mem hx))
 all_goals exact (show False from h).elim
theorem idxL_sound {l:List V} {a:Addr} {tg:Nat} {ws:List Value} {k:Int} {t:Tok} {Q:V × Fst→Prop} (h1:H a=some (.list tg ws)) (h2:Reps e.ad H l ws) (S:SimF e F s m H) (h:W R xp (idxL l k s) Q):PE e F m H (getItem (.ref a) (.int k t)) (Rep e.ad) Q:=by
 replace h:=W.askE h
 obtain ⟨v,⟨hz,hk⟩,h⟩:=h
 rcases hk with ⟨h0,hk⟩ | ⟨rfl,l',rfl⟩
 ·obtain ⟨w,e1,e2⟩:=h2.get hk
  exact p_getList h1 h0 e1 (Pst.ret S e2 h) (h2.len▸hz)
 ·obtain ⟨w1,w,rfl,_,e2⟩:=h2.last
  exact p_getLast h1 (Pst.ret S e2 h)
noncomputable def Sb (e:Mc) (F:Fx) (m:LM) (H:AH) (o i:Expr) (Q:V × Fst→Prop) (a b:Value):Prop:=PE e F m H (subscriptTail o i a b) (Rep e.ad) Q∧PE e F m H (getItem a b) (Rep e.ad) Q
theorem subI_sound {o i:Expr} {lv:LV} {a:Value} {k:Int} {t:Tok} {Q:V × Fst→Prop} (hs:∀ o v,subscripted i false o v=operate [o,v] (getItem o v)) (ha:LRep e F H lv a) (S:SimF e F s m H) (h:W R xp (subI lv k s) Q):Sb e F m H o i Q a (.int k t):=by
 have key:W R xp (opt (lstOf s.r lv) fun l=>idxL l k s) Q→Sb e F m H o i Q a (.int k t):=fun h=>h.opt fun l hl h=>by
  refine lstOf_sound (D:=fun a=>Sb e F m H o i Q a _) S ha hl fun a tg ws h1 h2=>?_
  exact ⟨p_tailList h1 (idxL_sound h1 h2 S h) (hs _ _),idxL_sound h1 h2 S h⟩
 cases lv with
 | un=>exact key h
 | own l=>exact key h
 | v y=>
  induction y using V.casesOn
  case str z=>
   obtain ⟨u,rfl⟩:=ha
   replace h:=W.askE h
   obtain ⟨v,⟨h0,h1,cp,h2,rfl⟩,h⟩:=h
   have g:PE e F m H (getItem (.str z u) (.int k t)) (Rep e.ad) Q:=p_getStr h0 h1 h2 fun tk=>Pst.ret S .str h
   exact ⟨p_tailStr g (hs _ _),g⟩
  case tup l=>
   obtain ⟨a',ws,rfl,h1,h2⟩:=Rep.tupE ha
   replace h:=W.askE h
   obtain ⟨v,⟨hz,h0,hk⟩,h⟩:=h
   obtain ⟨w,e1,e2⟩:=h2.get hk
   have g:PE e F m H (getItem (.ref a') (.int k t)) (Rep e.ad) Q:=p_getTup h1 h0 e1 (Pst.ret S e2 h) (h2.len▸hz)
   exact ⟨p_tailTup h1 g (hs _ _),g⟩
  all_goals exact key h
theorem subS_sound {o i:Expr} {lv:LV} {a:Value} {k:Str} {t:Tok} {Q:V × Fst→Prop} (hs:∀ o v,subscripted i false o v=operate [o,v] (getItem o v)) (ha:LRep e F H lv a) (S:SimF e F s m H) (h:W R xp (subS lv k s) Q):Sb e F m H o i Q a (.str k t):=by
 have key:∀ {a tg es v w},H a=some (.dict tg es)→valueAt es k=some w→Rep e.ad H v w→Q (v,s)→Sb e F m H o i Q (.ref a) (.str k t):=fun h1 e1 e2 h=>⟨p_tailDict h1 (p_getDict h1 e1 (Pst.ret S e2 h)) (hs _ _),p_getDict h1 e1 (Pst.ret S e2 h)⟩
 refine h.dV fun x hx h'=>?_
 subst hx
 clear h
 induction x using V.casesOn
 case cell j=>
  refine h'.opt fun fs hr h=>h.opt fun v hv h=>?_
  obtain ⟨_,es,h1,h2,_,h3⟩:=S.roots _ _ (rdic_spec hr)
  obtain ⟨w,e1,e2⟩:=h3.dlook h2 hv
  exact (show a=.ref (e.ad j) from ha)▸key h1 e1 e2 h
 case nm y=>
  obtain ⟨a',w,rfl,h1,h2⟩:=Rep.nmE ha
  obtain ⟨q,h⟩:=h'.chk
  exact key h1 (beq_iff_eq.mp q▸valueAt_names) h2 h
 all_goals exact (show False from h').elim
theorem subOf_sound {o i:Expr} {lv:LV} {x:V} {a b:Value} {Q:V × Fst→Prop} (hs:∀ o v,subscripted i false o v=operate [o,v] (getItem o v)) (ha:LRep e F H lv a) (hb:Rep e.ad H x b) (S:SimF e F s m H) (h:W R xp (subOf lv x s) Q):Sb e F m H o i Q a b:=by
 induction x using V.casesOn
 case int k=>exact hb.elim fun t q=>q▸subI_sound hs ha S h
 case str k=>exact hb.elim fun t q=>q▸subS_sound hs ha S h
 all_goals exact (show False from h).elim
theorem lslot {k:Str} (h:lmth k=true):∃ id,((k = "append" ∧ id = "list.append")∨k = "pop" ∧ id = "list.pop")∧Slot "list" k id∧typeOf (.builtin id)=pure (.type "method_descriptor"):=by
 rcases Bool.or_eq_true_iff.mp h with q | q
 ·rw [beq_iff_eq.mp q];exact ⟨"list.append",.inl ⟨rfl,rfl⟩,PySem.F.slot_list_append,rfl⟩
 ·rw [beq_iff_eq.mp q];exact ⟨"list.pop",.inr ⟨rfl,rfl⟩,PySem.F.slot_list_pop,rfl⟩
theorem lstep_sound (fr:FrOk e tb R F ns xp) {l:List V} {put:List V→Fst} {k:Str} {as:List V} {a:Addr} {t:Nat} {us ws:List Value} {Q:V × Fst→Prop} {id:String} (hk:(k = "append" ∧ id = "list.append")∨k = "pop" ∧ id = "list.pop") (h1:H a=some (.list t us)) (h2:Reps e.ad H l us) (hm:t=F.T∨F.H0 a=none) (t0:t≠0)
  (has:Reps e.ad H as ws) (S:∀ l' us',Reps e.ad (H.set a (.list t us')) l' us'→SimF e F (put l') m (H.set a (.list t us'))) (h:W R xp (lstep l put k as) Q):PE e F m H (call (.builtin id) (.ref a::ws)) (Rep e.ad) Q:=by
 have kz:∀ o,Fz H (H.set a o):=fun o=>.set1 h1 t0
 cases as with
 | nil=>
  rw [show ws=[] from has]
  obtain ⟨q,h⟩:=h.chk
  replace h:=W.askE h
  obtain ⟨_,⟨hz,l',v,rfl,rfl⟩,h⟩:=h
  obtain ⟨w1,w,rfl,e2,e3⟩:=h2.last
  rcases hk with ⟨rfl,_⟩ | ⟨_,rfl⟩
  ·exact absurd q (by decide +kernel)
  ·exact p_pop fr.ok h1 hm ⟨(v,put l'),Rep.fz (kz _) v e3,S l' w1 (e2.fz (kz _)),kz _,h⟩ (by rw [e2.len];rw [List.length_append] at hz;exact hz)
 | cons y r=>
  obtain ⟨q,h⟩:=h.chk
  have bq:=Bool.and_eq_true_iff.mp q
  have q1:=bq.1
  have q2:=bq.2
  rw [List.isEmpty_iff.mp q2] at has
  obtain ⟨w,ws',rfl,e1,e2⟩:=has
  rw [show ws'=[] from e2]
  obtain ⟨hz,h⟩:=h.need
  rcases hk with ⟨_,rfl⟩ | ⟨rfl,_⟩
  ·exact p_append fr.ok h1 hm ⟨(.none,put (l++[y])),rfl,S _ _ ((h2.snoc e1).fz (kz _)),kz _,h⟩ (h2.len▸hz)
  ·exact absurd q1 (by decide +kernel)
theorem evN_sound (fr:FrOk e tb R F ns xp) {x:Str} {pos:Pos} {Q:LV × Fst→Prop} (S:SimF e F s m H) (h:W R xp (evN tb ns x s) Q) :
  PW e.g F m H (eval (.Name x pos) F.env) fun v H'=>H'=H∧∃ lv,LRep e F H lv v∧Q (lv,s)∧(∀ l,lv=.own l→glook x s.G=some (.own l)∧look m x=some v):=by
 refine h.opt fun k hl h=>?_
 have cel:(k=.cell∨k=.free)→W R xp (opt (tb.c.lookup x) fun v=>.ret (LV.v v,s)) Q→PW e.g F m H (eval (.Name x pos) F.env) fun v H'=>H'=H∧∃ lv,LRep e F H lv v∧Q (lv,s)∧(∀ l,lv=.own l→glook x s.G=some (.own l)∧look m x=some v):=fun hk h=>h.opt fun v hv h=>by
  obtain ⟨w,⟨a,g1,g2,g3⟩,g4⟩:=fr.cel x v k hv hl hk
  intro sh st
  have cl:=g1.keeps st.inv.stays
  have fin:∃ H',St e.g F m H' sh∧H'=H∧∃ lv,LRep e F H lv w∧Q (lv,s)∧(∀ l,lv=.own l→glook x s.G=some (.own l)∧look m x=some w):=⟨H,st,rfl,.v v,g4 H,h,fun l q=>by injection q⟩
  exact wpAny_Name (wpAny_loadName_cell fr.ok.kind g3 g2 cl fin) (fr.sc.notDbg hl)
 induction k using NameKind.casesOn
 case «local»=>
  refine h.opt fun lv hg h=>?_
  obtain ⟨v,h1,h2⟩:=S.loc x _ hg
  exact p_nl fr.ok fr.sc h1 hl ⟨rfl,lv,h2,h,fun l q=>⟨by rw [← q];exact hg,h1⟩⟩
 case globalImplicit=>
  refine h.opt fun v hg h=>?_
  obtain ⟨w,h1,h2⟩:=fr.tk.g x v hg
  exact p_ng fr.E.cok fr.ok fr.sc h1 hl ⟨rfl,.v v,h2 H,h,fun l q=>by injection q⟩
 case globalExplicit=>exact h.elim
 case cell=>exact cel (.inl rfl) h
 case free=>exact cel (.inr rfl) h
theorem evNE_sound (fr:FrOk e tb R F ns xp) {x:Str} {pos:Pos} {Q:V × Fst→Prop} (S:SimF e F s m H) (h:W R xp ((evN tb ns x s).bind fun p=>.ret (frz x p.1 p.2)) Q):PE e F m H (eval (.Name x pos) F.env) (Rep e.ad) Q:=by
 refine (evN_sound fr S (W.bind _ h)).conv fun v H' t st h=>?_
 obtain ⟨rfl,lv,h1,h2,h3⟩:=h
 cases lv with
 | un=>exact h1.elim
 | v y=>exact ⟨_,st,Pst.ret S h1 h2⟩
 | own l=>
  obtain ⟨g1,g2⟩:=h3 l rfl
  obtain ⟨a,ws,rfl,q1,q2,q3⟩:=h1
  have kz:∀ o,Fz H' (H'.set a o):=fun o=>.set1 q1 (by exact (by decide:(5:Nat)≠0))
  have hr:Rep e.ad (H'.set a (.list 0 ws)) (.lst l) (.ref a):=.lst AH.set_self (q2.fz (kz _))
  exact ⟨_,st.retag fr.ok q1 (.inr q3) (fun q=>q) (ao':=.list 0 ws) fun _ o=>o,_,hr,S.upd fr.E g1 g2 q1 (lv:=.v (.lst l)) hr,kz _,h2⟩
end
end Internal
end
section
namespace Internal
open PySem PySem.W PyProof.Rows
theorem nameOf_spec {x:Expr} {n:Str} (h:nameOf x=some n):∃ p,x=.Name n p:=by
 induction x using Expr.casesOn<;>first | exact noneE h | exact (Option.some.inj h)▸⟨_,rfl⟩
theorem attributeBase_plain {o:Expr} (h:plainBase o=true) (a:Str) (env:Env) (w:Sem Value):attributeBase o a env w=w:=by
 induction o using Expr.casesOn<;>try rfl
 rename_i f args kws pos
 cases f<;>first | rfl | (cases args<;>first | rfl | exact ftE h)
theorem starEach_cons {e:Expr} (h:isStarred e=false) (es:List Expr) (env:Env):starEach (e::es) env=(false,eval e env)::starEach es env:=by
 induction e using Expr.casesOn<;>first | rfl | exact ftE (Eq.symm h)
theorem noStar_cons {e:Expr} {es:List Expr} (h:noStar (e::es)=true):isStarred e=false∧noStar es=true:=⟨(Bool.not_eq_true' _).mp (Bool.and_eq_true_iff.mp h).1,(Bool.and_eq_true_iff.mp h).2⟩
theorem back_plain {pos:Pos} {env:Env} {es:List Expr}:noStar es=true→(backTo pos (starEach es env)).any (·.1)=false∧(backTo pos (starEach es env)).all (!·.1)=true:=by
 induction es with
 | nil=>exact fun _=>⟨rfl,rfl⟩
 | cons e es ih=>exact fun h=>by rw [starEach_cons (noStar_cons h).1];exact ih (noStar_cons h).2
theorem eval_Attr {o:Expr} {a:Str} {pos:Pos} {env:Env} (h:plainBase o=true):eval (.Attribute o a pos) env=(do
   let ov ← eval o env
   standAt pos.atName
   let r ← holding [ov] (getAttr ov a true)
   letTemporaryGo o ov r
   pure r):=by
 show (attributeBase o a env (eval o env) >>= _)=_
 rw [attributeBase_plain h]
theorem eval_MCall {o:Expr} {m:Str} {args:List Expr} {apos pos:Pos} {env:Env} (h1:plainBase o=true) (h2:noStar args=true) (h3:args.length<30) (h4:(apos.endLine==pos.line)=true) :
  eval (.Call (.Attribute o m apos) args [] pos) env=(do
   let ov ← eval o env
   standAt apos.atName
   let (f,first) ← holding [ov] (getMethod ov m (do return (← importBound o env).getD true))
   callWith pos f first (backTo pos (starEach args env)) []):=by
 show (attributeBase o m env (eval o env) >>= fun ov=>standAt apos.atName >>= fun _=>methodCall o m apos pos env ov (args.length+0) (backTo pos (starEach args env)) [])=_
 rw [attributeBase_plain h1]
 have e:methodCallForm (args.length+0) (backTo pos (starEach args env)) []=true:=by
  simp only [methodCallForm,(back_plain h2).2,List.all_nil,List.isEmpty_nil,if_true,Bool.true_and,decide_eq_true_eq]
  exact Nat.lt_of_lt_of_le h3 (by decide)
 unfold methodCall
 rw [e]
 have q:methodCallPos true o env apos pos=pure pos:=by unfold methodCallPos;rw [h4];rfl
 rw [q]
 rfl
theorem few_line {n:Nat} (h:few n=true):n≤sizeLine:=Nat.le_trans (Nat.le_of_ble_eq_true h) (by exact Nat.le_of_ble_eq_true rfl)
section
variable {e:Mc} {tb:Tabs} {R:Addr→List V→List Root→(Out→Prop)→Prop} {F:Fx} {ns:List (Str × NameKind)} {xp:Str→Int→Prop} {m:LM} {H:AH} {s:Fst} {r:Ev}
structure Ev.Sound (e:Mc) (tb:Tabs) (R:Addr→List V→List Root→(Out→Prop)→Prop) (r:Ev):Prop where
 E:∀ {F ns xp},FrOk e tb R F ns xp→∀ {x s m H Q},SimF e F s m H→W R xp (r.E ns x s) Q→PE e F m H (eval x F.env) (Rep e.ad) Q
 T:∀ {F ns xp},FrOk e tb R F ns xp→∀ {x s m H Q},SimF e F s m H→W R xp (r.T ns x s) Q→PE e F m H (isTrue x F.env (eval x F.env)) (fun _ b b'=>b'=b) Q
noncomputable def PsR (e:Mc) (F:Fx) (m:LM) (H:AH) (x:Expr) (Q:LV × Fst→Prop) (v:Value) (H':AH):Prop:=∃ p:LV × Fst,LRep e F H' p.1 v∧SimF e F p.2 m H'∧Fz H H'∧Q p∧∀ l,p.1=.own l→∃ n,nameOf x=some n∧look m n=some v
theorem evR_sound (hr:r.Sound e tb R) (fr:FrOk e tb R F ns xp) {x:Expr} {Q:LV × Fst→Prop} (S:SimF e F s m H) (h:W R xp (evR tb r ns x s) Q):PW e.g F m H (eval x F.env) (PsR e F m H x Q):=by
 unfold evR at h
 cases hn:nameOf x with
 | some n=>
  rw [hn] at h
  obtain ⟨p,rfl⟩:=nameOf_spec hn
  refine (evN_sound fr S h).mono fun v H' h=>?_
  obtain ⟨rfl,lv,h1,h2,h3⟩:=h
  exact ⟨(lv,s),h1,S,.refl _,h2,fun l q=>⟨n,hn,(h3 l q).2⟩⟩
 | none=>
  rw [hn] at h
  exact (hr.E fr S (W.bind _ h)).mono fun v H' h=>h.elim fun p h=>⟨(.v p.1,p.2),h.1,h.2.1,h.2.2.1,h.2.2.2,fun l q=>by injection q⟩
theorem evL_sound (hr:r.Sound e tb R) (fr:FrOk e tb R F ns xp) {pos:Pos} {es:List Expr}:∀ {s:Fst} {m:LM} {H:AH} {Q:List V × Fst→Prop},SimF e F s m H→W R xp (evL r ns es s) Q →
  PE e F m H (spliced (backTo pos (starEach es F.env))) (Reps e.ad) Q:=by
 induction es with
 | nil=>exact fun S h=>p_args_nil (Pst.ret S .nil h)
 | cons x es ih=>
  intro s m H Q S h
  obtain ⟨q,h⟩:=h.chk
  refine p_args_cons ((hr.E fr S (W.bind _ h)).then fun v H1 x s a1 S1 k1 h1=>?_) (starEach_cons ((Bool.not_eq_true' _).mp q) _ _)
  exact (ih S1 (W.bind _ h1)).mono fun vs H2 h=>h.elim fun t h=>⟨(x::t.1,t.2),.cons (Rep.fz h.2.2.1 _ a1) h.1,h.2.1,k1.trans h.2.2.1,h.2.2.2⟩
theorem evO_sound (hr:r.Sound e tb R) (fr:FrOk e tb R F ns xp) {o:Option Expr} {Q:V × Fst→Prop} (S:SimF e F s m H) (h:W R xp (evO r ns o s) Q):PE e F m H (valueOrNone (evalOpt o F.env)) (Rep e.ad) Q:=by
 cases o with
 | none=>exact p_opt_none (Pst.ret (x:=V.none) S rfl h)
 | some x=>exact p_opt_some (hr.E fr S h)
theorem evCmp_sound (hr:r.Sound e tb R) (fr:FrOk e tb R F ns xp) {a b:Expr} {op:CmpOp} {Q:V × Fst→Prop} (S:SimF e F s m H) (h:W R xp (evCmp tb r ns a op b s) Q) :
  behindInMarks op b=false∧PW e.g F m H (eval a F.env) fun v H1=>PW e.g F m H1 (eval b F.env) fun w H2=>PW e.g F m H2 (compareOp op v w) (Pst e F m H (Rep e.ad) Q):=by
 obtain ⟨q,h⟩:=h.chk
 refine ⟨?_,(hr.E fr S (W.bind _ h)).then fun v H1 x s a1 S1 k1 h1=>?_⟩
 ·induction b using Expr.casesOn<;>first | rfl | exact ftE q
 ·refine (evR_sound hr fr S1 (W.bind _ h1)).mono fun w H2 h=>?_
  obtain ⟨t,a2,S2,k2,h2,_⟩:=h
  exact (cmpop_sound fr (Rep.fz k2 _ a1) a2 S2 h2).fz (k1.trans k2)
theorem evB_sound (hr:r.Sound e tb R) (fr:FrOk e tb R F ns xp) {pos:Pos} {op:PySem.BoolOp} {es:List Expr}:∀ {s:Fst} {m:LM} {H:AH} {Q:V × Fst→Prop},SimF e F s m H→W R xp (evB r ns op es s) Q →
  PE e F m H (boolOp pos op (evalEach es F.env)) (Rep e.ad) Q:=by
 induction es with
 | nil=>exact fun _ h=>h.elim
 | cons x es ih=>
  intro s m H Q S h
  cases es with
  | nil=>exact p_bool_one (hr.E fr S h)
  | cons y es=>
   have h0:=W.bind _ (show W R xp ((r.E ns x s).bind fun p=>dBool p.1 fun b=>match onB op b with | true=>evB r ns op (y::es) p.2 | false=>.ret (.bool b,p.2)) Q from h)
   cases op
   ·refine p_bool_and ((hr.E fr S h0).then fun v H1 x s1 a1 S1 k1 h1=>?_)
    refine a1.dBool (D:=fun v=>PW e.g F m H1 (truthy v) fun b H2=>if b then PW e.g F m H2 (boolOp pos .And (evalEach (y::es) F.env)) (Pst e F m H (Rep e.ad) Q) else Pst e F m H (Rep e.ad) Q v H2) h1 fun b h1=>p_truthy_bool ?_
    cases b
    ·exact ⟨(.bool false,s1),rfl,S1,k1,h1⟩
    ·exact (ih S1 h1).fz k1
   ·refine p_bool_or ((hr.E fr S h0).then fun v H1 x s1 a1 S1 k1 h1=>?_)
    refine a1.dBool (D:=fun v=>PW e.g F m H1 (truthy v) fun b H2=>if b then Pst e F m H (Rep e.ad) Q v H2 else PW e.g F m H2 (boolOp pos .Or (evalEach (y::es) F.env)) (Pst e F m H (Rep e.ad) Q)) h1 fun b h1=>p_truthy_bool ?_
    cases b
    ·exact (ih S1 h1).fz k1
    ·exact ⟨(.bool true,s1),rfl,S1,k1,h1⟩
theorem evA_sound (hr:r.Sound e tb R) (fr:FrOk e tb R F ns xp) {op:PySem.BoolOp} {es:List Expr}:∀ {s:Fst} {m:LM} {H:AH} {Q:Bool × Fst→Prop},SimF e F s m H→W R xp (evA r ns op es s) Q →
  PE e F m H (allTrue op es F.env) (fun _ b b'=>b'=b) Q:=by
 induction es with
 | nil=>exact fun S h=>p_all_nil (Pst.ret S rfl h)
 | cons x es ih=>
  intro s m H Q S h
  have h0:=W.bind _ (show W R xp ((r.T ns x s).bind fun p=>match onB op p.1 with | true=>evA r ns op es p.2 | false=>.ret (p.1,p.2)) Q from h)
  cases op
  ·refine p_all_and ((hr.T fr S h0).then fun v H1 b s1 a1 S1 k1 h1=>?_)
   subst a1
   cases v
   ·exact ⟨(false,s1),rfl,S1,k1,h1⟩
   ·exact (ih S1 h1).fz k1
  ·refine p_all_or ((hr.T fr S h0).then fun v H1 b s1 a1 S1 k1 h1=>?_)
   subst a1
   cases v
   ·exact (ih S1 h1).fz k1
   ·exact ⟨(true,s1),rfl,S1,k1,h1⟩
theorem nowOf_sound {H0:AH} {x:Option Str} {lv lv':LV} {v:Value} (S:SimF e F s m H) (k:Fz H0 H) (h:LRep e F H0 lv v) (hx:∀ l,lv=.own l→∃ n,x=some n∧look m n=some v) (hn:nowOf x lv s=some lv'):LRep e F H lv' v:=by
 cases lv with
 | un=>exact h.elim
 | v y=>rw [← Option.some.inj hn];exact Rep.fz k y h
 | own l=>
  obtain ⟨n,rfl,hm⟩:=hx l rfl
  obtain ⟨v',e1,e2⟩:=S.loc n lv' hn
  (injection (hm.symm.trans e1) with e1;subst e1)
  exact e2
theorem p_sliceB (ok:F.Ok) {c:Cfg} {Q:Value→AH→Prop} {value slice:Expr} {a:Addr} {vs:List Value} {x:Int} {tk:Tok} (hl:c.b.IsList a vs.toArray) (h0:0≤x) (h:∀ y,H y=none→Q (.ref y) (H.set y (.list 0 (vs.take x.toNat)))) (hsz:vs.length≤sizeLine)
  (hs:∀ o i,subscripted slice false o i=operate [i,o] (getItem o i)):SliceP c F m H value slice (.ref a) .none (.int x tk) Q:=fun s st=>by
 have hl:s.heap.IsList a vs.toArray:=hl.imp fun o q=>⟨st.inv.stays _ _ q.1,q.2⟩
 refine tail_any (Heap.IsList.typeIs (s:={ s with heap:=s.heap.push { cls:=.type "slice",data:=.fields #[.none,.int x tk,.none] } }) (hl.push _)) slot_list_getitem.lookup ?_ (hs _ _)
 refine wpAny_getItem_list_slice (hl.push _) (Heap.IsSliceOf.new ..) .none (.int x tk) .none (by simp) ?_ (by simpa using hsz)
 have hw:slicePick vs.toArray none (some x) none=(vs.take x.toNat).toArray:=by
  obtain ⟨n,rfl⟩:=Int.eq_ofNat_of_zero_le h0
  rw [slicePick_upto' vs.toArray n];simp
 rw [hw]
 obtain ⟨x,rfl,hx0,st'⟩:=st.push2 ok (o1:={ cls:=.type "slice",data:=.fields #[.none,.int x tk,.none] }) (o2:={ cls:=.type "list",data:=.seq (vs.take x.toNat).toArray }) (ao:=.list 0 (vs.take x.toNat)) ⟨_,rfl⟩ rfl s.toks
 exact ⟨_,st',by
  show Q (.ref (s.heap.push _).objs.size) _
  rw [Heap.size_push];exact h _ hx0⟩
theorem Reps.three {x y z:V} {ws:List Value} {C:List Value→Prop} {ad:Nat→Addr} (h:Reps ad H [x,y,z] ws) (k:∀ a b c,Rep ad H x a→Rep ad H y b→Rep ad H z c→C [a,b,c]):C ws:=
 h.un (C:=C) fun a ws ha h=>h.un (C:=fun ws=>C (a::ws)) fun b ws hb h=>h.un (C:=fun ws=>C (a::b::ws)) fun c ws hc h=>(show ws=[] from h)▸k a b c ha hb hc
theorem slcT (fr:FrOk e tb R F ns xp) {o:Expr} {pos:Pos} {lo hi:Option Expr} {l:List V} {a:Addr} {ws:List Value} {n:Int} {t:Tok} {Q:V × Fst→Prop} (h1:H a=some (.tup ws)) (h2:Reps e.ad H l ws) (S:SimF e F s m H)
  (h:W R xp (.ask (fun v=>n=2∧∃ x y z,l=[x,y,z]∧v=.tup [x,y]) fun v=>.ret (v,s)) Q):SliceP e.g F m H o (.Slice lo hi none pos) (.ref a) .none (.int n t) (Pst e F m H (Rep e.ad) Q):=by
 replace h:=W.askE h
 obtain ⟨v,⟨rfl,x1,x2,x3,rfl,rfl⟩,h⟩:=h
 refine h2.three (C:=fun ws=>H a=some (.tup ws)→SliceP e.g F m H o (.Slice lo hi none pos) (.ref a) .none (.int 2 t) (Pst e F m H (Rep e.ad) Q)) (fun w1 w2 w3 b1 b2 b3 h1=>?_) h1
 exact p_sliceTup2 fr.ok h1 (fun q hq=>Pst.new fr.E hq S (.tup AH.set_self (.cons (Rep.fz (.ofExt (.set hq)) _ b1) (.one (Rep.fz (.ofExt (.set hq)) _ b2)))) h) (fun _ _=>rfl)
theorem slcB (fr:FrOk e tb R F ns xp) {o:Expr} {pos:Pos} {lo hi:Option Expr} {a:Addr} {n:Int} {t:Tok} {Q:V × Fst→Prop} (S:SimF e F s m H)
  (h:W R xp (opt tb.s.head? fun p=>need ((p.1=a∧0≤n)∧p.2.length≤sizeLine) (.ret (V.lst ((p.2.take n.toNat).map .int),s))) Q):SliceP e.g F m H o (.Slice lo hi none pos) (.ref a) .none (.int n t) (Pst e F m H (Rep e.ad) Q):=by
 refine h.opt fun p hl h=>?_
 obtain ⟨vs,g1,g2⟩:=fr.tk.s _ hl
 obtain ⟨⟨⟨ha,h0⟩,hz⟩,h2⟩:=h.need
 subst ha
 have r0:∀ H,Reps e.ad H (p.2.map .int) vs:=fun H=>.ints g2
 have r1:∀ H,Reps e.ad H ((p.2.take n.toNat).map .int) (vs.take n.toNat):=fun H=>by rw [List.map_take];exact (r0 H).take
 exact p_sliceB fr.ok g1 h0 (fun q hq=>Pst.new fr.E hq S (.lst AH.set_self (r1 _)) h2) (by rw [(r0 H).len,List.length_map];exact hz) (fun _ _=>rfl)
theorem Rep.non {u:V} {v:Value} {ad:Nat→Addr} (h:Rep ad H u v) (q:Internal.isNone u=true):v=.none:=h.isNone (fun h1 _ _ _=>by injection (h1.symm.trans q)) fun _ e=>e
theorem slcL (fr:FrOk e tb R F ns xp) {o:Expr} {pos:Pos} {lo hi:Option Expr} {l:List V} {a:Addr} {ws:List Value} {y z:V} {b c:Value} {Q:V × Fst→Prop} (h1:H a=some (.list 0 ws)) (h2:Reps e.ad H l ws) (hb:Rep e.ad H y b) (hc:Rep e.ad H z c) (S:SimF e F s m H)
  (h:W R xp (match isNone y with
   | true=>dInt z fun n=>.ask (fun v=>(l.length≤sizeLine∧0≤n)∧v=V.lst (l.take n.toNat)) fun v=>.ret (v,s)
   | false=>dInt y fun n=>chk (isNone z) (.ask (fun v=>(l.length≤sizeLine∧0≤n)∧v=V.lst (l.drop n.toNat)) fun v=>.ret (v,s))) Q):SliceP e.g F m H o (.Slice lo hi none pos) (.ref a) b c (Pst e F m H (Rep e.ad) Q):=by
 cases q:isNone y with
 | true=>
  rw [q] at h
  rw [hb.non q]
  refine hc.dInt (D:=fun c=>SliceP e.g F m H o (.Slice lo hi none pos) _ _ c _) h fun n t h=>?_
  replace h:=W.askE h
  obtain ⟨v,hv,h⟩:=h
  rw [hv.2] at h
  exact p_sliceUpto fr.ok 0 h1 hv.1.2 (fun q hq=>Pst.new fr.E hq S (.lst AH.set_self (h2.fz (.ofExt (.set hq))).take) h) (h2.len▸hv.1.1) (fun _ _=>rfl)
 | false=>
  rw [q] at h
  refine hb.dInt (D:=fun b=>SliceP e.g F m H o (.Slice lo hi none pos) _ b _ _) h fun n t h=>?_
  obtain ⟨q,h⟩:=h.chk
  rw [hc.non q]
  replace h:=W.askE h
  obtain ⟨v,hv,h⟩:=h
  rw [hv.2] at h
  exact p_sliceFrom fr.ok 0 h1 hv.1.2 (fun q hq=>Pst.new fr.E hq S (.lst AH.set_self (h2.fz (.ofExt (.set hq))).drop) h) (h2.len▸hv.1.1) (fun _ _=>rfl)
theorem slc_sound (fr:FrOk e tb R F ns xp) {o:Expr} {lo hi:Option Expr} {pos:Pos} {x y z:V} {a b c:Value} {Q:V × Fst→Prop} (ha:Rep e.ad H x a) (hb:Rep e.ad H y b) (hc:Rep e.ad H z c) (S:SimF e F s m H) (h:W R xp (slc tb x y z s) Q) :
  SliceP e.g F m H o (.Slice lo hi none pos) a b c (Pst e F m H (Rep e.ad) Q):=by
 induction x using V.casesOn
 case tup l=>
  obtain ⟨q,h⟩:=h.chk
  rw [hb.non q]
  refine hc.dInt (D:=fun c=>SliceP e.g F m H o (.Slice lo hi none pos) _ _ c _) h fun n t h=>?_
  exact ha.tupE.elim fun a' q=>q.elim fun ws q=>q.1▸slcT fr q.2.1 q.2.2 S h
 case lst l=>exact ha.lstE.elim fun a' q=>q.elim fun ws q=>q.1▸slcL fr q.2.1 q.2.2 hb hc S h
 case fn a'=>
  obtain ⟨q,h⟩:=h.chk
  rw [hb.non q,show a=.ref a' from ha]
  refine hc.dInt (D:=fun c=>SliceP e.g F m H o (.Slice lo hi none pos) _ _ c _) h fun n t h=>?_
  exact slcB fr S h
 all_goals exact (show False from h).elim
theorem evSub_sound (hr:r.Sound e tb R) (fr:FrOk e tb R F ns xp) {o i:Expr} {pos:Pos} {Q:V × Fst→Prop} (S:SimF e F s m H) (h:W R xp (evSub tb r ns o i s) Q):PE e F m H (eval (.Subscript o i pos) F.env) (Rep e.ad) Q:=by
 unfold evSub at h
 cases hn:slc? i with
 | none=>
  rw [hn] at h
  refine p_Sub ((evR_sound hr fr S (W.bind _ h)).mono fun v H1 h1=>?_)
  obtain ⟨p,a1,S1,k1,h1,z⟩:=h1
  refine (hr.E fr S1 (W.bind _ h1)).then fun w H2 x s2 a2 S2 k2 h2=>h2.opt fun lv hn' h2=>?_
  exact (subOf_sound (subscripted_plain hn) (nowOf_sound S2 k2 a1 z hn') a2 S2 h2).1.fz (k1.trans k2)
 | some x=>
  rw [hn] at h
  obtain ⟨p,rfl⟩:=slc?_spec hn
  obtain ⟨q,h⟩:=h.chk
  rw [Option.isNone_iff_eq_none.mp q]
  refine p_SubS ((hr.E fr S (W.bind _ h)).then fun v H1 x s1 a1 S1 k1 h1=>(evO_sound hr fr S1 (W.bind _ h1)).then fun w H2 y s2 a2 S2 k2 h2=>(evO_sound hr fr S2 (W.bind _ h2)).then fun u H3 z s3 a3 S3 k3 h3=>?_)
  intro sh st
  exact wpAny_mono (slc_sound fr (Rep.fz (k2.trans k3) _ a1) (Rep.fz k3 _ a2) a3 S3 h3 sh st) (fun v s' q=>q.imp fun H' q=>⟨q.1,q.2.fz ((k1.trans k2).trans k3)⟩) fun _ _ e=>e
end
end Internal
end
section
namespace Internal
open PySem PySem.W PyProof.Rows
theorem bb_len:bootBuiltins "len" = some (.builtin "len"):=by kernel_rfl
theorem bb_range:bootBuiltins "range" = some (.type "range"):=by kernel_rfl
theorem bb_list:bootBuiltins "list" = some (.type "list"):=by kernel_rfl
theorem bb_int:bootBuiltins "int" = some (.type "int"):=by kernel_rfl
theorem bb_abs:bootBuiltins "abs" = some (.builtin "abs"):=by kernel_rfl
theorem bb_isi:bootBuiltins "isinstance" = some (.builtin "isinstance"):=by kernel_rfl
theorem bb_max:bootBuiltins "max" = some (.builtin "max"):=by kernel_rfl
theorem bn:∀ x ∈ (["len","list","max","range","isinstance","int","abs"]:List Str),x ≠ "__name__":=by decide +kernel
section
variable {e:Mc} {tb:Tabs} {R:Addr→List V→List Root→(Out→Prop)→Prop} {F:Fx} {ns:List (Str × NameKind)} {xp:Str→Int→Prop} {m:LM} {H:AH} {s:Fst} {r:Ev}
theorem p_lenStr {x:Str} {t:Tok} {Q:Value→AH→Prop} {c:Cfg} (hx:x.length≤1000) (h:∀ tk,Q (.int x.length tk) H):PW c F m H (call (.builtin "len") [.str x t]) Q:=fun s st=>
 PyProof.Rows.len_str (by lia) ⟨H,st.toks _,h _⟩
theorem p_neg {c:Cfg} {Q:Value→AH→Prop} {a:Int} {t:Tok} (h:∀ tk,Q (.int (-a) tk) H):PW c F m H (unaryOp .USub (.int a t)) Q:=fun s st=>PyProof.Rows.neg_int ⟨H,st.toks _,h _⟩
theorem p_notV {c:Cfg} {Q:Value→AH→Prop} {v:Value} (h:PW c F m H (truthy v) fun b H1=>Q (.bool (!b)) H1):PW c F m H (unaryOp .Not v) Q:=fun s st=>
 PyProof.Rows.not_of (wpAny_mono (h s st) (fun b s' z=>z.imp fun H' z=>z) fun _ _ e=>e)
theorem lenOf_sound {lv:LV} {v:Value} {Q:V × Fst→Prop} (ha:LRep e F H lv v) (S:SimF e F s m H) (h:W R xp (lenOf lv s) Q):PE e F m H (call (.builtin "len") [v]) (Rep e.ad) Q:=by
 have key:W R xp (opt (lstOf s.r lv) fun l=>.ask (fun v=>l.length≤sizeLine∧v=.int l.length) fun v=>.ret (v,s)) Q→PE e F m H (call (.builtin "len") [v]) (Rep e.ad) Q:=fun h=>h.opt fun l hl h=>by
  refine lstOf_sound (D:=fun v=>PE e F m H (call (.builtin "len") [v]) (Rep e.ad) Q) S ha hl fun a t ws g1 g2=>?_
  replace h:=W.askE h
  obtain ⟨u,hz,h⟩:=h
  rw [hz.2] at h
  exact p_lenList g1 (fun tk=>Pst.ret S (by rw [g2.len];exact .int) h) (g2.len▸hz.1)
 cases lv with
 | un=>exact key h
 | own l=>exact key h
 | v y=>
  induction y using V.casesOn
  case str x=>
   obtain ⟨t,rfl⟩:=ha
   replace h:=W.askE h
   obtain ⟨u,hz,h⟩:=h
   rw [hz.2] at h
   exact p_lenStr hz.1 fun tk=>Pst.ret S .int h
  all_goals exact key h
theorem p_isi (cok:c.Ok) {x D dx:Addr} {b:Bool} {Q:Value→AH→Prop} (hx:H x=some (.inst D dx)) (hd:H dx≠none) (h:Q (.bool b) H) (I:IsiOk c.K D b)
  (hn:specialIn c.K (.builtin "object.__class__") "__get__" = some (some (.builtin "getset_descriptor.__get__"))) (htk:takesIn c.K (.builtin "object.__class__")=some true) :
  PW c F m H (call (.builtin "isinstance") [.ref x,.ref 120]) Q:=fun s st=>by
 obtain ⟨_,co,h2,h3⟩:=st.inv.obj x _ hx
 have hod:∃ od,s.heap.get? dx=some od:=(Option.ne_none_iff_exists'.mp hd).elim fun o ho=>(st.inv.obj dx _ ho).2.imp fun co h=>h.1
 obtain ⟨od,h4⟩:=hod
 subst h3
 exact kia_one (kitx_own (ox:={ cls:=.ref D,dict:=some dx,data:=.plain }) (od:=od) I.get I.dict I.cls hn htk I.mro) (st.K cok) (⟨h2,rfl,rfl,h4⟩:InstAt s.heap x { cls:=.ref D,dict:=some dx,data:=.plain } D (some od)) I.one (fun q=>by injection q) fun tk=>⟨H,st.toks _,h⟩
theorem isV_ok (fr:FrOk e tb R F ns xp) {x:V} {v:Value} {b:Bool} {Q:Value→AH→Prop} (ha:Rep e.ad H x v) (h:isV x=some b) (k:Q (.bool b) H):PW e.g F m H (call (.builtin "isinstance") [v,.ref 120]) Q:=by
 induction x using V.casesOn
 case vec=>
  rw [← Option.some.inj h] at k
  exact ha.vecE.elim fun a h=>h.elim fun d h=>h.elim fun t h=>h.elim fun iv h=>h.elim fun av h=>h.1▸p_isi fr.E.cok h.2.1 (by rw [h.2.2.1];exact fun q=>by injection q) k fr.tk.i.1 fr.tk.i.2.2.1 fr.tk.i.2.2.2
 case obj C l=>
  refine ifs (show (if C=91 then some false else none)=some b from h) (fun q h'=>?_) fun _ h'=>noneE h'
  subst q
  rw [← Option.some.inj h'] at k
  exact ha.objE.elim fun a h=>h.elim fun d h=>h.elim fun es h=>h.1▸p_isi fr.E.cok h.2.1 (by rw [h.2.2.1];exact fun q=>by injection q) k fr.tk.i.2.1 fr.tk.i.2.2.1 fr.tk.i.2.2.2
 all_goals exact noneE h
noncomputable def IsBi (f:Str) (id:Value):Prop:=bootBuiltins f=some id∧f ∈ (["len","list","max","range","isinstance","int","abs"]:List Str)∧∃ n,id=.builtin n∨id=.type n
theorem IsBi.call (fr:FrOk e tb R F ns xp) {f:Str} {id:Value} {args:List Expr} {fp pos:Pos} {G:Value→AH→Prop} (I:IsBi f id) (hl:ns.lookup f=some .globalImplicit) (hs:noStar args=true) (h:PW e.g F m H (spliced (backTo pos (starEach args F.env))) fun vs H1=>PW e.g F m H1 (call id vs) G):PW e.g F m H (eval (.Call (.Name f fp) args [] pos) F.env) G:=
 p_CallN (p_nb fr.E.cok fr.ok fr.sc (fr.tk.b _ I.2.1) I.1 hl (bn _ I.2.1) (p_callWith fr.E.cok (back_plain hs).1 (fun _ _=>⟨.machine,.inr (.inl rfl),I.2.2.elim fun n q=>q.elim (fun q=>q▸Looks.of_pure rfl) fun q=>q▸Looks.of_pure rfl⟩) h))
theorem bi1_ok (fr:FrOk e tb R F ns xp) {f:Str} {g:V→Fst→Tr (V × Fst)} (hf:bi1 f=some g) {C:Prop} (c:∀ id,IsBi f id→(∀ {H s Q x v},Rep e.ad H x v→SimF e F s m H→W R xp (g x s) Q→PE e F m H (call id [v]) (Rep e.ad) Q)→C):C:=by
 unfold bi1 at hf
 refine ifs hf (fun q hf=>c (.type "list") (q▸⟨bb_list,by simp,_,.inr rfl⟩) fun {H s Q x v} ha S h=>?_) fun _ hf=>ifs hf (fun q hf=>c (.type "int") (q▸⟨bb_int,by simp,_,.inr rfl⟩) fun {H s Q x v} ha S h=>?_) fun _ hf=>ifs hf (fun q hf=>c (.builtin "abs") (q▸⟨bb_abs,by simp,_,.inl rfl⟩) fun {H s Q x v} ha S h=>?_) fun _ hf=>noneE hf
 ·rw [← Option.some.inj hf] at h
  refine ha.dLst (D:=fun v=>PE e F m H (call _ [v]) (Rep e.ad) Q) h fun l a ws g1 g2 h=>?_
  exact p_listOf fr.ok 0 g1 (fun x hx=>Pst.new fr.E hx S (.lst AH.set_self (g2.fz (.ofExt (.set hx)))) h.need.2) (g2.len▸h.need.1)
 ·rw [← Option.some.inj hf] at h
  refine ha.dInt (D:=fun v=>PE e F m H (call _ [v]) (Rep e.ad) Q) h fun n t h=>?_
  exact p_int (Pst.ret S .int h)
 ·rw [← Option.some.inj hf] at h
  refine ha.dInt (D:=fun v=>PE e F m H (call _ [v]) (Rep e.ad) Q) h fun n t h=>?_
  exact p_abs fun tk=>Pst.ret S .int h
theorem bi2_ok (fr:FrOk e tb R F ns xp) {f:Str} {g:V→V→Fst→Tr (V × Fst)} (hf:bi2 f=some g) {C:Prop} (c:∀ id,IsBi f id→(∀ {H s Q x y v u},Rep e.ad H x v→Rep e.ad H y u→SimF e F s m H→W R xp (g x y s) Q→PE e F m H (call id [v,u]) (Rep e.ad) Q)→C):C:=by
 unfold bi2 at hf
 refine ifs hf (fun q hf=>c (.builtin "max") (q▸⟨bb_max,by simp,_,.inl rfl⟩) fun {H s Q x y v u} ha hb S h=>?_) fun _ hf=>ifs hf (fun q hf=>c (.builtin "isinstance") (q▸⟨bb_isi,by simp,_,.inl rfl⟩) fun {H s Q x y v u} ha hb S h=>?_) fun _ hf=>noneE hf
 ·rw [← Option.some.inj hf] at h
  refine ha.dInt (D:=fun v=>PE e F m H (call _ [v,u]) (Rep e.ad) Q) h fun n t h=>?_
  refine hb.dInt (D:=fun u=>PE e F m H (call _ [_,u]) (Rep e.ad) Q) h fun k t' h=>?_
  exact (W.askE h).elim fun w h=>p_max fr.ok fun tk=>Pst.ret S (h.1▸.int) h.2
 ·rw [← Option.some.inj hf] at h
  refine hb.dFn (D:=fun u=>PE e F m H (call _ [v,u]) (Rep e.ad) Q) h fun C h=>?_
  rw [beq_iff_eq.mp h.chk.1]
  exact h.chk.2.opt fun b hb h=>isV_ok fr ha hb (Pst.ret S .bool h)
theorem evBi_sound (hr:r.Sound e tb R) (fr:FrOk e tb R F ns xp) {f:Str} {args:List Expr} {fp pos:Pos} {Q:V × Fst→Prop} (hl:ns.lookup f=some .globalImplicit) (S:SimF e F s m H) (h:W R xp (evBi tb r ns f args s) Q) :
  PE e F m H (eval (.Call (.Name f fp) args [] pos) F.env) (Rep e.ad) Q:=by
 obtain ⟨q,h⟩:=h.chk
 cases args with
 | nil=>exact h.elim
 | cons x es=>
  have s1:=starEach_cons (noStar_cons q).1 es F.env
  cases es with
  | nil=>
   replace h:W R xp (if f = "len" then (evR tb r ns x s).bind fun p=>lenOf p.1 p.2 else opt (bi1 f) fun g=>(r.E ns x s).bind fun p=>g p.1 p.2) Q:=h
   by_cases f1:f = "len"
   ·rw [if_pos f1] at h
    refine IsBi.call (id:=.builtin "len") fr (f1▸⟨bb_len,by simp,_,.inl rfl⟩) hl q (p_args_cons ((evR_sound hr fr S (W.bind _ h)).mono fun v H1 h1=>p_args_nil ?_) s1)
    exact h1.elim fun p h1=>(lenOf_sound h1.1 h1.2.1 h1.2.2.2.1).fz h1.2.2.1
   ·rw [if_neg f1] at h
    exact h.opt fun g hg h=>bi1_ok fr hg fun id I k=>I.call fr hl q (p_args_cons ((hr.E fr S (W.bind _ h)).then fun v H1 x s1 a1 S1 k1 h1=>p_args_nil ((k a1 S1 h1).fz k1)) s1)
  | cons y es=>
   have s2:=starEach_cons (noStar_cons (noStar_cons q).2).1 es F.env
   cases es with
   | cons _ _=>exact (show False from h).elim
   | nil=>exact h.opt fun g hg h=>bi2_ok fr hg fun id I k=>I.call fr hl q (p_args_cons ((hr.E fr S (W.bind _ h)).then fun v H1 x s1 a1 S1 k1 h1=>p_args_cons ((hr.E fr S1 (W.bind _ h1)).then fun w H2 y s2 a2 S2 k2 h2=>p_args_nil ((k (Rep.fz k2 _ a1) a2 S2 h2).fz (k1.trans k2))) s2) s1)
theorem evC_sound (hr:r.Sound e tb R) (fr:FrOk e tb R F ns xp) {a:Addr} {first:List V} {fv:List Value} {args:List Expr} {pos:Pos} {Q:V × Fst→Prop} (hk:keepIn e.g.K (.ref a)=true) (hs:noStar args=true) (hf:∀ H,Reps e.ad H first fv) (S:SimF e F s m H) (h:W R xp (evC r ns a first args s) Q) :
  PE e F m H (callWith pos (.ref a) fv (backTo pos (starEach args F.env)) []) (Rep e.ad) Q:=by
 refine p_callWith_K fr.E.cok hk (back_plain hs).1 ((evL_sound hr fr S (W.bind _ h)).then fun vs H1 l s1 a1 S1 k1 h1=>?_)
 replace h1:=W.callE h1
 obtain ⟨Z,hR,hok,hx⟩:=h1
 have kk:∀ H',Keeps 4 H1 H'→∀ a ws,H1 a=some (.list 5 ws)→H' a=some (.list 5 ws):=fun H' k a ws q=>(k a _ q).1 (by exact (by decide:(5:Nat)≠4))
 refine p_call fr.ok (fr.R _ _ _ _ hR H1 (fv++vs) S1.roots (.append a1 (hf H1))) (Nat.le_refl _) (by decide) (.inl fr.T.symm) (fun u H' k z=>?_) (fun k n H' _ q=>fr.X _ _ _ _ (hx _ _ q))
 obtain ⟨x,r2,e1,e2,e3⟩:=z
 exact ⟨(x,⟨s1.G,r2⟩),e2,S1.move (.ofKeeps k (by decide)) (kk H' k) e3,k1.trans (.ofKeeps k (by decide)),hok _ _ e1⟩
theorem evF_sound (hr:r.Sound e tb R) (fr:FrOk e tb R F ns xp) {f:Str} {args:List Expr} {fp pos:Pos} {Q:V × Fst→Prop} (S:SimF e F s m H) (h:W R xp (evF tb r ns f args s) Q) :
  PE e F m H (eval (.Call (.Name f fp) args [] pos) F.env) (Rep e.ad) Q:=by
 refine h.opt fun k hl h=>?_
 induction k using NameKind.casesOn
 case globalImplicit=>
  replace h:W R xp (match tb.g.lookup f with
   | some v=>dFn v fun a=>chk (tb.f.contains a&&noStar args) (evC r ns a [] args s)
   | none=>evBi tb r ns f args s) Q:=h
  cases hg:tb.g.lookup f with
  | none=>rw [hg] at h;exact evBi_sound hr fr hl S h
  | some v=>
   rw [hg] at h
   obtain ⟨w,g1,g2⟩:=fr.tk.g _ _ hg
   refine p_CallN (p_ng fr.E.cok fr.ok fr.sc g1 hl ?_)
   refine (g2 H).dFn (D:=fun w=>PE e F m H (callWith _ w _ _ _) (Rep e.ad) Q) h fun a h=>?_
   obtain ⟨q,h⟩:=h.chk
   have bq:=Bool.and_eq_true_iff.mp q
   have q1:=bq.1
   have q2:=bq.2
   exact evC_sound hr fr (fr.tk.f a q1) q2 (fun _=>.nil) S h
 all_goals exact (show False from h).elim
theorem lmth_call (hr:r.Sound e tb R) (fr:FrOk e tb R F ns xp) {k:Str} {args:List Expr} {a:Addr} {pos:Pos} {pl:Sem Bool} {Q:V × Fst→Prop} {t:Nat} {us:List Value} (hk:lmth k=true) (hs:noStar args=true) (g1:H a=some (.list t us)) {T:List V→Fst→Tr (V × Fst)} (S:SimF e F s m H)
  (h:W R xp ((evL r ns args s).bind fun q=>T q.1 q.2) Q) (c:∀ id,((k = "append" ∧ id = "list.append")∨k = "pop" ∧ id = "list.pop")→∀ us H1 l s1,Reps e.ad H1 l us→SimF e F s1 m H1→Fz H H1→W R xp (T l s1) Q→PE e F m H1 (call (.builtin id) (.ref a::us)) (Rep e.ad) Q) :
  PW e.g F m H (getMethod (.ref a) k pl) fun fx H2=>PW e.g F m H2 (callWith pos fx.1 fx.2 (backTo pos (starEach args F.env)) []) (Pst e F m H (Rep e.ad) Q):=by
 obtain ⟨id,i1,i2,i3⟩:=lslot hk
 exact p_listMethod g1 i2 i3 (p_callWith_b fr.E.cok (back_plain hs).1 ((evL_sound hr fr S (W.bind _ h)).then fun us H1 l s1 a1 S1 k1 h1=>(c id i1 us H1 l s1 a1 S1 k1 h1).fz k1))
theorem metA_spec {e:Mc} {tb:Tabs} (tk:tb.Ok e) {C:Addr} {k:Str} {f:Addr} (h:metA tb C k=some f):MetOk e.g.K C k f:=
 ifs h (fun q h=>ifs h (fun q2 h=>by rw [q,q2,← Option.some.inj h];exact tk.n) fun _ h=>noneE h) fun _ h=>ifs h (fun q h=>q▸(tk.m _ _ h).1) fun _ h=>noneE h
theorem methR_sound (hr:r.Sound e tb R) (fr:FrOk e tb R F ns xp) {k:Str} {args:List Expr} {i:Nat} {rt:Root} {pos:Pos} {pl:Sem Bool} {Q:V × Fst→Prop} (hs:noStar args=true) (hi:RootRep e H i rt) (S:SimF e F s m H) (h:W R xp (methR tb r ns k args i s rt) Q) :
  PW e.g F m H (getMethod (.ref (e.ad i)) k pl) fun fx H2=>PW e.g F m H2 (callWith pos fx.1 fx.2 (backTo pos (starEach args F.env)) []) (Pst e F m H (Rep e.ad) Q):=by
 cases rt with
 | dict _=>exact (show False from h).elim
 | stay _=>exact (show False from h).elim
 | lst l=>
  obtain ⟨q,h⟩:=h.chk
  obtain ⟨ws,g1,g2⟩:=hi
  refine lmth_call hr fr q hs g1 (T:=fun l s1=>opt (rlst s1.r i) fun l'=>lstep l' (fun l'=>s1.put i (.lst l')) k l) S h fun id i1 us H1 l s1 a1 S1 k1 h1=>h1.opt fun l' hl h1=>?_
  obtain ⟨gn,ws',g3,g4⟩:=S1.roots _ _ (rlst_spec hl)
  exact lstep_sound fr i1 g3 g4 (.inl fr.T.symm) (by decide) a1 (fun l' us' z=>S1.puts fr.E gn (.inl rfl) g3 rfl (x:=.lst l') ⟨us',AH.set_self,z⟩) h1
 | hid p=>
  obtain ⟨q,h⟩:=h.chk
  rw [beq_iff_eq.mp q] at hi ⊢
  refine h.opt fun f hm h=>?_
  obtain ⟨m1,m2⟩:=fr.tk.m _ _ hm
  obtain ⟨d,src,al,g1,g2⟩:=fr.E.hidC _ _ hi
  exact p_getMethod fr.E.cok g1 g2 (m2 _ _ _) (evC_sound hr fr m1.keep hs (fun _=>.one .cell) S h) m1.get m1.find m1.fn
 | inst C fs=>
  obtain ⟨q,h⟩:=h.chk
  refine h.opt fun f hm h=>?_
  obtain ⟨g1,es,g2,g3,_⟩:=hi
  have mo:=metA_spec fr.tk hm
  exact p_getMethod fr.E.cok g1 g2 (valueAt_none (by rw [g3];exact fun z=>nomatch (List.contains_iff_mem.mpr z).symm.trans ((Bool.not_eq_true' _).mp q))) (evC_sound hr fr mo.keep hs (fun _=>.one .cell) S h) mo.get mo.find mo.fn
theorem ownOf_spec {x:Str} {l:List V} (h:ownOf x s=some l):glook x s.G=some (.own l):=by
 obtain ⟨lv,h1,h2⟩:=Option.bind_eq_some_iff.mp h
 rw [h1]
 cases lv with
 | own l'=>rw [Option.some.inj h2]
 | v _=>exact noneE h2
 | un=>exact noneE h2
theorem evM_sound (hr:r.Sound e tb R) (fr:FrOk e tb R F ns xp) {o:Expr} {k:Str} {args:List Expr} {apos pos:Pos} {Q:V × Fst→Prop} (S:SimF e F s m H) (h:W R xp (evM tb r ns o k args (apos.endLine==pos.line) s) Q) :
  PE e F m H (eval (.Call (.Attribute o k apos) args [] pos) F.env) (Rep e.ad) Q:=by
 obtain ⟨q,h⟩:=h.chk
 have bq:=Bool.and_eq_true_iff.mp q
 have q1:=bq.1
 have q:=bq.2
 have bq:=Bool.and_eq_true_iff.mp q
 have q2:=bq.1
 have q:=bq.2
 have bq:=Bool.and_eq_true_iff.mp q
 have q3:=bq.1
 have q4:=bq.2
 refine p_MethodCall (pl:=do return (← importBound o F.env).getD true) ((evR_sound hr fr S (W.bind _ h)).mono fun v H1 z=>?_) (eval_MCall q2 q3 (Nat.lt_of_le_of_lt (Nat.le_of_ble_eq_true q4) (by decide)) q1)
 obtain ⟨⟨lv,s1⟩,a1,S1,k1,h1,z⟩:=z
 clear h
 cases lv with
 | un=>exact a1.elim
 | own l=>
  obtain ⟨q,h1⟩:=h1.chk
  obtain ⟨a,us,rfl,g1,_⟩:=a1
  obtain ⟨n,hn,hm⟩:=z l rfl
  refine (lmth_call hr fr q q3 g1 (T:=fun l s1=>opt (nameOf o) fun x=>opt (ownOf x s1) fun l'=>lstep l' (fun l'=>s1.set x (.own l')) k l) S1 h1 fun id i1 us H1 l s1 a1 S1 k1 h1=>h1.opt fun x hx h1=>h1.opt fun l' hl h1=>?_).mono fun fx H2 w=>w.mono fun v H'=>Pst.fz k1
  (injection (hn.symm.trans hx) with e1;subst e1)
  have hg:=ownOf_spec hl
  obtain ⟨v0,e1,b,ws',rfl,g3,g4,g5⟩:=S1.loc n _ hg
  cases hm.symm.trans e1
  exact lstep_sound fr i1 g3 g4 (.inr g5) (by decide) a1 (fun l' us' z=>S1.upd fr.E hg hm g3 (lv:=.own l') ⟨a,us',rfl,AH.set_self,z,g5⟩) h1
 | v x=>
  refine Rep.dCell (D:=fun v=>PW e.g F m H1 (getMethod v k _) fun fx H2=>PW e.g F m H2 (callWith pos fx.1 fx.2 (backTo pos (starEach args F.env)) []) (Pst e F m H (Rep e.ad) Q)) a1 h1 fun i hx h1=>?_
  exact h1.opt fun rt hrt h1=>(methR_sound hr fr q3 (S1.roots i rt hrt).2 S1 h1).mono fun fx H2 w=>w.mono fun v H'=>Pst.fz k1
theorem gen?_spec {gens:List Comprehension} {x:Expr × Expr} (h:gen? gens=some x):gens=[⟨x.1,x.2,[],0⟩]:=by
 obtain ⟨g,h1,h2⟩:=Option.bind_eq_some_iff.mp h
 rw [one?_spec h1]
 refine ifs h2 (fun q h=>?_) fun _ h=>noneE h
 have bq:=Bool.and_eq_true_iff.mp q
 have q1:=bq.1
 have q2:=bq.2
 obtain ⟨t,i,ifs,a⟩:=g
 rw [← Option.some.inj h,show ifs=[] from List.isEmpty_iff.mp q1,show a=0 from beq_iff_eq.mp q2]
theorem noOwn_spec {G:List (Str × LV)} {x:Str} {l:List V}:noOwn G=true→glook x G≠some (.own l):=by
 induction G with
 | nil=>exact fun _ q=>by injection q
 | cons p r ih=>
  intro h
  have bq:=Bool.and_eq_true_iff.mp h
  have h1:=bq.1
  have h2:=bq.2
  refine fun q=>ifs (show (if x=p.1 then p.2.vis else glook x r)=_ from q) (fun _ z=>?_) fun _ z=>ih h2 z
  obtain ⟨n,lv⟩:=p
  cases lv with
  | own l'=>exact ftE h1
  | v y=>cases z
  | un=>injection z
theorem tNames_cons {t:Expr} {ts:List Expr} {xs:List Str} (h:tNames (t::ts)=some xs):∃ x p ys,t=.Name x p∧xs=x::ys∧tNames ts=some ys:=by
 obtain ⟨n,h1,h2⟩:=Option.bind_eq_some_iff.mp (show ((nameOf t).bind fun n=>(tNames ts).map (n::·))=some xs from h)
 obtain ⟨ys,h3,h4⟩:=Option.map_eq_some_iff.mp h2
 obtain ⟨p,h5⟩:=nameOf_spec h1
 exact ⟨n,p,ys,h5,h4.symm,h3⟩
theorem tNames_each {ts:List Expr} {env:Env}:∀ {xs:List Str},tNames ts=some xs→(assignEach ts env).length=xs.length∧(assignEach ts env).findIdx? (·.1)=none:=by
 induction ts with
 | nil=>exact fun h=>by rw [← Option.some.inj h];exact ⟨rfl,rfl⟩
 | cons t ts ih=>
  intro xs h
  obtain ⟨x,p,ys,rfl,rfl,hy⟩:=tNames_cons h
  obtain ⟨h1,h2⟩:=ih hy
  refine ⟨congrArg Nat.succ h1,?_⟩
  show ((false,_)::assignEach ts env).findIdx? (·.1)=none
  rw [List.findIdx?_cons,h2]
  rfl
theorem setAll_sound (fr:FrOk e tb R F ns xp) {ts:List Expr}:∀ {xs:List Str} {l:List V} {ws:List Value} {s s':Fst} {m:LM},tNames ts=some xs→setAll ns xs l s=some s'→Reps e.ad H l ws→SimF e F s m H →
  xs.length=ws.length∧PS e.g F m H (assignInOrder ((assignEach ts F.env).map (·.2)) ws) fun _ m' H'=>H'=H∧SimF e F s' m' H':=by
 induction ts with
 | nil=>
  intro xs l ws s s' m h hs hl S
  rw [← Option.some.inj h] at hs ⊢
  cases l with
  | cons _ _=>injection hs
  | nil=>rw [show ws=[] from hl,← Option.some.inj (show some s=some s' from hs)];exact ⟨rfl,q_aio_nil ⟨rfl,S⟩⟩
 | cons t ts ih=>
  intro xs l ws s s' m h hs hl S
  obtain ⟨x,p,ys,rfl,rfl,hy⟩:=tNames_cons h
  cases l with
  | nil=>injection hs
  | cons y l=>
   refine ifs (show (if loc ns x then setAll ns ys l (s.set x (.v y)) else none)=some s' from hs) (fun hx hs=>?_) fun _ hs=>noneE hs
   refine hl.un (C:=fun ws=>(x::ys).length=ws.length∧PS e.g F m H (assignInOrder ((assignEach (.Name x p::ts) F.env).map (·.2)) ws) fun _ m' H'=>H'=H∧SimF e F s' m' H') fun w ws a b=>?_
   obtain ⟨h1,h2⟩:=ih hy hs b (S.bindV a)
   exact ⟨congrArg Nat.succ h1,q_aio_N fr.ok fr.sc (beq_iff_eq.mp hx) h2⟩
theorem tgt_sound (fr:FrOk e tb R F ns xp) {t:Expr} {v:V} {w:Value} {Q:Fst→Prop} (hv:Rep e.ad H v w) (S:SimF e F s m H) (h:W R xp (tgt ns t v s) Q) :
  PS e.g F m H (assign t F.env w) fun _ m' H'=>∃ s',SimF e F s' m' H'∧Fz H H'∧Q s':=by
 induction t using Expr.casesOn
 case Name x p=>exact q_asName fr.ok fr.sc (beq_iff_eq.mp h.chk.1) ⟨_,S.bindV hv,.refl _,h.chk.2⟩
 case Tuple ts n p=>
  refine h.opt fun xs hn h=>?_
  refine hv.dTup (D:=fun w=>PS e.g F m H (assign _ F.env w) fun _ m' H'=>∃ s',SimF e F s' m' H'∧Fz H H'∧Q s') h fun l a ws h1 h2 h=>h.opt fun s' hs h=>?_
  obtain ⟨e1,e2⟩:=setAll_sound fr hn hs h2 S
  obtain ⟨e3,e4⟩:=tNames_each (env:=F.env) hn
  exact q_unpack fr.ok h1 (e3.trans e1) e4 (e2.mono fun _ m' H' q=>by obtain ⟨rfl,q2⟩:=q;exact ⟨s',q2,.refl _,h⟩)
 all_goals exact (show False from h).elim
end
end Internal
end
section
namespace Internal
open PySem PySem.W PyProof.Rows
theorem lookup_relabel {env:Env} {names:List (Str × NameKind)} {x:Str} {k:NameKind} (hk:k≠.free) (h:names.lookup x=some k) :
  (names.map fun (n,k)=>if (k==NameKind.free&&env.scope.kind==.function&&env.kindOf n==some .cell) then (n,NameKind.cell) else (n,k)).lookup x=some k:=by
 induction names with
 | nil=>exact noneE h
 | cons p r ih=>
  obtain ⟨n,k'⟩:=p
  rw [List.lookup_cons] at h
  show List.lookup x ((if (k'==NameKind.free&&env.scope.kind==.function&&env.kindOf n==some .cell)=true then (n,NameKind.cell) else (n,k'))::_)=_
  cases hx:x==n with
  | true=>
   rw [hx] at h
   have q:k'=k:=Option.some.inj h
   rw [if_neg (by rw [q,beq_false_of_ne hk];exact Bool.false_ne_true),List.lookup_cons,hx]
   exact h
  | false=>
   rw [hx] at h
   by_cases hc:(k'==NameKind.free&&env.scope.kind==.function&&env.kindOf n==some .cell)=true
   ·rw [if_pos hc,List.lookup_cons,hx];exact ih h
   ·rw [if_neg hc,List.lookup_cons,hx];exact ih h
theorem lookup_relabel_free {env:Env} (hf:env.scope.kind=.function) {names:List (Str × NameKind)} {x:Str} (hc:env.kindOf x=some .cell) (h:names.lookup x=some .free) :
  (names.map fun (n,k)=>if (k==NameKind.free&&env.scope.kind==.function&&env.kindOf n==some .cell) then (n,NameKind.cell) else (n,k)).lookup x=some .cell:=by
 induction names with
 | nil=>exact noneE h
 | cons p r ih=>
  obtain ⟨n,k'⟩:=p
  rw [List.lookup_cons] at h
  show List.lookup x ((if (k'==NameKind.free&&env.scope.kind==.function&&env.kindOf n==some .cell)=true then (n,NameKind.cell) else (n,k'))::_)=_
  cases hx:x==n with
  | true=>
   rw [hx] at h
   have q:k'=.free:=Option.some.inj h
   have qn:x=n:=beq_iff_eq.mp hx
   rw [if_pos (by rw [q,hf,← qn,hc];rfl),List.lookup_cons,hx]
  | false=>
   rw [hx] at h
   by_cases hc':(k'==NameKind.free&&env.scope.kind==.function&&env.kindOf n==some .cell)=true
   ·rw [if_pos hc',List.lookup_cons,hx];exact ih h
   ·rw [if_neg hc',List.lookup_cons,hx];exact ih h
theorem lookup_memN {α:Type} {a:Str} {b:α} {l:List (Str × α)} (h:l.lookup a=some b):(a,b) ∈ l:=by
 induction l with
 | nil=>exact noneE h
 | cons p l ih=>
  obtain ⟨x,y⟩:=p
  rw [List.lookup_cons] at h
  cases q:a==x with
  | true=>rw [q] at h;rw [beq_iff_eq.mp q,← Option.some.inj h];exact .head _
  | false=>rw [q] at h;exact .tail _ (ih h)
section
variable {e:Mc} {tb:Tabs} {R:Addr→List V→List Root→(Out→Prop)→Prop} {F:Fx} {ns:List (Str × NameKind)} {xp:Str→Int→Prop} {m:LM} {H:AH} {s:Fst} {r:Ev}
theorem SimF.pub {H':AH} {r':List Root} (S:SimF e F s m H) (ho:noOwn s.G=true) (k:Fz H H') (h:RootsRep e r' H'):SimF e F ⟨s.G,r'⟩ m H':=
 ⟨fun x lv hx=>(S.loc x lv hx).imp fun v z=>⟨z.1,by
  cases lv with
  | un=>exact z.2.elim
  | own l=>exact absurd hx (noOwn_spec ho)
  | v y=>exact Rep.fz k y z.2⟩,S.own,h⟩
structure CompOk (tb:Tabs) (ns:List (Str × NameKind)) (sc:Scope):Prop where
 cell:∀ x ∈ sc.names,x.2≠.cell
 free:∀ x ∈ sc.names,x.2=.free→(tb.c.lookup x.1).isSome=true∧ns.lookup x.1=some .cell
 loc:∀ x ∈ sc.names,x.2=.local→sc.names.lookup x.1=some .local
 kind:sc.kind=.function
 dbg:sc.names.lookup ("__debug__" : Str)=none
theorem compOk_spec {sc:Scope} (h:compOk tb ns sc=true):CompOk tb ns sc:=by
 have bq:=Bool.and_eq_true_iff.mp h
 have c1:=bq.1
 have h:=bq.2
 have bq:=Bool.and_eq_true_iff.mp h
 have c2:=bq.1
 have c3:=bq.2
 have c:=fun x hx=>Bool.and_eq_true_iff.mp (List.all_eq_true.mp c1 x hx)
 exact ⟨fun x hx q=>by have:=(Bool.and_eq_true_iff.mp (c x hx).1).1;rw [q] at this;exact ftE this,
  fun x hx q=>by have:=(Bool.and_eq_true_iff.mp (c x hx).1).2;rw [q] at this;exact (Bool.and_eq_true_iff.mp this).imp id beq_iff_eq.mp,
  fun x hx q=>by have:=(c x hx).2;rw [q] at this;exact beq_iff_eq.mp this,beq_iff_eq.mp c2,Option.isNone_iff_eq_none.mp c3⟩
theorem FrOk.inner (fr:FrOk e tb R F ns xp) {F':Fx} {sc:Scope} (K:CompOk tb ns sc) (ok:F'.Ok) (h1:F'.env.scope=relabel sc F.env) (h2:∀ x ∈ sc.names,x.2=.free→F'.env.cells.lookup x.1=F.env.cells.lookup x.1) (hT:F'.T=F.T) (hr:F'.r=F.r):FrOk e tb R F' sc.names (fun _ _=>False):=by
 have kd:∀ x,F'.env.kindOf x=(relabel sc F.env).names.lookup x:=fun x=>by rw [← h1];rfl
 refine ⟨fr.E,fr.tk,ok,⟨fun x k h q=>(kd x).trans (lookup_relabel (by rintro rfl;exact q.elim (fun z=>by injection z) fun z=>by injection z) h),K.dbg⟩,hT.trans fr.T,fun _ _ _ _ q=>q.elim,by rw [hr];exact fr.R,fun x v k hv hk q=>?_⟩
 have hm:=lookup_memN hk
 rcases q with rfl | rfl
 ·exact absurd rfl (K.cell _ hm)
 ·obtain ⟨w,⟨a,g1,g2,g3⟩,g5⟩:=fr.cel x v _ hv (K.free _ hm rfl).2 (.inl rfl)
  exact ⟨w,⟨a,g1,(h2 _ hm rfl).trans g2,(kd x).trans (lookup_relabel_free fr.ok.kind g3 hk)⟩,g5⟩
theorem evComp_sound (hr:r.Sound e tb R) (fr:FrOk e tb R F ns xp) {elt:Expr} {gens:List Comprehension} {sc:Scope} {pos:Pos} {Q:V × Fst→Prop} (S:SimF e F s m H) (h:W R xp (evComp tb r ns elt gens sc s) Q):PE e F m H (eval (.ListComp elt gens sc pos) F.env) (Rep e.ad) Q:=by
 refine h.opt fun g hg h=>?_
 rw [gen?_spec hg]
 obtain ⟨q,h⟩:=h.chk
 have bq:=Bool.and_eq_true_iff.mp q
 have q1:=bq.1
 have q2:=bq.2
 have K:=compOk_spec q1
 refine p_ListComp fr.ok K.kind K.loc K.cell (fun x hx hf=>?_) (fun v=>?_) (by rw [fr.T];decide) ((hr.E fr S (W.bind _ h)).then fun v H1 y s1 a1 S1 k1 h1=>?_)
 ·obtain ⟨v,hv⟩:=Option.isSome_iff_exists.mp (K.free x hx hf).1
  obtain ⟨w,⟨a,_,g2,_⟩,_⟩:=fr.cel x.1 v _ hv (K.free x hx hf).2 (.inl rfl)
  exact ⟨a,g2⟩
 ·revert q2
  generalize g.2=it
  intro q2
  induction it using Expr.casesOn<;>first | rfl | exact ftE q2
 obtain ⟨l,a,ws,rfl,g1,g2,h1⟩:=a1.dLstE h1
 obtain ⟨ho,h1⟩:=h1.chk
 obtain ⟨hz,h1⟩:=h1.need
 replace h1:=W.compE h1
 obtain ⟨I,i0,i1,i2⟩:=h1
 refine ⟨a,0,ws,rfl,g1,g2.len▸hz,fun i us H'=>∃ ys rr,I i ys rr∧Fz H1 H'∧RootsRep e rr H'∧Reps e.ad H' ys us,?_,?_,⟨[],_,i0,.refl _,S1.roots,.nil⟩,?_,?_⟩
 ·rintro i us Ha Hb ⟨ys,rr,p0,p1,p2,p3⟩ k
  have kz:Fz Ha Hb:=fun a o h1 h2 h3=>k a o h1 h3 (by rw [h2];decide)
  have k4:∀ {a o},Ha a=some o→o.tag=4→Hb a=some o:=fun h1 h2=>k _ _ h1 (fun q=>by rw [AObj.priv_tag q] at h2;injection h2) (by rw [h2];decide)
  exact ⟨ys,rr,p0,p1.trans kz,p2.keep fr.E kz fun j=>⟨fun a o h1 h2 h3 _=>h3.elim (fun h3=>kz a o h1 h3 h2) fun h3=>k4 h1 h3,fun o h1 h2=>k4 h1 h2,fun o h1 h2=>k4 h1 h2⟩,p3.fz kz⟩
 ·rintro i us H' ⟨ys,rr,_,p1,_⟩
  exact ⟨0,p1 _ _ g1 rfl id⟩
 ·rintro F' i w us m0 H2 ok' hsc hcl hT hrr hw ⟨ys,rr,p0,p1,p2,p3⟩
  have fr':=fr.inner K ok' hsc hcl hT hrr
  obtain ⟨xv,e1,e2⟩:=g2.get' hw
  refine (tgt_sound fr' (s:=⟨[],rr⟩) (Rep.fz p1 _ e2) ⟨fun z lv hz=>noneE hz,fun z z' l1 l2 v hz=>noneE hz,p2⟩ (W.bind _ (i1 i xv ys rr e1 p0))).mono fun _ m3 H3 q=>?_
  obtain ⟨s3,S3,k3,h3⟩:=q
  refine (hr.E fr' S3 h3).then fun u H4 y s4 a4 S4 k4 h4=>?_
  exact ⟨ys++[y],_,h4,(p1.trans k3).trans k4,S4.roots,(p3.fz (k3.trans k4)).snoc a4⟩
 ·rintro D us H' ⟨ys,rr,p0,p1,p2,p3⟩ hD hD1
  rw [g2.len] at p0
  exact ⟨(.lst ys,⟨s1.G,rr⟩),.lst hD p3,S1.pub ho p1 p2,k1.trans p1,i2 ys rr p0⟩
theorem boolOf_sound {x:Expr} {Q:Bool × Fst→Prop} {t:Tr (V × Fst)} (he:isTrue x F.env (eval x F.env)=(do let v ← eval x F.env;standAt x.pos;holding [v] (truthy v)))
  (k:∀ Q',W R xp t Q'→PE e F m H (eval x F.env) (Rep e.ad) Q') (h:W R xp (boolOf t) Q):PE e F m H (isTrue x F.env (eval x F.env)) (fun _ b b'=>b'=b) Q:=by
 refine p_tPlain he ((k _ (W.bind _ h)).then fun v H1 y s1 a1 S1 k1 h1=>?_)
 refine a1.dBool (D:=fun v=>PW e.g F m H1 (truthy v) _) h1 fun b h1=>p_truthy_bool ?_
 exact ⟨(b,s1),rfl,S1,k1,h1⟩
theorem un_sound {op:PySem.UnaryOp} {x:V} {v:Value} {Q:V × Fst→Prop} (ha:Rep e.ad H x v) (S:SimF e F s m H) (h:W R xp (match op with
  | .Not=>dBool x fun b=>.ret (V.bool (!b),s)
  | .USub=>dInt x fun n=>.ret (V.int (-n),s)
  | _=>.stuck) Q):PE e F m H (unaryOp op v) (Rep e.ad) Q:=by
 induction op using PySem.UnaryOp.casesOn
 case Not=>
  refine ha.dBool (D:=fun v=>PE e F m H (unaryOp _ v) (Rep e.ad) Q) h fun b h=>?_
  exact p_notV (p_truthy_bool (Pst.ret S .bool h))
 case USub=>
  refine ha.dInt (D:=fun v=>PE e F m H (unaryOp _ v) (Rep e.ad) Q) h fun n t h=>?_
  exact p_neg fun tk=>Pst.ret S .int h
 all_goals exact (show False from h).elim
theorem stepE_sound (hr:r.Sound e tb R) (fr:FrOk e tb R F ns xp) {x:Expr} {Q:V × Fst→Prop} (S:SimF e F s m H) (h:W R xp (stepE tb r ns x s) Q):PE e F m H (eval x F.env) (Rep e.ad) Q:=by
 induction x using Expr.casesOn
 case BoolOp op es pos=>exact p_BoolOp (evB_sound hr fr S h)
 case BinOp a op b pos=>
  exact p_BinOp ((hr.E fr S (W.bind _ h)).then fun v H1 x s1 a1 S1 k1 h1=>(hr.E fr S1 (W.bind _ h1)).then fun w H2 y s2 a2 S2 k2 h2=>(binop_sound fr (Rep.fz k2 _ a1) a2 S2 h2).fz (k1.trans k2))
 case UnaryOp op x pos=>exact p_UnaryOp ((hr.E fr S (W.bind _ h)).then fun v H1 y s1 a1 S1 k1 h1=>(un_sound a1 S1 h1).fz k1)
 case IfExp t b o pos=>
  refine p_IfExp ((hr.T fr S (W.bind _ h)).then fun v H1 b s1 a1 S1 k1 h1=>?_)
  subst a1
  cases v
  ·exact (hr.E fr S1 h1).fz k1
  ·exact (hr.E fr S1 h1).fz k1
 case ListComp elt gens sc pos=>exact evComp_sound hr fr S h
 case Compare a ops bs pos=>
  refine h.opt fun op ho h=>h.opt fun b hb h=>?_
  rw [one?_spec ho,one?_spec hb]
  obtain ⟨h1,h2⟩:=evCmp_sound hr fr S h
  exact p_Compare h2 h1
 case Call f args kws pos=>
  obtain ⟨q,h⟩:=h.chk
  rw [List.isEmpty_iff.mp q]
  induction f using Expr.casesOn
  case Attribute=>exact evM_sound hr fr S h
  case Name=>exact evF_sound hr fr S h
  all_goals exact (show False from h).elim
 case Constant k n pos=>
  cases k
  case none=>exact PW.const_none (Pst.ret S .none h)
  case bool=>exact PW.const_bool (Pst.ret S .bool h)
  case int=>exact PW.const_int fun t=>Pst.ret S .int h
  case str=>exact PW.const_str fun t=>Pst.ret S .str h
  all_goals exact (show False from h).elim
 case Attribute o a pos=>
  obtain ⟨q,h⟩:=h.chk
  exact p_Attr ((hr.E fr S (W.bind _ h)).then fun v H1 x s1 a1 S1 k1 h1=>(attrOf_sound fr a1 S1 h1).fz k1) (eval_Attr q)
 case Subscript o i pos=>exact evSub_sound hr fr S h
 case Name x pos=>exact evNE_sound fr S h
 case List es pos=>
  refine p_List ((evL_sound hr fr S (W.bind _ h)).then fun vs H1 l s1 a1 S1 k1 h1=>?_)
  exact p_newList 0 (fun a ha=>(Pst.new fr.E ha S1 (.lst AH.set_self (a1.fz (.ofExt (.set ha)))) h1.chk.2).fz k1) (by rw [a1.len];exact few_line h1.chk.1)
 case Tuple es k pos=>
  refine p_Tuple ((evL_sound hr fr S (W.bind _ h)).then fun vs H1 l s1 a1 S1 k1 h1=>?_)
  exact p_newTuple (fun a ha=>(Pst.new fr.E ha S1 (.tup AH.set_self (a1.fz (.ofExt (.set ha)))) h1.chk.2).fz k1) (by rw [a1.len];exact few_line h1.chk.1)
 all_goals exact (show False from h).elim
theorem stepT_sound (hr:r.Sound e tb R) (fr:FrOk e tb R F ns xp) {x:Expr} {Q:Bool × Fst→Prop} (S:SimF e F s m H) (h:W R xp (stepT tb r ns x s) Q):PE e F m H (isTrue x F.env (eval x F.env)) (fun _ b b'=>b'=b) Q:=by
 induction x using Expr.casesOn
 case BoolOp op es pos=>exact p_tBool (evA_sound hr fr S h)
 case UnaryOp op x pos=>
  induction op using PySem.UnaryOp.casesOn
  case Not=>
   refine p_tNot ((hr.T fr S (W.bind _ h)).then fun v H1 b s1 a1 S1 k1 h1=>?_)
   subst a1
   exact ⟨(!v,s1),rfl,S1,k1,h1⟩
  all_goals exact (show False from h).elim
 case Compare a ops bs pos=>
  refine h.opt fun op ho h=>h.opt fun b hb h=>?_
  rw [one?_spec ho,one?_spec hb]
  obtain ⟨h1,h2⟩:=evCmp_sound hr fr S (W.bind _ h)
  refine p_tCompare (h2.mono fun v H1 h2=>h2.mono fun w H2 h2=>h2.mono fun u H3 z=>?_) h1
  obtain ⟨p,a1,S1,k1,h1⟩:=z
  refine a1.dBool (D:=fun v=>PW e.g F m H3 (truthy v) _) h1 fun b h1=>p_truthy_bool ?_
  exact ⟨(b,p.2),rfl,S1,k1,h1⟩
 case Call f args kws pos=>exact boolOf_sound rfl (fun Q' h=>hr.E fr S h) h
 case Attribute o a pos=>exact boolOf_sound rfl (fun Q' h=>hr.E fr S h) h
 case Subscript o i pos=>exact boolOf_sound rfl (fun Q' h=>hr.E fr S h) h
 case Name x pos=>exact boolOf_sound rfl (fun Q' h=>hr.E fr S h) h
 case Constant c k pos=>exact boolOf_sound rfl (fun Q' h=>hr.E fr S h) h
 all_goals exact (show False from h).elim
theorem ev_sound (d:Nat):(ev tb d).Sound e tb R:=by
 induction d with
 | zero=>exact ⟨fun _ _ _ _ _ _ _ h=>h.elim,fun _ _ _ _ _ _ _ h=>h.elim⟩
 | succ d ih=>exact ⟨fun fr _ _ _ _ _ S h=>stepE_sound ih fr S h,fun fr _ _ _ _ _ S h=>stepT_sound ih fr S h⟩
end
end Internal
end
section
namespace Internal
open PySem PySem.W PyProof.Rows
section
variable {e:Mc} {tb:Tabs} {R:Addr→List V→List Root→(Out→Prop)→Prop} {F:Fx} {ns:List (Str × NameKind)} {xp:Str→Int→Prop} {m:LM} {H:AH} {s:Fst} {r:Ev}
noncomputable def FlRep (ad:Nat→Addr) (H:AH) (a:Fl) (b:Flow):Prop:=match a with
 | .next=>b=.next
 | .brk=>b=.brk
 | .ret v=>∃ w,b=.ret w∧Rep ad H v w
noncomputable def Raises (g:Cfg):Prop:=∀ {F:Fx} {m:LM} {H:AH} {args:List Expr} {np cpos pos:Pos} {rest:List Stmt} {R:Flow→LM→AH→Prop},F.Ok→2≤F.r→F.env.kindOf "ReadError" = some .globalImplicit→(backTo cpos (starEach args F.env)).any (·.1)=false →
 (PW g F m H (spliced (backTo cpos (starEach args F.env))) fun vs H1=>∃ k n t1 t2,vs=[.str k t1,.int n t2]∧∀ dx,H1 dx=none→F.X k n m (H1.set dx (.dict 0 [("kind",.str k t1),("at",.int n t2)]))) →
 PS g F m H (execs (.Raise (some (.Call (.Name "ReadError" np) args [] cpos)) none pos::rest) F.env) R
structure FrS (e:Mc) (tb:Tabs) (R:Addr→List V→List Root→(Out→Prop)→Prop) (F:Fx) (ns:List (Str × NameKind)) (xp:Str→Int→Prop):Prop extends FrOk e tb R F ns xp where
 r2:2≤F.r
 raise:Raises e.g
noncomputable def PostS (e:Mc) (F:Fx) (H:AH) (Q:Fl × Fst→Prop) (fl:Flow) (m':LM) (H':AH):Prop:=∃ p:Fl × Fst,FlRep e.ad H' p.1 fl∧SimF e F p.2 m' H'∧Fz H H'∧Q p
theorem PostS.fz {H0:AH} {Q:Fl × Fst→Prop} {fl:Flow} {m':LM} {H':AH} (k:Fz H0 H) (h:PostS e F H Q fl m' H'):PostS e F H0 Q fl m' H':=h.imp fun p h=>⟨h.1,h.2.1,k.trans h.2.2.1,h.2.2.2⟩
theorem LRep.like {F':Fx} {lv:LV} {v:Value} (h:F'.H0=F.H0) (k:LRep e F H lv v):LRep e F' H lv v:=by
 cases lv with
 | un=>exact k.elim
 | v y=>exact k
 | own l=>exact k.imp fun a k=>k.imp fun ws k=>⟨k.1,k.2.1,k.2.2.1,by rw [h];exact k.2.2.2⟩
theorem SimF.like {F':Fx} (h:F'.H0=F.H0) (S:SimF e F s m H):SimF e F' s m H:=⟨fun x lv hx=>(S.loc x lv hx).imp fun v z=>⟨z.1,z.2.like h⟩,S.own,S.roots⟩
theorem FrS.like {F':Fx} (fr:FrS e tb R F ns xp) (l:F.Like F') (ok:F'.Ok):FrS e tb R F' ns xp:=
 ⟨⟨fr.E,fr.tk,ok,fr.sc.like l,l.T.trans fr.T,by rw [l.X];exact fr.X,by rw [l.r];exact fr.R,by rw [l.env];exact fr.cel⟩,by rw [l.r];exact fr.r2,fr.raise⟩
theorem SimF.notIt {H':AH} (S:SimF e F s m H) (E:e.Ok) (k:NotIt H H'):SimF e F s m H':=
 S.move (.ofNotIt k) (fun a ws h=>k _ _ h (fun q=>by injection q)) (S.roots.keep E (.ofNotIt k) fun i=>⟨fun a o h p _ _=>k a o h fun q=>p (by rw [q];trivial),fun o h t=>k _ _ h fun q=>(nomatch t.symm.trans (congrArg AObj.tag q)),fun o h t=>k _ _ h fun q=>(nomatch t.symm.trans (congrArg AObj.tag q))⟩)
theorem SimF.congr {m':LM} (S:SimF e F s m H) (h:∀ x,look m' x=look m x):SimF e F s m' H:=
 ⟨fun x lv hx=>by rw [h];exact S.loc x lv hx,fun x y l l' v a b c d=>S.own x y l l' v a b ((h x).symm.trans c) ((h y).symm.trans d),S.roots⟩
theorem put_lst (fr:FrOk e tb R F ns xp) {j:Nat} (hj:j<e.n) {l l':List V} {ws ws':List Value} (S:SimF e F s m H) (h1:H (e.ad j)=some (.list 4 ws)) (h2:Reps e.ad H l' ws'):SimF e F (s.put j (.lst l')) m (H.set (e.ad j) (.list 4 ws'))∧Fz H (H.set (e.ad j) (.list 4 ws')):=
 have k:Fz H (H.set (e.ad j) (.list 4 ws')):=.set1 h1 (by exact (by decide:(4:Nat)≠0))
 ⟨S.puts fr.E hj (.inl rfl) h1 rfl (x:=.lst l') ⟨_,AH.set_self,h2.fz k⟩,k⟩
theorem le1000 {n:Nat} (h:n≤1000):n≤sizeLine:=Nat.le_trans h (by exact Nat.le_of_ble_eq_true rfl)
theorem stor_sound (fr:FrOk e tb R F ns xp) {o i v:V} {ov iv w:Value} {Q:Fst→Prop} (ho:Rep e.ad H o ov) (hi:Rep e.ad H i iv) (hv:Rep e.ad H v w) (S:SimF e F s m H) (h:W R xp (stor o i v s) Q) :
  PW e.g F m H (setItem ov iv w) fun _ H'=>∃ s',SimF e F s' m H'∧Fz H H'∧Q s':=by
 refine ho.dCell (D:=fun ov=>PW e.g F m H (setItem ov iv w) fun _ H'=>∃ s',SimF e F s' m H'∧Fz H H'∧Q s') h fun j hj h'=>?_
 clear h
 replace h:=h'
 clear h'
 induction i using V.casesOn
 case int k=>
  obtain ⟨t,rfl⟩:=hi
  refine h.opt fun l hg h=>?_
  obtain ⟨hn,ws,h1,h2⟩:=S.roots _ _ (rlst_spec hg)
  obtain ⟨hz,h⟩:=h.need
  have z:=put_lst fr hn S h1 (h2.set hv (i:=k.toNat)) (l:=l)
  exact p_setList fr.ok h1 (.inl fr.T.symm) hz.1.1 (by rw [h2.len];exact hz.1.2) ⟨_,z.1,z.2,h⟩ (h2.len▸hz.2)
 case str k=>
  obtain ⟨t,rfl⟩:=hi
  refine h.opt fun fs hg h=>h.opt fun fs' hd h=>?_
  obtain ⟨hn,es,h1,h2,h3,h4⟩:=S.roots _ _ (rdic_spec hg)
  obtain ⟨hz,h⟩:=h.need
  have kz:∀ o,Fz H (H.set (e.ad j) o):=fun o=>.set1 h1 (by exact (by decide:(4:Nat)≠0))
  obtain ⟨r1,r2,r3⟩:=Reps.dset hv h3 h4 h2 hd
  have hl:es.length=fs.length:=by have:=congrArg List.length h2;rwa [List.length_map,List.length_map] at this
  exact p_setDict fr.ok h1 (.inl fr.T.symm) ⟨_,S.puts fr.E hn (.inl rfl) h1 rfl (x:=.dict fs') ⟨_,AH.set_self,r1,by rw [r1,r3,← h2];exact h3,r2.fz (kz _)⟩,kz _,h⟩ (le1000 (hl▸hz))
 all_goals exact (show False from h).elim
theorem p_setVd {c:Cfg} (cok:c.Ok) (ok:F.Ok) {x C dx:Addr} {k i a:Value} {b:Bool} {Q:Unit→AH→Prop} (hx:H x=some (.inst C dx)) (hd:H dx=some (.vd k i a))
  (h:Q () H) (hs:findIn c.K (.ref C) "__setattr__" = some (some (.builtin "object.__setattr__"))) (hp:plainOver c.K C=true) (ht:takerIn c.K C "shared" = some none) (hc:hasDictIn c.K C=true) :
  PW c F m H (setAttr (.ref x) "shared" (.bool b)) Q:=fun s st=>by
 obtain ⟨_,co,g1,g2⟩:=st.inv.obj x _ hx
 obtain ⟨hb,cd,g3,bb,g4⟩:=st.inv.obj dx _ hd
 subst g2
 refine setField_core (st.K cok) g3 g4 (⟨g1,rfl,rfl,g3⟩:InstAt s.heap x { cls:=.ref C,dict:=some dx,data:=.plain } C (some cd)) hs hp ht hc (show 5≤1000 from Nat.le_of_ble_eq_true rfl) fun h' od' tk hs' hup hnew=>⟨H,?_,h⟩
 have hne:∀ y p,H y=some p→p.priv→y≠dx:=fun y p q hp z=>by rw [z,hd] at q;(injection q with e1;subst e1);exact hp
 refine st.at dx (fun _ _=>rfl) (fun y o hy q=>(hs'.2 y hy).trans q) hb (fun p q=>?_) (st.loc.sameBut hs' (hne _ _ st.own trivial)) st.own (fun o q=>⟨st.keep dx o q,fun hp=>hne dx o ((st.keep dx o q).1 (by rw [AObj.priv_tag hp];exact fun z=>ok.T0 z.symm)) hp rfl⟩) fun p hp=>hne _ .it (st.its p hp).2.2.1 trivial
 (injection (hd.symm.trans q) with e1;subst e1)
 refine ⟨od',hup,b,?_⟩
 rw [show stored ([("kind",k),("items",i),("attrs",a),("shared",.bool bb),("loose",.bool false)]:List (Str × Value)) ("shared" : Str) (.bool b)=([("kind",k),("items",i),("attrs",a),("shared",.bool b),("loose",.bool false)]:List (Str × Value)) from by kernel_rfl] at hnew
 exact hnew
theorem astor_sound (fr:FrOk e tb R F ns xp) {o v:V} {a:Str} {ov w:Value} {Q:Fst→Prop} (ho:Rep e.ad H o ov) (hv:Rep e.ad H v w) (S:SimF e F s m H) (h:W R xp (astor o a v s) Q) :
  PW e.g F m H (setAttr ov a w) fun _ H'=>∃ s',SimF e F s' m H'∧Fz H H'∧Q s':=by
 induction o using V.casesOn
 case vec k i at_=>
  obtain ⟨q,h⟩:=h.chk
  rw [beq_iff_eq.mp q]
  obtain ⟨x,dx,t,iv,av,rfl,h1,h2,_⟩:=ho.vecE
  refine hv.dBool (D:=fun w=>PW e.g F m H (setAttr _ _ w) fun _ H'=>∃ s',SimF e F s' m H'∧Fz H H'∧Q s') h fun b h=>?_
  have z:=fr.tk.st 120 (.inr rfl)
  exact p_setVd fr.E.cok fr.ok h1 h2 ⟨s,S,.refl _,h⟩ z.1 z.2.1 fr.tk.sn.2 z.2.2
 case cell i=>
  rw [show ov=.ref (e.ad i) from ho]
  refine h.opt fun rt hr h=>?_
  cases rt with
  | inst C fs=>
   obtain ⟨q,h⟩:=h.chk
   have bq:=Bool.and_eq_true_iff.mp q
   have q1:=bq.1
   have q2:=bq.2
   obtain ⟨hn,h1,es,h2,h3,h4,h5⟩:=S.roots _ _ hr
   rw [beq_iff_eq.mp q2] at h ⊢
   refine h.opt fun fs' hd h=>?_
   obtain ⟨hz,h⟩:=h.need
   have qC:=beq_iff_eq.mp q1
   have z:=fr.tk.st C (.inl qC)
   have kz:∀ o,Fz H (H.set (e.da i) o):=fun o=>.set1 h2 (by exact (by decide:(4:Nat)≠0))
   obtain ⟨r1,r2,r3⟩:=Reps.dset hv h4 h5 h3 hd
   have hl:es.length=fs.length:=by have:=congrArg List.length h3;rwa [List.length_map,List.length_map] at this
   exact p_setField fr.E.cok fr.ok h1 h2 (.inl fr.T.symm) ⟨_,S.puts fr.E hn (.inr rfl) h2 rfl (x:=.inst C fs') ⟨(AH.set_ne (fr.E.sep i i hn hn)).trans h1,_,AH.set_self,r1,by rw [r1,r3,← h3];exact h4,r2.fz (kz _)⟩,kz _,h⟩ z.1 z.2.1 (by rw [qC];exact fr.tk.sn.1) z.2.2 (hl▸hz)
  | lst _=>exact (show False from h).elim
  | dict _=>exact (show False from h).elim
  | hid _=>exact (show False from h).elim
  | stay _=>exact (show False from h).elim
 all_goals exact (show False from h).elim
theorem swaps_no {x:Expr} (h:isComp x=false) (t:Option Expr) (l:Nat) (env:Env):swapsWith x t l env=pure false:=by
 induction x using Expr.casesOn<;>first | rfl | exact ftE h.symm
theorem swapped_no {x:Expr} (h:isTup x=false) {ts:List Expr} {n:Nat} {p:Pos} {env:Env}:swappedStores [.Tuple ts n p] x env=pure none:=by
 induction x using Expr.casesOn<;>first | rfl | exact ftE h.symm
theorem exec_asg {t value:Expr} {pos:Pos} {env:Env} (hc:isComp value=false) (ht:swappedStores [t] value env=pure none) (hs:assignEach [t] env=[(false,assign t env)]):exec (.Assign [t] value pos) env=(do standAt pos;let v ← eval value env;assign t env v;pure .next):=by
 show (standAt pos >>= fun _=>swapsWith value (some t) pos.line env >>= fun b=>if b then (do evalThenUse value env fun v=>assignAll v ((assignEach [t] env).map (·.2));pure .next) else (eval value env >>= fun v=>swappedStores [t] value env >>= fun sw=>assignStores env v sw ((assignEach [t] env).map (·.2))))=_
 rw [swaps_no hc,ht,hs]
 rfl
theorem p_newListF {c:Cfg} {Q:Value→AH→Prop} {vs:List Value} (tg:Nat) (h:∀ a,H a=none→F.H0 a=none→Q (.ref a) (H.set a (.list tg vs))) (hsz:vs.length≤sizeLine):PW c F m H (newList vs) Q:=fun s st=>
 p_newList tg (fun a ha=>h a ha (st.fresh0 ha)) hsz s st
noncomputable def Nxt (e:Mc) (F:Fx) (H:AH) (Q:Fst→Prop) (rest:List Stmt) (R':Flow→LM→AH→Prop):Prop:=∀ s' m' H',SimF e F s' m' H'→Fz H H'→Q s'→PS e.g F m' H' (execs rest F.env) R'
theorem asg_sound (hr:r.Sound e tb R) (fr:FrOk e tb R F ns xp) {t value:Expr} {pos:Pos} {rest:List Stmt} {Q:Fst→Prop} {R':Flow→LM→AH→Prop} (S:SimF e F s m H) (h:W R xp (asg r ns t value s) Q) (k:Nxt e F H Q rest R'):PS e.g F m H (execs (.Assign [t] value pos::rest) F.env) R':=by
 have hc:isComp value=false:=(Bool.not_eq_true' _).mp h.chk.1
 replace h:=h.chk.2
 induction t using Expr.casesOn
 case Subscript o i p=>
  refine q_assign1 ((hr.E fr S (W.bind _ h)).then fun v H1 x s1 a1 S1 k1 h1=>q_asSub ((hr.E fr S1 (W.bind _ h1)).then fun o H2 y s2 a2 S2 k2 h2=>(hr.E fr S2 (W.bind _ h2)).then fun i H3 z s3 a3 S3 k3 h3=>?_)) (exec_asg hc rfl rfl)
  exact (stor_sound fr (Rep.fz k3 _ a2) a3 (Rep.fz (k2.trans k3) _ a1) S3 h3).mono fun _ H4 z=>z.elim fun s' z=>k _ _ _ z.1 (((k1.trans k2).trans k3).trans z.2.1) z.2.2
 case Attribute o a p=>
  refine q_assign1 ((hr.E fr S (W.bind _ h)).then fun v H1 x s1 a1 S1 k1 h1=>q_asAttr ((hr.E fr S1 (W.bind _ h1)).then fun o H2 y s2 a2 S2 k2 h2=>?_)) (exec_asg hc rfl rfl)
  exact (astor_sound fr a2 (Rep.fz k2 _ a1) S2 h2).mono fun _ H4 z=>z.elim fun s' z=>k _ _ _ z.1 ((k1.trans k2).trans z.2.1) z.2.2
 case Name x p=>
  obtain ⟨hx,h⟩:=h.chk
  have hl:ns.lookup x=some .local:=beq_iff_eq.mp hx
  refine q_asN fr.ok fr.sc hl (swaps_no hc _ _ _) ?_
  have key:W R xp ((r.E ns value s).bind fun p=>.ret (p.2.set x (.v p.1))) Q→PW e.g F m H (eval value F.env) fun v H'=>PS e.g F (setL x v m) H' (execs rest F.env) R':=fun h=>
   (hr.E fr S (W.bind _ h)).then fun v H1 y s1 a1 S1 k1 h1=>k _ _ _ (S1.bindV a1) k1 h1
  clear hc
  induction value using Expr.casesOn
  case List es lp=>
   refine p_List ((evL_sound hr fr S (W.bind _ h)).then fun vs H1 l s1 a1 S1 k1 h1=>?_)
   refine p_newListF 5 (fun a ha h0=>?_) (by rw [a1.len];exact few_line h1.chk.1)
   refine k _ _ _ ((S1.ext fr.E (.set ha)).bind (lv:=.own l) ⟨a,vs,rfl,AH.set_self,a1.fz (.ofExt (.set ha)),h0⟩ fun l hl y l' hy hm=>?_) (k1.trans (.ofExt (.set ha))) h1.chk.2
   obtain ⟨u,e1,b,us,rfl,e3,_⟩:=S1.loc y _ hy
   cases hm.symm.trans e1
   exact by injection (ha.symm.trans e3)
  all_goals exact key h
 case Tuple ts n p=>
  obtain ⟨qt,h⟩:=h.chk
  refine q_assign1 ((hr.E fr S (W.bind _ h)).then fun v H1 x s1 a1 S1 k1 h1=>?_) (exec_asg hc (swapped_no ((Bool.not_eq_true' _).mp qt)) rfl)
  exact (tgt_sound fr a1 S1 h1).mono fun _ m' H' z=>z.elim fun s' z=>k _ _ _ z.1 (k1.trans z.2.1) z.2.2
 all_goals exact (show False from h).elim
end
end Internal
end
section
namespace Internal
open PySem PySem.W PyProof.Rows
section
variable {e:Mc} {tb:Tabs} {R:Addr→List V→List Root→(Out→Prop)→Prop} {F:Fx} {ns:List (Str × NameKind)} {xp:Str→Int→Prop} {m:LM} {H:AH} {s:Fst} {r:Ev}
theorem aug_plain {i:Expr} (h:slc? i=none) (ov iv new:Value):augStore i ov iv new=(do holding [new,ov,iv] (setItem ov iv new);release [new,ov,iv] [];pure .next):=by
 induction i using Expr.casesOn<;>first | rfl | exact noneE h.symm
theorem look_same {x:Str} {v:Value} (h:look m x=some v) (y:Str):look (setL x v m) y=look m y:=by
 rw [look_setL]
 by_cases q:y=x
 ·rw [q];exact (if_pos rfl).trans h.symm
 ·exact if_neg q
theorem p_ifdiv {c:Cfg} {a b:Int} {t u:Tok} {Q:Value→AH→Prop} (hb:b≠0) (hp:Builtin.divisionGoesByPylong a b=false) (h:∀ tk,Q (.int (a.fdiv b) tk) H):PW c F m H (inplaceOp .FloorDiv (.int a t) (.int b u)) Q:=fun s st=>ifloordiv_int hb ⟨H,st.toks _,h _⟩ (.inl hp)
theorem iop_sound {c:Cfg} {op:Operator} {a b:Int} {t u:Tok} {k:V→Tr Fst} {Q:Fst→Prop} {G:Value→AH→Prop} (h:W R xp (iop op a b k) Q) (c':∀ n tk,W R xp (k (.int n)) Q→G (.int n tk) H):PW c F m H (inplaceOp op (.int a t) (.int b u)) G:=by
 induction op using Operator.casesOn
 case Add=>exact (W.askE h).elim fun v h=>p_iadd fun tk=>c' _ tk (h.1▸h.2)
 case Sub=>exact (W.askE h).elim fun v h=>p_isub fun tk=>c' _ tk (h.1▸h.2)
 case FloorDiv=>exact (W.askE h).elim fun v h=>p_ifdiv h.1.1.1 h.1.1.2 fun tk=>c' _ tk (h.1.2▸h.2)
 all_goals exact (show False from h).elim
theorem Rep.dIntE {α:Type} {Q:α→Prop} {x:V} {a:Value} {ad:Nat→Addr} {k:Int→Tr α} (ha:Rep ad H x a) (h:W R xp (Internal.dInt x k) Q):∃ n t,a=.int n t∧W R xp (k n) Q:=ha.dInt (D:=fun a=>∃ n t,a=.int n t∧W R xp (k n) Q) h fun n t h=>⟨n,t,rfl,h⟩
theorem isAdd_spec {op:Operator} (h:isAdd op=true):op=.Add:=by
 induction op using Operator.casesOn<;>first | rfl | exact ftE h
theorem augN_sound (hr:r.Sound e tb R) (fr:FrOk e tb R F ns xp) {x:Str} {p:Pos} {value:Expr} {op:Operator} {pos:Pos} {rest:List Stmt} {Q:Fst→Prop} {R':Flow→LM→AH→Prop} (S:SimF e F s m H) (h:W R xp (aug r ns (.Name x p) op value s) Q) (k:Nxt e F H Q rest R'):PS e.g F m H (execs (.AugAssign (.Name x p) op value pos::rest) F.env) R':=by
 obtain ⟨hx,h⟩:=h.chk
 have hl:ns.lookup x=some .local:=beq_iff_eq.mp hx
 refine h.opt fun lv hg h=>h.dV fun old ho h=>?_
 rw [ho] at hg
 obtain ⟨v0,hm,h0⟩:=S.loc x _ hg
 refine q_agN fr.ok fr.sc hm hl ((hr.E fr S (W.bind _ h)).then fun v H1 y s1 a1 S1 k1 h1=>?_)
 have b0:Rep e.ad H1 old v0:=Rep.fz k1 old h0
 clear h h0
 induction old using V.casesOn
 case int n=>
  obtain ⟨n',t,rfl,h1⟩:=a1.dIntE h1
  obtain ⟨t0,rfl⟩:=b0
  exact iop_sound h1 fun n tk h1=>k _ _ _ (S1.bindV .int) k1 h1
 case cell j=>
  rw [show v0=.ref (e.ad j) from b0] at hm ⊢
  obtain ⟨q,h1⟩:=h1.chk
  refine h1.opt fun l hr' h1=>?_
  obtain ⟨w,a,us,rfl,g3,g4,h1⟩:=a1.dLstE h1
  obtain ⟨gn,ws,g1,g2⟩:=S1.roots _ _ (rlst_spec hr')
  obtain ⟨⟨hne,hz⟩,h1⟩:=h1.need
  have z:=put_lst fr gn S1 g1 (.append g4 g2) (l:=l)
  rw [isAdd_spec q]
  exact p_iaddList fr.ok g1 g3 (.inl fr.T.symm) (k _ _ _ (z.1.congr (look_same hm)) (k1.trans z.2) h1) (fun q=>hne (List.length_eq_zero_iff.mp (by rw [← g4.len,q];rfl))) (by rw [g2.len,g4.len];exact hz)
 all_goals exact (show False from h1).elim
theorem augS_sound (hr:r.Sound e tb R) (fr:FrOk e tb R F ns xp) {o i:Expr} {p:Pos} {value:Expr} {op:Operator} {pos:Pos} {rest:List Stmt} {Q:Fst→Prop} {R':Flow→LM→AH→Prop} (S:SimF e F s m H) (h:W R xp (aug r ns (.Subscript o i p) op value s) Q) (k:Nxt e F H Q rest R'):PS e.g F m H (execs (.AugAssign (.Subscript o i p) op value pos::rest) F.env) R':=by
 obtain ⟨q,h⟩:=h.chk
 have hn:=Option.isNone_iff_eq_none.mp q
 refine q_augS ((hr.E fr S (W.bind _ h)).then fun v H1 x s1 a1 S1 k1 h1=>(hr.E fr S1 (W.bind _ h1)).then fun w H2 y s2 a2 S2 k2 h2=>?_) (aug_plain hn)
 have b1:Rep e.ad H2 x v:=Rep.fz k2 x a1
 refine b1.dCell (D:=fun v=>PW e.g F m H2 (getItem v w) fun old H3=>PW e.g F m H3 (eval value F.env) fun u H4=>PW e.g F m H4 (inplaceOp op old u) fun new H5=>PW e.g F m H5 (setItem v w new) fun _ H6=>PS e.g F m H6 (execs rest F.env) R') h2 fun j hj h2=>?_
 refine (subOf_sound (o:=o) (i:=i) (subscripted_plain hn) (lv:=.v (.cell j)) (Rep.cell (ad:=e.ad) (H:=H2)) a2 S2 (W.bind _ h2)).2.then fun old H3 u s3 a3 S3 k3 h3=>(hr.E fr S3 (W.bind _ h3)).then fun z H4 y' s4 a4 S4 k4 h4=>?_
 obtain ⟨n1,t1,rfl,h4⟩:=(Rep.fz k4 u a3).dIntE h4
 obtain ⟨n2,t2,rfl,h4⟩:=a4.dIntE h4
 refine iop_sound h4 fun n tk h4=>?_
 exact (stor_sound fr (Rep.cell (ad:=e.ad) (H:=H4)) (Rep.fz (k3.trans k4) _ a2) .int S4 h4).mono fun _ H5 z=>z.elim fun s' z=>k _ _ _ z.1 ((((k1.trans k2).trans k3).trans k4).trans z.2.1) z.2.2
theorem aug_sound (hr:r.Sound e tb R) (fr:FrOk e tb R F ns xp) {t value:Expr} {op:Operator} {pos:Pos} {rest:List Stmt} {Q:Fst→Prop} {R':Flow→LM→AH→Prop} (S:SimF e F s m H) (h:W R xp (aug r ns t op value s) Q) (k:Nxt e F H Q rest R'):PS e.g F m H (execs (.AugAssign t op value pos::rest) F.env) R':=by
 induction t using Expr.casesOn
 case Subscript=>exact augS_sound hr fr S h k
 case Name=>exact augN_sound hr fr S h k
 all_goals exact (show False from h).elim
theorem callArg_spec {f:Str} {x:Expr} {as:List Expr} (h:callArg f x=some as):∃ p q,x=.Call (.Name f p) as [] q:=by
 induction x using Expr.casesOn
 case Call g as' ks q=>
  refine ifs (show (if (nameOf g=some f&&ks.isEmpty)=true then some as' else none)=some as from h) (fun z h'=>?_) fun _ h=>noneE h
  have bq:=Bool.and_eq_true_iff.mp z
  have z1:=bq.1
  have z2:=bq.2
  obtain ⟨p,rfl⟩:=nameOf_spec (of_decide_eq_true z1)
  rw [Option.some.inj h',List.isEmpty_iff.mp z2]
  exact ⟨p,q,rfl⟩
 all_goals exact noneE h
theorem folded_plain {x:Expr} (h:isSet x=false) (env:Env) (v:Value):foldedSetIterable x env v=pure v:=by
 induction x using Expr.casesOn<;>first | rfl | exact ftE h.symm
noncomputable def Go (e:Mc) (F:Fx) (m:LM) (H:AH) (rest:List Stmt) (G:Fl→Fst→Prop) (Q:Fl × Fst→Prop):Prop:=∀ fl s fl' m' H',G fl s→FlRep e.ad H' fl fl'→SimF e F s m' H'→Fz H H'→NX e.g F rest (PostS e F H Q) fl' m' H'
noncomputable def BodyOk (e:Mc) (tb:Tabs) (R:Addr→List V→List Root→(Out→Prop)→Prop) (ns:List (Str × NameKind)) (xp:Str→Int→Prop) (b:List Stmt) (t:Fst→Tr (Fl × Fst)):Prop:=∀ {F m H s Q},FrS e tb R F ns xp→SimF e F s m H→W R xp (t s) Q→PS e.g F m H (execs b F.env) (PostS e F H Q)
theorem turn_end {fl:Flow} {m':LM} {H0 H':AH} {rest:List Stmt} {I:Fst→Prop} {D:Fl→Fst→Prop} {Q:Fl × Fst→Prop} {nxt:LM→AH→Prop} {p:Fl × Fst} (hf:FlRep e.ad H' p.1 fl) (S:SimF e F p.2 m' H') (k:Fz H0 H')
  (h:W R xp (turnE (.ret p)) (Again I D)) (hn:I p.2→nxt m' H') (go:Go e F m H0 rest D Q):TurnEnd (NX e.g F rest (PostS e F H0 Q)) nxt fl m' H':=by
 obtain ⟨f,s'⟩:=p
 cases f with
 | next=>rw [show fl=.next from hf];exact hn h
 | brk=>rw [show fl=.brk from hf];exact go .next s' .next m' H' h rfl S k
 | ret v=>exact hf.elim fun w z=>z.1▸go (.ret v) s' (.ret _) m' H' h ⟨w,rfl,z.2⟩ S k
theorem body_turn {b rest:List Stmt} {t:Fst→Tr (Fl × Fst)} {I:Fst→Prop} {D:Fl→Fst→Prop} {H0:AH} {Q:Fl × Fst→Prop} {nxt:LM→AH→Prop} (B:BodyOk e tb R ns xp b t) (fr:FrS e tb R F ns xp) {F':Fx} (l:F.Like F') (ok:F'.Ok) (S:SimF e F' s m H) (k:Fz H0 H) (h:W R xp (turnE (t s)) (Again I D))
  (hn:∀ s' m' H',I s'→SimF e F s' m' H'→Fz H H'→nxt m' H') {m0:LM} (go:Go e F m0 H0 rest D Q):PS e.g F' m H (execs b F'.env) (TurnEnd (NX e.g F rest (PostS e F H0 Q)) nxt):=
 (B (fr.like l ok) S (W.bind (t s) h)).mono fun fl m' H' z=>z.elim fun p z=>turn_end z.1 (z.2.1.like l.H0.symm) (k.trans z.2.2.1) z.2.2.2 (fun hI=>hn _ _ _ hI (z.2.1.like l.H0.symm) z.2.2.1) go
theorem Fx.Like.refl (F:Fx):F.Like F:=⟨rfl,rfl,rfl,rfl,rfl,rfl,rfl,rfl⟩
theorem evWh_sound (hr:r.Sound e tb R) (fr:FrS e tb R F ns xp) {test:Expr} {b rest:List Stmt} {pos:Pos} {t:Fst→Tr (Fl × Fst)} {k:Fl→Fst→Tr (Fl × Fst)} {Q:Fl × Fst→Prop} (B:BodyOk e tb R ns xp b t) (S:SimF e F s m H) (h:W R xp (.loop (evWh r ns test t) s k) Q) (go:Go e F m H rest (fun fl s=>W R xp (k fl s) Q) Q):PS e.g F m H (execs (.While test b [] pos::rest) F.env) (PostS e F H Q):=by
 replace h:=W.loopE h
 obtain ⟨I,n,h0,h⟩:=h
 refine q_while fr.ok (fun n m' H'=>∃ s,I n s∧SimF e F s m' H'∧Fz H H') n ⟨s,h0,S,.refl H⟩ fun n m1 H1 z=>?_
 obtain ⟨s1,hI,S1,k1⟩:=z
 refine (hr.T fr.toFrOk S1 (W.bind _ (h n s1 hI))).then fun v H2 b' s2 a2 S2 k2 h2=>?_
 subst a2
 cases v
 ·exact go .next s2 .next _ _ h2 rfl S2 (k1.trans k2)
 ·exact body_turn B fr (.refl F) fr.ok S2 (k1.trans k2) h2 (fun s' m' H' hI S' k'=>hI.imp fun j hj=>⟨hj.1,s',hj.2,S',(k1.trans k2).trans k'⟩) go
theorem evFt_sound (fr:FrS e tb R F ns xp) {tg:Expr} {b rest:List Stmt} {t:Fst→Tr (Fl × Fst)} {x:V} {w:Value} {I:Fst→Prop} {D:Fl→Fst→Prop} {H0:AH} {Q:Fl × Fst→Prop} {nxt:LM→AH→Prop} (B:BodyOk e tb R ns xp b t) {F':Fx} (l:F.Like F') (ok:F'.Ok) (hx:Rep e.ad H x w) (S:SimF e F s m H) (k:Fz H0 H) (h:W R xp (evFt ns tg t x s) (Again I D))
  (hn:∀ s' m' H',I s'→SimF e F s' m' H'→Fz H H'→nxt m' H') {m0:LM} (go:Go e F m0 H0 rest D Q):PS e.g F' m H (assign tg F'.env w) fun _ m1 H1=>PS e.g F' m1 H1 (execs b F'.env) (TurnEnd (NX e.g F rest (PostS e F H0 Q)) nxt):=
 (tgt_sound (fr.like l ok).toFrOk hx (S.like l.H0) (W.bind _ h)).mono fun _ m3 H3 z=>z.elim fun s3 z=>body_turn B fr l ok z.1 (k.trans z.2.1) z.2.2 (fun s' m' H' hI S' k'=>hn s' m' H' hI S' (z.2.1.trans k')) go
theorem evFor_sound (hr:r.Sound e tb R) (fr:FrS e tb R F ns xp) {tg it:Expr} {b rest:List Stmt} {pos:Pos} {t:Fst→Tr (Fl × Fst)} {k:Fl→Fst→Tr (Fl × Fst)} {Q:Fl × Fst→Prop} (B:BodyOk e tb R ns xp b t) (S:SimF e F s m H) (h:W R xp (evFor tb r ns tg it t s k) Q) (go:Go e F m H rest (fun fl s=>W R xp (k fl s) Q) Q):PS e.g F m H (execs (.For tg it b [] pos::rest) F.env) (PostS e F H Q):=by
 obtain ⟨q,h⟩:=h.chk
 refine q_for ?_ (folded_plain ((Bool.not_eq_true' _).mp q) _)
 cases hra:callArg "range" it with
 | some es=>
  rw [hra] at h
  obtain ⟨fp,cp,rfl⟩:=callArg_spec hra
  obtain ⟨q,h⟩:=h.chk
  have bq:=Bool.and_eq_true_iff.mp q
  have q2:=bq.2
  have bq:=Bool.and_eq_true_iff.mp q2
  have q2:=bq.1
  have q3:=bq.2
  refine h.opt fun x hx h=>?_
  rw [one?_spec hx] at q3 ⊢
  refine IsBi.call (id:=.type "range") fr.toFrOk ⟨bb_range,by simp,_,.inr rfl⟩ (beq_iff_eq.mp q2) q3 (p_args_cons ((hr.E fr.toFrOk S (W.bind _ h)).then fun v H1 y s1 a1 S1 k1 h1=>p_args_nil ?_) (starEach_cons (noStar_cons q3).1 _ _))
  obtain ⟨n,tk,rfl,h1⟩:=a1.dIntE h1
  obtain ⟨hn,h1⟩:=h1.need
  replace h1:=W.forlE h1
  obtain ⟨I,h0,ht,hf⟩:=h1
  refine p_range fun a ha=>?_
  have S1':=S1.ext fr.E (Ext.set (o:=.rng n) ha)
  have k1':=k1.trans (.ofExt (Ext.set (o:=.rng n) ha))
  refine q_forRange fr.ok AH.set_self hn.1 hn.2 (fun i m' H'=>∃ s,I i s∧SimF e F s m' H'∧Fz H H') (fun H2 hx=>⟨s1,h0,S1'.ext fr.E hx,k1'.trans (.ofExt hx)⟩) (fun F' i tk' m2 H2 like ok' hi z=>?_) (fun m2 H2 H3 z ni=>?_)
  ·obtain ⟨s2,hI,S2,k2⟩:=z
   exact evFt_sound fr B like ok' (.int (t:=tk')) S2 k2 (ht i s2 (by lia) hI) (fun s' m' H' hI S' k'=>⟨s',hI,S',k2.trans k'⟩) go
  ·obtain ⟨s2,hI,S2,k2⟩:=z
   exact go .next s2 .next _ _ (hf _ hI) rfl (S2.notIt fr.E ni) (k2.trans (.ofNotIt ni))
 | none=>
  rw [hra] at h
  refine (hr.E fr.toFrOk S (W.bind _ h)).then fun v H1 y s1 a1 S1 k1 h1=>?_
  obtain ⟨l,a,ws,rfl,g1,g2,h1⟩:=a1.dLstE h1
  replace h1:=W.forlE h1
  obtain ⟨I,h0,ht,hf⟩:=h1
  refine q_forList fr.ok g1 (fun i m' H'=>∃ s,I i s∧SimF e F s m' H'∧Fz H H'∧Fz H1 H') (fun i m' H' z=>z.elim fun _ z=>⟨0,z.2.2.2 _ _ g1 rfl id⟩) (fun H2 hx=>⟨s1,h0,S1.ext fr.E hx,k1.trans (.ofExt hx),.ofExt hx⟩) (fun F' i w m2 H2 like ok' hi z=>?_) (fun m2 H2 H3 z ni=>?_)
  ·obtain ⟨s2,hI,S2,k2,k2'⟩:=z
   obtain ⟨xv,e1,e2⟩:=g2.get' hi
   have hw:=ht i s2 (List.getElem?_eq_some_iff.mp e1).1 hI
   rw [List.getD_eq_getElem?_getD,e1] at hw
   exact evFt_sound fr B like ok' (Rep.fz k2' xv e2) S2 k2 hw (fun s' m' H' hI S' k'=>⟨s',hI,S',k2.trans k',k2'.trans k'⟩) go
  ·obtain ⟨s2,hI,S2,k2,k2'⟩:=z
   rw [g2.len] at hI
   exact go .next s2 .next _ _ (hf _ hI) rfl (S2.notIt fr.E ni) (k2.trans (.ofNotIt ni))
theorem evRs_sound (hr:r.Sound e tb R) (fr:FrS e tb R F ns xp) {x:Expr} {rest:List Stmt} {pos:Pos} {Q:Fl × Fst→Prop} {R':Flow→LM→AH→Prop} (S:SimF e F s m H) (h:W R xp (evRs r ns x s) Q):PS e.g F m H (execs (.Raise (some x) none pos::rest) F.env) R':=by
 refine h.opt fun args ha h=>?_
 obtain ⟨fp,cp,rfl⟩:=callArg_spec ha
 obtain ⟨q,h⟩:=h.chk
 have bq:=Bool.and_eq_true_iff.mp q
 have q1:=bq.1
 have q2:=bq.2
 refine fr.raise fr.ok fr.r2 (fr.sc.kg (beq_iff_eq.mp q2)) (back_plain q1).1 ((evL_sound hr fr.toFrOk S (W.bind _ h)).then fun vs H1 l s1 a1 S1 k1 h1=>?_)
 rcases l with _ | ⟨x,_ | ⟨y,_ | _⟩⟩
 ·exact (show False from h1).elim
 ·exact (show False from h1).elim
 ·refine a1.un (C:=fun vs=>∃ k n t1 t2,vs=[.str k t1,.int n t2]∧∀ dx,H1 dx=none→F.X k n m (H1.set dx (.dict 0 [("kind",.str k t1),("at",.int n t2)]))) fun u us a b=>b.un (C:=fun us=>∃ k n t1 t2,u::us=[.str k t1,.int n t2]∧∀ dx,H1 dx=none→F.X k n m (H1.set dx (.dict 0 [("kind",.str k t1),("at",.int n t2)]))) fun w ws b c=>?_
  rw [show ws=[] from c]
  refine a.dStr (D:=fun u=>∃ k n t1 t2,[u,w]=[.str k t1,.int n t2]∧∀ dx,H1 dx=none→F.X k n m (H1.set dx (.dict 0 [("kind",.str k t1),("at",.int n t2)]))) h1 fun k t h1=>?_
  obtain ⟨n,u,rfl,h1⟩:=b.dIntE h1
  exact ⟨k,n,t,u,rfl,fun dx _=>fr.X _ _ _ _ h1⟩
 ·exact (show False from h1).elim
theorem goF_ok {rest:List Stmt} {t:Fst→Tr (Fl × Fst)} {Q:Fl × Fst→Prop} (B:BodyOk e tb R ns xp rest t) (fr:FrS e tb R F ns xp) {m:LM} {H:AH}:Go e F m H rest (fun fl s=>W R xp (goF t fl s) Q) Q:=by
 intro fl s fl' m' H' hg hf S k
 cases fl with
 | next=>rw [show fl'=.next from hf];exact (B fr S hg).mono fun _ _ _ z=>z.fz k
 | brk=>rw [show fl'=.brk from hf];exact ⟨(.brk,s),rfl,S,k,hg⟩
 | ret v=>exact hf.elim fun w z=>z.1▸⟨(.ret v,s),⟨w,rfl,z.2⟩,S,k,hg⟩
theorem evS_sound (hr:r.Sound e tb R) (d:Nat):∀ (sts:List Stmt),BodyOk e tb R ns xp sts (evS tb r ns d sts):=by
 induction d with
 | zero=>exact fun _ _ _ _ _ _ _ _ h=>h.elim
 | succ d ih=>
  intro sts F m H s Q fr S h
  cases sts with
  | nil=>exact q_nil ⟨(.next,s),rfl,S,.refl H,h⟩
  | cons st rest=>
   have nxt:Nxt e F H (fun s=>W R xp (evS tb r ns d rest s) Q) rest (PostS e F H Q):=fun s' m' H' S' k h'=>(ih rest fr S' h').mono fun _ _ _ z=>z.fz k
   induction st using Stmt.casesOn
   case Return x pos=>
    refine h.opt fun y hy h=>?_
    rw [hy]
    exact q_ret ((hr.E fr.toFrOk S (W.bind _ h)).then fun v H1 x s1 a1 S1 k1 h1=>⟨(.ret x,s1),⟨v,rfl,a1⟩,S1,k1,h1⟩)
   case Assign ts v pos=>
    refine h.opt fun t ht h=>?_
    rw [one?_spec ht]
    exact asg_sound hr fr.toFrOk S (W.bind _ h) nxt
   case AugAssign t op v pos=>exact aug_sound hr fr.toFrOk S (W.bind _ h) nxt
   case Expr x pos=>
    obtain ⟨q,h⟩:=h.chk
    exact q_ex fr.ok (swaps_no ((Bool.not_eq_true' _).mp q) _ _ _) ((hr.E fr.toFrOk S (W.bind _ h)).then fun v H1 x s1 a1 S1 k1 h1=>nxt _ _ _ S1 k1 h1)
   case Pass pos=>exact q_pass (ih rest fr S h)
   case Break pos=>exact q_brk ⟨(.brk,s),rfl,S,.refl H,h⟩
   case If t b o pos=>
    refine q_if ((hr.T fr.toFrOk S (W.bind _ h)).then fun v H1 c s1 a1 S1 k1 h1=>?_)
    subst a1
    have h2:=W.bind _ h1
    have fin:∀ {sts},BodyOk e tb R ns xp sts (evS tb r ns d sts)→W R xp (evS tb r ns d sts s1) (fun q=>W R xp (goF (evS tb r ns d rest) q.1 q.2) Q)→PS e.g F m H1 (execs sts F.env) (NX e.g F rest (PostS e F H Q)):=fun B h=>(B fr S1 h).mono fun fl m' H' z=>z.elim fun p z=>goF_ok (ih rest) fr (m:=m) _ _ _ _ _ z.2.2.2 z.1 z.2.1 (k1.trans z.2.2.1)
    cases v
    ·exact fin (ih o) h2
    ·exact fin (ih b) h2
   case While t b o pos=>
    obtain ⟨q,h⟩:=h.chk
    rw [List.isEmpty_iff.mp q]
    exact evWh_sound hr fr (ih b) S h (goF_ok (ih rest) fr)
   case For t it b o pos=>
    obtain ⟨q,h⟩:=h.chk
    rw [List.isEmpty_iff.mp q]
    exact evFor_sound hr fr (ih b) S h (goF_ok (ih rest) fr)
   case Raise x c pos=>
    refine h.opt fun y hy h=>?_
    obtain ⟨q,h⟩:=h.chk
    rw [hy,Option.isNone_iff_eq_none.mp q]
    exact evRs_sound hr fr S h
   all_goals exact (show False from h).elim
end
end Internal
end
section
namespace Internal
open PySem PySem.W PyProof.Rows
section
noncomputable def fdO:Option Obj→FuncData
 | some ⟨_,_,.func fd,_⟩=>fd
 | _=>⟨"","",⟨[],[],none,[],[],none,[]⟩,.stmts [],⟨.function,[],false,false,[]⟩,0,[],.none,.none,.none,.none,none,.none,.none,0⟩
noncomputable def fdOf (K:Frag) (f:Addr):FuncData:=fdO (K.lookup f)
noncomputable def isFunc (K:Frag) (f:Addr):Bool:=match K.lookup f with | some ⟨_,_,d,_⟩=>Nat.beq d.ctorIdx (Data.func default).ctorIdx | none=>false
noncomputable def bodyF (fd:FuncData):List Stmt:=match fd.body with | .stmts b=>b | _=>[]
noncomputable def isStmts (fd:FuncData):Bool:=match fd.body with | .stmts _=>true | _=>false
noncomputable def bodyOf (K:Frag) (f:Addr):List Stmt:=bodyF (fdOf K f)
noncomputable def parOf (K:Frag) (f:Addr):List Str:=(fdOf K f).params.args.map (·.arg)
noncomputable def fdChk (K:Frag) (fd:FuncData):Bool:=fd.globals==mainGlobals&&(fd.builtins==builtinsNs&&(codeIn K fd.code fd.qualname&&(isStmts fd&&(!fd.scope.isCoroutine&&(!fd.scope.isGenerator&&(fd.scope.kind==.function&&((fd.scope.names.lookup ("__debug__" : Str)).isNone&&fd.params.args.all fun x=>fd.scope.names.lookup x.arg==some .local)))))))
noncomputable def fnChk (K:Frag) (f:Addr):Bool:=isFunc K f&&(fdChk K (fdOf K f)&&(fdOf K f).scope.names.all (fun x=>!isCell x.2))
noncomputable def unOf (K:Frag) (f:Addr):List (Str × LV):=((fdOf K f).scope.names.filter fun x=>x.2==.local&&!(parOf K f).contains x.1).map fun x=>(x.1,.un)
noncomputable def treeOf (tb:Tabs) (K:Frag) (f:Addr) (as:List V) (r:List Root):Tr (Fl × Fst):=evS tb (ev tb 30) (fdOf K f).scope.names 60 (bodyOf K f) ⟨((parOf K f).zip (as.map .v)).reverse++unOf K f,r⟩
noncomputable def retV (f:Fl):V:=match f with | .ret v=>v | _=>.none
theorem isFunc_spec {K:Frag} {f:Addr} (h:isFunc K f=true):∃ cls od sl,K.lookup f=some ⟨cls,od,.func (fdOf K f),sl⟩:=by
 unfold isFunc at h
 unfold fdOf
 generalize K.lookup f=x at h ⊢
 rcases x with _ | ⟨cls,od,d,sl⟩
 ·exact ftE h
 exact Data.func.elim (motive:=fun d=>∃ c o s,some (⟨cls,od,d,sl⟩:Obj)=some ⟨c,o,.func (fdO (some ⟨cls,od,d,sl⟩)),s⟩) d (Nat.eq_of_beq_eq_true h) fun _=>⟨_,_,_,rfl⟩
theorem body_spec {fd:FuncData} (h:isStmts fd=true):fd.body=.stmts (bodyF fd):=by
 unfold isStmts at h
 unfold bodyF
 generalize fd.body=b at h ⊢
 induction b using FuncBody.casesOn
 case stmts b=>rfl
 all_goals exact ftE h
structure FdOk (K:Frag) (f:Addr):Prop where
 at_:∃ cls od sl,K.lookup f=some ⟨cls,od,.func (fdOf K f),sl⟩
 glb:(fdOf K f).globals=mainGlobals
 blt:(fdOf K f).builtins=builtinsNs
 code:codeIn K (fdOf K f).code (fdOf K f).qualname=true
 body:(fdOf K f).body=.stmts (bodyOf K f)
 co:(fdOf K f).scope.isCoroutine=false
 gen:(fdOf K f).scope.isGenerator=false
 kind:(fdOf K f).scope.kind=.function
 dbg:(fdOf K f).scope.names.lookup ("__debug__" : Str)=none
 par:∀ x ∈ parOf K f,(fdOf K f).scope.names.lookup x=some .local
theorem fdChk_spec {K:Frag} {f:Addr} (h0:isFunc K f=true) (h:fdChk K (fdOf K f)=true):FdOk K f:=by
 have bq:=Bool.and_eq_true_iff.mp h
 have h1:=bq.1
 have h:=bq.2
 have bq:=Bool.and_eq_true_iff.mp h
 have h2:=bq.1
 have h:=bq.2
 have bq:=Bool.and_eq_true_iff.mp h
 have h3:=bq.1
 have h:=bq.2
 have bq:=Bool.and_eq_true_iff.mp h
 have h4:=bq.1
 have h:=bq.2
 have bq:=Bool.and_eq_true_iff.mp h
 have h5:=bq.1
 have h:=bq.2
 have bq:=Bool.and_eq_true_iff.mp h
 have h6:=bq.1
 have h:=bq.2
 have bq:=Bool.and_eq_true_iff.mp h
 have h7:=bq.1
 have h:=bq.2
 have bq:=Bool.and_eq_true_iff.mp h
 have h8:=bq.1
 have h9:=bq.2
 exact ⟨isFunc_spec h0,beq_iff_eq.mp h1,beq_iff_eq.mp h2,h3,body_spec h4,(Bool.not_eq_true' _).mp h5,(Bool.not_eq_true' _).mp h6,beq_iff_eq.mp h7,Option.isNone_iff_eq_none.mp h8,fun x hx=>by
  obtain ⟨y,hy,rfl⟩:=List.mem_map.mp hx
  exact beq_iff_eq.mp (List.all_eq_true.mp h9 y hy)⟩
theorem FdOk.fn {K:Frag} {f:Addr} (h:FdOk K f) (hc:∀ x ∈ (fdOf K f).scope.names,x.2≠.cell):FnOk K f (fdOf K f) (bodyOf K f):=⟨h.at_,h.glb,h.blt,h.code,h.body,hc,h.co,h.gen,h.kind⟩
theorem fnChk_spec {K:Frag} {f:Addr} (h:fnChk K f=true):FdOk K f∧FnOk K f (fdOf K f) (bodyOf K f):=by
 have bq:=Bool.and_eq_true_iff.mp h
 have h0:=bq.1
 have h:=bq.2
 have bq:=Bool.and_eq_true_iff.mp h
 have h1:=bq.1
 have h2:=bq.2
 have F:=fdChk_spec h0 h1
 exact ⟨F,F.fn fun x hx q=>by have:=List.all_eq_true.mp h2 x hx;rw [q] at this;exact ftE this⟩
section
variable {e:Mc} {F:Fx} {H:AH}
noncomputable def GM (ad:Nat→Addr) (H:AH) (G:List (Str × V)) (m:LM):Prop:=∀ y v,dlook y G=some v→∃ w,look m y=some w∧Rep ad H v w
theorem dlook_app {y:Str} {G G':List (Str × V)}:dlook y (G++G')=(dlook y G).or (dlook y G'):=by
 induction G with
 | nil=>rfl
 | cons p r ih=>
  show (if p.1=y then some p.2 else dlook y (r++G'))=(if p.1=y then some p.2 else dlook y r).or _
  by_cases q:p.1=y
  ·rw [if_pos q,if_pos q];rfl
  ·rw [if_neg q,if_neg q,ih]
theorem look_app {y:Str} {m m':LM}:look (m++m') y=(look m y).or (look m' y):=by
 induction m with
 | nil=>rfl
 | cons p r ih=>
  show (if y=p.1 then some p.2 else look (r++m') y)=(if y=p.1 then some p.2 else look r y).or _
  by_cases q:y=p.1
  ·rw [if_pos q,if_pos q];rfl
  ·rw [if_neg q,if_neg q,ih]
theorem GM.zip {ad:Nat→Addr} {as:List V}:∀ {xs:List Str} {ws:List Value},Reps ad H as ws→GM ad H (xs.zip as).reverse (xs.zip ws).reverse:=by
 have key:∀ (as:List V) (xs:List Str) (ws:List Value),Reps ad H as ws→∀ y,(∀ v,dlook y (xs.zip as).reverse=some v→∃ w,look (xs.zip ws).reverse y=some w∧Rep ad H v w)∧(dlook y (xs.zip as).reverse=none→look (xs.zip ws).reverse y=none):=by
  intro as
  induction as with
  | nil=>
   intro xs ws h y
   rw [show ws=[] from h,List.zip_nil_right,List.zip_nil_right]
   exact ⟨fun v q=>noneE q,fun _=>rfl⟩
  | cons a as ih=>
   intro xs ws h y
   refine h.un (C:=fun ws=>(∀ v,dlook y (xs.zip (a::as)).reverse=some v→∃ w,look (xs.zip ws).reverse y=some w∧Rep ad H v w)∧(dlook y (xs.zip (a::as)).reverse=none→look (xs.zip ws).reverse y=none)) fun w ws p q=>?_
   cases xs with
   | nil=>exact ⟨fun v q=>noneE q,fun _=>rfl⟩
   | cons x xs=>
    obtain ⟨i1,i2⟩:=ih xs ws q y
    rw [List.zip_cons_cons,List.reverse_cons,dlook_app,List.zip_cons_cons,List.reverse_cons,look_app]
    cases hd:dlook y (xs.zip as).reverse with
    | some v=>
     obtain ⟨w',z1,z2⟩:=i1 v hd
     rw [z1]
     exact ⟨fun v' q=>⟨w',rfl,Option.some.inj q▸z2⟩,fun q=>noneE q.symm⟩
    | none=>
     rw [i2 hd]
     show (∀ v,(if x=y then some a else none)=some v→∃ w',(if y=x then some w else none)=some w'∧_)∧((if x=y then some a else none)=none→(if y=x then some w else none)=none)
     by_cases hx:x=y
     ·rw [if_pos hx,if_pos hx.symm]
      exact ⟨fun v q=>⟨w,rfl,Option.some.inj q▸p⟩,fun q=>noneE q.symm⟩
     ·rw [if_neg hx,if_neg fun z=>hx z.symm]
      exact ⟨fun v q=>noneE q,fun _=>rfl⟩
 exact fun {xs ws} h y v q=>(key as xs ws h y).1 v q
theorem glook_v {x:Str} {lv:LV} {U:List (Str × LV)} (hU:∀ p ∈ U,p.2=.un) {G:List (Str × V)}:glook x (G.map (fun p=>(p.1,LV.v p.2))++U)=some lv→∃ v,lv=.v v∧dlook x G=some v:=by
 induction G with
 | nil=>
  intro h
  induction U with
  | nil=>exact noneE h
  | cons p U ih=>
   exact ifs (show (if x=p.1 then p.2.vis else glook x U)=some lv from h) (fun _ h=>by rw [hU p (.head _)] at h;exact noneE h) fun _ h=>ih (fun q hq=>hU q (.tail _ hq)) h
 | cons p G ih=>
  intro h
  refine ifs (show (if x=p.1 then some (LV.v p.2) else glook x (G.map (fun p=>(p.1,LV.v p.2))++U))=some lv from h) (fun q h=>⟨p.2,(Option.some.inj h).symm,if_pos q.symm⟩) fun q h=>?_
  obtain ⟨v,h1,h2⟩:=ih h
  exact ⟨v,h1,(if_neg fun z=>q z.symm).trans h2⟩
theorem unOf_un {K:Frag} {f:Addr}:∀ p ∈ unOf K f,p.2=.un:=fun p hp=>by
 obtain ⟨x,_,rfl⟩:=List.mem_map.mp hp;rfl
theorem zip_v {xs:List Str} {as:List V}:(xs.zip (as.map LV.v)).reverse=((xs.zip as).reverse).map fun p=>(p.1,LV.v p.2):=by
 rw [List.map_reverse,List.zip_map_right]
 congr 1
noncomputable def BindD (K:Frag) (f:Addr) (n:Nat) (ds:List Value):Prop:=∀ ws:List Value,ws.length=n→∀ s:Shared,K.In s.heap→BindsTo s (fdOf K f) ⟨ws,[]⟩ ((parOf K f).zip (ws++ds))
noncomputable abbrev BindOk (K:Frag) (f:Addr) (n:Nat):Prop:=BindD K f n []
theorem lenS {ws:List Value} {n:Nat} {C:List Value→Prop} (h:ws.length=n+1) (k:∀ a ws',ws'.length=n→C (a::ws')):C ws:=by
 cases ws with
 | nil=>exact by injection h
 | cons a ws=>exact k a ws (Nat.succ.inj h)
theorem len0 {ws:List Value} {C:List Value→Prop} (h:ws.length=0) (k:C []):C ws:=List.length_eq_zero_iff.mp h▸k
theorem len1 {ws:List Value} {C:List Value→Prop} (h:ws.length=1) (k:∀ a,C [a]):C ws:=lenS h fun a ws h=>len0 (C:=fun ws=>C (a::ws)) h (k a)
theorem len2 {ws:List Value} {C:List Value→Prop} (h:ws.length=2) (k:∀ a b,C [a,b]):C ws:=lenS h fun a ws h=>len1 (C:=fun ws=>C (a::ws)) h (k a)
theorem len3 {ws:List Value} {C:List Value→Prop} (h:ws.length=3) (k:∀ a b c,C [a,b,c]):C ws:=lenS h fun a ws h=>len2 (C:=fun ws=>C (a::ws)) h (k a)
theorem len4 {ws:List Value} {C:List Value→Prop} (h:ws.length=4) (k:∀ a b c d,C [a,b,c,d]):C ws:=lenS h fun a ws h=>len3 (C:=fun ws=>C (a::ws)) h (k a)
noncomputable def runB {α:Type} (K:Frag) (n:Nat):Sem α→Option α:=n.rec (fun _=>none) fun _ ih t=>match t with
 | .pure a=>some a
 | .load a p k=>(match p with | none=>(K.lookup a).bind fun o=>ih (k o) | some _=>none)
 | _=>none
theorem runB_ok {α:Type} {K:Frag} {M:Model} {A:Around} {E:Value→Shared→Prop} {s:Shared} (hK:K.In s.heap) {a:α} {Q:α→Shared→Prop} (hq:Q a s) (n:Nat):∀ {t:Sem α},runB K n t=some a→wpAny M A t Q E s:=by
 induction n with
 | zero=>exact fun h=>noneE h
 | succ n ih=>
  intro t h
  cases t
  case pure b=>exact wpAny_pure (Option.some.inj (show some b=some a from h)▸hq)
  case load b p k=>
   cases p with
   | some _=>exact noneE h
   | none=>
    obtain ⟨o,h1,h2⟩:=Option.bind_eq_some_iff.mp (show ((K.lookup b).bind fun o=>runB K n (k o))=some a from h)
    show wpAny M A (load b >>= k) Q E s
    exact wpAny_bind (wpAny_load (hK _ _ h1) (ih h2))
  all_goals exact noneE h
noncomputable abbrev BindN (K:Frag) (f:Addr) (ds ws:List Value):Prop:=runB K 5 (bindArgs (fdOf K f) ⟨ws,[]⟩)=some ((parOf K f).zip (ws++ds))
theorem BindD.of {K:Frag} {f:Addr} {n:Nat} {ds:List Value} (h:∀ ws:List Value,ws.length=n→BindN K f ds ws):BindD K f n ds:=fun ws hw s hK _ _ _ _ hq=>runB_ok hK hq 5 (h ws hw)
theorem BindD.o0 {K:Frag} {f:Addr} {ds:List Value} (h:BindN K f ds []):BindD K f 0 ds:=.of fun ws hw=>len0 hw h
theorem BindD.o1 {K:Frag} {f:Addr} {ds:List Value} (h:∀ a:Value,BindN K f ds [a]):BindD K f 1 ds:=.of fun ws hw=>len1 hw h
theorem BindD.o2 {K:Frag} {f:Addr} {ds:List Value} (h:∀ a b:Value,BindN K f ds [a,b]):BindD K f 2 ds:=.of fun ws hw=>len2 hw h
theorem BindD.o3 {K:Frag} {f:Addr} {ds:List Value} (h:∀ a b c:Value,BindN K f ds [a,b,c]):BindD K f 3 ds:=.of fun ws hw=>len3 hw h
theorem BindD.o4 {K:Frag} {f:Addr} {ds:List Value} (h:∀ a b c d:Value,BindN K f ds [a,b,c,d]):BindD K f 4 ds:=.of fun ws hw=>len4 hw h
theorem CC.by {tb:Tabs} (E:e.Ok) (tk:tb.Ok e) (raise:Raises e.g) (hc:tb.c=[]) {g:Nat} {f:Addr} {as:List V} {r:List Root} {H:AH} {ws:List Value} {Q:Value→AH→Prop} {X:Str→Int→AH→Prop} {xp:Str→Int→Prop} (hr:RootsRep e r H) (hw:Reps e.ad H as ws) (hx:∀ k n H,xp k n→X k n H) (hg:2≤g) (fn:fnChk e.g.K f=true)
  {ds:List V} {dv:List Value} (hd:∀ H,Reps e.ad H ds dv) (hbind:BindD e.g.K f as.length dv)
  (h:∀ F m H1,F.r=g→FrS e tb (GoodP e g) F (fdOf e.g.K f).scope.names xp→SimF e F ⟨((parOf e.g.K f).zip ((as++ds).map .v)).reverse++unOf e.g.K f,r⟩ m H1→Ext H H1 →
   PS e.g F m H1 (execs (bodyOf e.g.K f) F.env) fun fl _ H'=>Q (retOf fl) H'):CC e.g (g+1) 4 (.ref f) ws H Q X:=by
 obtain ⟨f0,f1⟩:=fnChk_spec fn
 refine CC.enter E.cok f1 f0.dbg (hbind ws hw.len) (fun x hx=>f0.par x.1 (List.of_mem_zip hx).1) (by decide) rfl ?_
 intro F H1 ok hT hrk sc _ hX hH0 hext hke
 have hgm:=GM.zip (ad:=e.ad) (xs:=parOf e.g.K f) (Reps.append (hd H1) (hw.fz (.ofExt hext)))
 refine h F _ H1 hrk ⟨⟨E,tk,ok,sc,hT,by rw [hX];exact fun k n _ H q=>hx k n H q,by rw [hrk];exact fun _ _ _ _ q=>q,fun x v k q=>by rw [hc] at q;exact noneE q⟩,by rw [hrk];exact hg,raise⟩ ?_ hext
 have gl:∀ {x lv},glook x (((parOf e.g.K f).zip ((as++ds).map .v)).reverse++unOf e.g.K f)=some lv→∃ v,lv=.v v∧dlook x ((parOf e.g.K f).zip (as++ds)).reverse=some v:=fun h=>glook_v unOf_un (by rw [← zip_v];exact h)
 exact ⟨fun x lv hx=>(gl hx).elim fun v z=>(hgm x v z.2).imp fun w q=>⟨q.1,by rw [z.1];exact q.2⟩,fun x y l l' v hx _ _ _=>(gl hx).elim fun v z=>(by injection z.1),RootsRep.ext E hr hext⟩
theorem GoodP.by {tb:Tabs} (E:e.Ok) (tk:tb.Ok e) (raise:Raises e.g) (hc:tb.c=[]) {g:Nat} {f:Addr} {as:List V} {r:List Root} {Z:Out→Prop} (hg:2≤g) (fn:fnChk e.g.K f=true)
  {ds:List V} {dv:List Value} (hd:∀ H,Reps e.ad H ds dv) (hbind:BindD e.g.K f as.length dv)
  (h:∀ F m H1,F.r=g→FrS e tb (GoodP e g) F (fdOf e.g.K f).scope.names (fun k n=>Z (.exc k n))→SimF e F ⟨((parOf e.g.K f).zip ((as++ds).map .v)).reverse++unOf e.g.K f,r⟩ m H1 →
   PS e.g F m H1 (execs (bodyOf e.g.K f) F.env) (PostS e F H1 fun p=>Z (.ok (retV p.1) p.2.r))):GoodP e (g+1) f as r Z:=fun H ws hr hw=>
 CC.by E tk raise hc hr hw (fun _ _ _ q=>q) hg fn hd hbind fun F m H1 hrk fr S _=>(h F m H1 hrk fr S).mono fun fl m' H' z=>by
  obtain ⟨p,a,b,c,d⟩:=z
  refine ⟨retV p.1,p.2.r,d,?_,b.roots⟩
  obtain ⟨q,s'⟩:=p
  cases q with
  | next=>rw [show fl=.next from a];exact .none
  | brk=>rw [show fl=.brk from a];exact .none
  | ret v=>exact a.elim fun w z=>z.1▸z.2
theorem GoodP.fnD {tb:Tabs} (E:e.Ok) (tk:tb.Ok e) (raise:Raises e.g) (hc:tb.c=[]) {g:Nat} {f:Addr} {as:List V} {r:List Root} {Z:Out→Prop} (hg:2≤g) (fn:fnChk e.g.K f=true)
  {ds:List V} {dv:List Value} (hd:∀ H,Reps e.ad H ds dv) (hbind:BindD e.g.K f as.length dv)
  (h:W (GoodP e g) (fun k n=>Z (.exc k n)) (treeOf tb e.g.K f (as++ds) r) fun p=>Z (.ok (retV p.1) p.2.r)):GoodP e (g+1) f as r Z:=
 GoodP.by E tk raise hc hg fn hd hbind fun F m H1 _ fr S=>evS_sound (ev_sound 30) 60 _ fr S h
theorem GoodP.fn {tb:Tabs} (E:e.Ok) (tk:tb.Ok e) (raise:Raises e.g) (hc:tb.c=[]) {g:Nat} {f:Addr} {as:List V} {r:List Root} {Z:Out→Prop} (hg:2≤g) (fn:fnChk e.g.K f=true) (hbind:BindOk e.g.K f as.length)
  (h:W (GoodP e g) (fun k n=>Z (.exc k n)) (treeOf tb e.g.K f as r) fun p=>Z (.ok (retV p.1) p.2.r)):GoodP e (g+1) f as r Z:=
 GoodP.fnD E tk raise hc hg fn (ds:=[]) (fun _=>.nil) hbind (by rw [List.append_nil];exact h)
end
section
variable {R:Addr→List V→List Root→(Out→Prop)→Prop} {xp:Str→Int→Prop} {α:Type}
noncomputable def rqC (t:Tr α):Option (Addr × List V × List Root):=match t with | .call f as r _=>some (f,as,r) | _=>none
noncomputable def rsC (t:Tr α) (v:V) (r:List Root):Tr α:=match t with | .call _ _ _ k=>k v r | _=>.stuck
noncomputable def prA (t:Tr α) (v:V):Prop:=match t with | .ask P _=>P v | _=>False
noncomputable def rsA (t:Tr α) (v:V):Tr α:=match t with | .ask _ k=>k v | _=>.stuck
noncomputable def rtR (t:Tr α):Option α:=match t with | .ret a=>some a | _=>none
noncomputable def rtX (t:Tr α):Option (Str × Int):=match t with | .exc k n=>some (k,n) | _=>none
theorem W.cp {t:Tr α} {f:Addr} {as:List V} {r:List Root} {Z:Out→Prop} {Q:α→Prop} (h:R f as r Z) (e:rqC t=some (f,as,r)) (k:∀ v r',Z (.ok v r')→W R xp (rsC t v r') Q) (kx:∀ kd n,Z (.exc kd n)→xp kd n):W R xp t Q:=by
 induction t using Tr.casesOn
 case call f' as' r' k'=>
  have e1:=Option.some.inj (show some (f',as',r')=some (f,as,r) from e)
  injection e1 with e1 e2
  injection e2 with e2 e3
  subst e1 e2 e3
  exact ⟨Z,h,k,kx⟩
 all_goals exact noneE e
theorem W.c {t:Tr α} {f:Addr} {as:List V} {r r':List Root} {v:V} {Q:α→Prop} (h:R f as r (fun x=>.ok v r'=x)) (e:rqC t=some (f,as,r)) (k:W R xp (rsC t v r') Q):W R xp t Q:=
 W.cp h e (fun v r' z=>by cases z;exact k) (fun kd n z=>by injection z)
theorem W.cx {t:Tr α} {f:Addr} {as:List V} {r:List Root} {kd:Str} {n:Int} {Q:α→Prop} (h:R f as r (fun x=>.exc kd n=x)) (e:rqC t=some (f,as,r)) (k:xp kd n):W R xp t Q:=
 W.cp h e (fun v r' z=>by injection z) (fun kd n z=>by cases z;exact k)
theorem W.a {t:Tr α} {v:V} {P:Prop} {Q:α→Prop} (h:P) (e:prA t v=P) (k:W R xp (rsA t v) Q):W R xp t Q:=by
 have h':prA t v:=e.symm▸h
 induction t using Tr.casesOn
 case ask P' k'=>exact ⟨v,h',k⟩
 all_goals exact (show False from h').elim
theorem W.r {t:Tr α} {a:α} {Q:α→Prop} (e:rtR t=some a) (h:Q a):W R xp t Q:=by
 induction t using Tr.casesOn
 case ret a'=>exact (Option.some.inj e)▸h
 all_goals exact noneE e
theorem W.x {t:Tr α} {kd:Str} {n:Int} {Q:α→Prop} (e:rtX t=some (kd,n)) (h:xp kd n):W R xp t Q:=by
 induction t using Tr.casesOn
 case exc k' n'=>
  have e1:=Option.some.inj (show some (k',n')=some (kd,n) from e)
  injection e1 with e1 e2
  subst e1 e2
  exact h
 all_goals exact noneE e
end
end
end Internal
end
section
namespace Internal
open PySem PySem.W PyProof.Rows
section
noncomputable def asgOf (st:Stmt):Option (Str × Expr):=match st with
 | .Assign ts x _=>(one? ts).bind fun t=>match xv t with | .attr o f _=>if nameOf o=some "self" then some (f,x) else none | _=>none
 | _=>none
noncomputable def simpleV (G:List (Str × V)) (x:Expr):Option V:=match x with
 | .Name x _=>dlook x G
 | .Constant k _ _=>(match k with
  | .none=>some .none
  | .bool b=>some (.bool b)
  | .str s=>some (.str s)
  | .int i=>some (.int i)
  | _=>none)
 | _=>none
noncomputable def initV (ks:List Str) (G:List (Str × V)) (body:List Stmt):List (Str × V)→Option (List (Str × V)):=body.rec (fun fs=>some fs) fun st _ ih fs=>(asgOf st).bind fun p=>(simpleV G p.2).bind fun v=>if (ks.contains p.1&&(!(fs.map (·.1)).contains p.1&&few fs.length))=true then ih (fs++[(p.1,v)]) else none
noncomputable def isNo (w:Option (Option Value)):Bool:=decide (w=some none)
theorem isNo_spec {w:Option (Option Value)} (h:isNo w=true):w=some none:=of_decide_eq_true h
noncomputable def isRef (a:Addr) (w:Option (Option Value)):Bool:=decide (w=some (some (.ref a)))
theorem isRef_spec {a:Addr} {w:Option (Option Value)} (h:isRef a w=true):w=some (some (.ref a)):=of_decide_eq_true h
noncomputable def isBt (t:String) (w:Option (Option Value)):Bool:=decide (w=some (some (.builtin t)))
theorem isBt_spec {t:String} {w:Option (Option Value)} (h:isBt t w=true):w=some (some (.builtin t)):=of_decide_eq_true h
noncomputable def isTy (t:String) (w:Option Value):Bool:=decide (w=some (.type t))
theorem isTy_spec {t:String} {w:Option Value} (h:isTy t w=true):w=some (.type t):=of_decide_eq_true h
noncomputable def clsChk (K:Frag) (C fI:Addr) (fs:List Str):Bool:=makesIn K C&&(isRef fI (findIn K (.ref C) "__init__")&&(isTy "function" (typeIn K (.ref fI))&&(fnChk K fI&&(isBt "object.__setattr__" (findIn K (.ref C) "__setattr__")&&(plainOver K C&&(hasDictIn K C&&fs.all fun f=>isNo (findIn K (.ref C) f)))))))
theorem stored_new {k:Str} {v:Value} {es:List (Str × Value)} (h:(es.map (·.1)).contains k=false):stored es k v=es++[(k,v)]:=by
 unfold stored
 rw [if_neg]
 intro q
 obtain ⟨kv,hk,e⟩:=List.any_eq_true.mp q
 exact ftE (h.symm.trans (List.contains_iff_mem.mpr (List.mem_map.mpr ⟨kv,hk,of_decide_eq_true e⟩)))
theorem asgOf_spec {st:Stmt} {p:Str × Expr} (h:asgOf st=some p):∃ sp ap pos,st=.Assign [.Attribute (.Name "self" sp) p.1 ap] p.2 pos:=by
 induction st using Stmt.casesOn
 case Assign ts x pos=>
  obtain ⟨t,h1,h2⟩:=Option.bind_eq_some_iff.mp (show ((one? ts).bind fun t=>match xv t with | .attr o f _=>if nameOf o=some "self" then some (f,x) else none | _=>none)=some p from h)
  rw [one?_spec h1]
  clear h h1
  induction t using Expr.casesOn
  case Attribute o f ap=>
   refine ifs (show (if nameOf o=some "self" then some (f,x) else none)=some p from h2) (fun q h=>?_) fun _ h=>noneE h
   obtain ⟨sp,rfl⟩:=nameOf_spec q
   rw [← Option.some.inj h]
   exact ⟨sp,ap,pos,rfl⟩
  all_goals exact noneE h2
 all_goals exact noneE h
section
variable {c:Cfg} {F:Fx} {m:LM} {H:AH} {ad:Nat→Addr} {ns:List (Str × NameKind)}
theorem simpleV_sound (ok:F.Ok) (sc:Sc F ns) {H':AH} {G:List (Str × V)} {x:Expr} {v:V} {Q:Value→AH→Prop} (h:simpleV G x=some v) (hg:∀ y u,dlook y G=some u→∃ w,look m y=some w∧Rep ad H u w∧ns.lookup y=some .local) (k:∀ w,Rep ad H v w→Q w H'):isComp x=false∧PW c F m H' (eval x F.env) Q:=by
 induction x using Expr.casesOn
 case Name y p=>
  obtain ⟨w,h1,h2,h3⟩:=hg y v h
  exact ⟨rfl,p_nl ok sc h1 h3 (k w h2)⟩
 case Constant c n p=>
  refine ⟨rfl,?_⟩
  cases c
  case none=>exact PW.const_none (k _ (Option.some.inj h▸.none))
  case bool=>exact PW.const_bool (k _ (Option.some.inj h▸.bool))
  case str=>exact PW.const_str fun t=>k _ (Option.some.inj h▸.str)
  case int=>exact PW.const_int fun t=>k _ (Option.some.inj h▸.int)
  all_goals exact noneE h
 all_goals exact noneE h
structure InitCx (c:Cfg) (F:Fx) (m:LM) (H:AH) (ns:List (Str × NameKind)) (ad:Nat→Addr) (ks:List Str) (G:List (Str × V)) (x dx C:Addr):Prop where
 cok:c.Ok
 ok:F.Ok
 sc:Sc F ns
 T:F.T=99
 hg:∀ y u,dlook y G=some u→∃ w,look m y=some w∧Rep ad H u w∧ns.lookup y=some .local
 self:look m "self" = some (.ref x)∧ns.lookup ("self" : Str)=some .local
 set:findIn c.K (.ref C) "__setattr__" = some (some (.builtin "object.__setattr__"))
 over:plainOver c.K C=true
 dict:hasDictIn c.K C=true
 no:∀ f,ks.contains f=true→findIn c.K (.ref C) f=some none
 ne:x≠dx
 hx:H x=some (.inst C dx)
 hdx:∀ o,H dx=some o→o.tag≠0
theorem init_sound {ks:List Str} {G:List (Str × V)} {x dx C:Addr} (I:InitCx c F m H ns ad ks G x dx C) {body:List Stmt}:∀ {fs fs':List (Str × V)} {es:List (Str × Value)},initV ks G body fs=some fs'→es.map (·.1)=fs.map (·.1)→Reps ad H (fs.map (·.2)) (es.map (·.2)) →
   PS c F m (H.set dx (.dict 99 es)) (execs body F.env) fun fl m' H'=>fl=.next∧∃ es',H'=H.set dx (.dict 99 es')∧es'.map (·.1)=fs'.map (·.1)∧Reps ad H (fs'.map (·.2)) (es'.map (·.2)):=by
 induction body with
 | nil=>exact fun {fs fs' es} h hk hr=>q_nil ⟨rfl,es,rfl,Option.some.inj (show some fs=some fs' from h)▸⟨hk,hr⟩⟩
 | cons st rest ih=>
  intro fs fs' es h hk hr
  obtain ⟨p,h1,h⟩:=Option.bind_eq_some_iff.mp (show ((asgOf st).bind fun p=>(simpleV G p.2).bind fun v=>if (ks.contains p.1&&(!(fs.map (·.1)).contains p.1&&few fs.length))=true then initV ks G rest (fs++[(p.1,v)]) else none)=some fs' from h)
  obtain ⟨v,h2,h⟩:=Option.bind_eq_some_iff.mp h
  refine ifs h (fun q hh=>?_) fun _ h=>noneE h
  have bq:=Bool.and_eq_true_iff.mp q
  have q1:=bq.1
  have q:=bq.2
  have bq:=Bool.and_eq_true_iff.mp q
  have q2:=bq.1
  have q3:=bq.2
  obtain ⟨sp,ap,pos,rfl⟩:=asgOf_spec h1
  have hl:es.length=fs.length:=by have:=congrArg List.length hk;rwa [List.length_map,List.length_map] at this
  have hno:=I.no _ q1
  have e:∀ w,(H.set dx (.dict 99 es)).set dx (.dict 99 (stored es p.1 w))=H.set dx (.dict 99 (es++[(p.1,w)])):=fun w=>by
   rw [stored_new (by rw [hk];exact (Bool.not_eq_true' _).mp q2)]
   funext y;unfold AH.set;split<;>rfl
  have g:=simpleV_sound (c:=c) (H':=H.set dx (.dict 99 es)) I.ok I.sc h2 I.hg
   (Q:=fun w H1=>PS c F m H1 (assign (.Attribute (.Name "self" sp) p.1 ap) F.env w) fun _ m2 H2=>PS c F m2 H2 (execs rest F.env) fun fl m' H'=>fl=.next∧∃ es',H'=H.set dx (.dict 99 es')∧es'.map (·.1)=fs'.map (·.1)∧Reps ad H (fs'.map (·.2)) (es'.map (·.2))) fun w hw=>?_
  ·exact q_assign1 g.2 (exec_asg g.1 rfl rfl)
  ·refine q_asAttr (p_nl I.ok I.sc I.self.1 I.self.2 ?_)
   refine p_setField I.cok I.ok ((AH.set_ne I.ne).trans I.hx) AH.set_self (.inl I.T.symm) ?_ I.set I.over (by unfold takerIn;rw [hno];rfl) I.dict (Nat.le_trans (hl▸Nat.le_of_ble_eq_true q3) (by decide))
   rw [e]
   exact ih hh (by rw [List.map_append,List.map_append,hk];rfl) (by rw [List.map_append,List.map_append];exact hr.snoc hw)
theorem make_sound {e:Mc} (E:e.Ok) {T C fI:Addr} {xs:List Str} {as ds:List V} {dv:List Value} {fl:List (Str × V)} {H:AH} {ws:List Value} (T0:T≠0) (chk:clsChk e.g.K C fI (fl.map (·.1))=true) (hp:parOf e.g.K fI=("self" : Str)::xs) (hxs:xs.contains ("self" : Str)=false)
  (hb:BindD e.g.K fI (as.length+1) dv) (hd:∀ H,Reps e.ad H ds dv) (hi:initV (fl.map (·.1)) ((xs.zip (as++ds)).reverse) (bodyOf e.g.K fI) []=some fl) (hw:Reps e.ad H as ws) {Q:Value→AH→Prop}
  (h:∀ x dx H' es,H dx=none→Ext H H'→H' x=some (.inst C dx)→x≠dx→H' dx=some (.dict 99 es)→es.map (·.1)=fl.map (·.1)→Reps e.ad H' (fl.map (·.2)) (es.map (·.2))→∃ ao,(∀ o,OR e.g.prog e.g.w (.dict 99 es) o→OR e.g.prog e.g.w ao o)∧Q (.ref x) (H'.set dx ao)) :
  CC e.g 3 T (.ref C) ws H Q (fun _ _ _=>False):=by
 have bq:=Bool.and_eq_true_iff.mp chk
 have c1:=bq.1
 have chk:=bq.2
 have bq:=Bool.and_eq_true_iff.mp chk
 have c2:=bq.1
 have chk:=bq.2
 have bq:=Bool.and_eq_true_iff.mp chk
 have c3:=bq.1
 have chk:=bq.2
 have bq:=Bool.and_eq_true_iff.mp chk
 have c4:=bq.1
 have chk:=bq.2
 have bq:=Bool.and_eq_true_iff.mp chk
 have c5:=bq.1
 have chk:=bq.2
 have bq:=Bool.and_eq_true_iff.mp chk
 have c6:=bq.1
 have chk:=bq.2
 have bq:=Bool.and_eq_true_iff.mp chk
 have c7:=bq.1
 have c8:=bq.2
 obtain ⟨f0,f1⟩:=fnChk_spec c4
 refine CC.make (r:=1) E.cok c1 (isRef_spec c2) (isTy_spec c3) T0 ?_
 intro x dx H1 hx0 hdx0 hne hext h1x h1d
 refine CC.enter E.cok f1 f0.dbg (hb (.ref x::ws) (congrArg Nat.succ hw.len)) (fun y hy=>f0.par y.1 (List.of_mem_zip hy).1) (by decide) rfl ?_
 intro F H2 ok hT hr sc _ hX hH0 hext2 hke
 have g1:=hext2 _ _ h1x
 have g2:=hext2 _ _ h1d
 have eH:Ext H H2:=hext.trans hext2
 have hgm:=GM.zip (ad:=e.ad) (xs:=xs) (Reps.append (hd H2) (hw.fz (.ofExt eH)))
 have e1:((parOf e.g.K fI).zip (.ref x::ws++dv)).reverse=(xs.zip (ws++dv)).reverse++[(("self" : Str),.ref x)]:=by rw [hp];exact List.reverse_cons
 have hself:look (xs.zip (ws++dv)).reverse "self" = none:=by
  have:∀ {l:LM},(∀ p ∈ l,p.1 ≠ "self")→look l "self" = none:=fun {l} h=>by
   induction l with
   | nil=>rfl
   | cons p l ih=>exact (if_neg fun q=>h p (.head _) q.symm).trans (ih fun q hq=>h q (.tail _ hq))
  refine this fun p hp q=>?_
  have:=(List.of_mem_zip (List.mem_reverse.mp hp)).1
  exact ftE (hxs.symm.trans (List.contains_iff_mem.mpr (q▸this)))
 rw [e1]
 have I:InitCx e.g F ((xs.zip (ws++dv)).reverse++[(("self" : Str),.ref x)]) H2 (fdOf e.g.K fI).scope.names e.ad (fl.map (·.1)) ((xs.zip (as++ds)).reverse) x dx C:=by
  refine ⟨E.cok,ok,sc,hT,fun y u hy=>?_,⟨by rw [look_app,hself];rfl,f0.par _ (by rw [hp];exact .head _)⟩,isBt_spec c5,c6,c7,fun f hf=>isNo_spec (List.all_eq_true.mp c8 f (List.contains_iff_mem.mp hf)),hne,g1,fun o q=>by rw [g2] at q;(injection q with e1;subst e1);exact (by decide:(99:Nat)≠0)⟩
  obtain ⟨w,q1,q2⟩:=hgm y u hy
  refine ⟨w,by rw [look_app,q1];rfl,q2,f0.par _ ?_⟩
  obtain ⟨p,hp1,hp2⟩:=List.mem_map.mp (dlook_mem hy)
  rw [hp,← hp2]
  exact .tail _ (List.of_mem_zip (List.mem_reverse.mp hp1)).1
 have hset:H2.set dx (.dict 99 [])=H2:=by
  funext y;unfold AH.set;split
  ·rename_i q;rw [q];exact g2.symm
  ·rfl
 have key:=init_sound I (es:=[]) hi rfl .nil
 rw [hset] at key
 refine key.mono fun flw m' H' hq=>?_
 obtain ⟨rfl,es',rfl,k1,k2⟩:=hq
 have kz:Fz H2 (H2.set dx (.dict 99 es')):=.set I.hdx
 obtain ⟨ao,q1,q2⟩:=h x dx (H2.set dx (.dict 99 es')) es' hdx0 (fun a o q=>by rw [AH.set_ne (by rintro rfl;rw [hdx0] at q;injection q)];exact eH a o q) ((AH.set_ne hne).trans g1) hne AH.set_self k1 (k2.fz kz)
 exact ⟨rfl,fun y o q hy=>(AH.set_ne hy).trans (hext2 _ _ q),es',ao,AH.set_self,q1,q2⟩
end
theorem make_ext {H H':AH} {dx:Addr} {o:AObj} (h:Ext H H') (hd:H dx=none):Ext H (H'.set dx o):=fun a p q=>by rw [AH.set_ne (by rintro rfl;rw [hd] at q;injection q)];exact h a p q
theorem GoodC.of {e:Mc} (E:e.Ok) {g:Nat} {f:Addr} {as:List V} {r:List Root} {v:V} (hg:3≤g) (h:∀ H ws,Reps e.ad H as ws→CC e.g 3 4 (.ref f) ws H (fun u H'=>Rep e.ad H' v u∧Ext H H') fun _ _ _=>False):GoodC e g f as r (.ok v r):=fun H ws hr hw=>
 CC.rank (CC.mono (h H ws hw) (fun u H' _ q=>⟨v,r,rfl,q.1,hr.ext E q.2⟩) fun _ _ _ _ q=>q.elim) hg
theorem GoodC.obj {e:Mc} (E:e.Ok) {g C fI:Addr} {xs:List Str} {as ds:List V} {dv:List Value} {fl:List (Str × V)} {r:List Root} (hg:3≤g) (chk:clsChk e.g.K C fI (fl.map (·.1))=true) (hp:parOf e.g.K fI=("self" : Str)::xs) (hxs:xs.contains ("self" : Str)=false)
  (hb:BindD e.g.K fI (as.length+1) dv) (hd:∀ H,Reps e.ad H ds dv) (hi:initV (fl.map (·.1)) ((xs.zip (as++ds)).reverse) (bodyOf e.g.K fI) []=some fl) (hf:fl.map (·.1)=fnames C):GoodC e g C as r (.ok (.obj C (fl.map (·.2))) r):=
 GoodC.of E hg fun H ws hw=>make_sound E (by decide) chk hp hxs hb hd hi hw fun x dx H' es h0 hext hx hne hdx k1 k2=>⟨.dict 0 es,fun o q=>q,⟨x,dx,es,rfl,(AH.set_ne hne).trans hx,AH.set_self,k1.trans hf,k2.fz (.set1 hdx (by exact (by decide:(99:Nat)≠0)))⟩,make_ext hext h0⟩
theorem GoodC.vec {e:Mc} (E:e.Ok) {g fI:Addr} {xs:List Str} {as ds:List V} {dv:List Value} {k:Str} {i a:V} {r:List Root} (hg:3≤g) (chk:clsChk e.g.K 120 fI ["kind","items","attrs","shared","loose"]=true) (hp:parOf e.g.K fI=("self" : Str)::xs) (hxs:xs.contains ("self" : Str)=false)
  (hb:BindD e.g.K fI (as.length+1) dv) (hd:∀ H,Reps e.ad H ds dv) (hi:initV ["kind","items","attrs","shared","loose"] ((xs.zip (as++ds)).reverse) (bodyOf e.g.K fI) []=some ([("kind",.str k),("items",i),("attrs",a),("shared",.bool false),("loose",.bool false)]:List (Str × V))):GoodC e g 120 as r (.ok (.vec k i a) r):=
 GoodC.of E hg fun H ws hw=>make_sound (fl:=([("kind",.str k),("items",i),("attrs",a),("shared",.bool false),("loose",.bool false)]:List (Str × V))) E (by decide) chk hp hxs hb hd hi hw fun x dx H' es h0 hext hx hne hdx k1 k2=>by
  have kz:∀ o,Fz H' (H'.set dx o):=fun o=>.set1 hdx (by exact (by decide:(99:Nat)≠0))
  refine Reps.fld (C:=fun es=>∃ ao,(∀ o,OR e.g.prog e.g.w (.dict 99 (es)) o→OR e.g.prog e.g.w ao o)∧Rep e.ad (H'.set dx ao) (.vec k i a) (.ref x)∧Ext H (H'.set dx ao)) k2 k1 (fun v1 es a1 k2 k1=>?_)
  refine Reps.fld (C:=fun es=>∃ ao,(∀ o,OR e.g.prog e.g.w (.dict 99 (("kind",v1)::es)) o→OR e.g.prog e.g.w ao o)∧Rep e.ad (H'.set dx ao) (.vec k i a) (.ref x)∧Ext H (H'.set dx ao)) k2 k1 (fun v2 es a2 k2 k1=>?_)
  refine Reps.fld (C:=fun es=>∃ ao,(∀ o,OR e.g.prog e.g.w (.dict 99 (("kind",v1)::("items",v2)::es)) o→OR e.g.prog e.g.w ao o)∧Rep e.ad (H'.set dx ao) (.vec k i a) (.ref x)∧Ext H (H'.set dx ao)) k2 k1 (fun v3 es a3 k2 k1=>?_)
  refine Reps.fld (C:=fun es=>∃ ao,(∀ o,OR e.g.prog e.g.w (.dict 99 (("kind",v1)::("items",v2)::("attrs",v3)::es)) o→OR e.g.prog e.g.w ao o)∧Rep e.ad (H'.set dx ao) (.vec k i a) (.ref x)∧Ext H (H'.set dx ao)) k2 k1 (fun v4 es a4 k2 k1=>?_)
  refine Reps.fld (C:=fun es=>∃ ao,(∀ o,OR e.g.prog e.g.w (.dict 99 (("kind",v1)::("items",v2)::("attrs",v3)::("shared",v4)::es)) o→OR e.g.prog e.g.w ao o)∧Rep e.ad (H'.set dx ao) (.vec k i a) (.ref x)∧Ext H (H'.set dx ao)) k2 k1 (fun v5 es a5 k2 k1=>?_)
  have e0:es=[]:=List.map_eq_nil_iff.mp k1
  subst e0
  obtain ⟨t1,rfl⟩:=a1
  rw [show v4=.bool false from a4,show v5=.bool false from a5]
  exact ⟨.vd (.str k t1) v2 v3,fun o q=>⟨false,q⟩,⟨x,dx,t1,v2,v3,rfl,(AH.set_ne hne).trans hx,AH.set_self,Rep.fz (kz _) i a2,Rep.fz (kz _) a a3⟩,make_ext hext h0⟩
end
end Internal
end
section
namespace Internal
open PySem PySem.W PyProof.Rows
noncomputable abbrev pgm:Program:=PySem.Challenge.rw_nz0500_01.row.prog
noncomputable def stAt (i:Nat):Stmt:=(pgm.main.body[i]?).getD (.Pass default)
noncomputable def inCls (i j:Nat):Stmt:=match stAt i with | .ClassDef _ _ _ b _ _ _ _ _ _ _=>(b[j]?).getD (.Pass default) | _=>.Pass default
noncomputable def fnO (st:Stmt) (q:Str) (md ds:Value) (c:Addr):Obj:=match st with
 | .FunctionDef n ps body _ _ _ sc _ _ _=>⟨.type "function",none,.func { name:=n,qualname:=q,params:=ps,body:=.stmts body,scope:=sc,globals:=3,closure:=[],defaults:=ds,kwdefaults:=.none,pyModule:=md,code:=.ref c },#[]⟩
 | _=>⟨.none,none,.plain,#[]⟩
noncomputable def codeV (vs:List Value):Obj:=⟨.type "code",none,.fields ⟨vs⟩,#[]⟩
noncomputable def codeO (n q:Str) (t:Nat) (l ar fl:Int) (u:Nat) (c:Addr):Obj:=codeV [.str n t,.str q (t+1),.str "/claim/cut.py" (t+2),.int l 0,.int ar 0,.int 0 0,.int 0 0,.int fl 0,.ref (c - 5),.bool true,.int 181 0,.ref (c - 4),.none,.ref (c - 3),.ref (c - 2),.ref (c - 1),.int u 0,.int l 0,.str "/claim/cut.py" (u+1)]
noncomputable def clsO (n:Str) (bs mro:List Value) (ns:Addr) (sub:List Value) (sl:Array (Option Value)):Obj:=⟨.type "type",none,.cls { name:=n,bases:=bs,mro:=mro,ns:=ns,qualname:=n,subclasses:=sub },sl⟩
noncomputable def dE (P:Params) (n:Str) (t:Nat) (v:Value):DictEntry:=⟨PyData.keyHash P n,.str n t,v⟩
noncomputable def dictO (c:Value) (n:Nat) (es:List DictEntry):Obj:=⟨c,none,.dict ⟨es⟩ n,#[]⟩
noncomputable def K0 (P:Params):Frag:=[
 (2,dictO .none 2 [dE P "type.__subclasses__.Exception.0" 212 (.int 31 0),dE P "type.__subclasses__.Exception.n" 213 (.int 1 0)]),
 (3,dictO (.type "dict") 59 [dE P "__name__" 165 (.str "law_nz0500_01" 932),dE P "__doc__" 166 .none,dE P "__package__" 167 .none,dE P "__loader__" 168 (.builtin "__main__.__loader__#opaque"),dE P "__spec__" 169 .none,dE P "__annotations__" 170 (.ref 6),dE P "__builtins__" 171 (.ref 4),dE P "__file__" 173 (.str "/claim/cut.py" 172),dE P "__cached__" 174 .none,dE P "_wall" 193 (.ref 21),dE P "CoveError" 215 (.ref 31),dE P "ReadError" 242 (.ref 51),dE P "Null" 273 (.ref 70),dE P "Missing" 302 (.ref 91),dE P "Vector" 344 (.ref 120),dE P "Symbol" 375 (.ref 141),dE P "Call" 410 (.ref 163),dE P "null" 416 (.ref 174),dE P "missing" 422 (.ref 181),dE P "logical" 429 (.ref 188),dE P "integer" 436 (.ref 195),dE P "double" 443 (.ref 202),dE P "character" 450 (.ref 209),dE P "named" 458 (.ref 216),dE P "pairlist_of" 464 (.ref 221),dE P "flag" 471 (.ref 228),dE P "text" 478 (.ref 235),dE P "symbol" 485 (.ref 242),dE P "call_of" 494 (.ref 249),dE P "share" 501 (.ref 256),dE P "STATEMENT" 505 (.int 1 504),dE P "ARGUMENT" 507 (.int 3 506),dE P "COMPARISON" 509 (.int 9 508),dE P "binary_level" 516 (.ref 263),dE P "prefix_level" 523 (.ref 270),dE P "right_level" 531 (.ref 277),dE P "constant_of" 538 (.ref 284),dE P "is_pipe_target" 547 (.ref 291),dE P "joined" 559 (.ref 298),dE P "ExprReader" 765 (.ref 450),dE P "Reader" 856 (.ref 520),dE P "Token" 893 (.ref 539),dE P "TokenRow" 931 (.ref 567),dE P "_law_pool" 946 (.ref 578),dE P "_law_pick" 955 (.ref 585),dE P "_law_plain" 961 (.ref 590),dE P "_law_operand" 974 (.ref 597),dE P "_law_words" 985 (.ref 604),dE P "_law_marks" 1001 (.ref 611),dE P "_law_fail" 1011 (.ref 618),dE P "_law_is" 1021 (.ref 626),dE P "_law_want" 1029 (.ref 633),dE P "_law_call" 1037 (.ref 640),dE P "_law_head" 1045 (.ref 647),dE P "_law_primary" 1057 (.ref 654),dE P "_law_function" 1063 (.ref 659),dE P "_law_side" 1072 (.ref 666),dE P "_law_expression" 1082 (.ref 673),dE P "law" 1088 (.ref 678)]),
 (20,codeO "_wall" "_wall" 187 1 1 3 191 20),
 (21,fnO (stAt 0) "_wall" (.str "__main__" 164) .none 20),
 (30,dictO (.type "dict") 3 [dE P "__module__" 203 (.str "vectorcove.errors" 194),dE P "__firstlineno__" 207 (.int 5 206),dE P "__static_attributes__" 208 (.ref 29),dE P "__weakref__" 210 (.ref 32),dE P "__doc__" 211 .none]),
 (31,clsO "CoveError" [(.type "Exception")] [(.ref 31),(.type "Exception"),(.type "BaseException"),(.type "object")] 30 [(.ref 51)] #[some (.ref 22),none,some (.str "CoveError" 196),some (.str "CoveError" 204),some (.builtin "Exception.__new__"),some (.bool true)]),
 (47,codeO "__init__" "ReadError.__init__" 228 9 3 3 234 47),
 (48,fnO (inCls 3 0) "ReadError.__init__" (.str "vectorcove.errors" 194) .none 47),
 (50,dictO (.type "dict") 2 [dE P "__module__" 223 (.str "vectorcove.errors" 194),dE P "__firstlineno__" 227 (.int 7 226),dE P "__init__" 236 (.ref 48),dE P "__static_attributes__" 239 (.ref 49),dE P "__doc__" 240 .none]),
 (51,clsO "ReadError" [(.ref 31)] [(.ref 51),(.ref 31),(.type "Exception"),(.type "BaseException"),(.type "object")] 50 [] #[some (.ref 35),none,some (.str "ReadError" 216),some (.str "ReadError" 224),some (.builtin "Exception.__new__"),some (.bool true)]),
 (66,codeO "__init__" "Null.__init__" 257 15 1 3 261 66),
 (67,fnO (inCls 5 0) "Null.__init__" (.str "vectorcove.values" 243) .none 66),
 (69,dictO (.type "dict") 4 [dE P "__module__" 252 (.str "vectorcove.values" 243),dE P "__firstlineno__" 256 (.int 13 255),dE P "__init__" 263 (.ref 67),dE P "__static_attributes__" 266 (.ref 68),dE P "__dict__" 268 (.ref 71),dE P "__weakref__" 270 (.ref 72),dE P "__doc__" 271 .none]),
 (70,clsO "Null" [(.type "object")] [(.ref 70),(.type "object")] 69 [] #[none,none,some (.str "Null" 245),some (.str "Null" 253),some (.builtin "object.__new__"),some (.bool true)]),
 (87,codeO "__init__" "Missing.__init__" 286 20 1 3 290 87),
 (88,fnO (inCls 6 0) "Missing.__init__" (.str "vectorcove.values" 243) .none 87),
 (90,dictO (.type "dict") 4 [dE P "__module__" 281 (.str "vectorcove.values" 243),dE P "__firstlineno__" 285 (.int 18 284),dE P "__init__" 292 (.ref 88),dE P "__static_attributes__" 295 (.ref 89),dE P "__dict__" 297 (.ref 92),dE P "__weakref__" 299 (.ref 93),dE P "__doc__" 300 .none]),
 (91,clsO "Missing" [(.type "object")] [(.ref 91),(.type "object")] 90 [] #[none,none,some (.str "Missing" 274),some (.str "Missing" 282),some (.builtin "object.__new__"),some (.bool true)]),
 (103,⟨.type "tuple",none,.seq ⟨[.none]⟩,#[]⟩),
 (109,codeO "__init__" "Vector.__init__" 315 25 4 3 322 109),
 (110,fnO (inCls 7 0) "Vector.__init__" (.str "vectorcove.values" 243) (.ref 103) 109),
 (116,codeO "copy" "Vector.copy" 325 32 1 3 329 116),
 (117,fnO (inCls 7 1) "Vector.copy" (.str "vectorcove.values" 243) .none 116),
 (119,dictO (.type "dict") 4 [dE P "__module__" 310 (.str "vectorcove.values" 243),dE P "__firstlineno__" 314 (.int 23 313),dE P "__init__" 324 (.ref 110),dE P "copy" 331 (.ref 117),dE P "__static_attributes__" 337 (.ref 118),dE P "__dict__" 339 (.ref 121),dE P "__weakref__" 341 (.ref 122),dE P "__doc__" 342 .none]),
 (120,clsO "Vector" [(.type "object")] [(.ref 120),(.type "object")] 119 [] #[none,none,some (.str "Vector" 303),some (.str "Vector" 311),some (.builtin "object.__new__"),some (.bool true)]),
 (137,codeO "__init__" "Symbol.__init__" 357 36 2 3 362 137),
 (138,fnO (inCls 8 0) "Symbol.__init__" (.str "vectorcove.values" 243) .none 137),
 (140,dictO (.type "dict") 4 [dE P "__module__" 352 (.str "vectorcove.values" 243),dE P "__firstlineno__" 356 (.int 34 355),dE P "__init__" 364 (.ref 138),dE P "__static_attributes__" 368 (.ref 139),dE P "__dict__" 370 (.ref 142),dE P "__weakref__" 372 (.ref 143),dE P "__doc__" 373 .none]),
 (141,clsO "Symbol" [(.type "object")] [(.ref 141),(.type "object")] 140 [] #[none,none,some (.str "Symbol" 345),some (.str "Symbol" 353),some (.builtin "object.__new__"),some (.bool true)]),
 (153,⟨.type "tuple",none,.seq ⟨[.none]⟩,#[]⟩),
 (159,codeO "__init__" "Call.__init__" 388 42 4 3 395 159),
 (160,fnO (inCls 9 0) "Call.__init__" (.str "vectorcove.values" 243) (.ref 153) 159),
 (162,dictO (.type "dict") 4 [dE P "__module__" 383 (.str "vectorcove.values" 243),dE P "__firstlineno__" 387 (.int 40 386),dE P "__init__" 397 (.ref 160),dE P "__static_attributes__" 403 (.ref 161),dE P "__dict__" 405 (.ref 164),dE P "__weakref__" 407 (.ref 165),dE P "__doc__" 408 .none]),
 (163,clsO "Call" [(.type "object")] [(.ref 163),(.type "object")] 162 [] #[none,none,some (.str "Call" 376),some (.str "Call" 384),some (.builtin "object.__new__"),some (.bool true)]),
 (173,codeO "null" "null" 411 48 0 3 414 173),
 (174,fnO (stAt 10) "null" (.str "vectorcove.values" 243) .none 173),
 (180,codeO "missing" "missing" 417 50 0 3 420 180),
 (181,fnO (stAt 11) "missing" (.str "vectorcove.values" 243) .none 180),
 (187,codeO "logical" "logical" 423 52 1 3 427 187),
 (188,fnO (stAt 12) "logical" (.str "vectorcove.values" 243) .none 187),
 (194,codeO "integer" "integer" 430 54 1 3 434 194),
 (195,fnO (stAt 13) "integer" (.str "vectorcove.values" 243) .none 194),
 (201,codeO "double" "double" 437 56 1 3 441 201),
 (202,fnO (stAt 14) "double" (.str "vectorcove.values" 243) .none 201),
 (208,codeO "character" "character" 444 58 1 3 448 208),
 (209,fnO (stAt 15) "character" (.str "vectorcove.values" 243) .none 208),
 (215,codeO "named" "named" 451 60 2 3 456 215),
 (216,fnO (stAt 16) "named" (.str "vectorcove.values" 243) .none 215),
 (220,codeV [(.str "pairlist_of" 459),(.str "pairlist_of" 460),(.str "/claim/cut.py" 461),(.int 64 0),(.int 2 0),(.int 0 0),(.int 0 0),(.int 3 0),(.ref 217),(.bool true),(.int 181 0),(.ref 218),.none,.none,.none,(.ref 219),(.int 462 0),(.int 64 0),(.str "/claim/cut.py" 463)]),
 (221,fnO (stAt 17) "pairlist_of" (.str "vectorcove.values" 243) .none 220),
 (227,codeO "flag" "flag" 465 66 1 3 469 227),
 (228,fnO (stAt 18) "flag" (.str "vectorcove.values" 243) .none 227),
 (234,codeO "text" "text" 472 70 1 3 476 234),
 (235,fnO (stAt 19) "text" (.str "vectorcove.values" 243) .none 234),
 (241,codeO "symbol" "symbol" 479 72 1 3 483 241),
 (242,fnO (stAt 20) "symbol" (.str "vectorcove.values" 243) .none 241),
 (248,codeO "call_of" "call_of" 486 74 2 3 492 248),
 (249,fnO (stAt 21) "call_of" (.str "vectorcove.values" 243) .none 248),
 (255,codeO "share" "share" 495 77 1 3 499 255),
 (256,fnO (stAt 22) "share" (.str "vectorcove.values" 243) .none 255),
 (262,codeO "binary_level" "binary_level" 510 85 1 3 514 262),
 (263,fnO (stAt 27) "binary_level" (.str "vectorcove.exprread" 502) .none 262),
 (269,codeO "prefix_level" "prefix_level" 517 105 1 3 521 269),
 (270,fnO (stAt 28) "prefix_level" (.str "vectorcove.exprread" 502) .none 269),
 (276,codeO "right_level" "right_level" 524 115 2 3 529 276),
 (277,fnO (stAt 29) "right_level" (.str "vectorcove.exprread" 502) .none 276),
 (283,codeO "constant_of" "constant_of" 532 119 1 3 536 283),
 (284,fnO (stAt 30) "constant_of" (.str "vectorcove.exprread" 502) .none 283),
 (290,codeO "is_pipe_target" "is_pipe_target" 539 137 1 3 545 290),
 (291,fnO (stAt 31) "is_pipe_target" (.str "vectorcove.exprread" 502) .none 290),
 (297,codeO "joined" "joined" 548 147 4 3 557 297),
 (298,fnO (stAt 32) "joined" (.str "vectorcove.exprread" 502) .none 297),
 (311,codeO "__init__" "ExprReader.__init__" 572 161 2 3 577 311),
 (312,fnO (inCls 33 0) "ExprReader.__init__" (.str "vectorcove.exprread" 502) .none 311),
 (313,⟨.type "tuple",none,.seq ⟨[(.int 0 580)]⟩,#[]⟩),
 (319,codeO "peek" "ExprReader.peek" 581 166 2 3 586 319),
 (320,fnO (inCls 33 1) "ExprReader.peek" (.str "vectorcove.exprread" 502) (.ref 313) 319),
 (326,codeO "take" "ExprReader.take" 589 171 1 3 594 326),
 (327,fnO (inCls 33 2) "ExprReader.take" (.str "vectorcove.exprread" 502) .none 326),
 (333,codeO "is_op" "ExprReader.is_op" 597 176 2 3 603 333),
 (334,fnO (inCls 33 3) "ExprReader.is_op" (.str "vectorcove.exprread" 502) .none 333),
 (340,codeO "is_key" "ExprReader.is_key" 606 180 2 3 612 340),
 (341,fnO (inCls 33 4) "ExprReader.is_key" (.str "vectorcove.exprread" 502) .none 340),
 (347,codeO "expect_op" "ExprReader.expect_op" 615 184 2 3 620 347),
 (348,fnO (inCls 33 5) "ExprReader.expect_op" (.str "vectorcove.exprread" 502) .none 347),
 (354,codeO "fail" "ExprReader.fail" 623 189 1 3 628 354),
 (355,fnO (inCls 33 6) "ExprReader.fail" (.str "vectorcove.exprread" 502) .none 354),
 (361,codeO "joins" "ExprReader.joins" 631 195 2 3 636 361),
 (362,fnO (inCls 33 7) "ExprReader.joins" (.str "vectorcove.exprread" 502) .none 361),
 (363,⟨.type "tuple",none,.seq ⟨[(.int 0 639)]⟩,#[]⟩),
 (369,codeO "expression" "ExprReader.expression" 640 198 2 3 649 369),
 (370,fnO (inCls 33 8) "ExprReader.expression" (.str "vectorcove.exprread" 502) (.ref 363) 369),
 (376,codeO "no_second_comparison" "ExprReader.no_second_comparison" 652 213 1 3 657 376),
 (377,fnO (inCls 33 9) "ExprReader.no_second_comparison" (.str "vectorcove.exprread" 502) .none 376),
 (383,codeO "operand" "ExprReader.operand" 660 218 1 3 666 383),
 (384,fnO (inCls 33 10) "ExprReader.operand" (.str "vectorcove.exprread" 502) .none 383),
 (390,codeO "primary" "ExprReader.primary" 669 227 1 3 675 390),
 (391,fnO (inCls 33 11) "ExprReader.primary" (.str "vectorcove.exprread" 502) .none 390),
 (397,codeO "bracketed" "ExprReader.bracketed" 678 244 1 3 683 397),
 (398,fnO (inCls 33 12) "ExprReader.bracketed" (.str "vectorcove.exprread" 502) .none 397),
 (404,codeO "construct" "ExprReader.construct" 686 252 2 3 691 404),
 (405,fnO (inCls 33 13) "ExprReader.construct" (.str "vectorcove.exprread" 502) .none 404),
 (411,codeO "followed" "ExprReader.followed" 694 255 2 3 700 411),
 (412,fnO (inCls 33 14) "ExprReader.followed" (.str "vectorcove.exprread" 502) .none 411),
 (418,codeO "call_on" "ExprReader.call_on" 703 270 2 3 710 418),
 (419,fnO (inCls 33 15) "ExprReader.call_on" (.str "vectorcove.exprread" 502) .none 418),
 (425,codeO "index_on" "ExprReader.index_on" 713 281 3 3 721 425),
 (426,fnO (inCls 33 16) "ExprReader.index_on" (.str "vectorcove.exprread" 502) .none 425),
 (432,codeO "member" "ExprReader.member" 724 289 1 3 729 432),
 (433,fnO (inCls 33 17) "ExprReader.member" (.str "vectorcove.exprread" 502) .none 432),
 (439,codeO "arguments" "ExprReader.arguments" 732 297 3 3 742 439),
 (440,fnO (inCls 33 18) "ExprReader.arguments" (.str "vectorcove.exprread" 502) .none 439),
 (446,codeO "argument_tag" "ExprReader.argument_tag" 745 317 1 3 752 446),
 (447,fnO (inCls 33 19) "ExprReader.argument_tag" (.str "vectorcove.exprread" 502) .none 446),
 (449,dictO (.type "dict") 4 [dE P "__module__" 567 (.str "vectorcove.exprread" 502),dE P "__firstlineno__" 571 (.int 159 570),dE P "__init__" 579 (.ref 312),dE P "peek" 588 (.ref 320),dE P "take" 596 (.ref 327),dE P "is_op" 605 (.ref 334),dE P "is_key" 614 (.ref 341),dE P "expect_op" 622 (.ref 348),dE P "fail" 630 (.ref 355),dE P "joins" 638 (.ref 362),dE P "expression" 651 (.ref 370),dE P "no_second_comparison" 659 (.ref 377),dE P "operand" 668 (.ref 384),dE P "primary" 677 (.ref 391),dE P "bracketed" 685 (.ref 398),dE P "construct" 693 (.ref 405),dE P "followed" 702 (.ref 412),dE P "call_on" 712 (.ref 419),dE P "index_on" 723 (.ref 426),dE P "member" 731 (.ref 433),dE P "arguments" 744 (.ref 440),dE P "argument_tag" 754 (.ref 447),dE P "__static_attributes__" 758 (.ref 448),dE P "__dict__" 760 (.ref 451),dE P "__weakref__" 762 (.ref 452),dE P "__doc__" 763 .none]),
 (450,clsO "ExprReader" [(.type "object")] [(.ref 450),(.type "object")] 449 [(.ref 520)] #[none,none,some (.str "ExprReader" 560),some (.str "ExprReader" 568),some (.builtin "object.__new__"),some (.bool true)]),
 (467,codeO "construct" "Reader.construct" 780 331 2 3 786 467),
 (468,fnO (inCls 35 0) "Reader.construct" (.str "vectorcove.parser" 766) .none 467),
 (474,codeO "block" "Reader.block" 789 355 1 3 794 474),
 (475,fnO (inCls 35 1) "Reader.block" (.str "vectorcove.parser" 766) .none 474),
 (481,codeO "condition" "Reader.condition" 797 370 1 3 802 481),
 (482,fnO (inCls 35 2) "Reader.condition" (.str "vectorcove.parser" 766) .none 481),
 (488,codeO "conditional" "Reader.conditional" 805 378 1 3 810 488),
 (489,fnO (inCls 35 3) "Reader.conditional" (.str "vectorcove.parser" 766) .none 488),
 (495,codeO "for_loop" "Reader.for_loop" 813 388 1 3 819 495),
 (496,fnO (inCls 35 4) "Reader.for_loop" (.str "vectorcove.parser" 766) .none 495),
 (502,codeO "while_loop" "Reader.while_loop" 822 403 1 3 827 502),
 (503,fnO (inCls 35 5) "Reader.while_loop" (.str "vectorcove.parser" 766) .none 502),
 (509,codeO "function" "Reader.function" 830 408 1 3 841 509),
 (510,fnO (inCls 35 6) "Reader.function" (.str "vectorcove.parser" 766) .none 509),
 (516,codeO "program" "Reader.program" 844 434 1 3 850 516),
 (517,fnO (inCls 35 7) "Reader.program" (.str "vectorcove.parser" 766) .none 516),
 (519,dictO (.type "dict") 2 [dE P "__module__" 775 (.str "vectorcove.parser" 766),dE P "__firstlineno__" 779 (.int 329 778),dE P "construct" 788 (.ref 468),dE P "block" 796 (.ref 475),dE P "condition" 804 (.ref 482),dE P "conditional" 812 (.ref 489),dE P "for_loop" 821 (.ref 496),dE P "while_loop" 829 (.ref 503),dE P "function" 843 (.ref 510),dE P "program" 852 (.ref 517),dE P "__static_attributes__" 853 (.ref 518),dE P "__doc__" 854 .none]),
 (520,clsO "Reader" [(.ref 450)] [(.ref 520),(.ref 450),(.type "object")] 519 [] #[some (.ref 455),none,some (.str "Reader" 768),some (.str "Reader" 776),some (.builtin "object.__new__"),some (.bool true)]),
 (535,codeO "__init__" "Token.__init__" 871 447 5 3 879 535),
 (536,fnO (inCls 37 0) "Token.__init__" (.str "vectorcove.tokens" 857) .none 535),
 (538,dictO (.type "dict") 4 [dE P "__module__" 866 (.str "vectorcove.tokens" 857),dE P "__firstlineno__" 870 (.int 445 869),dE P "__init__" 881 (.ref 536),dE P "__static_attributes__" 886 (.ref 537),dE P "__dict__" 888 (.ref 540),dE P "__weakref__" 890 (.ref 541),dE P "__doc__" 891 .none]),
 (539,clsO "Token" [(.type "object")] [(.ref 539),(.type "object")] 538 [] #[none,none,some (.str "Token" 859),some (.str "Token" 867),some (.builtin "object.__new__"),some (.bool true)]),
 (556,codeO "__init__" "TokenRow.__init__" 906 454 2 3 911 556),
 (557,fnO (inCls 38 0) "TokenRow.__init__" (.str "vectorcove.tokens" 857) .none 556),
 (563,codeO "next_token" "TokenRow.next_token" 914 458 1 3 919 563),
 (564,fnO (inCls 38 1) "TokenRow.next_token" (.str "vectorcove.tokens" 857) .none 563),
 (566,dictO (.type "dict") 4 [dE P "__module__" 901 (.str "vectorcove.tokens" 857),dE P "__firstlineno__" 905 (.int 452 904),dE P "__init__" 913 (.ref 557),dE P "next_token" 921 (.ref 564),dE P "__static_attributes__" 924 (.ref 565),dE P "__dict__" 926 (.ref 568),dE P "__weakref__" 928 (.ref 569),dE P "__doc__" 929 .none]),
 (567,clsO "TokenRow" [(.type "object")] [(.ref 567),(.type "object")] 566 [] #[none,none,some (.str "TokenRow" 894),some (.str "TokenRow" 902),some (.builtin "object.__new__"),some (.bool true)]),
 (577,codeO "_law_pool" "_law_pool" 934 465 1 3 944 577),
 (578,fnO (stAt 40) "_law_pool" (.str "law_nz0500_01" 932) .none 577),
 (584,codeO "_law_pick" "_law_pick" 947 480 2 3 953 584),
 (585,fnO (stAt 41) "_law_pick" (.str "law_nz0500_01" 932) .none 584),
 (589,codeV [(.str "_law_plain" 956),(.str "_law_plain" 957),(.str "/claim/cut.py" 958),(.int 490 0),(.int 1 0),(.int 0 0),(.int 0 0),(.int 3 0),(.ref 586),(.bool true),(.int 181 0),(.ref 587),.none,.none,.none,(.ref 588),(.int 959 0),(.int 490 0),(.str "/claim/cut.py" 960)]),
 (590,fnO (stAt 42) "_law_plain" (.str "law_nz0500_01" 932) .none 589),
 (596,codeO "_law_operand" "_law_operand" 962 501 4 3 972 596),
 (597,fnO (stAt 43) "_law_operand" (.str "law_nz0500_01" 932) .none 596),
 (603,codeO "_law_words" "_law_words" 975 535 4 3 983 603),
 (604,fnO (stAt 44) "_law_words" (.str "law_nz0500_01" 932) .none 603),
 (610,codeO "_law_marks" "_law_marks" 986 540 1 3 999 610),
 (611,fnO (stAt 45) "_law_marks" (.str "law_nz0500_01" 932) .none 610),
 (617,codeO "_law_fail" "_law_fail" 1002 559 1 3 1009 617),
 (618,fnO (stAt 46) "_law_fail" (.str "law_nz0500_01" 932) .none 617),
 (619,⟨.type "tuple",none,.seq ⟨[(.str "op" 1012)]⟩,#[]⟩),
 (625,codeO "_law_is" "_law_is" 1013 564 3 3 1019 625),
 (626,fnO (stAt 47) "_law_is" (.str "law_nz0500_01" 932) (.ref 619) 625),
 (632,codeO "_law_want" "_law_want" 1022 566 2 3 1027 632),
 (633,fnO (stAt 48) "_law_want" (.str "law_nz0500_01" 932) .none 632),
 (639,codeO "_law_call" "_law_call" 1030 571 2 3 1035 639),
 (640,fnO (stAt 49) "_law_call" (.str "law_nz0500_01" 932) .none 639),
 (646,codeO "_law_head" "_law_head" 1038 573 1 3 1043 646),
 (647,fnO (stAt 50) "_law_head" (.str "law_nz0500_01" 932) .none 646),
 (653,codeO "_law_primary" "_law_primary" 1046 578 1 3 1055 653),
 (654,fnO (stAt 51) "_law_primary" (.str "law_nz0500_01" 932) .none 653),
 (658,codeV [(.str "_law_function" 1058),(.str "_law_function" 1059),(.str "/claim/cut.py" 1060),(.int 609 0),(.int 1 0),(.int 0 0),(.int 0 0),(.int 3 0),(.ref 655),(.bool true),(.int 181 0),(.ref 656),.none,.none,.none,(.ref 657),(.int 1061 0),(.int 609 0),(.str "/claim/cut.py" 1062)]),
 (659,fnO (stAt 52) "_law_function" (.str "law_nz0500_01" 932) .none 658),
 (665,codeO "_law_side" "_law_side" 1064 621 1 3 1070 665),
 (666,fnO (stAt 53) "_law_side" (.str "law_nz0500_01" 932) .none 665),
 (672,codeO "_law_expression" "_law_expression" 1073 632 2 3 1080 672),
 (673,fnO (stAt 54) "_law_expression" (.str "law_nz0500_01" 932) .none 672),
 (677,codeV [(.str "law" 1083),(.str "law" 1084),(.str "/claim/cut.py" 1085),(.int 639 0),(.int 1 0),(.int 0 0),(.int 0 0),(.int 3 0),(.ref 674),(.bool true),(.int 181 0),(.ref 675),.none,.none,.none,(.ref 676),(.int 1086 0),(.int 639 0),(.str "/claim/cut.py" 1087)]),
 (678,fnO (stAt 55) "law" (.str "law_nz0500_01" 932) .none 677)]
noncomputable def cfg (w:World) (b:Heap) (mg mb:Str→Option Value) (os:OsState):Cfg:=⟨pgm,w,K0 w.params,b,mg,mb,os⟩
end Internal
end
section
namespace Internal
open PySem PySem.W PyProof.Rows
section
noncomputable def tabs:Tabs where
 g:=(("_law_pick" : Str),V.fn 585)::(("_law_plain" : Str),V.fn 590)::(("_law_operand" : Str),V.fn 597)::(("_law_words" : Str),V.fn 604)::(("_law_marks" : Str),V.fn 611)::(("_law_fail" : Str),V.fn 618)::(("_law_is" : Str),V.fn 626)::(("_law_want" : Str),V.fn 633)::(("_law_call" : Str),V.fn 640)::(("_law_head" : Str),V.fn 647)::(("_law_primary" : Str),V.fn 654)::(("_law_function" : Str),V.fn 659)::(("_law_side" : Str),V.fn 666)::(("_law_expression" : Str),V.fn 673)::(("Vector" : Str),V.fn 120)::(("Symbol" : Str),V.fn 141)::(("Call" : Str),V.fn 163)::(("Null" : Str),V.fn 70)::(("Missing" : Str),V.fn 91)::(("binary_level" : Str),V.fn 263)::(("prefix_level" : Str),V.fn 270)::(("right_level" : Str),V.fn 277)::(("constant_of" : Str),V.fn 284)::(("joined" : Str),V.fn 298)::(("call_of" : Str),V.fn 249)::(("symbol" : Str),V.fn 242)::(("missing" : Str),V.fn 181)::(("null" : Str),V.fn 174)::(("share" : Str),V.fn 256)::(("pairlist_of" : Str),V.fn 221)::(("character" : Str),V.fn 209)::(("Token" : Str),V.fn 539)::(("STATEMENT" : Str),V.int 1)::(("ARGUMENT" : Str),V.int 3)::(("COMPARISON" : Str),V.int 9)::[]
 m:=[("peek",320),("take",327),("is_op",334),("is_key",341),("expect_op",348),("fail",355),("joins",362),("expression",370),("operand",384),("primary",391),("construct",468),("followed",412),("call_on",419),("arguments",440),("argument_tag",447),("block",475),("condition",482),("conditional",489),("while_loop",503),("function",510),("program",517),("bracketed",398)]
 f:=[585,590,597,604,611,618,626,633,640,647,654,659,666,673,120,141,163,70,91,263,270,277,284,298,249,242,181,174,256,221,209,539]
 c:=[]
 s:=[]
noncomputable def isIn (n:Int) (w:Option (Option Value)):Bool:=match w with | some (some (.int m _))=>n==m | _=>false
noncomputable def gChk (K:Frag) (v:V) (w:Option (Option Value)):Bool:=match v with
 | .fn a=>isRef a w
 | .int n=>isIn n w
 | _=>false
theorem gChk_spec {K:Frag} {v:V} {w:Option (Option Value)} (h:gChk K v w=true):∃ u,w=some (some u)∧∀ ad H,Rep ad H v u:=by
 induction v using V.casesOn
 case fn a=>exact ⟨_,isRef_spec h,fun _ _=>.fn⟩
 case int n=>
  rcases w with _ | _ | w
  ·exact ftE h
  ·exact ftE h
  induction w using Value.casesOn
  case int m t=>rw [show n=m from beq_iff_eq.mp h];exact ⟨_,rfl,fun _ _=>.int⟩
  all_goals exact ftE h
 all_goals exact ftE h
noncomputable def fldChk (K:Frag) (C:Addr) (n:Str):Bool:=plainGet K C n&&(hasDictIn K C&&isNo (findIn K (.ref C) n))
theorem fldChk_spec {K:Frag} {C:Addr} {n:Str} (h:fldChk K C n=true):FldOk K C n:=by
 have bq:=Bool.and_eq_true_iff.mp h
 have h1:=bq.1
 have h:=bq.2
 have bq:=Bool.and_eq_true_iff.mp h
 have h2:=bq.1
 have h3:=bq.2
 exact ⟨⟨h1,h2⟩,isNo_spec h3⟩
noncomputable def metChk (K:Frag) (C:Addr) (n:Str) (f:Addr):Bool:=plainGet K C "x" && (isRef f (findIn K (.ref C) n)&&(isFn K (.ref f)&&keepIn K (.ref f)))
theorem metChk_spec {K:Frag} {C:Addr} {n:Str} {f:Addr} (h:metChk K C n f=true):MetOk K C n f:=by
 have bq:=Bool.and_eq_true_iff.mp h
 have h1:=bq.1
 have h:=bq.2
 have bq:=Bool.and_eq_true_iff.mp h
 have h2:=bq.1
 have h:=bq.2
 have bq:=Bool.and_eq_true_iff.mp h
 have h3:=bq.1
 have h4:=bq.2
 exact ⟨h1,isRef_spec h2,h3,h4⟩
noncomputable def isB? (b:Bool) (w:Option Bool):Bool:=match w with | some c=>b==c | none=>false
theorem isB?_spec {b:Bool} {w:Option Bool} (h:isB? b w=true):w=some b:=by
 cases w with
 | none=>exact ftE h
 | some c=>rw [beq_iff_eq.mp h]
noncomputable def isiChk (K:Frag) (D:Addr) (b:Bool):Bool:=isB? b (kitOne K (.ref D) (.ref 120))&&(plainGet K D "__class__" && (hasDictIn K D&&(isBt "object.__class__" (findIn K (.ref D) "__class__")&&isB? true (mroIn K D (.type "object")))))
theorem isiChk_spec {K:Frag} {D:Addr} {b:Bool} (h:isiChk K D b=true):IsiOk K D b:=by
 have bq:=Bool.and_eq_true_iff.mp h
 have h1:=bq.1
 have h:=bq.2
 have bq:=Bool.and_eq_true_iff.mp h
 have h2:=bq.1
 have h:=bq.2
 have bq:=Bool.and_eq_true_iff.mp h
 have h3:=bq.1
 have h:=bq.2
 have bq:=Bool.and_eq_true_iff.mp h
 have h4:=bq.1
 have h5:=bq.2
 exact ⟨isB?_spec h1,h2,h3,isBt_spec h4,isB?_spec h5⟩
noncomputable def setChk (K:Frag) (C:Addr):Bool:=isBt "object.__setattr__" (findIn K (.ref C) "__setattr__")&&(plainOver K C&&hasDictIn K C)
theorem setChk_spec {K:Frag} {C:Addr} (h:setChk K C=true):findIn K (.ref C) "__setattr__" = some (some (.builtin "object.__setattr__"))∧plainOver K C=true∧hasDictIn K C=true:=by
 have bq:=Bool.and_eq_true_iff.mp h
 have h1:=bq.1
 have h:=bq.2
 exact ⟨isBt_spec h1,Bool.and_eq_true_iff.mp h⟩
noncomputable def noCtx (x:Str):Bool:=x != "source" && (x != "ahead" && x != "contexts")
noncomputable def tabChk (K:Frag):Bool:=(tabs.g.all fun x=>gChk K x.2 (nsIn K mainGlobals x.1))&&(((["len","list","max","range","isinstance","int","abs"]:List Str).all fun x=>isNo (nsIn K mainGlobals x))&&((tabs.f.all fun a=>keepIn K (.ref a)) &&
 ((tabs.m.all fun x=>metChk K 520 x.1 x.2&&noCtx x.1)&&(metChk K 567 "next_token" 564&&((ctab.all fun x=>x.2.all fun n=>fldChk K x.1 n)&&((["kind","items","attrs"]:List Str).all (fun n=>fldChk K 120 n)&&(setChk K 567&&(setChk K 120&&(isNo (takerIn K 567 "place")&&(isNo (takerIn K 120 "shared") &&
 (isiChk K 120 true&&(isiChk K 91 false&&(isBt "getset_descriptor.__get__" (specialIn K (.builtin "object.__class__") "__get__")&&isB? true (takesIn K (.builtin "object.__class__")))))))))))))))
theorem tabs_ok {e:Mc} (h:tabChk e.g.K=true) {c:List (Str × V)} {s:List (Addr × List Int)} (hs:∀ p,s.head?=some p→∃ vs,e.g.b.IsList p.1 vs.toArray∧IntsAre vs p.2):({ tabs with c:=c,s:=s }:Tabs).Ok e:=by
 have bq:=Bool.and_eq_true_iff.mp h
 have h1:=bq.1
 have h:=bq.2
 have bq:=Bool.and_eq_true_iff.mp h
 have h2:=bq.1
 have h:=bq.2
 have bq:=Bool.and_eq_true_iff.mp h
 have h3:=bq.1
 have h:=bq.2
 have bq:=Bool.and_eq_true_iff.mp h
 have h4:=bq.1
 have h:=bq.2
 have bq:=Bool.and_eq_true_iff.mp h
 have h5:=bq.1
 have h:=bq.2
 have bq:=Bool.and_eq_true_iff.mp h
 have h6:=bq.1
 have h:=bq.2
 have bq:=Bool.and_eq_true_iff.mp h
 have h7:=bq.1
 have h:=bq.2
 have bq:=Bool.and_eq_true_iff.mp h
 have h8:=bq.1
 have h:=bq.2
 have bq:=Bool.and_eq_true_iff.mp h
 have h9:=bq.1
 have h:=bq.2
 have bq:=Bool.and_eq_true_iff.mp h
 have h10:=bq.1
 have h:=bq.2
 have bq:=Bool.and_eq_true_iff.mp h
 have h11:=bq.1
 have h:=bq.2
 have bq:=Bool.and_eq_true_iff.mp h
 have h12:=bq.1
 have h:=bq.2
 have bq:=Bool.and_eq_true_iff.mp h
 have h13:=bq.1
 have h:=bq.2
 have bq:=Bool.and_eq_true_iff.mp h
 have h14:=bq.1
 have h15:=bq.2
 refine ⟨fun x v hx=>?_,fun x hx=>isNo_spec (List.all_eq_true.mp h2 x hx),fun a ha=>List.all_eq_true.mp h3 a (List.contains_iff_mem.mp ha),fun x a hx=>?_,metChk_spec h5,fun C n hn=>?_,fun n hn=>fldChk_spec (List.all_eq_true.mp h7 n hn),fun C hC=>setChk_spec ?_,
  ⟨isNo_spec h10,isNo_spec h11⟩,⟨isiChk_spec h12,isiChk_spec h13,isBt_spec h14,isB?_spec h15⟩,hs⟩
 ·obtain ⟨u,e1,e2⟩:=gChk_spec (List.all_eq_true.mp h1 _ (lookup_memN hx))
  exact ⟨u,e1,fun H=>e2 _ H⟩
 ·obtain ⟨q1,q2⟩:=Bool.and_eq_true_iff.mp (List.all_eq_true.mp h4 _ (lookup_memN hx))
  refine ⟨metChk_spec q1,fun u v w=>valueAt_none fun hm=>?_⟩
  have bq:=Bool.and_eq_true_iff.mp q2
  have z1:=bq.1
  have z:=bq.2
  have bq:=Bool.and_eq_true_iff.mp z
  have z2:=bq.1
  have z3:=bq.2
  simp only [List.map_cons,List.map_nil,List.mem_cons,List.not_mem_nil,or_false] at hm
  rcases hm with rfl | rfl | rfl
  ·exact absurd rfl (bne_iff_ne.mp z1)
  ·exact absurd rfl (bne_iff_ne.mp z2)
  ·exact absurd rfl (bne_iff_ne.mp z3)
 ·unfold fnames at hn
  cases hc:ctab.lookup C with
  | none=>rw [hc] at hn;exact nomatch hn
  | some ks=>
   rw [hc] at hn
   have:(C,ks) ∈ ctab:=by
    clear hn h6
    revert hc
    generalize ctab=l
    intro hc
    induction l with
    | nil=>exact noneE hc
    | cons p l ih=>
     obtain ⟨x,y⟩:=p
     rw [List.lookup_cons] at hc
     cases q:C==x with
     | true=>rw [q] at hc;rw [beq_iff_eq.mp q,← Option.some.inj hc];exact .head _
     | false=>rw [q] at hc;exact .tail _ (ih hc)
   exact fldChk_spec (List.all_eq_true.mp (List.all_eq_true.mp h6 _ this) _ hn)
 ·rcases hC with rfl | rfl
  ·exact h8
  ·exact h9
end
end Internal
end
section
namespace Internal
open PySem PySem.W PyProof.Rows
section
structure Wo where
 w:World
 b:Heap
 mg:Str→Option Value
 mb:Str→Option Value
 os:OsState
 ad:Nat→Addr
 da:Nat→Addr
 hid:Nat→AH→Prop
 n:Nat
@[irreducible] noncomputable def Wo.e (W:Wo):Mc:=⟨cfg W.w W.b W.mg W.mb W.os,W.ad,W.da,W.hid,W.n⟩
structure Wo.Ok (W:Wo):Prop where
 E:W.e.Ok
 raise:Raises W.e.g
noncomputable def rtF (t:Tr (Fl × Fst)):Option (V × List Root):=match t with | .ret p=>some (retV p.1,p.2.r) | _=>none
theorem tabW {W:Wo}:tabChk W.e.g.K=true:=by kernel_rfl
theorem Wo.Ok.fn {W:Wo} (O:W.Ok) {g:Nat} {f:Addr} {as:List V} {r:List Root} {Z:Out→Prop} (hg:2≤g) (fn:fnChk W.e.g.K f=true) (hbind:BindOk W.e.g.K f as.length)
  (h:Internal.W (GoodP W.e g) (fun k n=>Z (.exc k n)) (treeOf tabs W.e.g.K f as r) fun p=>Z (.ok (retV p.1) p.2.r)):GoodP W.e (g+1) f as r Z:=GoodP.fn O.E (tabs_ok tabW (c:=[]) (s:=[]) fun p q=>noneE q) O.raise rfl hg fn hbind h
theorem W.rf {R:Addr→List V→List Root→(Out→Prop)→Prop} {xp:Str→Int→Prop} {t:Tr (Fl × Fst)} {v:V} {r:List Root} (e:rtF t=some (v,r)):Internal.W R xp t fun p=>Out.ok v r=.ok (retV p.1) p.2.r:=by
 cases t<;>try (cases e;done)
 cases e
 rfl
theorem Wo.Ok.fn0 {W:Wo} (O:W.Ok) {g:Nat} {f:Addr} {as:List V} {r r':List Root} {v:V} (hg:3≤g) (fn:fnChk W.e.g.K f=true) (hbind:BindOk W.e.g.K f as.length) (h:rtF (treeOf tabs W.e.g.K f as r)=some (v,r')):GoodC W.e g f as r (.ok v r'):=by
 obtain ⟨g,rfl⟩:∃ k,g=k+1:=⟨g - 1,by lia⟩
 exact O.fn (by lia) fn hbind (Internal.W.rf h)
end
end Internal
end
section
namespace Internal
open PySem PySem.W PyProof.Rows
section
variable {w:Wo} {g:Nat} {r:List Root}
noncomputable def symV (s:Str):V:=.obj 141 [.str "symbol",.str s,.none]
noncomputable def callV (ts gs:V):V:=.obj 163 [.str "language",ts,gs,.none,.none]
noncomputable def nulV:V:=.obj 70 [.str "NULL",.none]
noncomputable def misV:V:=.obj 91 [.str "missing",.none]
theorem mk_sym (O:w.Ok) (r:List Root) (hg:3≤g) {s:Str}:GoodC w.e g 141 [.str s] r (.ok (symV s) r):=
 GoodC.obj O.E (fI:=138) (xs:=["name"]) (ds:=[]) (dv:=[]) (fl:=[("kind",.str "symbol"),("name",.str s),("attrs",.none)]) hg (by kernel_rfl) (by kernel_rfl) (by kernel_rfl) (.o2 fun a b=>by kernel_rfl) (fun _=>.nil) (by kernel_rfl) (by kernel_rfl)
theorem mk_nul (O:w.Ok) (r:List Root) (hg:3≤g):GoodC w.e g 70 [] r (.ok nulV r):=
 GoodC.obj O.E (fI:=67) (xs:=[]) (ds:=[]) (dv:=[]) (fl:=[("kind",.str "NULL"),("attrs",.none)]) hg (by kernel_rfl) (by kernel_rfl) (by kernel_rfl) (.o1 fun a=>by kernel_rfl) (fun _=>.nil) (by kernel_rfl) (by kernel_rfl)
theorem mk_mis (O:w.Ok) (r:List Root) (hg:3≤g):GoodC w.e g 91 [] r (.ok misV r):=
 GoodC.obj O.E (fI:=88) (xs:=[]) (ds:=[]) (dv:=[]) (fl:=[("kind",.str "missing"),("attrs",.none)]) hg (by kernel_rfl) (by kernel_rfl) (by kernel_rfl) (.o1 fun a=>by kernel_rfl) (fun _=>.nil) (by kernel_rfl) (by kernel_rfl)
theorem mk_call (O:w.Ok) (r:List Root) (hg:3≤g) {a b:V}:GoodC w.e g 163 [a,b] r (.ok (callV a b) r):=
 GoodC.obj O.E (fI:=160) (xs:=["items","tags","attrs"]) (ds:=[.none]) (dv:=[.none]) (fl:=[("kind",.str "language"),("items",a),("tags",b),("attrs",.none),("code",.none)]) hg (by kernel_rfl) (by kernel_rfl) (by kernel_rfl) (.o3 fun a b c=>by kernel_rfl) (fun _=>.cons .none .nil) (by kernel_rfl) (by kernel_rfl)
theorem mk_vec (O:w.Ok) (r:List Root) (hg:3≤g) {k:Str} {i:V}:GoodC w.e g 120 [.str k,i] r (.ok (.vec k i .none) r):=
 GoodC.vec O.E (fI:=110) (xs:=["kind","items","attrs"]) (ds:=[.none]) (dv:=[.none]) hg (by kernel_rfl) (by kernel_rfl) (by kernel_rfl) (.o3 fun a b c=>by kernel_rfl) (fun _=>.cons .none .nil) (by kernel_rfl)
end
end Internal
end
section
namespace Internal
open PySem PySem.W PyProof.Rows
section
theorem W.aq {R:Addr→List V→List Root→(Out→Prop)→Prop} {xp:Str→Int→Prop} {α:Type} {t:Tr α} {v:V} {Q:α→Prop} (e:prA t v=(v=v)) (k:Internal.W R xp (rsA t v) Q):Internal.W R xp t Q:=Internal.W.a rfl e k
noncomputable def valR:Wd→V | .num n=>.vec "double" (.lst [.tup [.int n,.int 1]]) .none | w=>.str w.s
noncomputable def tokV (w:Wd) (nl:Bool) (i:Nat):V:=.obj 539 [.str w.kd,valR w,.int (10*i:Nat),.bool nl]
noncomputable def opIs:Wd→Str→Bool | .op o,x=>o.s==x | _,_=>false
noncomputable def keyIs:Wd→Str→Bool | .key o,x=>o.s==x | _,_=>false
theorem opIs_no {x:Wd} {s:Str} {o:Opr} (h:x≠.op o) (hs:s=o.s):opIs x s=false:=by
 subst hs
 cases x<;>try rfl
 rename_i o'
 have:o'≠o:=fun e=>h (by rw [e])
 cases o<;>cases o'<;>first | exact absurd rfl this | decide +kernel
theorem opIs_yes {x:Wd} {s:Str} {o:Opr} (h:x=.op o) (hs:s=o.s):opIs x s=true:=by
 subst hs h;exact beq_self_eq_true o.s
theorem keyIs_no {x:Wd} {s:Str} {o:Key} (h:x≠.key o) (hs:s=o.s):keyIs x s=false:=by
 subst hs
 cases x<;>try rfl
 rename_i o'
 have:o'≠o:=fun e=>h (by rw [e])
 cases o<;>cases o'<;>first | exact absurd rfl this | decide +kernel
theorem keyIs_yes {x:Wd} {s:Str} {o:Key} (h:x=.key o) (hs:s=o.s):keyIs x s=true:=by
 subst hs h;exact beq_self_eq_true o.s
noncomputable def badK (w:Wd):Str:=if w=.eof then "unexpected_end" else "unexpected_token"
noncomputable def ctxL:List Ctx→List V
 | []=>[]
 | k::ks=>ctxL ks++[.str k.s]
theorem ctxL_len:∀ ks:List Ctx,(ctxL ks).length=ks.length
 | []=>rfl
 | k::ks=>(List.length_append (as:=ctxL ks)).trans (congrArg Nat.succ (ctxL_len ks))
noncomputable def rdS (p:Nat) (ks:List Ctx):List Root:=[.hid p,.lst (ctxL ks)]
structure Rd (w:Wo) (tk:Nat→Tk) (n:Nat):Prop where
 ok:w.Ok
 peek:∀ {g p ks},5≤g→p<n→GoodC w.e g 320 [.cell 0] (rdS p ks) (.ok (tokV (tk p).wd (tk p).nl p) (rdS p ks))
 peek1:∀ {g p ks},5≤g→p+1<n→GoodC w.e g 320 [.cell 0,.int 1] (rdS p ks) (.ok (tokV (tk (p+1)).wd (tk (p+1)).nl (p+1)) (rdS p ks))
 take:∀ {g p ks},6≤g→p<n→GoodC w.e g 327 [.cell 0] (rdS p ks) (.ok (tokV (tk p).wd (tk p).nl p) (rdS (p+1) ks))
theorem GoodP.up {e:Mc} {g g':Nat} {f:Addr} {as:List V} {r:List Root} {Z:Out→Prop} (h:GoodP e g f as r Z) (k:g≤g'):GoodP e g' f as r Z:=fun H ws a b=>(h H ws a b).rank k
section
variable {w:Wo} {g:Nat} {r:List Root}
theorem symbol_ok (O:w.Ok) (hg:4≤g) {s:Str}:GoodC w.e g 242 [.str s] r (.ok (symV s) r):=by
 refine GoodP.up (O.fn (g:=3) (by decide) (by kernel_rfl) (.o1 fun a=>by kernel_rfl) ?_) hg
 exact Internal.W.c (mk_sym O r (by decide) (s:=s)) (by kernel_rfl) (Internal.W.rf (by kernel_rfl))
theorem missing_ok (O:w.Ok) (hg:4≤g):GoodC w.e g 181 [] r (.ok misV r):=by
 refine GoodP.up (O.fn (g:=3) (by decide) (by kernel_rfl) (.o0 (by kernel_rfl)) ?_) hg
 exact Internal.W.c (mk_mis O r (by decide)) (by kernel_rfl) (Internal.W.rf (by kernel_rfl))
theorem null_ok (O:w.Ok) (hg:4≤g):GoodC w.e g 174 [] r (.ok nulV r):=by
 refine GoodP.up (O.fn (g:=3) (by decide) (by kernel_rfl) (.o0 (by kernel_rfl)) ?_) hg
 exact Internal.W.c (mk_nul O r (by decide)) (by kernel_rfl) (Internal.W.rf (by kernel_rfl))
noncomputable def callL (s:Str) (l:List V):V:=callV (.lst (symV s::l)) (.lst (List.replicate (l.length+1) .none))
theorem callof_ok (O:w.Ok) (hg:4≤g) {s:Str} {l:List V} (hl:l.length≤1000):GoodC w.e g 249 [.str s,.lst l] r (.ok (callL s l) r):=by
 refine GoodP.up (O.fn (g:=3) (by decide) (by kernel_rfl) (.o2 fun a b=>by kernel_rfl) ?_) hg
 have hz:sizeLine=2 ^ 24:=rfl
 refine Internal.W.c (mk_sym O r (by decide) (s:=s)) (by kernel_rfl) ?_
 refine Internal.W.a (v:=.none) (P:=l.length≤sizeLine) (by lia) (by kernel_rfl) ?_
 refine Internal.W.a (v:=.none) (P:=1+l.length≤sizeLine) (by lia) (by kernel_rfl) ?_
 refine Internal.W.a (v:=.int (l.length+1:Nat)) (P:=(symV s::l).length≤sizeLine∧V.int (l.length+1:Nat)=.int (symV s::l).length) ⟨by simp;lia,rfl⟩ (by kernel_rfl) ?_
 refine Internal.W.a (v:=.lst (List.replicate (l.length+1) .none)) (P:=((0:Int)≤(l.length+1:Nat)∧((l.length+1:Nat):Int)≤2 ^ 20)∧V.lst (List.replicate (l.length+1) .none)=.lst (List.replicate ((l.length+1:Nat):Int).toNat .none)) ⟨⟨by lia,by lia⟩,rfl⟩ (by kernel_rfl) ?_
 exact Internal.W.c (mk_call O r (by decide) (a:=.lst (symV s::l)) (b:=.lst (List.replicate (l.length+1) .none))) (by kernel_rfl) (Internal.W.rf (by kernel_rfl))
end
section
variable {w:Wo} {tk:Nat→Tk} {n g p:Nat} {ks:List Ctx}
theorem isop_ok (X:Rd w tk n) (hg:6≤g) (hp:p<n) (x:Str):GoodC w.e g 334 [.cell 0,.str x] (rdS p ks) (.ok (.bool (opIs (tk p).wd x)) (rdS p ks)):=by
 refine GoodP.up (X.ok.fn (g:=5) (by decide) (by kernel_rfl) (.o2 fun a b=>by kernel_rfl) ?_) hg
 refine Internal.W.c (X.peek (ks:=ks) (by decide) hp) (by kernel_rfl) ?_
 cases (tk p).wd<;>exact Internal.W.rf (by kernel_rfl)
theorem iskey_ok (X:Rd w tk n) (hg:6≤g) (hp:p<n) (x:Str):GoodC w.e g 341 [.cell 0,.str x] (rdS p ks) (.ok (.bool (keyIs (tk p).wd x)) (rdS p ks)):=by
 refine GoodP.up (X.ok.fn (g:=5) (by decide) (by kernel_rfl) (.o2 fun a b=>by kernel_rfl) ?_) hg
 refine Internal.W.c (X.peek (ks:=ks) (by decide) hp) (by kernel_rfl) ?_
 cases (tk p).wd<;>exact Internal.W.rf (by kernel_rfl)
theorem fail_ok (X:Rd w tk n) (hg:6≤g) (hp:p<n):GoodC w.e g 355 [.cell 0] (rdS p ks) (.exc (badK (tk p).wd) (10*p:Nat)):=by
 refine GoodP.up (X.ok.fn (g:=5) (by decide) (by kernel_rfl) (.o1 fun a=>by kernel_rfl) ?_) hg
 refine Internal.W.c (X.peek (ks:=ks) (by decide) hp) (by kernel_rfl) ?_
 cases (tk p).wd<;>exact Internal.W.x (by kernel_rfl) rfl
theorem exp_ok (X:Rd w tk n) (hg:7≤g) (hp:p<n) (x:Str) (h:opIs (tk p).wd x=true):GoodC w.e g 348 [.cell 0,.str x] (rdS p ks) (.ok (tokV (tk p).wd (tk p).nl p) (rdS (p+1) ks)):=by
 refine GoodP.up (X.ok.fn (g:=6) (by decide) (by kernel_rfl) (.o2 fun a b=>by kernel_rfl) ?_) hg
 refine Internal.W.c (h▸isop_ok (ks:=ks) X (by decide) hp x) (by kernel_rfl) ?_
 exact Internal.W.c (X.take (ks:=ks) (by decide) hp) (by kernel_rfl) (Internal.W.rf (by kernel_rfl))
theorem exp_bad (X:Rd w tk n) (hg:7≤g) (hp:p<n) (x:Str) (h:opIs (tk p).wd x=false):GoodC w.e g 348 [.cell 0,.str x] (rdS p ks) (.exc (badK (tk p).wd) (10*p:Nat)):=by
 refine GoodP.up (X.ok.fn (g:=6) (by decide) (by kernel_rfl) (.o2 fun a b=>by kernel_rfl) ?_) hg
 refine Internal.W.c (h▸isop_ok (ks:=ks) X (by decide) hp x) (by kernel_rfl) ?_
 exact Internal.W.cx (fail_ok (ks:=ks) X (by decide) hp) (by kernel_rfl) rfl
theorem joins_ok (X:Rd w tk n) (hg:3≤g) (hk:ks.length≤1000) {k:Ctx} {t:Tk} {i:Nat}:GoodC w.e g 362 [.cell 0,tokV t.wd t.nl i] (rdS p (k::ks)) (.ok (.bool (joins t k)) (rdS p (k::ks))):=by
 refine GoodP.up (X.ok.fn (g:=2) (by decide) (by kernel_rfl) (.o2 fun a b=>by kernel_rfl) ?_) hg
 obtain ⟨wd,nl⟩:=t
 cases nl
 ·exact Internal.W.rf (by kernel_rfl)
 ·refine Internal.W.a (v:=.str k.s) (P:=(ctxL (k::ks)).length≤sizeLine∧((0:Int)≤-1∧(ctxL (k::ks))[(-1:Int).toNat]?=some (.str k.s)∨(-1:Int)=-1∧∃ l',ctxL (k::ks)=l'++[.str k.s])) ⟨?_,.inr ⟨rfl,ctxL ks,rfl⟩⟩ (by kernel_rfl) ?_
  ·rw [ctxL_len];have:sizeLine=2 ^ 24:=rfl;simp;lia
  ·cases k<;>exact Internal.W.rf (by kernel_rfl)
end
end
end Internal
end
section
namespace Internal
open PySem PySem.W PyProof.Rows
section
noncomputable def lvB (o:Opr):Int:=if o=.plus then 10 else if o=.star then 11 else 0
noncomputable def cpO:Opr→Nat | .plus=>43 | .star=>42 | .lp=>40 | .rp=>41 | .lb=>123 | .rb=>125 | .semi=>59
noncomputable def lvP:Opr→Int | .plus=>14 | _=>0
section
variable {w:Wo} {g:Nat} {r:List Root}
theorem blevel_ok (O:w.Ok) (hg:3≤g) (o:Opr):GoodC w.e g 263 [.str o.s] r (.ok (.int (lvB o)) r):=by
 refine GoodP.up (O.fn (g:=2) (by decide) (by kernel_rfl) (.o1 fun a=>by kernel_rfl) ?_) hg
 refine Internal.W.a (v:=.str o.s) (P:=(0:Int)≤0∧(0:Int)<2 ^ 62∧∃ cp,o.s.cps[(0:Int).toNat]?=some cp∧V.str o.s=.str ⟨#[cp]⟩) ⟨by decide,by decide,?_⟩ (by kernel_rfl) ?_
 ·exact ⟨cpO o,by cases o<;>kernel_rfl,by cases o<;>kernel_rfl⟩
 cases o
 ·exact Internal.W.rf (by kernel_rfl)
 ·exact Internal.W.rf (by kernel_rfl)
 all_goals
  refine Internal.W.a (v:=.int 1) (P:=1≤1000∧V.int 1=.int 1) ⟨by decide,rfl⟩ (by kernel_rfl) ?_
  refine Internal.W.aq (v:=.bool true) (by kernel_rfl) ?_
  exact Internal.W.rf (by kernel_rfl)
theorem plevel_ok (O:w.Ok) (hg:3≤g) (o:Opr):GoodC w.e g 270 [.str o.s] r (.ok (.int (lvP o)) r):=by
 cases o<;>exact O.fn0 hg (by kernel_rfl) (.o1 fun a=>by kernel_rfl) (by kernel_rfl)
theorem rlevel_ok (O:w.Ok) (hg:3≤g) (o:Opr) (h:lvB o≠0):GoodC w.e g 277 [.str o.s,.int (lvB o)] r (.ok (.int (lvB o+1)) r):=by
 refine GoodP.up (O.fn (g:=2) (by decide) (by kernel_rfl) (.o2 fun a b=>by kernel_rfl) ?_) hg
 cases o<;>try exact absurd rfl h
 ·refine Internal.W.aq (v:=.bool false) (by kernel_rfl) ?_
  refine Internal.W.aq (v:=.bool false) (by kernel_rfl) ?_
  refine Internal.W.aq (v:=.bool false) (by kernel_rfl) ?_
  exact Internal.W.aq (v:=.int 11) (by kernel_rfl) (Internal.W.rf (by kernel_rfl))
 ·refine Internal.W.aq (v:=.bool false) (by kernel_rfl) ?_
  refine Internal.W.aq (v:=.bool false) (by kernel_rfl) ?_
  refine Internal.W.aq (v:=.bool false) (by kernel_rfl) ?_
  exact Internal.W.aq (v:=.int 12) (by kernel_rfl) (Internal.W.rf (by kernel_rfl))
theorem const_ok (O:w.Ok) (hg:3≤g) (k:Key):GoodC w.e g 284 [.str k.s] r (.ok .none r):=by
 cases k<;>exact O.fn0 hg (by kernel_rfl) (.o1 fun a=>by kernel_rfl) (by kernel_rfl)
theorem joined_ok (O:w.Ok) (hg:5≤g) (o:Opr) (h:lvB o≠0) {a b:V} {i:Int}:GoodC w.e g 298 [.str o.s,a,b,.int i] r (.ok (callL o.s [a,b]) r):=by
 refine GoodP.up (O.fn (g:=4) (by decide) (by kernel_rfl) (.o4 fun a b c d=>by kernel_rfl) ?_) hg
 cases o<;>try exact absurd rfl h
 ·exact Internal.W.c (callof_ok O (r:=r) (s:="+") (l:=[a,b]) (by decide) (by simp)) (by kernel_rfl) (Internal.W.rf (by kernel_rfl))
 ·exact Internal.W.c (callof_ok O (r:=r) (s:="*") (l:=[a,b]) (by decide) (by simp)) (by kernel_rfl) (Internal.W.rf (by kernel_rfl))
end
end
end Internal
end
section
namespace Internal
open PySem PySem.W PyProof.Rows
section
section
variable {R:Addr→List V→List Root→(Out→Prop)→Prop} {xp:Str→Int→Prop} {α:Type}
noncomputable def lpS (t:Tr α):Option Fst:=match t with | .loop _ s _=>some s | _=>none
noncomputable def lpT (t:Tr α) (s:Fst):Tr (Option Fl × Fst):=match t with | .loop u _ _=>u s | _=>.stuck
noncomputable def lpK (t:Tr α) (p:Option Fl × Fst):Tr α:=match t with | .loop _ _ k=>(match p.1 with | some fl=>k fl p.2 | none=>.stuck) | _=>.stuck
noncomputable def LQ (R:Addr→List V→List Root→(Out→Prop)→Prop) (xp:Str→Int→Prop) (t0:Tr α) (I:Nat→Fst→Prop) (n:Nat) (Q:α→Prop) (p:Option Fl × Fst):Prop:=(∃ m s',p=(none,s')∧m<n∧I m s')∨∃ fl s',p=(some fl,s')∧Internal.W R xp (lpK t0 p) Q
theorem W.l {t:Tr α} {s:Fst} {Q:α→Prop} (I:Nat→Fst→Prop) (n:Nat) (e:lpS t=some s) (h0:I n s)
  (h:∀ n s,I n s→Internal.W R xp (lpT t s) (LQ R xp t I n Q)):Internal.W R xp t Q:=by
 cases t<;>try (cases e;done)
 (injection e with e1;subst e1)
 refine ⟨I,n,h0,fun n s hI=>(h n s hI).mono _ fun p hp=>?_⟩
 rcases hp with ⟨m,s',rfl,h1,h2⟩ | ⟨fl,s',rfl,h1⟩
 ·exact ⟨m,h1,h2⟩
 ·exact h1
theorem W.la {t:Tr (Option Fl × Fst)} {t0:Tr α} {s':Fst} {I:Nat→Fst→Prop} {n m:Nat} {Q:α→Prop} (e:rtR t=some (none,s')) (hm:m<n) (h:I m s'):Internal.W R xp t (LQ R xp t0 I n Q):=Internal.W.r e (.inl ⟨m,s',rfl,hm,h⟩)
noncomputable def endOf (t:Tr (Option Fl × Fst)):Option Fl × Fst:=match t with | .ret p=>p | _=>(none,⟨[],[]⟩)
noncomputable def isEnd (t:Tr (Option Fl × Fst)):Bool:=match t with | .ret p=>p.1.isSome | _=>false
theorem W.le {t:Tr (Option Fl × Fst)} {t0:Tr α} {I:Nat→Fst→Prop} {n:Nat} {Q:α→Prop} (e:isEnd t=true) (h:Internal.W R xp (lpK t0 (endOf t)) Q):Internal.W R xp t (LQ R xp t0 I n Q):=by
 cases t<;>try (injection e;done)
 rename_i p
 obtain ⟨_ | fl,s'⟩:=p
 ·injection e
 ·exact .inr ⟨fl,s',rfl,h⟩
end
noncomputable def plV (names:List Str):V:=.vec "pairlist" (.lst (List.replicate names.length misV)) (.nm (.vec "character" (.lst (names.map .str)) .none))
mutual
noncomputable def toR:Tree→V
 | .name s=>symV s
 | .num n=>.vec "double" (.lst [.tup [.int n,.int 1]]) .none
 | .call ts=>callV (.lst (toRs ts)) (.lst (List.replicate ts.length .none))
 | .fn names b=>callV (.lst [symV "function",plV names,toR b,nulV]) (.lst (List.replicate 4 .none))
noncomputable def toRs:List Tree→List V
 | []=>[]
 | t::ts=>toR t::toRs ts
end
theorem toRs_len:∀ ts:List Tree,(toRs ts).length=ts.length
 | []=>rfl
 | _::ts=>congrArg Nat.succ (toRs_len ts)
noncomputable def outR (tk:Nat→Tk) (ks:List Ctx):Res→Out
 | .ok t q=>.ok (toR t) (rdS q ks)
 | .bad q=>.exc (badK (tk q).wd) (10*q:Nat)
noncomputable def LvR (L lv:Nat):Prop:=(lv<2↔L≤10)∧(lv<3↔L≤11)∧1≤L∧L≤12
noncomputable def eL (L:Nat):Nat:=if L≤10 then 22 else if L=11 then 21 else 20
noncomputable def wt:Wd→Nat | .op .plus=>4 | .op .lp=>12 | .op .lb=>12 | .key .kif=>12 | .key .kwhile=>12 | .key .kfun=>12 | _=>0
theorem w_pl:wt (.op .plus)=4:=rfl
theorem w_st:wt (.op .star)=0:=rfl
theorem w_lp:wt (.op .lp)=12:=rfl
theorem w_lb:wt (.op .lb)=12:=rfl
theorem w_rp:wt (.op .rp)=0:=rfl
theorem w_rb:wt (.op .rb)=0:=rfl
theorem w_se:wt (.op .semi)=0:=rfl
theorem w_ki:wt (.key .kif)=12:=rfl
theorem w_kw:wt (.key .kwhile)=12:=rfl
theorem w_kf:wt (.key .kfun)=12:=rfl
theorem w_ke:wt (.key .kelse)=0:=rfl
theorem w_id {x:_}:wt (.id x)=0:=rfl
theorem w_nu {x:_}:wt (.num x)=0:=rfl
noncomputable def Wsum (tk:Nat→Tk):Nat→Nat→Nat | 0,_=>0 | k+1,p=>wt (tk p).wd+Wsum tk k (p+1)
noncomputable def Wt (tk:Nat→Tk) (n p:Nat):Nat:=Wsum tk (n - p) p
theorem Wt_step {tk:Nat→Tk} {n p:Nat} (h:p<n):Wt tk n p=wt (tk p).wd+Wt tk n (p+1):=by
 unfold Wt
 rw [sub_s h];rfl
theorem Wt_le {tk:Nat→Tk} {n p q:Nat} (h:p≤q):Wt tk n q≤Wt tk n p:=by
 induction h with
 | refl=>exact Nat.le_refl _
 | @step m hm ih=>
  refine Nat.le_trans ?_ ih
  show Wt tk n (m+1)≤Wt tk n m
  by_cases h:m<n
  ·rw [Wt_step h];exact Nat.le_add_left _ _
  ·unfold Wt;rw [Nat.sub_eq_zero_of_le (Nat.le_succ_of_le (Nat.le_of_not_lt h)),Nat.sub_eq_zero_of_le (Nat.le_of_not_lt h)];exact Nat.le_refl _
noncomputable def RSp (w:Wo) (tk:Nat→Tk) (n:Nat) (md:Md) (res:Res):Prop:=match md with
 | .expr p k lv=>∀ ks L g,p<n→ks.length≤p→LvR L lv→Wt tk n p+eL L+1≤g→GoodC w.e g 370 [.cell 0,.int (L:Nat)] (rdS p (k::ks)) (outR tk (k::ks) res)
 | .side p k=>∀ ks g,p<n→ks.length≤p→Wt tk n p+19≤g→GoodC w.e g 384 [.cell 0] (rdS p (k::ks)) (outR tk (k::ks) res)
 | .prim p k=>∀ ks g,p<n→ks.length≤p→Wt tk n p+17≤g→GoodC w.e g 391 [.cell 0] (rdS p (k::ks)) (outR tk (k::ks) res)
 | .foll p k t=>∀ ks g,p<n→ks.length≤p→Wt tk n p+17≤g→GoodC w.e g 412 [.cell 0,toR t] (rdS p (k::ks)) (outR tk (k::ks) res)
 | .args p=>∀ p0 k ks g t,p=p0+1→(tk p0).wd=.op .lp→p0<n→ks.length≤p0→Wt tk n p0+15≤g→GoodC w.e g 419 [.cell 0,toR t] (rdS p0 (k::ks)) (match res with | .ok a q=>.ok (toR (.call (t::itemsOf a))) (rdS q (k::ks)) | .bad q=>.exc (badK (tk q).wd) (10*q:Nat))
 | .cond p k b=>∀ p0 ks g,p=p0+1→(tk p0).wd=.key (if b then .kif else .kwhile)→p0<n→ks.length≤p0→Wt tk n p0+13≤g→GoodC w.e g (if b then 489 else 503) [.cell 0] (rdS p0 (k::ks)) (outR tk (k::ks) res)
 | .fn p k=>∀ p0 ks g,p=p0+1→(tk p0).wd=.key .kfun→p0<n→ks.length≤p0→Wt tk n p0+13≤g→GoodC w.e g 510 [.cell 0] (rdS p0 (k::ks)) (outR tk (k::ks) res)
 | .block p ts=>ts=[]→∀ p0 k ks g,p=p0+1→(tk p0).wd=.op .lb→p0<n→ks.length≤p0→Wt tk n p0+13≤g→GoodC w.e g 475 [.cell 0] (rdS p0 (k::ks)) (outR tk (k::ks) res)
 | _=>True
structure Rk (w:Wo) (tk:Nat→Tk) (n:Nat):Prop extends Rd w tk n where
 heof:∀ p,p<n→(tk p).wd≠.eof→p+1<n
 n1:n≤1000
 share:∀ {g k i r},4≤g→GoodC w.e g 256 [.vec k i .none] r (.ok (.vec k i .none) r)
 plist:∀ {g r m names},10≤g→names.length≤1000→m=names.length→GoodC w.e g 221 [.lst (List.replicate m misV),.lst (names.map .str)] r (.ok (plV names) r)
section
variable {w:Wo} {tk:Nat→Tk} {n:Nat}
theorem foll_ok (X:Rk w tk n) (F:Nat) (ih:∀ f,f<F→∀ md r,P tk f md=some r→RSp w tk n md r) {p:Nat} {k:Ctx} {t:Tree} {res:Res} (h:P tk F (.foll p k t)=some res):RSp w tk n (.foll p k t) res:=by
 intro ks g hp hk hg
 obtain ⟨g,rfl⟩:∃ g',g=g'+1:=⟨g - 1,by lia⟩
 refine X.ok.fn (by lia) (by kernel_rfl) (.o2 fun a b=>by kernel_rfl) ?_
 refine Internal.W.l (s:=⟨[("value",.v (toR t)),("self",.v (.cell 0)),("token",.un)],rdS p (k::ks)⟩) (fun m s=>m≤F∧∃ q u x,p≤q∧q<n∧P tk m (.foll q k u)=some res∧s=⟨[("value",.v (toR u)),("self",.v (.cell 0)),("token",x)],rdS q (k::ks)⟩) F (by kernel_rfl) ⟨Nat.le_refl _,p,t,_,Nat.le_refl _,hp,h,rfl⟩ ?_
 rintro m s ⟨hm,q,u,x,hpq,hq,hP,rfl⟩
 obtain ⟨f,rfl⟩:∃ f,m=f+1:=by cases m with | zero=>exact by injection hP | succ f=>exact ⟨f,rfl⟩
 have hW:=Wt_le (tk:=tk) (n:=n) hpq
 have hn:=X.n1
 have hj:=joins_ok (g:=g) (ks:=ks) (p:=q) X.toRd (by lia) (by lia) (k:=k) (t:=tk q) (i:=q)
 refine Internal.W.c (X.peek (ks:=k::ks) (by lia) hq) (by kernel_rfl) ?_
 refine Q_foll hP ?_ ?_ ?_
 ·intro h1
  cases hw:(tk q).wd with
  | op o=>
   rw [hw] at hj
   by_cases hjj:joins (tk q) k=true
   ·rw [hjj] at hj
    refine Internal.W.c hj (by kernel_rfl) ?_
    by_cases ho:o=.lp
    ·subst ho;exact absurd ⟨hw,hjj⟩ h1
    ·cases o<;>first | exact absurd rfl ho | exact Internal.W.le (by kernel_rfl) (Internal.W.rf (by kernel_rfl))
   ·rw [Bool.eq_false_iff.mpr hjj] at hj
    exact Internal.W.c hj (by kernel_rfl) (Internal.W.le (by kernel_rfl) (Internal.W.rf (by kernel_rfl)))
  | _=>exact Internal.W.le (by kernel_rfl) (Internal.W.rf (by kernel_rfl))
 ·intro _ h1 h2 h3
  rw [h2] at hj
  rw [h1] at hj ⊢
  refine Internal.W.c hj (by kernel_rfl) ?_
  exact Internal.W.cx (ih f (by lia) _ _ h3 q k ks g u rfl h1 hq (by lia) (by lia)) (by kernel_rfl) rfl
 ·intro _ _ h1 h2 h3 h4
  rename_i a q2
  have hpl:=P_place X.heof f _ _ h3 (X.heof q hq (by rw [h1];exact fun e=>by injection e))
  rw [h2] at hj
  rw [h1] at hj ⊢
  refine Internal.W.c hj (by kernel_rfl) ?_
  refine Internal.W.c (ih f (by lia) _ _ h3 q k ks g u rfl h1 hq (by lia) (by lia)) (by kernel_rfl) ?_
  exact Internal.W.la (s':=⟨[("value",.v (toR (.call (u::itemsOf a)))),("self",.v (.cell 0)),("token",.v (tokV (.op .lp) (tk q).nl q))],rdS q2 (k::ks)⟩) (by kernel_rfl) (Nat.lt_succ_self f) ⟨by lia,q2,_,_,Nat.le_trans hpq (Nat.le_trans (by exact Nat.le_trans (Nat.le_succ q) (Nat.le_succ _)) hpl.1),hpl.2,h4,rfl⟩
end
end
end Internal
end
section
namespace Internal
open PySem PySem.W PyProof.Rows
section
section
variable {w:Wo} {tk:Nat→Tk} {n:Nat}
theorem LvR.goes {L lv:Nat} (h:LvR L lv) (o:Opr):goes o lv=true↔(lvB o≠0∧(L:Int)≤lvB o):=by
 obtain ⟨h1,h2,h3,h4⟩:=h
 cases o<;>simp [Internal.goes,lvB]
 ·constructor
  ·intro h;have:=h1.mp h;lia
  ·intro h;exact h1.mpr (by lia)
 ·constructor
  ·intro h;have:=h2.mp h;lia
  ·intro h;exact h2.mpr (by lia)
theorem bo_370:BindOk w.e.g.K 370 2:=.o2 fun a b=>by kernel_rfl
noncomputable def exSt (L:Int) (a:V) (x1 x2 x3:LV) (r:List Root):Fst:=⟨[("level",.v (.int L)),("self",.v (.cell 0)),("left",.v a),("token",x1),("found",x2),("right",x3)],r⟩
theorem expr_end (X:Rk w tk n) {g q:Nat} {k:Ctx} {ks:List Ctx} {L:Int} {a:V} {x1 x2 x3:LV} {I:Nat→Fst→Prop} {m:Nat} {p0:Nat} {v0:V} {r1:List Root} {xp:Str→Int→Prop} (hg:6≤g) (hq:q<n) (hk:ks.length≤q)
  (h:∀ o,(tk q).wd=.op o→joins (tk q) k=true→lvB o=0∨lvB o<L) :
  Internal.W (GoodP w.e g) xp (lpT (rsC (treeOf tabs w.e.g.K 370 [.cell 0,.int L] (rdS p0 (k::ks))) v0 r1) (exSt L a x1 x2 x3 (rdS q (k::ks))))
   (LQ (GoodP w.e g) xp (rsC (treeOf tabs w.e.g.K 370 [.cell 0,.int L] (rdS p0 (k::ks))) v0 r1) I m fun p=>Out.ok a (rdS q (k::ks))=.ok (retV p.1) p.2.r):=by
 have hn:=X.n1
 have hj:=joins_ok (g:=g) (ks:=ks) (p:=q) X.toRd (by lia) (by lia) (k:=k) (t:=tk q) (i:=q)
 refine Internal.W.c (X.peek (ks:=k::ks) (by lia) hq) (by kernel_rfl) ?_
 cases hw:(tk q).wd with
 | op o=>
  rw [hw] at hj
  by_cases hjj:joins (tk q) k=true
  ·rw [hjj] at hj
   refine Internal.W.c hj (by kernel_rfl) ?_
   refine Internal.W.c (blevel_ok (r:=rdS q (k::ks)) X.ok (by lia) o) (by kernel_rfl) ?_
   by_cases h0:lvB o=0
   ·rw [h0]
    refine Internal.W.aq (v:=.bool true) (by kernel_rfl) ?_
    exact Internal.W.le (by kernel_rfl) (Internal.W.rf (by kernel_rfl))
   ·refine Internal.W.a (v:=.bool false) (P:=V.bool false=.bool (lvB o==0)) (congrArg V.bool (by simp [h0])) (by kernel_rfl) ?_
    refine Internal.W.a (v:=.bool true) (P:=V.bool true=.bool (decide (lvB o<L))) (by rw [decide_eq_true ((h o hw hjj).resolve_left h0)]) (by kernel_rfl) ?_
    exact Internal.W.le (by kernel_rfl) (Internal.W.rf (by kernel_rfl))
  ·rw [Bool.eq_false_iff.mpr hjj] at hj
   refine Internal.W.c hj (by kernel_rfl) ?_
   refine Internal.W.aq (v:=.bool true) (by kernel_rfl) ?_
   exact Internal.W.le (by kernel_rfl) (Internal.W.rf (by kernel_rfl))
 | _=>
  refine Internal.W.aq (v:=.bool true) (by kernel_rfl) ?_
  exact Internal.W.le (by kernel_rfl) (Internal.W.rf (by kernel_rfl))
theorem expr_ok (X:Rk w tk n) (F:Nat) (ih:∀ f,f<F→∀ md r,P tk f md=some r→RSp w tk n md r) {p:Nat} {k:Ctx} {lv:Nat} {res:Res} (h:P tk F (.expr p k lv)=some res):RSp w tk n (.expr p k lv) res:=by
 intro ks L g hp hk hL hg
 obtain ⟨g,rfl⟩:∃ g',g=g'+1:=⟨g - 1,by lia⟩
 have he:20≤eL L:=by unfold eL;split;lia;split<;>lia
 obtain ⟨F,rfl⟩:∃ f,F=f+1:=by cases F with | zero=>exact by injection h | succ f=>exact ⟨f,rfl⟩
 refine X.ok.fn (by lia) (by kernel_rfl) bo_370 ?_
 refine P_expr h ?_ ?_
 ·intro _ h1 ee
  subst ee
  exact Internal.W.cx (ih F (by lia) _ _ h1 ks g hp hk (by lia)) (by kernel_rfl) rfl
 ·intro _ _ h1 h2
  rename_i t q0
  have hpl:=P_place X.heof F _ _ h1 hp
  refine Internal.W.c (ih F (by lia) _ _ h1 ks g hp hk (by lia)) (by kernel_rfl) ?_
  refine Internal.W.l (s:=exSt L (toR t) .un .un .un (rdS q0 (k::ks))) (fun m s=>m≤F∧∃ q u x1 x2 x3,p≤q∧q<n∧P tk m (.loop q k lv u)=some res∧s=exSt L (toR u) x1 x2 x3 (rdS q (k::ks))) F (by kernel_rfl) ⟨Nat.le_refl _,q0,t,_,_,_,Nat.le_of_succ_le hpl.1,hpl.2,h2,rfl⟩ ?_
  clear h h1 h2 hpl
  rintro m s ⟨hm,q,u,x1,x2,x3,hpq,hq,hP,rfl⟩
  obtain ⟨f,rfl⟩:∃ f,m=f+1:=by cases m with | zero=>exact by injection hP | succ f=>exact ⟨f,rfl⟩
  have hW:=Wt_le (tk:=tk) (n:=n) hpq
  have hW1:=Wt_le (tk:=tk) (n:=n) (show q≤q+1 from Nat.le_succ q)
  have hn:=X.n1
  have hj:=joins_ok (g:=g) (ks:=ks) (p:=q) X.toRd (by lia) (by lia) (k:=k) (t:=tk q) (i:=q)
  have step:∀ o,(tk q).wd=.op o→(joins (tk q) k&&goes o lv)=true→∀ r2,P tk f (.expr (q+1) k (lvOf o))=some r2→(∀ q2,r2=.bad q2→res=.bad q2)→(∀ b q2,r2=.ok b q2→P tk f (.loop q2 k lv (.call [.name o.s,u,b]))=some res) →
    Internal.W (GoodP w.e g) (fun k' n'=>outR tk (k::ks) res=.exc k' n') (lpT (rsC (treeOf tabs w.e.g.K 370 [.cell 0,.int L] (rdS p (k::ks))) (toR t) (rdS q0 (k::ks))) (exSt L (toR u) x1 x2 x3 (rdS q (k::ks))))
     (LQ (GoodP w.e g) (fun k' n'=>outR tk (k::ks) res=.exc k' n') (rsC (treeOf tabs w.e.g.K 370 [.cell 0,.int L] (rdS p (k::ks))) (toR t) (rdS q0 (k::ks))) (fun m s=>m≤F∧∃ q u x1 x2 x3,p≤q∧q<n∧P tk m (.loop q k lv u)=some res∧s=exSt L (toR u) x1 x2 x3 (rdS q (k::ks))) (f+1) fun p=>outR tk (k::ks) res=.ok (retV p.1) p.2.r):=by
   intro o hw hjg r2 hP2 hbad hok
   have bq:=Bool.and_eq_true_iff.mp hjg
   have hjj:=bq.1
   have hgo:=bq.2
   obtain ⟨hB,hLo⟩:=(hL.goes o).mp hgo
   have hq1:=X.heof q hq (by rw [hw];exact fun e=>by injection e)
   have hop:o=.plus∨o=.star:=by cases o<;>simp [lvB] at hB ⊢
   have hLv:LvR (lvB o+1).toNat (lvOf o):=by rcases hop with rfl | rfl<;>simp [LvR,lvB,lvOf]
   have heL:eL (lvB o+1).toNat+1≤eL L:=by
    rcases hop with rfl | rfl
    ·have h10:L≤10:=by simp [lvB] at hLo;lia
     have:eL L=22:=by unfold eL;rw [if_pos h10]
     rw [this];exact Nat.le_refl _
    ·have h11:L≤11:=by simp [lvB] at hLo;lia
     have:21≤eL L:=by unfold eL;split;lia;split<;>lia
     exact this
   have hE:=ih f (by lia) _ _ hP2 ks (lvB o+1).toNat g hq1 (by lia) hLv (by lia)
   rw [hjj,hw] at hj
   refine Internal.W.c (X.peek (ks:=k::ks) (by lia) hq) (by kernel_rfl) ?_
   rw [hw]
   refine Internal.W.c hj (by kernel_rfl) ?_
   refine Internal.W.c (blevel_ok (r:=rdS q (k::ks)) X.ok (by lia) o) (by kernel_rfl) ?_
   refine Internal.W.a (v:=.bool false) (P:=V.bool false=.bool (lvB o==0)) (congrArg V.bool (by simp [hB])) (by kernel_rfl) ?_
   refine Internal.W.a (v:=.bool false) (P:=V.bool false=.bool (decide (lvB o<(L:Int)))) (by rw [decide_eq_false (by lia)]) (by kernel_rfl) ?_
   refine Internal.W.c (X.take (ks:=k::ks) (by lia) hq) (by kernel_rfl) ?_
   refine Internal.W.c (rlevel_ok (r:=rdS (q+1) (k::ks)) X.ok (by lia) o hB) (by kernel_rfl) ?_
   have e1:((lvB o+1).toNat:Int)=lvB o+1:=by rcases hop with rfl | rfl<;>rfl
   rw [e1] at hE
   cases r2 with
   | bad q2=>rw [hbad _ rfl];exact Internal.W.cx hE (by kernel_rfl) rfl
   | ok b q2=>
    have hpl:=P_place X.heof f _ _ hP2 hq1
    refine Internal.W.c hE (by kernel_rfl) ?_
    refine Internal.W.c (joined_ok (r:=rdS q2 (k::ks)) X.ok (by lia) o hB (a:=toR u) (b:=toR b) (i:=(10*q:Nat))) (by kernel_rfl) ?_
    refine Internal.W.a (v:=.bool false) (P:=V.bool false=.bool (lvB o==9)) (by rcases hop with rfl | rfl<;>rfl) (by kernel_rfl) ?_
    exact Internal.W.la (s':=exSt L (toR (.call [.name o.s,u,b])) (.v (tokV (.op o) (tk q).nl q)) (.v (.int (lvB o))) (.v (toR b)) (rdS q2 (k::ks))) (by kernel_rfl) (Nat.lt_succ_self f) ⟨by lia,q2,_,_,_,_,Nat.le_trans hpq (Nat.le_trans (Nat.le_trans (Nat.le_succ q) (Nat.le_succ _)) hpl.1),hpl.2,hok _ _ rfl,rfl⟩
  refine P_loop hP ?_ ?_ ?_
  ·intro h1 ee
   subst ee
   refine expr_end X (by lia) hq (by lia) fun o hw hjj=>?_
   have:=h1 o hw
   rw [hjj,Bool.true_and] at this
   by_cases h0:lvB o=0
   ·exact .inl h0
   ·refine .inr (Int.not_le.mp fun hle=>?_)
    rw [(hL.goes o).mpr ⟨h0,hle⟩] at this
    injection this
  ·intro _ _ h1 h2 h3 ee
   subst ee
   exact step _ h1 h2 _ h3 (fun q2 e=>by (injection e with e1;subst e1);rfl) (fun b q2 e=>by injection e)
  ·intro _ _ _ h1 h2 h3 h4
   exact step _ h1 h2 _ h3 (fun q2 e=>by injection e) (fun b q2 e=>by cases e;exact h4)
theorem expr14 (X:Rk w tk n) {p:Nat} {k:Ctx} {res:Res} {ks:List Ctx} {g:Nat} (hp:p<n) (hk:ks.length≤p) (hg:7≤g) (hpl:PlR n (.side p k) res) (h:GoodC w.e g 384 [.cell 0] (rdS p (k::ks)) (outR tk (k::ks) res)):GoodC w.e (g+1) 370 [.cell 0,.int 14] (rdS p (k::ks)) (outR tk (k::ks) res):=by
 refine X.ok.fn (by lia) (by kernel_rfl) bo_370 ?_
 cases res with
 | bad q=>exact Internal.W.cx h (by kernel_rfl) rfl
 | ok t q=>
  refine Internal.W.c h (by kernel_rfl) ?_
  refine Internal.W.l (s:=exSt 14 (toR t) .un .un .un (rdS q (k::ks))) (fun m s=>s=exSt 14 (toR t) .un .un .un (rdS q (k::ks))) 0 (by kernel_rfl) rfl ?_
  rintro m s rfl
  exact expr_end X (by lia) hpl.2 (Nat.le_trans hk (Nat.le_of_succ_le hpl.1)) fun o _ _=>.inr (by cases o<;>decide)
theorem oper_ok (X:Rk w tk n) (F:Nat) (ih:∀ f,f<F→∀ md r,P tk f md=some r→RSp w tk n md r) {p:Nat} {k:Ctx} {res:Res} (h:P tk F (.side p k)=some res):RSp w tk n (.side p k) res:=by
 intro ks g hp hk hg
 obtain ⟨g,rfl⟩:∃ g',g=g'+1:=⟨g - 1,by lia⟩
 obtain ⟨F,rfl⟩:∃ f,F=f+1:=by cases F with | zero=>exact by injection h | succ f=>exact ⟨f,rfl⟩
 have hW:=Wt_step (tk:=tk) hp
 refine X.ok.fn (by lia) (by kernel_rfl) (.o1 fun a=>by kernel_rfl) ?_
 refine Internal.W.c (X.peek (ks:=k::ks) (by lia) hp) (by kernel_rfl) ?_
 have plus:∀ r2,(tk p).wd=.op .plus→P tk F (.side (p+1) k)=some r2→GoodC w.e g 370 [.cell 0,.int 14] (rdS (p+1) (k::ks)) (outR tk (k::ks) r2):=fun r2 hw h1=>by
  have hp1:=X.heof p hp (by rw [hw];exact fun e=>by injection e)
  rw [hw] at hW
  have:wt (.op .plus)=4:=rfl
  obtain ⟨g,rfl⟩:∃ g',g=g'+1:=⟨g - 1,by lia⟩
  exact expr14 X hp1 (by lia) (by lia) (P_place X.heof F _ _ h1 hp1) (ih F (by lia) _ _ h1 ks g hp1 (by lia) (by lia))
 have rest:(tk p).wd≠.op .plus→∀ r1,P tk F (.prim p k)=some r1→(∀ q,r1=.bad q→res=.bad q)→(∀ t q,r1=.ok t q→P tk F (.foll q k t)=some res) →
   Internal.W (GoodP w.e g) (fun k' n'=>outR tk (k::ks) res=.exc k' n') (rsC (treeOf tabs w.e.g.K 384 [.cell 0] (rdS p (k::ks))) (tokV (tk p).wd (tk p).nl p) (rdS p (k::ks))) fun p=>outR tk (k::ks) res=.ok (retV p.1) p.2.r:=fun hne r1 h1 hb ho=>by
  have key:∀ t:Tr (Fl × Fst),rqC t=some (391,[.cell 0],rdS p (k::ks))→(∀ a q,rqC (rsC t a (rdS q (k::ks)))=some (412,[.cell 0,a],rdS q (k::ks)))→(∀ a q b q2,rtF (rsC (rsC t a (rdS q (k::ks))) b (rdS q2 (k::ks)))=some (b,rdS q2 (k::ks))) →
    Internal.W (GoodP w.e g) (fun k' n'=>outR tk (k::ks) res=.exc k' n') t fun p=>outR tk (k::ks) res=.ok (retV p.1) p.2.r:=fun t e1 e2 e3=>by
   have hP:=ih F (by lia) _ _ h1 ks g hp hk (by lia)
   cases r1 with
   | bad q=>rw [hb q rfl];exact Internal.W.cx hP e1 rfl
   | ok a q=>
    have hpl:=P_place X.heof F _ _ h1 hp
    have hW2:=Wt_le (tk:=tk) (n:=n) (Nat.le_of_succ_le hpl.1)
    have hF:=ih F (by lia) _ _ (ho a q rfl) ks g hpl.2 (Nat.le_trans hk (Nat.le_of_succ_le hpl.1)) (by lia)
    refine Internal.W.c hP e1 ?_
    cases res with
    | bad q2=>exact Internal.W.cx hF (e2 _ _) rfl
    | ok b q2=>exact Internal.W.c hF (e2 _ _) (Internal.W.rf (e3 _ _ _ _))
  cases hw:(tk p).wd with
  | op o=>
   refine Internal.W.c (plevel_ok (r:=rdS p (k::ks)) X.ok (by lia) o) (by kernel_rfl) ?_
   refine Internal.W.a (v:=.bool false) (P:=V.bool false=.bool (decide (lvP o>0))) (by cases o<;>first | exact absurd hw hne | rfl) (by kernel_rfl) ?_
   exact key _ (by kernel_rfl) (fun _ _=>by kernel_rfl) (fun _ _ _ _=>by kernel_rfl)
  | _=>exact key _ (by kernel_rfl) (fun _ _=>by kernel_rfl) (fun _ _ _ _=>by kernel_rfl)
 refine P_side h ?_ ?_ ?_ ?_
 ·intro _ h0 h1 ee
  subst ee
  have:=plus _ h0 h1
  rw [h0]
  refine Internal.W.c (plevel_ok (r:=rdS p (k::ks)) X.ok (by lia) .plus) (by kernel_rfl) ?_
  refine Internal.W.aq (v:=.bool true) (by kernel_rfl) ?_
  refine Internal.W.c (X.take (ks:=k::ks) (by lia) hp) (by kernel_rfl) ?_
  exact Internal.W.cx this (by kernel_rfl) rfl
 ·intro _ _ h0 h1 ee
  subst ee
  rename_i t q
  have:=plus _ h0 h1
  rw [h0]
  refine Internal.W.c (plevel_ok (r:=rdS p (k::ks)) X.ok (by lia) .plus) (by kernel_rfl) ?_
  refine Internal.W.aq (v:=.bool true) (by kernel_rfl) ?_
  refine Internal.W.c (X.take (ks:=k::ks) (by lia) hp) (by kernel_rfl) ?_
  refine Internal.W.c this (by kernel_rfl) ?_
  exact Internal.W.c (callof_ok X.ok (r:=rdS q (k::ks)) (s:="+") (l:=[toR t]) (by lia) (by simp)) (by kernel_rfl) (Internal.W.rf (by kernel_rfl))
 ·intro _ h0 h1 ee
  subst ee
  exact rest h0 _ h1 (fun q e=>by (injection e with e1;subst e1);rfl) (fun t q e=>by injection e)
 ·intro _ _ h0 h1 h2
  exact rest h0 _ h1 (fun q e=>by injection e) (fun t q e=>by cases e;exact h2)
end
end
end Internal
end
section
namespace Internal
open PySem PySem.W PyProof.Rows
section
section
variable {w:Wo} {tk:Nat→Tk} {n:Nat}
theorem sizeL {m:Nat} (h:m≤2000):m≤sizeLine:=Nat.le_trans h (by exact Nat.le_of_ble_eq_true rfl)
theorem ctx_size {k:Ctx} {ks:List Ctx} (h:ks.length≤1000):(ctxL (k::ks)).length≤sizeLine:=by
 rw [ctxL_len];exact sizeL (by simp;lia)
theorem pop_p {k:Ctx} {ks:List Ctx} (h:ks.length≤1000):popP (ctxL (k::ks)) (.tup [.str k.s,.lst (ctxL ks)]):=⟨ctx_size h,ctxL ks,_,rfl,rfl⟩
theorem brack_ok (X:Rk w tk n) {F:Nat} (ih:∀ f,f<F→∀ md r,P tk f md=some r→RSp w tk n md r) {p:Nat} {k:Ctx} {r2:Res} (f:Nat) (hf:f<F) (hw:(tk p).wd=.op .lp) (h:P tk f (.expr (p+1) .par 0)=some r2) {ks:List Ctx} {g:Nat} (hp:p<n) (hk:ks.length≤p) (hg:Wt tk n p+14≤g) {o:Out}
  (hb:∀ q,r2=.bad q→o=.exc (badK (tk q).wd) (10*q:Nat)) (hx:∀ t q,r2=.ok t q→(tk q).wd≠.op .rp→o=.exc (badK (tk q).wd) (10*q:Nat)) (ho:∀ t q,r2=.ok t q→(tk q).wd=.op .rp→o=.ok (toR (.call [.name "(",t])) (rdS (q+1) (k::ks))):GoodC w.e g 398 [.cell 0] (rdS p (k::ks)) o:=by
 obtain ⟨g,rfl⟩:∃ g',g=g'+1:=⟨g - 1,by lia⟩
 have hn:=X.n1
 have hW:=Wt_step (tk:=tk) hp
 have hwt:wt (.op .lp)=12:=rfl
 rw [hw,hwt] at hW
 have hp1:=X.heof p hp (by rw [hw];exact fun e=>by injection e)
 have hE:=ih f hf _ _ h (k::ks) 1 g hp1 (by simp;lia) (by simp [LvR]) (by have:eL 1=22:=rfl;lia)
 refine X.ok.fn (by lia) (by kernel_rfl) (.o1 fun a=>by kernel_rfl) ?_
 refine Internal.W.c (exp_ok (ks:=k::ks) X.toRd (by lia) hp "(" (by rw [hw];decide +kernel)) (by kernel_rfl) ?_
 refine Internal.W.a (v:=.none) (ctx_size (k:=k) (ks:=ks) (by lia)) (by kernel_rfl) ?_
 cases r2 with
 | bad q=>rw [hb q rfl];exact Internal.W.cx hE (by kernel_rfl) rfl
 | ok t q=>
  have hpl:=P_place X.heof f _ _ h hp1
  refine Internal.W.c hE (by kernel_rfl) ?_
  by_cases hr:(tk q).wd=.op .rp
  ·rw [ho t q rfl hr]
   refine Internal.W.c (exp_ok (ks:=.par::k::ks) X.toRd (by lia) hpl.2 ")" (by rw [hr];decide +kernel)) (by kernel_rfl) ?_
   refine Internal.W.a (v:=.tup [.str "(",.lst (ctxL (k::ks))]) (pop_p (k:=.par) (ks:=k::ks) (by simp;lia)) (by kernel_rfl) ?_
   exact Internal.W.c (callof_ok X.ok (r:=rdS (q+1) (k::ks)) (s:="(") (l:=[toR t]) (by lia) (by simp)) (by kernel_rfl) (Internal.W.rf (by kernel_rfl))
  ·rw [hx t q rfl hr]
   exact Internal.W.cx (exp_bad (ks:=.par::k::ks) X.toRd (by lia) hpl.2 ")" (opIs_no hr rfl)) (by kernel_rfl) rfl
theorem cond_ok (X:Rk w tk n) {F:Nat} (ih:∀ f,f<F→∀ md r,P tk f md=some r→RSp w tk n md r) {p:Nat} {k:Ctx} {ks:List Ctx} {g:Nat} (hp:p<n) (hk:ks.length<p) (hg:Wt tk n p+15≤g) {o:Out} (f:Nat) (hf:f<F)
  (hn:(tk p).wd≠.op .lp→o=.exc (badK (tk p).wd) (10*p:Nat))
  (hy:(tk p).wd=.op .lp→∃ r2,P tk f (.expr (p+1) .par 0)=some r2∧match r2 with | .bad q=>o=.exc (badK (tk q).wd) (10*q:Nat) | .ok t q=>((tk q).wd≠.op .rp∧o=.exc (badK (tk q).wd) (10*q:Nat))∨((tk q).wd=.op .rp∧o=.ok (toR t) (rdS (q+1) (k::ks)))):GoodC w.e g 482 [.cell 0] (rdS p (k::ks)) o:=by
 obtain ⟨g,rfl⟩:∃ g',g=g'+1:=⟨g - 1,by lia⟩
 have h1000:=X.n1
 refine X.ok.fn (by lia) (by kernel_rfl) (.o1 fun a=>by kernel_rfl) ?_
 by_cases hw:(tk p).wd=.op .lp
 ·have hW:=Wt_step (tk:=tk) hp
  have hwt:wt (.op .lp)=12:=rfl
  rw [hw,hwt] at hW
  have hp1:=X.heof p hp (by rw [hw];exact fun e=>by injection e)
  obtain ⟨r2,h,ho⟩:=hy hw
  have hE:=ih f hf _ _ h (k::ks) 3 g hp1 (by simp;lia) (by simp [LvR]) (by have:eL 3=22:=rfl;lia)
  refine Internal.W.c (exp_ok (ks:=k::ks) X.toRd (by lia) hp "(" (by rw [hw];decide +kernel)) (by kernel_rfl) ?_
  refine Internal.W.a (v:=.none) (ctx_size (k:=k) (ks:=ks) (by lia)) (by kernel_rfl) ?_
  cases r2 with
  | bad q=>subst ho;exact Internal.W.cx hE (by kernel_rfl) rfl
  | ok t q=>
   have hpl:=P_place X.heof f _ _ h hp1
   refine Internal.W.c hE (by kernel_rfl) ?_
   rcases ho with ⟨hr,rfl⟩ | ⟨hr,rfl⟩
   ·exact Internal.W.cx (exp_bad (ks:=.par::k::ks) X.toRd (by lia) hpl.2 ")" (opIs_no hr rfl)) (by kernel_rfl) rfl
   ·refine Internal.W.c (exp_ok (ks:=.par::k::ks) X.toRd (by lia) hpl.2 ")" (by rw [hr];decide +kernel)) (by kernel_rfl) ?_
    refine Internal.W.a (v:=.tup [.str "(",.lst (ctxL (k::ks))]) (pop_p (k:=.par) (ks:=k::ks) (by simp;lia)) (by kernel_rfl) ?_
    exact Internal.W.rf (by kernel_rfl)
 ·cases hn hw
  exact Internal.W.cx (exp_bad (ks:=k::ks) X.toRd (by lia) hp "(" (opIs_no hw rfl)) (by kernel_rfl) rfl
theorem cons_bad (X:Rk w tk n) {p:Nat} {k:Ctx} {ks:List Ctx} {g:Nat} (hp:p<n) (hg:10≤g) (h:(tk p).wd=.eof∨(tk p).wd=.key .kelse∨(∃ o,(tk p).wd=.op o∧o≠.lp∧o≠.lb)) :
  GoodC w.e g 468 [.cell 0,tokV (tk p).wd (tk p).nl p] (rdS p (k::ks)) (.exc (badK (tk p).wd) (10*p:Nat)):=by
 obtain ⟨g,rfl⟩:∃ g',g=g'+1:=⟨g - 1,by lia⟩
 refine X.ok.fn (by lia) (by kernel_rfl) (.o2 fun a b=>by kernel_rfl) ?_
 have hF:=fail_ok (ks:=k::ks) X.toRd (g:=g) (by lia) hp
 rcases h with h | h | ⟨o,h,h1,h2⟩
 ·rw [h] at hF ⊢;exact Internal.W.cx hF (by kernel_rfl) rfl
 ·rw [h] at hF ⊢;exact Internal.W.cx hF (by kernel_rfl) rfl
 ·rw [h] at hF ⊢
  cases o<;>first | exact absurd rfl h1 | exact absurd rfl h2 | exact Internal.W.cx hF (by kernel_rfl) rfl
theorem cons_go (X:Rk w tk n) {p:Nat} {k:Ctx} {ks:List Ctx} {g:Nat} {wd:Wd} {nl:Bool} {i:Nat} {f:Addr} {o:Out} (hg:3≤g) (h:wd=.op .lb∧f=475∨wd=.key .kif∧f=489∨wd=.key .kwhile∧f=503∨wd=.key .kfun∧f=510) (hc:GoodC w.e g f [.cell 0] (rdS p (k::ks)) o) :
  GoodC w.e (g+1) 468 [.cell 0,tokV wd nl i] (rdS p (k::ks)) o:=by
 refine X.ok.fn (by lia) (by kernel_rfl) (.o2 fun a b=>by kernel_rfl) ?_
 cases o with
 | exc kd m=>rcases h with ⟨rfl,rfl⟩ | ⟨rfl,rfl⟩ | ⟨rfl,rfl⟩ | ⟨rfl,rfl⟩<;>exact Internal.W.cx hc (by kernel_rfl) rfl
 | ok v r=>rcases h with ⟨rfl,rfl⟩ | ⟨rfl,rfl⟩ | ⟨rfl,rfl⟩ | ⟨rfl,rfl⟩<;>exact Internal.W.c hc (by kernel_rfl) (Internal.W.rf (by kernel_rfl))
theorem prim_ok (X:Rk w tk n) (F:Nat) (ih:∀ f,f<F→∀ md r,P tk f md=some r→RSp w tk n md r) {p:Nat} {k:Ctx} {res:Res} (h:P tk F (.prim p k)=some res):RSp w tk n (.prim p k) res:=by
 intro ks g hp hk hg
 obtain ⟨g,rfl⟩:∃ g',g=g'+1+1:=⟨g - 2,by lia⟩
 obtain ⟨F,rfl⟩:∃ f,F=f+1:=by cases F with | zero=>exact by injection h | succ f=>exact ⟨f,rfl⟩
 refine X.ok.fn (by lia) (by kernel_rfl) (.o1 fun a=>by kernel_rfl) ?_
 refine Internal.W.c (X.peek (ks:=k::ks) (by lia) hp) (by kernel_rfl) ?_
 have hO:=isop_ok (ks:=k::ks) X.toRd (g:=g+1) (by lia) hp "("
 have par:∀ r2,(tk p).wd=.op .lp→P tk F (.expr (p+1) .par 0)=some r2→(∀ q,r2=.bad q→res=.bad q)→(∀ t q,r2=.ok t q→(tk q).wd≠.op .rp→res=.bad q)→(∀ t q,r2=.ok t q→(tk q).wd=.op .rp→res=.ok (.call [.name "(",t]) (q+1)) →
   Internal.W (GoodP w.e (g+1)) (fun k' n'=>outR tk (k::ks) res=.exc k' n') (rsC (treeOf tabs w.e.g.K 391 [.cell 0] (rdS p (k::ks))) (tokV (tk p).wd (tk p).nl p) (rdS p (k::ks))) fun p=>outR tk (k::ks) res=.ok (retV p.1) p.2.r:=fun r2 hw h1 h2 h3 h4=>by
  have hB:=brack_ok X ih F (by lia) hw h1 (ks:=ks) (g:=g+1) hp hk (by lia) (o:=outR tk (k::ks) res) (fun q e=>by rw [h2 q e];rfl) (fun t q e hr=>by rw [h3 t q e hr];rfl) (fun t q e hr=>by rw [h4 t q e hr];rfl)
  rw [hw] at hO ⊢
  refine Internal.W.c hO (by kernel_rfl) ?_
  cases res with
  | bad q=>exact Internal.W.cx hB (by kernel_rfl) rfl
  | ok t q=>exact Internal.W.c hB (by kernel_rfl) (Internal.W.rf (by kernel_rfl))
 refine P_prim h ?_ ?_ ?_ ?_ ?_ ?_ ?_
 ·intro _ h0 ee
  subst ee
  rename_i m
  rw [h0]
  have hT:=X.take (ks:=k::ks) (g:=g+1) (by lia) hp
  rw [h0] at hT
  refine Internal.W.c hT (by kernel_rfl) ?_
  exact Internal.W.c (X.share (g:=g+1) (r:=rdS (p+1) (k::ks)) (k:="double") (i:=.lst [.tup [.int m,.int 1]]) (by lia)) (by kernel_rfl) (Internal.W.rf (by kernel_rfl))
 ·intro _ h0 ee
  subst ee
  rename_i s
  rw [h0]
  have hT:=X.take (ks:=k::ks) (g:=g+1) (by lia) hp
  rw [h0] at hT
  refine Internal.W.c hT (by kernel_rfl) ?_
  exact Internal.W.c (symbol_ok X.ok (r:=rdS (p+1) (k::ks)) (s:=s) (by lia)) (by kernel_rfl) (Internal.W.rf (by kernel_rfl))
 ·intro _ h0 h1 ee
  subst ee
  exact par _ h0 h1 (fun q e=>by (injection e with e1;subst e1);rfl) (fun t q e=>by injection e) (fun t q e=>by injection e)
 ·intro _ _ h0 h1 h2 ee
  subst ee
  exact par _ h0 h1 (fun q e=>by injection e) (fun t q e _=>by cases e;rfl) (fun t q e hr=>by cases e;exact absurd hr h2)
 ·intro _ _ h0 h1 h2 ee
  subst ee
  exact par _ h0 h1 (fun q e=>by injection e) (fun t q e hr=>by cases e;exact absurd h2 hr) (fun t q e _=>by cases e;rfl)
 ·intro _ h0 h1
  have key:∀ {f:Addr} {wd:Wd},(tk p).wd=wd→(wd=.op .lb∧f=475∨wd=.key .kif∧f=489∨wd=.key .kwhile∧f=503∨wd=.key .kfun∧f=510)→GoodC w.e g f [.cell 0] (rdS p (k::ks)) (outR tk (k::ks) res) →
    Internal.W (GoodP w.e (g+1)) (fun k' n'=>outR tk (k::ks) res=.exc k' n') (rsC (treeOf tabs w.e.g.K 391 [.cell 0] (rdS p (k::ks))) (tokV (tk p).wd (tk p).nl p) (rdS p (k::ks))) fun p=>outR tk (k::ks) res=.ok (retV p.1) p.2.r:=fun hw hc hG=>by
   have hC:=cons_go X (nl:=(tk p).nl) (i:=p) (by lia) hc hG
   rw [hw] at hO ⊢
   rcases hc with ⟨rfl,rfl⟩ | ⟨rfl,rfl⟩ | ⟨rfl,rfl⟩ | ⟨rfl,rfl⟩
   ·refine Internal.W.c hO (by kernel_rfl) ?_
    cases res with
    | bad q=>exact Internal.W.cx hC (by kernel_rfl) rfl
    | ok t q=>exact Internal.W.c hC (by kernel_rfl) (Internal.W.rf (by kernel_rfl))
   ·refine Internal.W.c (const_ok X.ok (r:=rdS p (k::ks)) (g:=g+1) (by lia) .kif) (by kernel_rfl) ?_
    refine Internal.W.c hO (by kernel_rfl) ?_
    cases res with
    | bad q=>exact Internal.W.cx hC (by kernel_rfl) rfl
    | ok t q=>exact Internal.W.c hC (by kernel_rfl) (Internal.W.rf (by kernel_rfl))
   ·refine Internal.W.c (const_ok X.ok (r:=rdS p (k::ks)) (g:=g+1) (by lia) .kwhile) (by kernel_rfl) ?_
    refine Internal.W.c hO (by kernel_rfl) ?_
    cases res with
    | bad q=>exact Internal.W.cx hC (by kernel_rfl) rfl
    | ok t q=>exact Internal.W.c hC (by kernel_rfl) (Internal.W.rf (by kernel_rfl))
   ·refine Internal.W.c (const_ok X.ok (r:=rdS p (k::ks)) (g:=g+1) (by lia) .kfun) (by kernel_rfl) ?_
    refine Internal.W.c hO (by kernel_rfl) ?_
    cases res with
    | bad q=>exact Internal.W.cx hC (by kernel_rfl) rfl
    | ok t q=>exact Internal.W.c hC (by kernel_rfl) (Internal.W.rf (by kernel_rfl))
  rcases h0 with ⟨h0,rfl⟩ | ⟨h0,rfl⟩ | ⟨h0,rfl⟩ | ⟨h0,rfl⟩
  ·exact key h0 (.inl ⟨rfl,rfl⟩) (ih F (by lia) _ _ h1 rfl p k ks g rfl h0 hp hk (by lia))
  ·exact key h0 (.inr (.inl ⟨rfl,rfl⟩)) (ih F (by lia) _ _ h1 p ks g rfl h0 hp hk (by lia))
  ·exact key h0 (.inr (.inr (.inl ⟨rfl,rfl⟩))) (ih F (by lia) _ _ h1 p ks g rfl h0 hp hk (by lia))
  ·exact key h0 (.inr (.inr (.inr ⟨rfl,rfl⟩))) (ih F (by lia) _ _ h1 p ks g rfl h0 hp hk (by lia))
 ·intro h0 ee
  subst ee
  have hC:=cons_bad (ks:=ks) X (g:=g+1) (k:=k) hp (by lia) h0
  rcases h0 with h0 | h0 | ⟨o,h0,h1,h2⟩
  ·rw [h0] at hO hC ⊢
   exact Internal.W.c hO (by kernel_rfl) (Internal.W.cx hC (by kernel_rfl) (by show outR _ _ _=_;rw [outR,h0]))
  ·rw [h0] at hO hC ⊢
   refine Internal.W.c (const_ok X.ok (r:=rdS p (k::ks)) (g:=g+1) (by lia) .kelse) (by kernel_rfl) ?_
   exact Internal.W.c hO (by kernel_rfl) (Internal.W.cx hC (by kernel_rfl) (by show outR _ _ _=_;rw [outR,h0]))
  ·rw [h0] at hO hC ⊢
   rw [show opIs (.op o) "(" = false from opIs_no (o:=.lp) (fun e=>h1 (by cases e;rfl)) rfl] at hO
   exact Internal.W.c hO (by kernel_rfl) (Internal.W.cx hC (by kernel_rfl) (by show outR _ _ _=_;rw [outR,h0]))
end
end
end Internal
end
section
namespace Internal
open PySem PySem.W PyProof.Rows
section
section
variable {w:Wo} {tk:Nat→Tk} {n:Nat}
theorem tag_ok (X:Rk w tk n) {p:Nat} {ks:List Ctx} {g:Nat} (hp:p<n) (hg:8≤g):GoodC w.e g 447 [.cell 0] (rdS p ks) (.ok .none (rdS p ks)):=by
 obtain ⟨g,rfl⟩:∃ g',g=g'+1:=⟨g - 1,by lia⟩
 refine X.ok.fn (by lia) (by kernel_rfl) (.o1 fun a=>by kernel_rfl) ?_
 refine Internal.W.c (X.peek (ks:=ks) (by lia) hp) (by kernel_rfl) ?_
 have hK:=iskey_ok (ks:=ks) X.toRd (g:=g) (by lia) hp "NULL"
 cases hw:(tk p).wd with
 | id s=>
  have h1:=X.heof p hp (by rw [hw];exact fun e=>by injection e)
  refine Internal.W.c (X.peek1 (ks:=ks) (by lia) h1) (by kernel_rfl) ?_
  cases (tk (p+1)).wd with
  | op o=>cases o<;>exact Internal.W.rf (by kernel_rfl)
  | _=>exact Internal.W.rf (by kernel_rfl)
 | key o=>
  rw [hw] at hK
  cases o<;>exact Internal.W.c hK (by kernel_rfl) (Internal.W.rf (by kernel_rfl))
 | _=>rw [hw] at hK;exact Internal.W.c hK (by kernel_rfl) (Internal.W.rf (by kernel_rfl))
noncomputable def agSt (x1 x2 x3 x4:LV) (r:List Root):Fst:=⟨[("context",.v (.str "(")),("closing",.v (.str ")")),("self",.v (.cell 0)),("items",x1),("tags",x2),("more",x3),("tag",x4)],r⟩
theorem opIs_comma (x:Wd):opIs x "," = false:=by
 cases x<;>try rfl
 rename_i o;cases o<;>decide +kernel
theorem args_ok (X:Rk w tk n) {F:Nat} (ih:∀ f,f<F→∀ md r,P tk f md=some r→RSp w tk n md r) {p:Nat} {k:Ctx} {ks:List Ctx} {g:Nat} (hp:p<n) (hk:ks.length<p) (hg:Wt tk n p+25≤g) {o:Out}
  (hr:(tk p).wd=.op .rp→o=.ok (.tup [.lst [misV],.lst [.none]]) (rdS p (k::ks))) (f:Nat) (hf:f<F)
  (hn:(tk p).wd≠.op .rp→∃ r2,P tk f (.expr p .par 0)=some r2∧match r2 with | .bad q=>o=.exc (badK (tk q).wd) (10*q:Nat) | .ok t q=>((tk q).wd≠.op .rp∧o=.exc (badK (tk q).wd) (10*q:Nat))∨((tk q).wd=.op .rp∧o=.ok (.tup [.lst [toR t],.lst [.none]]) (rdS q (k::ks)))) :
  GoodC w.e g 440 [.cell 0,.str ")",.str "("] (rdS p (k::ks)) o:=by
 obtain ⟨g,rfl⟩:∃ g',g=g'+1:=⟨g - 1,by lia⟩
 have h1000:=X.n1
 refine X.ok.fn (by lia) (by kernel_rfl) (.o3 fun a b c=>by kernel_rfl) ?_
 refine Internal.W.a (v:=.none) (ctx_size (k:=k) (ks:=ks) (by lia)) (by kernel_rfl) ?_
 refine Internal.W.l (s:=agSt (.own []) (.own []) (.v (.bool true)) .un (rdS p (.par::k::ks))) (fun m s=>(m=1∧s=agSt (.own []) (.own []) (.v (.bool true)) .un (rdS p (.par::k::ks)))∨(m=0∧∃ x q,s=agSt (.own [x]) (.own [.none]) (.v (.bool false)) (.v .none) (rdS q (.par::k::ks))∧q<n∧((tk q).wd≠.op .rp∧o=.exc (badK (tk q).wd) (10*q:Nat)∨(tk q).wd=.op .rp∧o=.ok (.tup [.lst [x],.lst [.none]]) (rdS q (k::ks))))) 1 (by kernel_rfl) (.inl ⟨rfl,rfl⟩) ?_
 rintro m s (⟨rfl,rfl⟩ | ⟨rfl,x,q,rfl,hq,ho⟩)
 ·refine Internal.W.c (tag_ok X (ks:=.par::k::ks) hp (by lia)) (by kernel_rfl) ?_
  refine Internal.W.a (v:=.none) (P:=0≤sizeLine) (Nat.zero_le _) (by kernel_rfl) ?_
  refine Internal.W.c ((opIs_comma (tk p).wd)▸isop_ok (ks:=.par::k::ks) X.toRd (by lia) hp ",") (by kernel_rfl) ?_
  have hO:=isop_ok (ks:=.par::k::ks) X.toRd (g:=g) (by lia) hp ")"
  by_cases hw:(tk p).wd=.op .rp
  ·rw [opIs_yes (s:=")") hw rfl] at hO
   refine Internal.W.c hO (by kernel_rfl) ?_
   refine Internal.W.c (missing_ok X.ok (r:=rdS p (.par::k::ks)) (by lia)) (by kernel_rfl) ?_
   refine Internal.W.a (v:=.none) (P:=0≤sizeLine) (Nat.zero_le _) (by kernel_rfl) ?_
   refine Internal.W.c ((opIs_comma (tk p).wd)▸isop_ok (ks:=.par::k::ks) X.toRd (by lia) hp ",") (by kernel_rfl) ?_
   exact Internal.W.la (s':=agSt (.own [misV]) (.own [.none]) (.v (.bool false)) (.v .none) (rdS p (.par::k::ks))) (by kernel_rfl) Nat.one_pos (.inr ⟨rfl,misV,p,rfl,hp,.inr ⟨hw,hr hw⟩⟩)
  ·rw [opIs_no (s:=")") hw rfl] at hO
   obtain ⟨r2,h,ho⟩:=hn hw
   have hE:=ih f hf _ _ h (k::ks) 3 g hp (by simp;lia) (by simp [LvR]) (by have:eL 3=22:=rfl;lia)
   refine Internal.W.c hO (by kernel_rfl) ?_
   cases r2 with
   | bad q=>subst ho;exact Internal.W.cx hE (by kernel_rfl) rfl
   | ok t q=>
    have hpl:=P_place X.heof f _ _ h hp
    refine Internal.W.c hE (by kernel_rfl) ?_
    refine Internal.W.a (v:=.none) (P:=0≤sizeLine) (Nat.zero_le _) (by kernel_rfl) ?_
    refine Internal.W.c ((opIs_comma (tk q).wd)▸isop_ok (ks:=.par::k::ks) X.toRd (by lia) hpl.2 ",") (by kernel_rfl) ?_
    exact Internal.W.la (s':=agSt (.own [toR t]) (.own [.none]) (.v (.bool false)) (.v .none) (rdS q (.par::k::ks))) (by kernel_rfl) Nat.one_pos (.inr ⟨rfl,toR t,q,rfl,hpl.2,ho⟩)
 ·refine Internal.W.le (by kernel_rfl) ?_
  have hO:=isop_ok (ks:=.par::k::ks) X.toRd (g:=g) (by lia) hq ")"
  rcases ho with ⟨hw,rfl⟩ | ⟨hw,rfl⟩
  ·rw [opIs_no (s:=")") hw rfl] at hO
   refine Internal.W.c hO (by kernel_rfl) ?_
   exact Internal.W.cx (fail_ok (ks:=.par::k::ks) X.toRd (by lia) hq) (by kernel_rfl) rfl
  ·rw [opIs_yes (s:=")") hw rfl] at hO
   refine Internal.W.c hO (by kernel_rfl) ?_
   refine Internal.W.a (v:=.tup [.str "(",.lst (ctxL (k::ks))]) (pop_p (k:=.par) (ks:=k::ks) (by simp;lia)) (by kernel_rfl) ?_
   exact Internal.W.rf (by kernel_rfl)
theorem one_le:1≤sizeLine:=by exact Nat.le_of_ble_eq_true rfl
theorem two_le:1+1≤sizeLine:=by exact Nat.le_of_ble_eq_true rfl
theorem call_ok (X:Rk w tk n) (F:Nat) (ih:∀ f,f<F→∀ md r,P tk f md=some r→RSp w tk n md r) {p1:Nat} {res:Res} (h:P tk F (.args p1)=some res):RSp w tk n (.args p1) res:=by
 rintro p k ks g t rfl hw hp hk hg
 obtain ⟨g,rfl⟩:∃ g',g=g'+1:=⟨g - 1,by lia⟩
 obtain ⟨F,rfl⟩:∃ f,F=f+1:=by cases F with | zero=>exact by injection h | succ f=>exact ⟨f,rfl⟩
 have h1000:=X.n1
 have hW:=Wt_step (tk:=tk) hp
 have hwt:wt (.op .lp)=12:=rfl
 rw [hw,hwt] at hW
 have hp1:=X.heof p hp (by rw [hw];exact fun e=>by injection e)
 refine X.ok.fn (by lia) (by kernel_rfl) (.o2 fun a b=>by kernel_rfl) ?_
 refine Internal.W.c (exp_ok (ks:=k::ks) X.toRd (by lia) hp "(" (opIs_yes hw rfl)) (by kernel_rfl) ?_
 refine Q_args h ?_ ?_ ?_ ?_
 ·intro h1
  refine Internal.W.c (args_ok X ih (k:=k) (ks:=ks) (g:=g) hp1 (by lia) (by lia) (o:=.ok (.tup [.lst [misV],.lst [.none]]) (rdS (p+1) (k::ks))) (fun _=>rfl) F (by lia) (fun h=>absurd h1 h)) (by kernel_rfl) ?_
  refine Internal.W.c (exp_ok (ks:=k::ks) X.toRd (by lia) hp1 ")" (opIs_yes h1 rfl)) (by kernel_rfl) ?_
  refine Internal.W.a (v:=.int 1) (P:=1≤sizeLine∧V.int 1=.int 1) ⟨one_le,rfl⟩ (by kernel_rfl) ?_
  refine Internal.W.aq (v:=.bool true) (by kernel_rfl) ?_
  refine Internal.W.a (v:=misV) (P:=1≤sizeLine∧((0:Int)≤0∧[misV][(0:Int).toNat]?=some misV∨(0:Int)=-1∧∃ l',[misV]=l'++[misV])) ⟨one_le,.inl ⟨by decide,rfl⟩⟩ (by kernel_rfl) ?_
  refine Internal.W.a (v:=.none) (P:=1≤sizeLine∧((0:Int)≤0∧[V.none][(0:Int).toNat]?=some .none∨(0:Int)=-1∧∃ l',[V.none]=l'++[.none])) ⟨one_le,.inl ⟨by decide,rfl⟩⟩ (by kernel_rfl) ?_
  cases t with
  | name s=>
   refine Internal.W.a (v:=.none) (P:=1+0≤sizeLine) one_le (by kernel_rfl) ?_
   refine Internal.W.a (v:=.none) (P:=1+0≤sizeLine) one_le (by kernel_rfl) ?_
   exact Internal.W.c (mk_call X.ok (rdS (p+1+1) (k::ks)) (by lia) (a:=.lst [toR (.name s)]) (b:=.lst [.none])) (by kernel_rfl) (Internal.W.rf (by kernel_rfl))
  | num z=>
   refine Internal.W.a (v:=.none) (P:=1+0≤sizeLine) one_le (by kernel_rfl) ?_
   refine Internal.W.a (v:=.none) (P:=1+0≤sizeLine) one_le (by kernel_rfl) ?_
   exact Internal.W.c (mk_call X.ok (rdS (p+1+1) (k::ks)) (by lia) (a:=.lst [toR (.num z)]) (b:=.lst [.none])) (by kernel_rfl) (Internal.W.rf (by kernel_rfl))
  | call ts=>
   refine Internal.W.a (v:=.none) (P:=1+0≤sizeLine) one_le (by kernel_rfl) ?_
   refine Internal.W.a (v:=.none) (P:=1+0≤sizeLine) one_le (by kernel_rfl) ?_
   exact Internal.W.c (mk_call X.ok (rdS (p+1+1) (k::ks)) (by lia) (a:=.lst [toR (.call ts)]) (b:=.lst [.none])) (by kernel_rfl) (Internal.W.rf (by kernel_rfl))
  | fn nm b=>
   refine Internal.W.a (v:=.none) (P:=1+0≤sizeLine) one_le (by kernel_rfl) ?_
   refine Internal.W.a (v:=.none) (P:=1+0≤sizeLine) one_le (by kernel_rfl) ?_
   exact Internal.W.c (mk_call X.ok (rdS (p+1+1) (k::ks)) (by lia) (a:=.lst [toR (.fn nm b)]) (b:=.lst [.none])) (by kernel_rfl) (Internal.W.rf (by kernel_rfl))
 ·intro _ h1 h2
  exact Internal.W.cx (args_ok X ih (k:=k) (ks:=ks) (g:=g) hp1 (by lia) (by lia) (fun e=>absurd e h1) F (by lia) (fun _=>⟨_,h2,rfl⟩)) (by kernel_rfl) rfl
 ·intro _ _ h1 h2 h3
  exact Internal.W.cx (args_ok X ih (k:=k) (ks:=ks) (g:=g) hp1 (by lia) (by lia) (fun e=>absurd e h1) F (by lia) (fun _=>⟨_,h2,.inl ⟨h3,rfl⟩⟩)) (by kernel_rfl) rfl
 ·intro _ _ h1 h2 h3
  rename_i a q
  have hpl:=P_place X.heof F _ _ h2 hp1
  refine Internal.W.c (args_ok X ih (k:=k) (ks:=ks) (g:=g) hp1 (by lia) (by lia) (o:=.ok (.tup [.lst [toR a],.lst [.none]]) (rdS q (k::ks))) (fun e=>absurd e h1) F (by lia) (fun _=>⟨_,h2,.inr ⟨h3,rfl⟩⟩)) (by kernel_rfl) ?_
  refine Internal.W.c (exp_ok (ks:=k::ks) X.toRd (by lia) hpl.2 ")" (opIs_yes h3 rfl)) (by kernel_rfl) ?_
  refine Internal.W.a (v:=.int 1) (P:=1≤sizeLine∧V.int 1=.int 1) ⟨one_le,rfl⟩ (by kernel_rfl) ?_
  refine Internal.W.aq (v:=.bool true) (by kernel_rfl) ?_
  refine Internal.W.a (v:=toR a) (P:=1≤sizeLine∧((0:Int)≤0∧[toR a][(0:Int).toNat]?=some (toR a)∨(0:Int)=-1∧∃ l',[toR a]=l'++[toR a])) ⟨one_le,.inl ⟨by decide,rfl⟩⟩ (by kernel_rfl) ?_
  cases a with
  | name s2=>cases t with
   | name s=>
    refine Internal.W.a (v:=.none) (P:=1+1≤sizeLine) two_le (by kernel_rfl) ?_
    refine Internal.W.a (v:=.none) (P:=1+1≤sizeLine) two_le (by kernel_rfl) ?_
    exact Internal.W.c (mk_call X.ok (rdS (q+1) (k::ks)) (by lia) (a:=.lst [toR (.name s),toR (.name s2)]) (b:=.lst [.none,.none])) (by kernel_rfl) (Internal.W.rf (by kernel_rfl))
   | num z=>
    refine Internal.W.a (v:=.none) (P:=1+1≤sizeLine) two_le (by kernel_rfl) ?_
    refine Internal.W.a (v:=.none) (P:=1+1≤sizeLine) two_le (by kernel_rfl) ?_
    exact Internal.W.c (mk_call X.ok (rdS (q+1) (k::ks)) (by lia) (a:=.lst [toR (.num z),toR (.name s2)]) (b:=.lst [.none,.none])) (by kernel_rfl) (Internal.W.rf (by kernel_rfl))
   | call ts=>
    refine Internal.W.a (v:=.none) (P:=1+1≤sizeLine) two_le (by kernel_rfl) ?_
    refine Internal.W.a (v:=.none) (P:=1+1≤sizeLine) two_le (by kernel_rfl) ?_
    exact Internal.W.c (mk_call X.ok (rdS (q+1) (k::ks)) (by lia) (a:=.lst [toR (.call ts),toR (.name s2)]) (b:=.lst [.none,.none])) (by kernel_rfl) (Internal.W.rf (by kernel_rfl))
   | fn nm b=>
    refine Internal.W.a (v:=.none) (P:=1+1≤sizeLine) two_le (by kernel_rfl) ?_
    refine Internal.W.a (v:=.none) (P:=1+1≤sizeLine) two_le (by kernel_rfl) ?_
    exact Internal.W.c (mk_call X.ok (rdS (q+1) (k::ks)) (by lia) (a:=.lst [toR (.fn nm b),toR (.name s2)]) (b:=.lst [.none,.none])) (by kernel_rfl) (Internal.W.rf (by kernel_rfl))
  | num z2=>cases t with
   | name s=>
    refine Internal.W.a (v:=.none) (P:=1+1≤sizeLine) two_le (by kernel_rfl) ?_
    refine Internal.W.a (v:=.none) (P:=1+1≤sizeLine) two_le (by kernel_rfl) ?_
    exact Internal.W.c (mk_call X.ok (rdS (q+1) (k::ks)) (by lia) (a:=.lst [toR (.name s),toR (.num z2)]) (b:=.lst [.none,.none])) (by kernel_rfl) (Internal.W.rf (by kernel_rfl))
   | num z=>
    refine Internal.W.a (v:=.none) (P:=1+1≤sizeLine) two_le (by kernel_rfl) ?_
    refine Internal.W.a (v:=.none) (P:=1+1≤sizeLine) two_le (by kernel_rfl) ?_
    exact Internal.W.c (mk_call X.ok (rdS (q+1) (k::ks)) (by lia) (a:=.lst [toR (.num z),toR (.num z2)]) (b:=.lst [.none,.none])) (by kernel_rfl) (Internal.W.rf (by kernel_rfl))
   | call ts=>
    refine Internal.W.a (v:=.none) (P:=1+1≤sizeLine) two_le (by kernel_rfl) ?_
    refine Internal.W.a (v:=.none) (P:=1+1≤sizeLine) two_le (by kernel_rfl) ?_
    exact Internal.W.c (mk_call X.ok (rdS (q+1) (k::ks)) (by lia) (a:=.lst [toR (.call ts),toR (.num z2)]) (b:=.lst [.none,.none])) (by kernel_rfl) (Internal.W.rf (by kernel_rfl))
   | fn nm b=>
    refine Internal.W.a (v:=.none) (P:=1+1≤sizeLine) two_le (by kernel_rfl) ?_
    refine Internal.W.a (v:=.none) (P:=1+1≤sizeLine) two_le (by kernel_rfl) ?_
    exact Internal.W.c (mk_call X.ok (rdS (q+1) (k::ks)) (by lia) (a:=.lst [toR (.fn nm b),toR (.num z2)]) (b:=.lst [.none,.none])) (by kernel_rfl) (Internal.W.rf (by kernel_rfl))
  | call ts2=>cases t with
   | name s=>
    refine Internal.W.a (v:=.none) (P:=1+1≤sizeLine) two_le (by kernel_rfl) ?_
    refine Internal.W.a (v:=.none) (P:=1+1≤sizeLine) two_le (by kernel_rfl) ?_
    exact Internal.W.c (mk_call X.ok (rdS (q+1) (k::ks)) (by lia) (a:=.lst [toR (.name s),toR (.call ts2)]) (b:=.lst [.none,.none])) (by kernel_rfl) (Internal.W.rf (by kernel_rfl))
   | num z=>
    refine Internal.W.a (v:=.none) (P:=1+1≤sizeLine) two_le (by kernel_rfl) ?_
    refine Internal.W.a (v:=.none) (P:=1+1≤sizeLine) two_le (by kernel_rfl) ?_
    exact Internal.W.c (mk_call X.ok (rdS (q+1) (k::ks)) (by lia) (a:=.lst [toR (.num z),toR (.call ts2)]) (b:=.lst [.none,.none])) (by kernel_rfl) (Internal.W.rf (by kernel_rfl))
   | call ts=>
    refine Internal.W.a (v:=.none) (P:=1+1≤sizeLine) two_le (by kernel_rfl) ?_
    refine Internal.W.a (v:=.none) (P:=1+1≤sizeLine) two_le (by kernel_rfl) ?_
    exact Internal.W.c (mk_call X.ok (rdS (q+1) (k::ks)) (by lia) (a:=.lst [toR (.call ts),toR (.call ts2)]) (b:=.lst [.none,.none])) (by kernel_rfl) (Internal.W.rf (by kernel_rfl))
   | fn nm b=>
    refine Internal.W.a (v:=.none) (P:=1+1≤sizeLine) two_le (by kernel_rfl) ?_
    refine Internal.W.a (v:=.none) (P:=1+1≤sizeLine) two_le (by kernel_rfl) ?_
    exact Internal.W.c (mk_call X.ok (rdS (q+1) (k::ks)) (by lia) (a:=.lst [toR (.fn nm b),toR (.call ts2)]) (b:=.lst [.none,.none])) (by kernel_rfl) (Internal.W.rf (by kernel_rfl))
  | fn nm2 b2=>cases t with
   | name s=>
    refine Internal.W.a (v:=.none) (P:=1+1≤sizeLine) two_le (by kernel_rfl) ?_
    refine Internal.W.a (v:=.none) (P:=1+1≤sizeLine) two_le (by kernel_rfl) ?_
    exact Internal.W.c (mk_call X.ok (rdS (q+1) (k::ks)) (by lia) (a:=.lst [toR (.name s),toR (.fn nm2 b2)]) (b:=.lst [.none,.none])) (by kernel_rfl) (Internal.W.rf (by kernel_rfl))
   | num z=>
    refine Internal.W.a (v:=.none) (P:=1+1≤sizeLine) two_le (by kernel_rfl) ?_
    refine Internal.W.a (v:=.none) (P:=1+1≤sizeLine) two_le (by kernel_rfl) ?_
    exact Internal.W.c (mk_call X.ok (rdS (q+1) (k::ks)) (by lia) (a:=.lst [toR (.num z),toR (.fn nm2 b2)]) (b:=.lst [.none,.none])) (by kernel_rfl) (Internal.W.rf (by kernel_rfl))
   | call ts=>
    refine Internal.W.a (v:=.none) (P:=1+1≤sizeLine) two_le (by kernel_rfl) ?_
    refine Internal.W.a (v:=.none) (P:=1+1≤sizeLine) two_le (by kernel_rfl) ?_
    exact Internal.W.c (mk_call X.ok (rdS (q+1) (k::ks)) (by lia) (a:=.lst [toR (.call ts),toR (.fn nm2 b2)]) (b:=.lst [.none,.none])) (by kernel_rfl) (Internal.W.rf (by kernel_rfl))
   | fn nm b=>
    refine Internal.W.a (v:=.none) (P:=1+1≤sizeLine) two_le (by kernel_rfl) ?_
    refine Internal.W.a (v:=.none) (P:=1+1≤sizeLine) two_le (by kernel_rfl) ?_
    exact Internal.W.c (mk_call X.ok (rdS (q+1) (k::ks)) (by lia) (a:=.lst [toR (.fn nm b),toR (.fn nm2 b2)]) (b:=.lst [.none,.none])) (by kernel_rfl) (Internal.W.rf (by kernel_rfl))
end
end
end Internal
end
section
namespace Internal
open PySem PySem.W PyProof.Rows
section
section
variable {w:Wo} {tk:Nat→Tk} {n:Nat}
theorem toRs_app:∀ (ts:List Tree) (t:Tree),toRs (ts++[t])=toRs ts++[toR t]
 | [],_=>rfl
 | _::ts,t=>congrArg (List.cons _) (toRs_app ts t)
theorem while_ok (X:Rk w tk n) (F:Nat) (ih:∀ f,f<F→∀ md r,P tk f md=some r→RSp w tk n md r) {p1:Nat} {k:Ctx} {res:Res} (h:P tk F (.cond p1 k false)=some res):RSp w tk n (.cond p1 k false) res:=by
 rintro p ks g rfl hw hp hk hg
 replace hw:(tk p).wd=.key .kwhile:=hw
 show GoodC w.e g 503 _ _ _
 obtain ⟨g,rfl⟩:∃ g',g=g'+1:=⟨g - 1,by lia⟩
 obtain ⟨F,rfl⟩:∃ f,F=f+1:=by cases F with | zero=>exact by injection h | succ f=>exact ⟨f,rfl⟩
 have h1000:=X.n1
 have hW:=Wt_step (tk:=tk) hp
 have hwt:wt (.key .kwhile)=12:=rfl
 rw [hw,hwt] at hW
 have hp1:=X.heof p hp (by rw [hw];exact fun e=>by injection e)
 refine X.ok.fn (by lia) (by kernel_rfl) (.o1 fun a=>by kernel_rfl) ?_
 refine Internal.W.c (X.take (ks:=k::ks) (by lia) hp) (by kernel_rfl) ?_
 have body:∀ a q r2,(tk (p+1)).wd=.op .lp→P tk F (.expr (p+1+1) .par 0)=some (.ok a q)→(tk q).wd=.op .rp→P tk F (.expr (q+1) k 0)=some r2→(∀ q2,r2=.bad q2→res=.bad q2)→(∀ e q2,r2=.ok e q2→res=.ok (.call [.name "while",a,e]) q2) →
   Internal.W (GoodP w.e g) (fun k' n'=>outR tk (k::ks) res=.exc k' n') (rsC (treeOf tabs w.e.g.K 503 [.cell 0] (rdS p (k::ks))) (tokV (tk p).wd (tk p).nl p) (rdS (p+1) (k::ks))) fun p=>outR tk (k::ks) res=.ok (retV p.1) p.2.r:=fun a q r2 h0 h1 h2 h3 hb ho=>by
  have hp2:=X.heof _ hp1 (by rw [h0];exact fun e=>by injection e)
  have hpl:=P_place X.heof F _ _ h1 hp2
  have hq1:=X.heof q hpl.2 (by rw [h2];exact fun e=>by injection e)
  have l1:p+2+1≤q:=hpl.1
  have hW2:=Wt_le (tk:=tk) (n:=n) (show p+1≤q+1 by lia)
  refine Internal.W.c (cond_ok X ih (k:=k) (ks:=ks) (g:=g) hp1 (by lia) (by lia) (o:=.ok (toR a) (rdS (q+1) (k::ks))) F (by lia) (fun e=>absurd h0 e) (fun _=>⟨_,h1,.inr ⟨h2,rfl⟩⟩)) (by kernel_rfl) ?_
  have hE:=ih F (by lia) _ _ h3 ks 1 g hq1 (by lia) (by simp [LvR]) (by have:eL 1=22:=rfl;lia)
  cases r2 with
  | bad q2=>rw [hb q2 rfl];exact Internal.W.cx hE (by kernel_rfl) rfl
  | ok e q2=>
   rw [ho e q2 rfl]
   refine Internal.W.c hE (by kernel_rfl) ?_
   exact Internal.W.c (callof_ok X.ok (r:=rdS q2 (k::ks)) (s:="while") (l:=[toR a,toR e]) (by lia) (by simp)) (by kernel_rfl) (Internal.W.rf (by kernel_rfl))
 refine P_cond h ?_ ?_ ?_ ?_ ?_ ?_ ?_
 ·intro h0 ee
  subst ee
  exact Internal.W.cx (cond_ok X ih (k:=k) (ks:=ks) (g:=g) hp1 (by lia) (by lia) F (by lia) (fun _=>rfl) (fun e=>absurd e h0)) (by kernel_rfl) rfl
 ·intro _ h0 h1 ee
  subst ee
  exact Internal.W.cx (cond_ok X ih (k:=k) (ks:=ks) (g:=g) hp1 (by lia) (by lia) F (by lia) (fun e=>absurd h0 e) (fun _=>⟨_,h1,rfl⟩)) (by kernel_rfl) rfl
 ·intro _ _ h0 h1 h2 ee
  subst ee
  exact Internal.W.cx (cond_ok X ih (k:=k) (ks:=ks) (g:=g) hp1 (by lia) (by lia) F (by lia) (fun e=>absurd h0 e) (fun _=>⟨_,h1,.inl ⟨h2,rfl⟩⟩)) (by kernel_rfl) rfl
 ·intro _ _ _ h0 h1 h2 h3 ee
  subst ee
  exact body _ _ _ h0 h1 h2 h3 (fun q2 e=>by (injection e with e1;subst e1);rfl) (fun e q2 e'=>by injection e')
 ·intro _ _ _ _ h0 h1 h2 h3 h4 ee
  subst ee
  exact body _ _ _ h0 h1 h2 h3 (fun q2 e=>by injection e) (fun e q2 e'=>by cases e';rfl)
 ·intro _ _ _ _ _ _ _ _ _ hb;exact by injection hb
 ·intro _ _ _ _ _ _ _ _ _ _ hb;exact by injection hb
theorem if_ok (X:Rk w tk n) (F:Nat) (ih:∀ f,f<F→∀ md r,P tk f md=some r→RSp w tk n md r) {p1:Nat} {k:Ctx} {res:Res} (h:P tk F (.cond p1 k true)=some res):RSp w tk n (.cond p1 k true) res:=by
 rintro p ks g rfl hw hp hk hg
 replace hw:(tk p).wd=.key .kif:=hw
 show GoodC w.e g 489 _ _ _
 obtain ⟨g,rfl⟩:∃ g',g=g'+1:=⟨g - 1,by lia⟩
 obtain ⟨F,rfl⟩:∃ f,F=f+1:=by cases F with | zero=>exact by injection h | succ f=>exact ⟨f,rfl⟩
 have h1000:=X.n1
 have hW:=Wt_step (tk:=tk) hp
 have hwt:wt (.key .kif)=12:=rfl
 rw [hw,hwt] at hW
 have hp1:=X.heof p hp (by rw [hw];exact fun e=>by injection e)
 refine X.ok.fn (by lia) (by kernel_rfl) (.o1 fun a=>by kernel_rfl) ?_
 refine Internal.W.c (X.take (ks:=k::ks) (by lia) hp) (by kernel_rfl) ?_
 have body:∀ a q r2,(tk (p+1)).wd=.op .lp→P tk F (.expr (p+1+1) .par 0)=some (.ok a q)→(tk q).wd=.op .rp→P tk F (.expr (q+1) k 0)=some r2→(∀ q2,r2=.bad q2→res=.bad q2) →
   (∀ e q2,r2=.ok e q2→res=.ok (.call [.name "if",a,e]) q2∧((tk q2).wd≠.key .kelse∨((tk q2).wd=.key .kelse∧(tk q2).nl=true∧k=.top))∨((tk q2).wd=.key .kelse∧((tk q2).nl=false∨k≠.top)∧∃ r3,P tk F (.expr (q2+1) k 0)=some r3∧(∀ q3,r3=.bad q3→res=.bad q3)∧∀ e2 q3,r3=.ok e2 q3→res=.ok (.call [.name "if",a,e,e2]) q3)) →
   Internal.W (GoodP w.e g) (fun k' n'=>outR tk (k::ks) res=.exc k' n') (rsC (treeOf tabs w.e.g.K 489 [.cell 0] (rdS p (k::ks))) (tokV (tk p).wd (tk p).nl p) (rdS (p+1) (k::ks))) fun p=>outR tk (k::ks) res=.ok (retV p.1) p.2.r:=fun a q r2 h0 h1 h2 h3 hb ho=>by
  have hp2:=X.heof _ hp1 (by rw [h0];exact fun e=>by injection e)
  have hpl:=P_place X.heof F _ _ h1 hp2
  have hq1:=X.heof q hpl.2 (by rw [h2];exact fun e=>by injection e)
  have l1:p+2+1≤q:=hpl.1
  have hW2:=Wt_le (tk:=tk) (n:=n) (show p+1≤q+1 by lia)
  refine Internal.W.c (cond_ok X ih (k:=k) (ks:=ks) (g:=g) hp1 (by lia) (by lia) (o:=.ok (toR a) (rdS (q+1) (k::ks))) F (by lia) (fun e=>absurd h0 e) (fun _=>⟨_,h1,.inr ⟨h2,rfl⟩⟩)) (by kernel_rfl) ?_
  have hE:=ih F (by lia) _ _ h3 ks 1 g hq1 (by lia) (by simp [LvR]) (by have:eL 1=22:=rfl;lia)
  cases r2 with
  | bad q2=>rw [hb q2 rfl];exact Internal.W.cx hE (by kernel_rfl) rfl
  | ok e q2=>
   have hpl2:=P_place X.heof F _ _ h3 hq1
   have l2:q+1+1≤q2:=hpl2.1
   have hK:=iskey_ok (ks:=k::ks) X.toRd (g:=g) (by lia) hpl2.2 "else"
   refine Internal.W.c hE (by kernel_rfl) ?_
   refine Internal.W.a (v:=.none) (P:=1≤sizeLine) one_le (by kernel_rfl) ?_
   have ctx:∀ v,v=V.str k.s→((ctxL (k::ks)).length≤sizeLine∧((0:Int)≤-1∧(ctxL (k::ks))[(-1:Int).toNat]?=some v∨(-1:Int)=-1∧∃ l',ctxL (k::ks)=l'++[v])):=fun v hv=>⟨ctx_size (by lia),.inr ⟨rfl,ctxL ks,by rw [hv];rfl⟩⟩
   rcases ho e q2 rfl with ⟨rfl,h4 | ⟨h4,h5,rfl⟩⟩ | ⟨h4,h5,r3,h6,hb3,ho3⟩
   ·rw [keyIs_no (s:="else") h4 rfl] at hK
    refine Internal.W.c hK (by kernel_rfl) ?_
    exact Internal.W.c (callof_ok X.ok (r:=rdS q2 (k::ks)) (s:="if") (l:=[toR a,toR e]) (by lia) (by simp)) (by kernel_rfl) (Internal.W.rf (by kernel_rfl))
   ·rw [keyIs_yes (s:="else") h4 rfl] at hK
    refine Internal.W.c hK (by kernel_rfl) ?_
    have hP:=X.peek (ks:=.top::ks) (g:=g) (by lia) hpl2.2
    rw [h5] at hP
    refine Internal.W.c hP (by kernel_rfl) ?_
    refine Internal.W.a (v:=.str "top") (ctx _ rfl) (by kernel_rfl) ?_
    exact Internal.W.c (callof_ok X.ok (r:=rdS q2 (.top::ks)) (s:="if") (l:=[toR a,toR e]) (by lia) (by simp)) (by kernel_rfl) (Internal.W.rf (by kernel_rfl))
   ·have hq3:=X.heof q2 hpl2.2 (by rw [h4];exact fun e=>by injection e)
    have hW3:=Wt_le (tk:=tk) (n:=n) (show p+1≤q2+1 by lia)
    have hE3:=ih F (by lia) _ _ h6 ks 1 g hq3 (by lia) (by simp [LvR]) (by have:eL 1=22:=rfl;lia)
    have hT:=X.take (ks:=k::ks) (g:=g) (by lia) hpl2.2
    rw [keyIs_yes (s:="else") h4 rfl] at hK
    refine Internal.W.c hK (by kernel_rfl) ?_
    have hP:=X.peek (ks:=k::ks) (g:=g) (by lia) hpl2.2
    have fin:∀ t:Tr (Fl × Fst),rqC t=some (327,[.cell 0],rdS q2 (k::ks))→rqC (rsC t (tokV (tk q2).wd (tk q2).nl q2) (rdS (q2+1) (k::ks)))=some (370,[.cell 0,.int 1],rdS (q2+1) (k::ks)) →
      (∀ b q3,prA (rsC (rsC t (tokV (tk q2).wd (tk q2).nl q2) (rdS (q2+1) (k::ks))) b (rdS q3 (k::ks))) .none=(2≤sizeLine)∧rqC (rsA (rsC (rsC t (tokV (tk q2).wd (tk q2).nl q2) (rdS (q2+1) (k::ks))) b (rdS q3 (k::ks))) .none)=some (249,[.str "if",.lst [toR a,toR e,b]],rdS q3 (k::ks)) ∧
       ∀ v,rtF (rsC (rsA (rsC (rsC t (tokV (tk q2).wd (tk q2).nl q2) (rdS (q2+1) (k::ks))) b (rdS q3 (k::ks))) .none) v (rdS q3 (k::ks)))=some (v,rdS q3 (k::ks))) →
      Internal.W (GoodP w.e g) (fun k' n'=>outR tk (k::ks) res=.exc k' n') t fun p=>outR tk (k::ks) res=.ok (retV p.1) p.2.r:=fun t e1 e2 e3=>by
     refine Internal.W.c hT e1 ?_
     cases r3 with
     | bad q3=>rw [hb3 q3 rfl];exact Internal.W.cx hE3 e2 rfl
     | ok e2' q3=>
      rw [ho3 e2' q3 rfl]
      obtain ⟨c1,c2,c3⟩:=e3 (toR e2') q3
      refine Internal.W.c hE3 e2 ?_
      refine Internal.W.a (v:=.none) (P:=2≤sizeLine) two_le c1 ?_
      exact Internal.W.c (callof_ok X.ok (r:=rdS q3 (k::ks)) (s:="if") (l:=[toR a,toR e,toR e2']) (by lia) (by simp)) c2 (Internal.W.rf (c3 _))
    cases hnl:(tk q2).nl with
    | false=>
     rw [hnl] at hP
     refine Internal.W.c hP (by kernel_rfl) ?_
     exact fin _ (by kernel_rfl) (by kernel_rfl) (fun b q3=>⟨by kernel_rfl,by kernel_rfl,fun v=>by kernel_rfl⟩)
    | true=>
     have h5':k≠.top:=h5.resolve_left (by rw [hnl];decide)
     rw [hnl] at hP
     refine Internal.W.c hP (by kernel_rfl) ?_
     refine Internal.W.a (v:=.str k.s) (ctx _ rfl) (by kernel_rfl) ?_
     cases k with
     | top=>exact absurd rfl h5'
     | par=>exact fin _ (by kernel_rfl) (by kernel_rfl) (fun b q3=>⟨by kernel_rfl,by kernel_rfl,fun v=>by kernel_rfl⟩)
     | brace=>exact fin _ (by kernel_rfl) (by kernel_rfl) (fun b q3=>⟨by kernel_rfl,by kernel_rfl,fun v=>by kernel_rfl⟩)
 refine P_cond h ?_ ?_ ?_ ?_ ?_ ?_ ?_
 ·intro h0 ee
  subst ee
  exact Internal.W.cx (cond_ok X ih (k:=k) (ks:=ks) (g:=g) hp1 (by lia) (by lia) F (by lia) (fun _=>rfl) (fun e=>absurd e h0)) (by kernel_rfl) rfl
 ·intro _ h0 h1 ee
  subst ee
  exact Internal.W.cx (cond_ok X ih (k:=k) (ks:=ks) (g:=g) hp1 (by lia) (by lia) F (by lia) (fun e=>absurd h0 e) (fun _=>⟨_,h1,rfl⟩)) (by kernel_rfl) rfl
 ·intro _ _ h0 h1 h2 ee
  subst ee
  exact Internal.W.cx (cond_ok X ih (k:=k) (ks:=ks) (g:=g) hp1 (by lia) (by lia) F (by lia) (fun e=>absurd h0 e) (fun _=>⟨_,h1,.inl ⟨h2,rfl⟩⟩)) (by kernel_rfl) rfl
 ·intro _ _ _ h0 h1 h2 h3 ee
  subst ee
  exact body _ _ _ h0 h1 h2 h3 (fun q2 e=>by (injection e with e1;subst e1);rfl) (fun e q2 e'=>by injection e')
 ·intro _ _ _ _ h0 h1 h2 h3 h4 ee
  subst ee
  rename_i q2'
  have hx:(tk q2').wd≠.key .kelse∨((tk q2').wd=.key .kelse∧(tk q2').nl=true∧k=.top):=by
   by_cases hw2:(tk q2').wd=.key .kelse
   ·refine .inr ⟨hw2,?_⟩
    have hno:¬((tk q2').nl=false∨k≠.top):=fun e=>h4 ⟨rfl,hw2,e⟩
    refine ⟨by cases hb:(tk q2').nl with | true=>rfl | false=>exact absurd (.inl hb) hno,?_⟩
    cases k with
    | top=>rfl
    | par=>exact absurd (.inr (fun e=>by injection e)) hno
    | brace=>exact absurd (.inr (fun e=>by injection e)) hno
   ·exact .inl hw2
  exact body _ _ _ h0 h1 h2 h3 (fun q2 e=>by injection e) (fun e q2 e'=>by cases e';exact .inl ⟨rfl,hx⟩)
 ·intro _ _ _ _ _ h0 h1 h2 h3 hb h4 h5 h6 ee
  clear hb
  subst ee
  exact body _ _ _ h0 h1 h2 h3 (fun q2 e=>by injection e) (fun e q2 e'=>by cases e';exact .inr ⟨h4,h5,_,h6,fun q3 e=>(by cases e;rfl),fun e2 q3 e=>nomatch e⟩)
 ·intro _ _ _ _ _ _ h0 h1 h2 h3 hb h4 h5 h6 ee
  clear hb
  subst ee
  exact body _ _ _ h0 h1 h2 h3 (fun q2 e=>by injection e) (fun e q2 e'=>by cases e';exact .inr ⟨h4,h5,_,h6,(fun q3 e=>nomatch e),(fun e2 q3 e=>by cases e;rfl)⟩)
noncomputable def bkSt (l:List V) (r:List Root):Fst:=⟨[("self",.v (.cell 0)),("items",.own l)],r⟩
theorem block_ok (X:Rk w tk n) (F:Nat) (ih:∀ f,f<F→∀ md r,P tk f md=some r→RSp w tk n md r) {p1:Nat} {ts0:List Tree} {res:Res} (h:P tk F (.block p1 ts0)=some res):RSp w tk n (.block p1 ts0) res:=by
 rintro rfl p k ks g rfl hw hp hk hg
 obtain ⟨g,rfl⟩:∃ g',g=g'+1:=⟨g - 1,by lia⟩
 have h1000:=X.n1
 have hW:=Wt_step (tk:=tk) hp
 have hwt:wt (.op .lb)=12:=rfl
 rw [hw,hwt] at hW
 have hp1:=X.heof p hp (by rw [hw];exact fun e=>by injection e)
 refine X.ok.fn (by lia) (by kernel_rfl) (.o1 fun a=>by kernel_rfl) ?_
 refine Internal.W.c (exp_ok (ks:=k::ks) X.toRd (by lia) hp "{" (opIs_yes hw rfl)) (by kernel_rfl) ?_
 refine Internal.W.a (v:=.none) (ctx_size (k:=k) (ks:=ks) (by lia)) (by kernel_rfl) ?_
 refine Internal.W.l (s:=bkSt [] (rdS (p+1) (.brace::k::ks))) (fun m s=>m≤F∧∃ q ts,p+1≤q∧q<n∧ts.length≤q∧P tk m (.block q ts)=some res∧∃ l,l=toRs ts∧s=bkSt l (rdS q (.brace::k::ks))) F (by kernel_rfl) ⟨Nat.le_refl _,p+1,[],Nat.le_refl _,hp1,Nat.zero_le _,h,[],rfl,rfl⟩ ?_
 rintro m s ⟨hm,q,ts,hpq,hq,hl,hP,l,hlt,rfl⟩
 obtain ⟨f,rfl⟩:∃ f,m=f+1:=by cases m with | zero=>exact by injection hP | succ f=>exact ⟨f,rfl⟩
 have hW1:=Wt_le (tk:=tk) (n:=n) hpq
 have hR:=isop_ok (ks:=.brace::k::ks) X.toRd (g:=g) (by lia) hq "}"
 have hS:=isop_ok (ks:=.brace::k::ks) X.toRd (g:=g) (by lia) hq ";"
 have hll:l.length≤1000:=by rw [hlt,toRs_len];lia
 have turn:(tk q).wd≠.op .rb→(tk q).wd≠.op .semi→∀ r2,P tk f (.expr q .brace 0)=some r2→(∀ q2,r2=.bad q2→res=.bad q2)→(∀ t q2,r2=.ok t q2→(¬((tk q2).nl=true∨(tk q2).wd=.op .semi∨(tk q2).wd=.op .rb)∧res=.bad q2)∨(((tk q2).nl=true∨(tk q2).wd=.op .semi∨(tk q2).wd=.op .rb)∧P tk f (.block q2 (ts++[t]))=some res)) →
   Internal.W (GoodP w.e g) (fun k' n'=>outR tk (k::ks) res=.exc k' n') (lpT (rsA (rsC (treeOf tabs w.e.g.K 475 [.cell 0] (rdS p (k::ks))) (tokV (tk p).wd (tk p).nl p) (rdS (p+1) (k::ks))) .none) (bkSt l (rdS q (.brace::k::ks))))
    (LQ (GoodP w.e g) (fun k' n'=>outR tk (k::ks) res=.exc k' n') (rsA (rsC (treeOf tabs w.e.g.K 475 [.cell 0] (rdS p (k::ks))) (tokV (tk p).wd (tk p).nl p) (rdS (p+1) (k::ks))) .none)
     (fun m s=>m≤F∧∃ q ts,p+1≤q∧q<n∧ts.length≤q∧P tk m (.block q ts)=some res∧∃ l,l=toRs ts∧s=bkSt l (rdS q (.brace::k::ks))) (f+1) fun p=>outR tk (k::ks) res=.ok (retV p.1) p.2.r):=fun h0 h1 r2 h2 hb ho=>by
  rw [opIs_no (s:="}") h0 rfl] at hR
  rw [opIs_no (s:=";") h1 rfl] at hS
  have hE:=ih f (by lia) _ _ h2 (k::ks) 1 g hq (by simp;lia) (by simp [LvR]) (by have:eL 1=22:=rfl;lia)
  refine Internal.W.c hR (by kernel_rfl) ?_
  refine Internal.W.c hS (by kernel_rfl) ?_
  cases r2 with
  | bad q2=>rw [hb q2 rfl];exact Internal.W.cx hE (by kernel_rfl) rfl
  | ok t q2=>
   have hpl:=P_place X.heof f _ _ h2 hq
   have l2:q+1≤q2:=hpl.1
   have hP2:=X.peek (ks:=.brace::k::ks) (g:=g) (by lia) hpl.2
   have hR2:=isop_ok (ks:=.brace::k::ks) X.toRd (g:=g) (by lia) hpl.2 "}"
   have hS2:=isop_ok (ks:=.brace::k::ks) X.toRd (g:=g) (by lia) hpl.2 ";"
   refine Internal.W.c hE (by kernel_rfl) ?_
   refine Internal.W.a (v:=.none) (P:=l.length≤sizeLine) (sizeL (by lia)) (by kernel_rfl) ?_
   have again:P tk f (.block q2 (ts++[t]))=some res→f≤F∧∃ q ts,p+1≤q∧q<n∧ts.length≤q∧P tk f (.block q ts)=some res∧∃ l',l'=toRs ts∧bkSt (l++[toR t]) (rdS q2 (.brace::k::ks))=bkSt l' (rdS q (.brace::k::ks)):=fun hh=>
    ⟨by lia,q2,ts++[t],by lia,hpl.2,by simp;lia,hh,_,rfl,by rw [toRs_app,hlt]⟩
   cases hnl:(tk q2).nl with
   | true=>
    rw [hnl] at hP2
    refine Internal.W.c hP2 (by kernel_rfl) ?_
    rcases ho t q2 rfl with ⟨h3,_⟩ | ⟨_,h3⟩
    ·exact absurd (.inl hnl) h3
    ·exact Internal.W.la (s':=bkSt (l++[toR t]) (rdS q2 (.brace::k::ks))) (by kernel_rfl) (Nat.lt_succ_self f) (again h3)
   | false=>
    rw [hnl] at hP2
    refine Internal.W.c hP2 (by kernel_rfl) ?_
    by_cases hs:(tk q2).wd=.op .semi
    ·rw [opIs_yes (s:=";") hs rfl] at hS2
     refine Internal.W.c hS2 (by kernel_rfl) ?_
     rcases ho t q2 rfl with ⟨h3,_⟩ | ⟨_,h3⟩
     ·exact absurd (.inr (.inl hs)) h3
     ·exact Internal.W.la (s':=bkSt (l++[toR t]) (rdS q2 (.brace::k::ks))) (by kernel_rfl) (Nat.lt_succ_self f) (again h3)
    ·rw [opIs_no (s:=";") hs rfl] at hS2
     refine Internal.W.c hS2 (by kernel_rfl) ?_
     by_cases hr:(tk q2).wd=.op .rb
     ·rw [opIs_yes (s:="}") hr rfl] at hR2
      refine Internal.W.c hR2 (by kernel_rfl) ?_
      rcases ho t q2 rfl with ⟨h3,_⟩ | ⟨_,h3⟩
      ·exact absurd (.inr (.inr hr)) h3
      ·exact Internal.W.la (s':=bkSt (l++[toR t]) (rdS q2 (.brace::k::ks))) (by kernel_rfl) (Nat.lt_succ_self f) (again h3)
     ·rw [opIs_no (s:="}") hr rfl] at hR2
      refine Internal.W.c hR2 (by kernel_rfl) ?_
      rcases ho t q2 rfl with ⟨_,rfl⟩ | ⟨h3,_⟩
      ·exact Internal.W.cx (fail_ok (ks:=.brace::k::ks) X.toRd (by lia) hpl.2) (by kernel_rfl) rfl
      ·rw [hnl] at h3
       rcases h3 with h3 | h3 | h3
       ·injection h3
       ·exact absurd h3 hs
       ·exact absurd h3 hr
 refine P_block hP ?_ ?_ ?_ ?_ ?_
 ·intro h0 ee
  subst ee
  rw [opIs_yes (s:="}") h0 rfl] at hR
  refine Internal.W.c hR (by kernel_rfl) ?_
  refine Internal.W.le (by kernel_rfl) ?_
  refine Internal.W.c (X.take (ks:=.brace::k::ks) (by lia) hq) (by kernel_rfl) ?_
  refine Internal.W.a (v:=.tup [.str "{",.lst (ctxL (k::ks))]) (pop_p (k:=.brace) (ks:=k::ks) (by simp;lia)) (by kernel_rfl) ?_
  have e:outR tk (k::ks) (.ok (.call (.name "{" :: ts)) (q+1))=.ok (callL "{" l) (rdS (q+1) (k::ks)):=by
   rw [hlt];unfold callL;rw [toRs_len];rfl
  rw [e]
  exact Internal.W.c (callof_ok X.ok (r:=rdS (q+1) (k::ks)) (s:="{") (l:=l) (by lia) hll) (by kernel_rfl) (Internal.W.rf (by kernel_rfl))
 ·intro h0 h1
  have hq1:=X.heof q hq (by rw [h0];exact fun e=>by injection e)
  rw [show opIs (tk q).wd "}" = false from opIs_no (o:=.rb) (by rw [h0];exact fun e=>nomatch e) rfl] at hR
  rw [opIs_yes (s:=";") h0 rfl] at hS
  refine Internal.W.c hR (by kernel_rfl) ?_
  refine Internal.W.c hS (by kernel_rfl) ?_
  refine Internal.W.c (X.take (ks:=.brace::k::ks) (by lia) hq) (by kernel_rfl) ?_
  exact Internal.W.la (s':=bkSt l (rdS (q+1) (.brace::k::ks))) (by kernel_rfl) (Nat.lt_succ_self f) ⟨by lia,q+1,ts,by lia,hq1,by lia,h1,l,hlt,rfl⟩
 ·intro _ h0 h1 h2 ee
  subst ee
  exact turn h0 h1 _ h2 (fun q2 e=>by (injection e with e1;subst e1);rfl) (fun t q2 e=>by injection e)
 ·intro _ _ h0 h1 h2 h3 ee
  subst ee
  exact turn h0 h1 _ h2 (fun q2 e=>by injection e) (fun t q2 e=>by cases e;exact .inl ⟨h3,rfl⟩)
 ·intro _ _ h0 h1 h2 h3 h4
  exact turn h0 h1 _ h2 (fun q2 e=>by injection e) (fun t q2 e=>by cases e;exact .inr ⟨h3,h4⟩)
end
end
end Internal
end
section
namespace Internal
open PySem PySem.W PyProof.Rows
section
section
variable {w:Wo} {tk:Nat→Tk} {n:Nat}
theorem opIs_eq (x:Wd):opIs x "=" = false:=by
 cases x<;>try rfl
 rename_i o;cases o<;>decide +kernel
noncomputable def fnSt (ns ds:List V) (more:Bool) (x1 x2:LV) (r:List Root):Fst:=⟨[("self",.v (.cell 0)),("names",.own ns),("defaults",.own ds),("more",.v (.bool more)),("token",x1),("default",x2),("formals",.un),("body",.un)],r⟩
noncomputable def fnT (w:Wo) (p:Nat) (k:Ctx) (ks:List Ctx) (t1 t2:V) (b:Bool):Tr (Fl × Fst):=rsC (rsA (rsC (rsC (treeOf tabs w.e.g.K 510 [.cell 0] (rdS p (k::ks))) t1 (rdS (p+1) (k::ks))) t2 (rdS (p+2) (k::ks))) .none) (.bool b) (rdS (p+2) (.par::k::ks))
theorem fn_rest (X:Rk w tk n) {F:Nat} (ih:∀ f,f<F→∀ md r,P tk f md=some r→RSp w tk n md r) {p q:Nat} {k:Ctx} {ks:List Ctx} {g:Nat} {names:List Str} {ns ds:List V} {b:Bool} {x1 x2:LV} {t1 t2:V} {o:Out} {I:Nat→Fst→Prop} {m:Nat} (hq:q<n) (hk:ks.length+2≤q) (hg:Wt tk n q+25≤g) (hn:(names=[]∧ns=[]∧ds=[])∨∃ s,names=[s]∧ns=[.str s]∧ds=[misV])
  (hbad:(tk q).wd≠.op .rp→o=.exc (badK (tk q).wd) (10*q:Nat)) (f:Nat) (hf:f<F) (hok:(tk q).wd=.op .rp→∃ r,P tk f (.expr (q+1) k 0)=some r∧match r with | .bad q2=>o=.exc (badK (tk q2).wd) (10*q2:Nat) | .ok e q2=>o=.ok (toR (.fn names e)) (rdS q2 (k::ks))) :
  Internal.W (GoodP w.e g) (fun k' n'=>o=.exc k' n') (lpT (fnT w p k ks t1 t2 b) (fnSt ns ds false x1 x2 (rdS q (.par::k::ks)))) (LQ (GoodP w.e g) (fun k' n'=>o=.exc k' n') (fnT w p k ks t1 t2 b) I m fun p=>o=.ok (retV p.1) p.2.r):=by
 have h1000:=X.n1
 refine Internal.W.le (by kernel_rfl) ?_
 by_cases hw:(tk q).wd=.op .rp
 ·have hq1:=X.heof q hq (by rw [hw];exact fun e=>by injection e)
  obtain ⟨r,h,ho⟩:=hok hw
  have hW:=Wt_le (tk:=tk) (n:=n) (show q≤q+1 by lia)
  have hE:=ih f hf _ _ h ks 1 g hq1 (by lia) (by simp [LvR]) (by have:eL 1=22:=rfl;lia)
  refine Internal.W.c (exp_ok (ks:=.par::k::ks) X.toRd (by lia) hq ")" (opIs_yes hw rfl)) (by kernel_rfl) ?_
  refine Internal.W.a (v:=.tup [.str "(",.lst (ctxL (k::ks))]) (pop_p (k:=.par) (ks:=k::ks) (by simp;lia)) (by kernel_rfl) ?_
  rcases hn with ⟨rfl,rfl,rfl⟩ | ⟨s,rfl,rfl,rfl⟩
  ·refine Internal.W.c (X.plist (g:=g) (r:=rdS (q+1) (k::ks)) (m:=0) (names:=[]) (by lia) (by simp) rfl) (by kernel_rfl) ?_
   cases r with
   | bad q2=>subst ho;exact Internal.W.cx hE (by kernel_rfl) rfl
   | ok e q2=>
    subst ho
    refine Internal.W.c hE (by kernel_rfl) ?_
    refine Internal.W.c (symbol_ok X.ok (r:=rdS q2 (k::ks)) (s:="function") (by lia)) (by kernel_rfl) ?_
    refine Internal.W.c (null_ok X.ok (r:=rdS q2 (k::ks)) (by lia)) (by kernel_rfl) ?_
    exact Internal.W.c (mk_call X.ok (rdS q2 (k::ks)) (by lia) (a:=.lst [symV "function",plV [],toR e,nulV]) (b:=.lst [.none,.none,.none,.none])) (by kernel_rfl) (Internal.W.rf (by kernel_rfl))
  ·refine Internal.W.c (X.plist (g:=g) (r:=rdS (q+1) (k::ks)) (m:=1) (names:=[s]) (by lia) (by simp) rfl) (by kernel_rfl) ?_
   cases r with
   | bad q2=>subst ho;exact Internal.W.cx hE (by kernel_rfl) rfl
   | ok e q2=>
    subst ho
    refine Internal.W.c hE (by kernel_rfl) ?_
    refine Internal.W.c (symbol_ok X.ok (r:=rdS q2 (k::ks)) (s:="function") (by lia)) (by kernel_rfl) ?_
    refine Internal.W.c (null_ok X.ok (r:=rdS q2 (k::ks)) (by lia)) (by kernel_rfl) ?_
    exact Internal.W.c (mk_call X.ok (rdS q2 (k::ks)) (by lia) (a:=.lst [symV "function",plV [s],toR e,nulV]) (b:=.lst [.none,.none,.none,.none])) (by kernel_rfl) (Internal.W.rf (by kernel_rfl))
 ·cases hbad hw
  exact Internal.W.cx (exp_bad (ks:=.par::k::ks) X.toRd (by lia) hq ")" (opIs_no hw rfl)) (by kernel_rfl) rfl
theorem fn_ok (X:Rk w tk n) (F:Nat) (ih:∀ f,f<F→∀ md r,P tk f md=some r→RSp w tk n md r) {p1:Nat} {k:Ctx} {res:Res} (h:P tk F (.fn p1 k)=some res):RSp w tk n (.fn p1 k) res:=by
 rintro p ks g rfl hw hp hk hg
 obtain ⟨g,rfl⟩:∃ g',g=g'+1:=⟨g - 1,by lia⟩
 obtain ⟨F,rfl⟩:∃ f,F=f+1:=by cases F with | zero=>exact by injection h | succ f=>exact ⟨f,rfl⟩
 have h1000:=X.n1
 have hW:=Wt_step (tk:=tk) hp
 have hwt:wt (.key .kfun)=12:=rfl
 rw [hw,hwt] at hW
 have hp1:=X.heof p hp (by rw [hw];exact fun e=>by injection e)
 refine X.ok.fn (by lia) (by kernel_rfl) (.o1 fun a=>by kernel_rfl) ?_
 refine Internal.W.c (X.take (ks:=k::ks) (by lia) hp) (by kernel_rfl) ?_
 by_cases hlp:(tk (p+1)).wd=.op .lp
 ·have hp2:=X.heof _ hp1 (by rw [hlp];exact fun e=>by injection e)
  have hW1:Wt tk n (p+1)=12+Wt tk n (p+2):=by
   have h:=Wt_step (tk:=tk) hp1
   rw [hlp] at h
   exact h
  have hW2:=Wt_le (tk:=tk) (n:=n) (show p+2≤p+3 by lia)
  have hR:=isop_ok (ks:=.par::k::ks) X.toRd (g:=g) (by lia) hp2 ")"
  have spec:((tk (p+2)).wd=.op .rp→∃ r,P tk F (.expr (p+2+1) k 0)=some r∧match r with | .bad q2=>outR tk (k::ks) res=.exc (badK (tk q2).wd) (10*q2:Nat) | .ok e q2=>outR tk (k::ks) res=.ok (toR (.fn [] e)) (rdS q2 (k::ks))) ∧
    (∀ s,(tk (p+2)).wd=.id s→((tk (p+3)).wd≠.op .rp→res=.bad (p+3))∧((tk (p+3)).wd=.op .rp→∃ r,P tk F (.expr (p+3+1) k 0)=some r∧match r with | .bad q2=>outR tk (k::ks) res=.exc (badK (tk q2).wd) (10*q2:Nat) | .ok e q2=>outR tk (k::ks) res=.ok (toR (.fn [s] e)) (rdS q2 (k::ks)))) ∧
    ((tk (p+2)).wd≠.op .rp→(∀ s,(tk (p+2)).wd≠.id s)→res=.bad (p+2)):=by
   refine Q_fn h ?_ ?_ ?_ ?_
   ·intro h0
    exact absurd hlp h0
   ·intro h0 h1 h2
    exact ⟨fun e=>absurd e h1,fun s e=>absurd e (h2 s),fun _ _=>rfl⟩
   ·intro _ h0 h1 h2
    refine ⟨fun e=>?_,fun s e=>⟨fun _=>rfl,fun e=>absurd e h2⟩,fun _ e=>absurd h1 (e _)⟩
    rw [show p+2=p+1+1 from rfl,h1] at e;injection e
   ·intro _ _ _ h0 h1 h2 h3
    rename_i names q r
    rcases h1 with ⟨rfl,rfl⟩ | ⟨s,rfl,rfl,h1⟩
    ·refine ⟨fun _=>⟨r,h3,?_⟩,fun s e=>?_,fun e=>absurd h2 e⟩
     ·cases r<;>rfl
     ·rw [show p+2=p+1+1 from rfl,h2] at e;injection e
    ·refine ⟨fun e=>?_,fun s' e=>?_,fun _ e=>absurd h1 (e _)⟩
     ·rw [show p+2=p+1+1 from rfl,h1] at e;injection e
     ·rw [show p+2=p+1+1 from rfl,h1] at e;(injection e with e1;subst e1)
      refine ⟨fun e=>absurd h2 e,fun _=>⟨r,h3,?_⟩⟩
      cases r<;>rfl
  refine Internal.W.c (exp_ok (ks:=k::ks) X.toRd (by lia) hp1 "(" (opIs_yes hlp rfl)) (by kernel_rfl) ?_
  refine Internal.W.a (v:=.none) (ctx_size (k:=k) (ks:=ks) (by lia)) (by kernel_rfl) ?_
  refine Internal.W.c hR (by kernel_rfl) ?_
  refine Internal.W.l (s:=fnSt [] [] (!opIs (tk (p+2)).wd ")") .un .un (rdS (p+2) (.par::k::ks))) (fun m s=>(m=1∧s=fnSt [] [] (!opIs (tk (p+2)).wd ")") .un .un (rdS (p+2) (.par::k::ks)))∨(m=0∧∃ s' x1 x2,s=fnSt [.str s'] [misV] false x1 x2 (rdS (p+3) (.par::k::ks))∧(tk (p+2)).wd=.id s'∧p+3<n)) 1 (by kernel_rfl) (.inl ⟨rfl,rfl⟩) ?_
  rintro m s (⟨rfl,rfl⟩ | ⟨rfl,s',x1,x2,rfl,hid,hp3⟩)
  ·by_cases hrp:(tk (p+2)).wd=.op .rp
   ·rw [opIs_yes (s:=")") hrp rfl]
    exact fn_rest X ih (names:=[]) hp2 (by lia) (by lia) (.inl ⟨rfl,rfl,rfl⟩) (fun e=>absurd hrp e) F (by lia) spec.1
   ·rw [opIs_no (s:=")") hrp rfl]
    refine Internal.W.c (X.peek (ks:=.par::k::ks) (by lia) hp2) (by kernel_rfl) ?_
    have hF:=fail_ok (ks:=.par::k::ks) X.toRd (g:=g) (by lia) hp2
    cases hid:(tk (p+2)).wd with
    | id s=>
     have hp3:=X.heof _ hp2 (by rw [hid];exact fun e=>by injection e)
     have hT:=X.take (ks:=.par::k::ks) (g:=g) (by lia) hp2
     rw [hid] at hT
     refine Internal.W.c hT (by kernel_rfl) ?_
     refine Internal.W.a (v:=.none) (P:=0≤sizeLine) (Nat.zero_le _) (by kernel_rfl) ?_
     refine Internal.W.c (missing_ok X.ok (r:=rdS (p+3) (.par::k::ks)) (by lia)) (by kernel_rfl) ?_
     refine Internal.W.c ((opIs_eq (tk (p+3)).wd)▸isop_ok (ks:=.par::k::ks) X.toRd (g:=g) (by lia) hp3 "=") (by kernel_rfl) ?_
     refine Internal.W.a (v:=.none) (P:=0≤sizeLine) (Nat.zero_le _) (by kernel_rfl) ?_
     refine Internal.W.c ((opIs_comma (tk (p+3)).wd)▸isop_ok (ks:=.par::k::ks) X.toRd (g:=g) (by lia) hp3 ",") (by kernel_rfl) ?_
     exact Internal.W.la (s':=fnSt [.str s] [misV] false (.v (tokV (.id s) (tk (p+2)).nl (p+2))) (.v misV) (rdS (p+3) (.par::k::ks))) (by kernel_rfl) Nat.one_pos (.inr ⟨rfl,s,_,_,rfl,rfl,hp3⟩)
    | _=>
     rw [spec.2.2 hrp (fun s e=>by rw [hid] at e;injection e)]
     rw [hid] at hF
     exact Internal.W.cx hF (by kernel_rfl) (by show outR _ _ _=_;rw [outR,hid])
  ·rw [hid]
   have hs:=spec.2.1 s' hid
   exact fn_rest X ih (names:=[s']) hp3 (by lia) (by lia) (.inr ⟨s',rfl,rfl,rfl⟩) (fun e=>by rw [hs.1 e];rfl) F (by lia) hs.2
 ·have hb:res=.bad (p+1):=by
   refine Q_fn h ?_ ?_ ?_ ?_
   ·intro h0
    rfl
   ·intro h0 _ _
    exact absurd h0 hlp
   ·intro _ h0 _ _
    exact absurd h0 hlp
   ·intro _ _ _ h0 _ _ _
    exact absurd h0 hlp
  subst hb
  exact Internal.W.cx (exp_bad (ks:=k::ks) X.toRd (by lia) hp1 "(" (opIs_no hlp rfl)) (by kernel_rfl) rfl
theorem reader_all (X:Rk w tk n):∀ F,∀ f,f<F→∀ md r,P tk f md=some r→RSp w tk n md r:=by
 intro F
 induction F with
 | zero=>exact fun f h=>absurd h (Nat.not_lt_zero _)
 | succ F ih=>
  intro f hf md r h
  have ih':∀ f',f'<f→∀ md r,P tk f' md=some r→RSp w tk n md r:=fun f' h'=>ih f' (by lia)
  cases md with
  | expr p k lv=>exact expr_ok X f ih' h
  | loop=>trivial
  | side p k=>exact oper_ok X f ih' h
  | prim p k=>exact prim_ok X f ih' h
  | foll p k t=>exact foll_ok X f ih' h
  | args p=>exact call_ok X f ih' h
  | cond p k b=>cases b;exact while_ok X f ih' h;exact if_ok X f ih' h
  | fn p k=>exact fn_ok X f ih' h
  | block p ts=>exact block_ok X f ih' h
  | prog=>trivial
end
end
end Internal
end
section
namespace Internal
open PySem PySem.W PyProof.Rows
section
section
variable {w:Wo} {tk:Nat→Tk} {n:Nat}
noncomputable def pgSt (l:List V) (x:LV) (r:List Root):Fst:=⟨[("self",.v (.cell 0)),("statements",.own l),("token",x)],r⟩
noncomputable def PgI (tk:Nat→Tk) (n F:Nat) (res:Res) (m:Nat) (s:Fst):Prop:=m≤F∧∃ q ts x l,q<n∧ts.length≤q∧P tk m (.prog q ts)=some res∧l=toRs ts∧s=pgSt l x (rdS q [.top])
noncomputable def outP (tk:Nat→Tk):Res→Out
 | .ok (.call ts) q=>.ok (.lst (toRs ts)) (rdS q [.top])
 | .ok _ _=>.ok .none []
 | .bad q=>.exc (badK (tk q).wd) (10*q:Nat)
theorem prog_ok (X:Rk w tk n) (F:Nat) {res:Res} {g:Nat} (h0:0<n) (hg:Wt tk n 0+25≤g) (h:P tk F (.prog 0 [])=some res):GoodC w.e g 517 [.cell 0] (rdS 0 [.top]) (outP tk res):=by
 obtain ⟨g,rfl⟩:∃ g',g=g'+1:=⟨g - 1,by lia⟩
 have hn:=X.n1
 refine X.ok.fn (by lia) (by kernel_rfl) (.o1 fun a=>by kernel_rfl) ?_
 refine Internal.W.l (s:=pgSt [] .un (rdS 0 [.top])) (PgI tk n F res) F (by kernel_rfl) ⟨Nat.le_refl _,0,[],_,[],h0,Nat.le_refl _,h,rfl,rfl⟩ ?_
 rintro m s ⟨hm,q,ts,x,l,hq,hl,hP,hlt,rfl⟩
 obtain ⟨f,rfl⟩:∃ f,m=f+1:=by cases m with | zero=>exact nomatch hP | succ f=>exact ⟨f,rfl⟩
 have hll:l.length≤1000:=by rw [hlt,toRs_len];lia
 have hW:=Wt_le (tk:=tk) (n:=n) (Nat.zero_le q)
 have hpk:=X.peek (ks:=[.top]) (g:=g) (by lia) hq
 have turn:(tk q).wd≠.eof→∀ r2,P tk f (.expr q .top 0)=some r2→(∀ q2,r2=.bad q2→res=.bad q2)→(∀ t q2,r2=.ok t q2→((tk q2).wd=.op .semi∧P tk f (.prog (q2+1) (ts++[t]))=some res)∨((tk q2).wd≠.op .semi∧((tk q2).wd=.eof∨(tk q2).nl=true)∧P tk f (.prog q2 (ts++[t]))=some res)∨((tk q2).wd≠.op .semi∧¬((tk q2).wd=.eof∨(tk q2).nl=true)∧res=.bad q2)) →
   Internal.W (GoodP w.e g) (fun k' n'=>outP tk res=.exc k' n') (rsC (lpT (treeOf tabs w.e.g.K 517 [.cell 0] (rdS 0 [.top])) (pgSt l x (rdS q [.top]))) (tokV (tk q).wd (tk q).nl q) (rdS q [.top])) (LQ (GoodP w.e g) (fun k' n'=>outP tk res=.exc k' n') (treeOf tabs w.e.g.K 517 [.cell 0] (rdS 0 [.top])) (PgI tk n F res) (f+1) fun p=>outP tk res=.ok (retV p.1) p.2.r):=by
  intro hne r2 h1 hb ho
  have hX:=reader_all X (f+1) f (Nat.lt_succ_self f) _ _ h1 [] 1 g hq (Nat.zero_le _) (by simp [LvR]) (by have:eL 1=22:=rfl;lia)
  cases hw:(tk q).wd with
  | eof=>exact absurd hw hne
  | _=>
   refine Internal.W.cp hX (by kernel_rfl) (fun v r' z=>?_) (fun kd m z=>?_)
   ·cases r2 with
    | bad q2=>injection z
    | ok t q2=>
     cases z
     have hpl:=P_place X.heof f _ _ h1 hq
     have l2:q+1≤q2:=hpl.1
     have hp2:=X.peek (ks:=[.top]) (g:=g) (by lia) hpl.2
     have hS:=isop_ok (ks:=[.top]) X.toRd (g:=g) (by lia) hpl.2 ";"
     have hF:=fail_ok (ks:=[.top]) X.toRd (g:=g) (by lia) hpl.2
     have again:∀ x q3,q3<n→q2≤q3→P tk f (.prog q3 (ts++[t]))=some res→PgI tk n F res f (pgSt (l++[toR t]) x (rdS q3 [.top])):=fun x q3 h3 h4 hh=>⟨by lia,q3,ts++[t],x,l++[toR t],h3,by simp;lia,hh,by rw [toRs_app,hlt],rfl⟩
     refine Internal.W.a (v:=.none) (P:=l.length≤sizeLine) (sizeL (by lia)) (by kernel_rfl) ?_
     refine Internal.W.c hp2 (by kernel_rfl) ?_
     rcases ho t q2 rfl with ⟨hs,hh⟩ | ⟨hs,he,hh⟩ | ⟨hs,he,rfl⟩
     ·have hq3:=X.heof q2 hpl.2 (by rw [hs];exact fun e=>by injection e)
      rw [opIs_yes (s:=";") hs rfl] at hS
      refine Internal.W.c hS (by kernel_rfl) ?_
      refine Internal.W.c (X.take (ks:=[.top]) (by lia) hpl.2) (by kernel_rfl) ?_
      exact Internal.W.la (s':=pgSt (l++[toR t]) (.v (tokV (tk q2).wd (tk q2).nl q2)) (rdS (q2+1) [.top])) (by kernel_rfl) (Nat.lt_succ_self f) (again _ _ hq3 (Nat.le_succ _) hh)
     ·rw [opIs_no (s:=";") hs rfl] at hS
      refine Internal.W.c hS (by kernel_rfl) ?_
      by_cases hee:(tk q2).wd=.eof
      ·rw [hee]
       exact Internal.W.la (s':=pgSt (l++[toR t]) (.v (tokV .eof (tk q2).nl q2)) (rdS q2 [.top])) (by kernel_rfl) (Nat.lt_succ_self f) (again _ _ hpl.2 (Nat.le_refl _) hh)
      ·have hnl:(tk q2).nl=true:=he.resolve_left hee
       rw [hnl]
       cases hv:(tk q2).wd with
       | eof=>exact absurd hv hee
       | num z=>exact Internal.W.la (s':=pgSt (l++[toR t]) (.v (tokV (.num z) true q2)) (rdS q2 [.top])) (by kernel_rfl) (Nat.lt_succ_self f) (again _ _ hpl.2 (Nat.le_refl _) hh)
       | id z=>exact Internal.W.la (s':=pgSt (l++[toR t]) (.v (tokV (.id z) true q2)) (rdS q2 [.top])) (by kernel_rfl) (Nat.lt_succ_self f) (again _ _ hpl.2 (Nat.le_refl _) hh)
       | op z=>exact Internal.W.la (s':=pgSt (l++[toR t]) (.v (tokV (.op z) true q2)) (rdS q2 [.top])) (by kernel_rfl) (Nat.lt_succ_self f) (again _ _ hpl.2 (Nat.le_refl _) hh)
       | key z=>exact Internal.W.la (s':=pgSt (l++[toR t]) (.v (tokV (.key z) true q2)) (rdS q2 [.top])) (by kernel_rfl) (Nat.lt_succ_self f) (again _ _ hpl.2 (Nat.le_refl _) hh)
     ·rw [opIs_no (s:=";") hs rfl] at hS
      refine Internal.W.c hS (by kernel_rfl) ?_
      have hee:(tk q2).wd≠.eof:=fun e=>he (.inl e)
      have hnl:(tk q2).nl=false:=by cases hb:(tk q2).nl with | false=>rfl | true=>exact absurd (.inr hb) he
      rw [hnl]
      cases hv:(tk q2).wd with
      | eof=>exact absurd hv hee
      | _=>rw [hv] at hF;exact Internal.W.cx hF (by kernel_rfl) (by show Out.exc (badK (tk _).wd) _=_;rw [hv])
   ·cases r2 with
    | bad q2=>cases z;rw [hb q2 rfl];rfl
    | ok t q2=>injection z
 refine P_prog hP ?_ ?_ ?_ ?_ ?_
 ·intro h1 ee
  subst ee
  rw [h1] at hpk
  refine Internal.W.c hpk (by kernel_rfl) ?_
  refine Internal.W.le (by kernel_rfl) ?_
  rw [show outP tk (.ok (.call ts) q)=.ok (.lst l) (rdS q [.top]) from by rw [hlt];rfl]
  exact Internal.W.rf (by kernel_rfl)
 ·intro _ h1 h2 ee
  subst ee
  refine Internal.W.c hpk (by kernel_rfl) ?_;exact turn h1 _ h2 (fun q2 e=>by (injection e with e1;subst e1);rfl) (fun t q2 e=>by injection e)
 ·intro _ _ h1 h2 h3 h4 ee
  subst ee
  refine Internal.W.c hpk (by kernel_rfl) ?_;exact turn h1 _ h2 (fun q2 e=>by injection e) (fun t q2 e=>by cases e;exact .inr (.inr ⟨h3,h4,rfl⟩))
 ·intro _ _ h1 h2 h3 h4
  refine Internal.W.c hpk (by kernel_rfl) ?_;exact turn h1 _ h2 (fun q2 e=>by injection e) (fun t q2 e=>by cases e;exact .inl ⟨h3,h4⟩)
 ·intro _ _ h1 h2 h3 h4 h5
  refine Internal.W.c hpk (by kernel_rfl) ?_;exact turn h1 _ h2 (fun q2 e=>by injection e) (fun t q2 e=>by cases e;exact .inr (.inl ⟨h3,h4,h5⟩))
end
end
end Internal
end
section
namespace Internal
open PySem PySem.W PyProof.Rows
section
noncomputable def valS:Wd→V | .num n=>.int n | w=>.str w.s
noncomputable def tokS (w:Wd) (nl:Bool):V:=.tup [.str w.kd,valS w,.bool nl]
noncomputable def tokL (tk:Nat→Tk) (n:Nat):V:=.lst ((List.range n).map fun i=>tokS (tk i).wd (tk i).nl)
noncomputable def mkL (mk:Nat→Bool) (n:Nat):V:=.lst ((List.range n).map fun i=>.bool (mk i))
noncomputable def wdS (tk:Nat→Tk) (mk:Nat→Bool) (n p:Nat) (bad:V):List Root:=[.dict [("tokens",tokL tk n),("marks",mkL mk n),("at",.int p),("bad",bad)]]
noncomputable def badL (w:Wd) (q:Nat):List V:=[.str (badK w),.int (10*q:Nat)]
noncomputable def badV (w:Wd) (q:Nat):V:=.tup (badL w q)
noncomputable def nulT:V:=.tup [.str "NULL"]
noncomputable def callT (l:List V):V:=.tup [.str "call",.lst l,.lst (List.replicate l.length .none)]
mutual
noncomputable def toS:Tree→V
 | .name s=>.tup [.str "name",.str s]
 | .num n=>.tup [.str "double",.lst [.tup [.int n,.int 1]]]
 | .call ts=>.tup [.str "call",.lst (toSs ts),.lst (List.replicate ts.length .none)]
 | .fn names b=>.tup [.str "call",.lst [.tup [.str "name",.str "function"],.tup [.str "pairlist",.lst (List.replicate names.length (.tup [.str "missing"])),.lst (names.map .str)],toS b,nulT],.lst (List.replicate 4 .none)]
noncomputable def toSs:List Tree→List V
 | []=>[]
 | t::ts=>toS t::toSs ts
end
theorem toSs_len:∀ ts:List Tree,(toSs ts).length=ts.length
 | []=>rfl
 | _::ts=>congrArg Nat.succ (toSs_len ts)
theorem toSs_app:∀ (ts:List Tree) (t:Tree),toSs (ts++[t])=toSs ts++[toS t]
 | [],_=>rfl
 | _::ts,t=>congrArg (List.cons _) (toSs_app ts t)
theorem sizeM {m:Nat} (h:m≤2000):m≤sizeLine:=Nat.le_trans h (by exact Nat.le_of_ble_eq_true rfl)
section
variable {w:Wo} {tk:Nat→Tk} {mk:Nat→Bool} {n g p:Nat}
theorem tok_at (hn:n≤1000) (hp:p<n):((List.range n).map fun i=>tokS (tk i).wd (tk i).nl).length≤sizeLine∧((0:Int)≤(p:Nat)∧((List.range n).map fun i=>tokS (tk i).wd (tk i).nl)[((p:Nat):Int).toNat]?=some (tokS (tk p).wd (tk p).nl)∨((p:Nat):Int)=-1∧∃ l',((List.range n).map fun i=>tokS (tk i).wd (tk i).nl)=l'++[tokS (tk p).wd (tk p).nl]):=
 ⟨sizeM (by simp;lia),.inl ⟨by lia,by simp [hp]⟩⟩
theorem mark_at (hn:n≤1000) (hp:p<n):((List.range n).map fun i=>V.bool (mk i)).length≤sizeLine∧((0:Int)≤(p:Nat)∧((List.range n).map fun i=>V.bool (mk i))[((p:Nat):Int).toNat]?=some (.bool (mk p))∨((p:Nat):Int)=-1∧∃ l',((List.range n).map fun i=>V.bool (mk i))=l'++[.bool (mk p)]):=
 ⟨sizeM (by simp;lia),.inl ⟨by lia,by simp [hp]⟩⟩
noncomputable def isB (w:Wd) (x kd:Str):Bool:=(w.kd==kd)&&(match w with | .num _=>false | w=>w.s==x)
theorem Wo.Ok.fnD {W:Wo} (O:W.Ok) {g:Nat} {f:Addr} {as:List V} {r:List Root} {Z:Out→Prop} (hg:2≤g) (fn:fnChk W.e.g.K f=true) {ds:List V} {dv:List Value} (hd:∀ H,Reps W.e.ad H ds dv) (hbind:BindD W.e.g.K f as.length dv)
  (h:Internal.W (GoodP W.e g) (fun k n=>Z (.exc k n)) (treeOf tabs W.e.g.K f (as++ds) r) fun p=>Z (.ok (retV p.1) p.2.r)):GoodP W.e (g+1) f as r Z:=GoodP.fnD O.E (tabs_ok tabW (c:=[]) (s:=[]) fun p q=>noneE q) O.raise rfl hg fn hd hbind h
theorem is_body (hn:n≤1000) (hp:p<n) {kd x:Str} {xp:Str→Int→Prop} :
  Internal.W (GoodP w.e g) xp (treeOf tabs w.e.g.K 626 [.cell 0,.str x,.str kd] (wdS tk mk n p .none)) fun q=>Out.ok (.bool (isB (tk p).wd x kd)) (wdS tk mk n p .none)=.ok (retV q.1) q.2.r:=by
 refine Internal.W.a (v:=tokS (tk p).wd (tk p).nl) (tok_at (tk:=tk) hn hp) (by kernel_rfl) ?_
 refine Internal.W.a (v:=.tup [.str (tk p).wd.kd,valS (tk p).wd]) (P:=(2:Int)=2∧∃ x y z,[V.str (tk p).wd.kd,valS (tk p).wd,.bool (tk p).nl]=[x,y,z]∧V.tup [.str (tk p).wd.kd,valS (tk p).wd]=.tup [x,y]) ⟨rfl,_,_,_,rfl,rfl⟩ (by kernel_rfl) ?_
 cases (tk p).wd with
 | num z=>exact Internal.W.aq (v:=.bool (isB (.num z) x kd)) (by kernel_rfl) (Internal.W.rf (by kernel_rfl))
 | id s=>exact Internal.W.aq (v:=.bool (isB (.id s) x kd)) (by kernel_rfl) (Internal.W.rf (by kernel_rfl))
 | op o=>exact Internal.W.aq (v:=.bool (isB (.op o) x kd)) (by kernel_rfl) (Internal.W.rf (by kernel_rfl))
 | key o=>exact Internal.W.aq (v:=.bool (isB (.key o) x kd)) (by kernel_rfl) (Internal.W.rf (by kernel_rfl))
 | eof=>exact Internal.W.aq (v:=.bool (isB .eof x kd)) (by kernel_rfl) (Internal.W.rf (by kernel_rfl))
theorem bd_626:BindD w.e.g.K 626 2 [.str "op" 1012]:=.o2 fun a b=>by kernel_rfl
theorem bo_626:BindOk w.e.g.K 626 3:=.o3 fun a b c=>by kernel_rfl
theorem is_ok (O:w.Ok) (hg:3≤g) (hn:n≤1000) (hp:p<n) (x:Str):GoodC w.e g 626 [.cell 0,.str x] (wdS tk mk n p .none) (.ok (.bool (isB (tk p).wd x "op")) (wdS tk mk n p .none)):=by
 refine GoodP.up (O.fnD (g:=2) (by decide) (by kernel_rfl) (ds:=[.str "op"]) (fun _=>.cons .str .nil) bd_626 ?_) hg
 exact is_body hn hp
theorem isk_ok (O:w.Ok) (hg:3≤g) (hn:n≤1000) (hp:p<n) (x kd:Str):GoodC w.e g 626 [.cell 0,.str x,.str kd] (wdS tk mk n p .none) (.ok (.bool (isB (tk p).wd x kd)) (wdS tk mk n p .none)):=by
 refine GoodP.up (O.fn (g:=2) (by decide) (by kernel_rfl) bo_626 ?_) hg
 exact is_body hn hp
theorem is_bad (O:w.Ok) (hg:3≤g) (x:Str) {l:List V}:GoodC w.e g 626 [.cell 0,.str x] (wdS tk mk n p (.tup l)) (.ok (.bool false) (wdS tk mk n p (.tup l))):=by
 refine GoodP.up (O.fnD (g:=2) (by decide) (by kernel_rfl) (ds:=[.str "op"]) (fun _=>.cons .str .nil) bd_626 ?_) hg
 exact Internal.W.rf (by kernel_rfl)
theorem isk_bad (O:w.Ok) (hg:3≤g) (x kd:Str) {l:List V}:GoodC w.e g 626 [.cell 0,.str x,.str kd] (wdS tk mk n p (.tup l)) (.ok (.bool false) (wdS tk mk n p (.tup l))):=by
 refine GoodP.up (O.fn (g:=2) (by decide) (by kernel_rfl) bo_626 ?_) hg
 exact Internal.W.rf (by kernel_rfl)
theorem mul_ok (m:Nat):IntMulOk 10 (m:Int):=.of_left (by decide)
theorem sfail_ok (O:w.Ok) (hg:3≤g) (hn:n≤1000) (hp:p<n):GoodC w.e g 618 [.cell 0] (wdS tk mk n p .none) (.ok nulT (wdS tk mk n p (badV (tk p).wd p))):=by
 refine GoodP.up (O.fn (g:=2) (by decide) (by kernel_rfl) (.o1 fun a=>by kernel_rfl) ?_) hg
 refine Internal.W.a (v:=tokS (tk p).wd (tk p).nl) (tok_at (tk:=tk) hn hp) (by kernel_rfl) ?_
 have key:∀ t:Tr (Fl × Fst),prA t (.int (10*p:Nat))=(IntMulOk 10 (p:Int)∧V.int (10*p:Nat)=.int (10*(p:Int)))→prA (rsA t (.int (10*p:Nat))) .none=(4≤1000)→rtF (rsA (rsA t (.int (10*p:Nat))) .none)=some (nulT,wdS tk mk n p (badV (tk p).wd p)) →
   Internal.W (GoodP w.e 2) (fun k m=>Out.ok nulT (wdS tk mk n p (badV (tk p).wd p))=.exc k m) t fun q=>Out.ok nulT (wdS tk mk n p (badV (tk p).wd p))=.ok (retV q.1) q.2.r:=fun t e1 e2 e3=>by
  refine Internal.W.a (v:=.int (10*p:Nat)) ⟨mul_ok p,by simp⟩ e1 ?_
  refine Internal.W.a (v:=.none) (P:=4≤1000) (by decide) e2 ?_
  exact Internal.W.rf e3
 revert key
 cases (tk p).wd<;>exact fun key=>key _ (by kernel_rfl) (by kernel_rfl) (by kernel_rfl)
theorem sfail_bad (O:w.Ok) (hg:3≤g) {l:List V}:GoodC w.e g 618 [.cell 0] (wdS tk mk n p (.tup l)) (.ok nulT (wdS tk mk n p (.tup l))):=
 O.fn0 hg (by kernel_rfl) (.o1 fun a=>by kernel_rfl) (by kernel_rfl)
theorem isB_op (x:Wd) (s:Str):isB x s "op" = opIs x s:=by cases x<;>rfl
theorem want_ok (O:w.Ok) (hg:4≤g) (hn:n≤1000) (hp:p<n) (x:Str) (h:opIs (tk p).wd x=true):GoodC w.e g 633 [.cell 0,.str x] (wdS tk mk n p .none) (.ok .none (wdS tk mk n (p+1) .none)):=by
 refine GoodP.up (O.fn (g:=3) (by decide) (by kernel_rfl) (.o2 fun a b=>by kernel_rfl) ?_) hg
 refine Internal.W.c (h▸isB_op (tk p).wd x▸is_ok (tk:=tk) (mk:=mk) O (by decide) hn hp x) (by kernel_rfl) ?_
 refine Internal.W.a (v:=.int (p+1:Nat)) (P:=V.int (p+1:Nat)=.int ((p:Int)+1)) (by simp) (by kernel_rfl) ?_
 exact Internal.W.a (v:=.none) (P:=4≤1000) (by decide) (by kernel_rfl) (Internal.W.rf (by kernel_rfl))
theorem want_no (O:w.Ok) (hg:4≤g) (hn:n≤1000) (hp:p<n) (x:Str) (h:opIs (tk p).wd x=false):GoodC w.e g 633 [.cell 0,.str x] (wdS tk mk n p .none) (.ok .none (wdS tk mk n p (badV (tk p).wd p))):=by
 refine GoodP.up (O.fn (g:=3) (by decide) (by kernel_rfl) (.o2 fun a b=>by kernel_rfl) ?_) hg
 refine Internal.W.c (h▸isB_op (tk p).wd x▸is_ok (tk:=tk) (mk:=mk) O (by decide) hn hp x) (by kernel_rfl) ?_
 exact Internal.W.c (sfail_ok (tk:=tk) (mk:=mk) O (by decide) hn hp) (by kernel_rfl) (Internal.W.rf (by kernel_rfl))
theorem want_bad (O:w.Ok) (hg:4≤g) (x:Str) {l:List V}:GoodC w.e g 633 [.cell 0,.str x] (wdS tk mk n p (.tup l)) (.ok .none (wdS tk mk n p (.tup l))):=by
 refine GoodP.up (O.fn (g:=3) (by decide) (by kernel_rfl) (.o2 fun a b=>by kernel_rfl) ?_) hg
 refine Internal.W.c (is_bad (tk:=tk) (mk:=mk) (n:=n) (p:=p) (l:=l) O (by decide) x) (by kernel_rfl) ?_
 exact Internal.W.c (sfail_bad (tk:=tk) (mk:=mk) (n:=n) (p:=p) (l:=l) O (by decide)) (by kernel_rfl) (Internal.W.rf (by kernel_rfl))
theorem scall_ok (O:w.Ok) (hg:3≤g) {s:Str} {l:List V} {r:List Root} (hl:l.length≤1000):GoodC w.e g 640 [.str s,.lst l] r (.ok (callT (.tup [.str "name",.str s]::l)) r):=by
 refine GoodP.up (O.fn (g:=2) (by decide) (by kernel_rfl) (.o2 fun a b=>by kernel_rfl) ?_) hg
 refine Internal.W.a (v:=.none) (P:=1+l.length≤sizeLine) (sizeM (by lia)) (by kernel_rfl) ?_
 refine Internal.W.a (v:=.int l.length) (P:=l.length≤sizeLine∧V.int l.length=.int l.length) ⟨sizeM (by lia),rfl⟩ (by kernel_rfl) ?_
 refine Internal.W.a (v:=.int (l.length+1:Nat)) (P:=V.int (l.length+1:Nat)=.int (1+(l.length:Int))) (by simp [Int.add_comm]) (by kernel_rfl) ?_
 refine Internal.W.a (v:=.lst (List.replicate (l.length+1) .none)) (P:=((0:Int)≤(l.length+1:Nat)∧((l.length+1:Nat):Int)≤2 ^ 20)∧V.lst (List.replicate (l.length+1) .none)=.lst (List.replicate ((l.length+1:Nat):Int).toNat .none)) ⟨⟨by lia,by lia⟩,rfl⟩ (by kernel_rfl) ?_
 exact Internal.W.rf (by kernel_rfl)
end
end
end Internal
end
section
namespace Internal
open PySem PySem.W PyProof.Rows
section
theorem W.rz {R:Addr→List V→List Root→(Out→Prop)→Prop} {xp:Str→Int→Prop} {Z:Out→Prop} {t:Tr (Fl × Fst)} {v:V} {r:List Root} (e:rtF t=some (v,r)) (h:Z (.ok v r)):Internal.W R xp t fun p=>Z (.ok (retV p.1) p.2.r):=by
 cases t<;>try (cases e;done)
 cases e
 exact h
section
variable {w:Wo} {tk:Nat→Tk} {mk:Nat→Bool} {n g p:Nat}
noncomputable def SZ (tk:Nat→Tk) (mk:Nat→Bool) (n:Nat):Res→Out→Prop
 | .ok t q,o=>.ok (toS t) (wdS tk mk n q .none)=o
 | .bad q,o=>∃ v p',.ok v (wdS tk mk n p' (badV (tk q).wd q))=o
theorem sprim_bad (O:w.Ok) (hg:3≤g) {l:List V}:GoodC w.e g 654 [.cell 0] (wdS tk mk n p (.tup l)) (.ok nulT (wdS tk mk n p (.tup l))):=
 O.fn0 hg (by kernel_rfl) (.o1 fun a=>by kernel_rfl) (by kernel_rfl)
theorem sside_bad (O:w.Ok) (hg:5≤g) {l:List V}:GoodC w.e g 666 [.cell 0] (wdS tk mk n p (.tup l)) (.ok nulT (wdS tk mk n p (.tup l))):=by
 refine GoodP.up (O.fn (g:=4) (by decide) (by kernel_rfl) (.o1 fun a=>by kernel_rfl) ?_) hg
 refine Internal.W.c (is_bad (tk:=tk) (mk:=mk) (n:=n) (p:=p) (l:=l) O (by decide) "+") (by kernel_rfl) ?_
 refine Internal.W.c (sprim_bad (tk:=tk) (mk:=mk) (n:=n) (p:=p) (l:=l) O (by decide)) (by kernel_rfl) ?_
 refine Internal.W.l (s:=⟨[("world",.v (.cell 0)),("tree",.v nulT),("items",.un)],wdS tk mk n p (.tup l)⟩) (fun m s=>s=⟨[("world",.v (.cell 0)),("tree",.v nulT),("items",.un)],wdS tk mk n p (.tup l)⟩) 0 (by kernel_rfl) rfl ?_
 rintro m s rfl
 refine Internal.W.c (is_bad (tk:=tk) (mk:=mk) (n:=n) (p:=p) (l:=l) O (by decide) "(") (by kernel_rfl) ?_
 exact Internal.W.le (by kernel_rfl) (Internal.W.rf (by kernel_rfl))
theorem sexpr_bad (O:w.Ok) (hg:6≤g) {l:List V} {lv:Int}:GoodC w.e g 673 [.cell 0,.int lv] (wdS tk mk n p (.tup l)) (.ok nulT (wdS tk mk n p (.tup l))):=by
 refine GoodP.up (O.fn (g:=5) (by decide) (by kernel_rfl) (.o2 fun a b=>by kernel_rfl) ?_) hg
 refine Internal.W.c (sside_bad (tk:=tk) (mk:=mk) (n:=n) (p:=p) (l:=l) O (by decide)) (by kernel_rfl) ?_
 refine Internal.W.l (s:=⟨[("least",.v (.int lv)),("world",.v (.cell 0)),("tree",.v nulT),("op",.un)],wdS tk mk n p (.tup l)⟩) (fun m s=>s=⟨[("least",.v (.int lv)),("world",.v (.cell 0)),("tree",.v nulT),("op",.un)],wdS tk mk n p (.tup l)⟩) 0 (by kernel_rfl) rfl ?_
 rintro m s rfl
 refine Internal.W.c (is_bad (tk:=tk) (mk:=mk) (n:=n) (p:=p) (l:=l) O (by decide) "+") (by kernel_rfl) ?_
 refine Internal.W.c (is_bad (tk:=tk) (mk:=mk) (n:=n) (p:=p) (l:=l) O (by decide) "*") (by kernel_rfl) ?_
 exact Internal.W.le (by kernel_rfl) (Internal.W.rf (by kernel_rfl))
noncomputable def SSp (w:Wo) (tk:Nat→Tk) (mk:Nat→Bool) (n:Nat) (md:Md) (res:Res):Prop:=match md with
 | .expr p k lv=>∀ hs ds g,p<n→SAt tk p k hs ds→lv≤3→Wt tk n p+17≤g+lv→GoodP w.e g 673 [.cell 0,.int (lv:Nat)] (wdS tk mk n p .none) (SZ tk mk n res)
 | .side p k=>∀ hs ds g,p<n→SAt tk p k hs ds→Wt tk n p+12≤g→GoodP w.e g 666 [.cell 0] (wdS tk mk n p .none) (SZ tk mk n res)
 | .prim p k=>∀ hs ds g,p<n→SAt tk p k hs ds→Wt tk n p+10≤g→GoodP w.e g 654 [.cell 0] (wdS tk mk n p .none) (SZ tk mk n res)
 | .fn p k=>∀ hs ds g,p<n→SHd tk p k hs ds→Wt tk n p+20≤g→GoodP w.e g 659 [.cell 0] (wdS tk mk n p .none) (SZ tk mk n res)
 | _=>True
structure Sk (w:Wo) (tk:Nat→Tk) (mk:Nat→Bool) (n:Nat):Prop where
 ok:w.Ok
 heof:∀ p,p<n→(tk p).wd≠.eof→p+1<n
 n1:n≤1000
 mks:∀ p,p<n→mk p=markOf (scan tk p) (tk p)
theorem shead_ok (X:Sk w tk mk n) {F:Nat} (ih:∀ f,f<F→∀ md r,P tk f md=some r→SSp w tk mk n md r) {hs:List Ctx} {ds:List Bool} (hp:p<n) (hg:Wt tk n p+7≤g) {Z:Out→Prop} (f:Nat) (hf:f<F) (sc:(tk p).wd=.op .lp→SAt tk (p+1) .par hs ds)
  (hn:(tk p).wd≠.op .lp→∀ v p',Z (.ok v (wdS tk mk n p' (badV (tk p).wd p))))
  (hy:(tk p).wd=.op .lp→∃ r2,P tk f (.expr (p+1) .par 0)=some r2∧match r2 with | .bad q=>∀ v p',Z (.ok v (wdS tk mk n p' (badV (tk q).wd q))) | .ok t q=>((tk q).wd≠.op .rp∧∀ v p',Z (.ok v (wdS tk mk n p' (badV (tk q).wd q))))∨((tk q).wd=.op .rp∧Z (.ok (toS t) (wdS tk mk n (q+1) .none)))) :
  GoodP w.e g 647 [.cell 0] (wdS tk mk n p .none) Z:=by
 obtain ⟨g,rfl⟩:∃ g',g=g'+1:=⟨g - 1,by lia⟩
 have h1000:=X.n1
 refine X.ok.fn (by lia) (by kernel_rfl) (.o1 fun a=>by kernel_rfl) ?_
 by_cases hw:(tk p).wd=.op .lp
 ·obtain ⟨r2,h,ho⟩:=hy hw
  have hp1:=X.heof p hp (by rw [hw];exact fun e=>by injection e)
  have hW:Wt tk n p=12+Wt tk n (p+1):=by have h:=Wt_step (tk:=tk) hp;rw [hw] at h;exact h
  have hE:=ih f hf _ _ h hs ds g hp1 (sc hw) (by lia) (by lia)
  refine Internal.W.c (want_ok (mk:=mk) X.ok (by lia) X.n1 hp "(" (by rw [hw];decide +kernel)) (by kernel_rfl) ?_
  cases r2 with
  | bad q=>
   refine Internal.W.cp hE (by kernel_rfl) (fun v r' z=>?_) (fun kd m z=>by obtain ⟨_,_,z⟩:=z;injection z)
   obtain ⟨v,p',z⟩:=z
   cases z
   exact Internal.W.c (want_bad (tk:=tk) (mk:=mk) (n:=n) (p:=p') (l:=badL (tk q).wd q) X.ok (by lia) ")") (by kernel_rfl) (W.rz (by kernel_rfl) (ho v p'))
  | ok t q=>
   have hpl:=P_place X.heof f _ _ h hp1
   refine Internal.W.c hE (by kernel_rfl) ?_
   rcases ho with ⟨hr,ho⟩ | ⟨hr,ho⟩
   ·exact Internal.W.c (want_no (mk:=mk) X.ok (by lia) X.n1 hpl.2 ")" (opIs_no hr rfl)) (by kernel_rfl) (W.rz (by kernel_rfl) (ho (toS t) q))
   ·exact Internal.W.c (want_ok (mk:=mk) X.ok (by lia) X.n1 hpl.2 ")" (by rw [hr];decide +kernel)) (by kernel_rfl) (W.rz (by kernel_rfl) ho)
 ·refine Internal.W.c (want_no (mk:=mk) X.ok (by lia) X.n1 hp "(" (opIs_no hw rfl)) (by kernel_rfl) ?_
  refine Internal.W.c (sexpr_bad (tk:=tk) (mk:=mk) (n:=n) (p:=p) (l:=badL (tk p).wd p) (lv:=0) X.ok (by lia)) (by kernel_rfl) ?_
  exact Internal.W.c (want_bad (tk:=tk) (mk:=mk) (n:=n) (p:=p) (l:=badL (tk p).wd p) X.ok (by lia) ")") (by kernel_rfl) (W.rz (by kernel_rfl) (hn hw nulT p))
end
end
end Internal
end
section
namespace Internal
open PySem PySem.W PyProof.Rows
section
section
variable {w:Wo} {tk:Nat→Tk} {mk:Nat→Bool} {n:Nat}
noncomputable def sxSt (lv:Int) (a:V) (x:LV) (r:List Root):Fst:=⟨[("least",.v (.int lv)),("world",.v (.cell 0)),("tree",.v a),("op",x)],r⟩
noncomputable def SxI (tk:Nat→Tk) (mk:Nat→Bool) (n:Nat) (k:Ctx) (hs:List Ctx) (ds:List Bool) (lv F p:Nat) (res:Res) (m:Nat) (s:Fst):Prop:=
 (m≤F∧∃ q u x,p≤q∧q<n∧SEnd tk q k hs ds∧P tk m (.loop q k lv u)=some res∧s=sxSt (lv:Nat) (toS u) x (wdS tk mk n q .none))∨(m=0∧∃ qb v x p',res=.bad qb∧s=sxSt (lv:Nat) v x (wdS tk mk n p' (badV (tk qb).wd qb)))
theorem SZ_exc {tk:Nat→Tk} {mk:Nat→Bool} {n:Nat} {res:Res} {kd:Str} {m:Int} (h:SZ tk mk n res (.exc kd m)):False:=by
 cases res with
 | ok t q=>injection h
 | bad q=>obtain ⟨_,_,h⟩:=h;injection h
theorem sexpr_run (X:Sk w tk mk n) (F:Nat) (ih:∀ f,f<F+1→∀ md r,P tk f md=some r→SSp w tk mk n md r) {p:Nat} {k:Ctx} {lv:Nat} {res:Res} {hs:List Ctx} {ds:List Bool} {g:Nat} (hlv:lv≤3) (hg:Wt tk n p+17≤g+1+lv) {a:V} {r1:List Root} {m0:Nat} (h0:SxI tk mk n k hs ds lv F p res m0 (sxSt (lv:Nat) a .un r1)) :
  Internal.W (GoodP w.e g) (fun k' n'=>SZ tk mk n res (.exc k' n')) (rsC (treeOf tabs w.e.g.K 673 [.cell 0,.int (lv:Nat)] (wdS tk mk n p .none)) a r1) fun q=>SZ tk mk n res (.ok (retV q.1) q.2.r):=by
 have hn:=X.n1
 refine Internal.W.l (SxI tk mk n k hs ds lv F p res) m0 (by kernel_rfl) h0 ?_
 clear h0 m0
 rintro m s (⟨hm,q,u,x,hpq,hq,hE,hP,rfl⟩ | ⟨rfl,qb,v,x,p',rfl,rfl⟩)
 ·obtain ⟨f,rfl⟩:∃ f,m=f+1:=by cases m with | zero=>exact nomatch hP | succ f=>exact ⟨f,rfl⟩
  have hW:=Wt_le (tk:=tk) (n:=n) hpq
  have hW1:=Wt_le (tk:=tk) (n:=n) (show q≤q+1 by lia)
  have iP:=is_ok (tk:=tk) (mk:=mk) X.ok (g:=g) (by lia) hn hq "+"
  have iS:=is_ok (tk:=tk) (mk:=mk) X.ok (g:=g) (by lia) hn hq "*"
  rw [isB_op] at iP iS
  have step:∀ o,(tk q).wd=.op o→(joins (tk q) k&&goes o lv)=true→∀ r2,P tk f (.expr (q+1) k (lvOf o))=some r2→(∀ q2,r2=.bad q2→res=.bad q2)→(∀ b q2,r2=.ok b q2→P tk f (.loop q2 k lv (.call [.name o.s,u,b]))=some res) →
    Internal.W (GoodP w.e g) (fun k' n'=>SZ tk mk n res (.exc k' n')) (lpT (rsC (treeOf tabs w.e.g.K 673 [.cell 0,.int (lv:Nat)] (wdS tk mk n p .none)) a r1) (sxSt (lv:Nat) (toS u) x (wdS tk mk n q .none))) (LQ (GoodP w.e g) (fun k' n'=>SZ tk mk n res (.exc k' n')) (rsC (treeOf tabs w.e.g.K 673 [.cell 0,.int (lv:Nat)] (wdS tk mk n p .none)) a r1) (SxI tk mk n k hs ds lv F p res) (f+1) fun q=>SZ tk mk n res (.ok (retV q.1) q.2.r)):=by
    intro o hw hjg r2 h1 h2 h3
    have bq:=Bool.and_eq_true_iff.mp hjg
    have hj:=bq.1
    have hgo:=bq.2
    have ho:o=.plus∧lv<2∨o=.star∧lv<3:=by cases o<;>simp [goes] at hgo<;>simp [hgo]
    have hq1:=X.heof q hq (by rw [hw];exact fun e=>by injection e)
    have hS1:SAt tk (q+1) k hs ds:=hE.toSAt.step (by rcases ho with ⟨rfl,_⟩ | ⟨rfl,_⟩;exact .inl hw;exact .inr (.inl hw))
    have hlo:lvOf o≤3∧lv<lvOf o:=by rcases ho with ⟨rfl,h⟩ | ⟨rfl,h⟩<;>simp [lvOf]<;>lia
    have hX:=ih f (by lia) _ _ h1 hs ds g hq1 hS1 hlo.1 (by lia)
    have hmk:mk q=false:=by rw [X.mks q hq,mark_op hE hw,hj];rfl
    have htok:=tok_at (tk:=tk) hn hq
    rw [hw] at htok iP iS
    rcases ho with ⟨rfl,hl⟩ | ⟨rfl,hl⟩
    ·rw [show opIs (.op .plus) "+" = true from by decide +kernel] at iP
     refine Internal.W.c iP (by kernel_rfl) ?_
     refine Internal.W.a (v:=.bool true) (P:=V.bool true=.bool (decide ((lv:Int)<2))) (by rw [decide_eq_true (by lia)]) (by kernel_rfl) ?_
     refine Internal.W.a (v:=.bool false) (hmk▸mark_at (mk:=mk) hn hq) (by kernel_rfl) ?_
     refine Internal.W.a (v:=tokS (.op .plus) (tk q).nl) htok (by kernel_rfl) ?_
     refine Internal.W.a (v:=.str (.plus:Opr).s) (P:=3≤sizeLine∧(0:Int)≤1∧[V.str "op",.str (.plus:Opr).s,.bool (tk q).nl][(1:Int).toNat]?=some (.str (.plus:Opr).s)) ⟨sizeM (by decide),by decide,rfl⟩ (by kernel_rfl) ?_
     refine Internal.W.a (v:=.int (q+1:Nat)) (P:=V.int (q+1:Nat)=.int ((q:Int)+1)) (by simp) (by kernel_rfl) ?_
     refine Internal.W.a (v:=.none) (P:=4≤1000) (by decide) (by kernel_rfl) ?_
     refine Internal.W.cp hX (by kernel_rfl) (fun v r' z=>?_) (fun kd m z=>(SZ_exc z).elim)
     refine Internal.W.c (scall_ok (w:=w) X.ok (g:=g) (r:=r') (s:=(.plus:Opr).s) (l:=[toS u,v]) (by lia) (by simp)) (by kernel_rfl) ?_
     cases r2 with
     | bad q2=>
      obtain ⟨v',p',z⟩:=z
      cases z
      exact Internal.W.la (s':=sxSt (lv:Nat) (callT [.tup [.str "name",.str (.plus:Opr).s],toS u,v]) (.v (.str (.plus:Opr).s)) (wdS tk mk n p' (badV (tk q2).wd q2))) (by kernel_rfl) (Nat.succ_pos f) (.inr ⟨rfl,q2,_,_,p',h2 q2 rfl,rfl⟩)
     | ok b q2=>
      cases z
      have hpl:=P_place X.heof f _ _ h1 hq1
      have l2:q+1+1≤q2:=hpl.1
      exact Internal.W.la (s':=sxSt (lv:Nat) (toS (.call [.name (.plus:Opr).s,u,b])) (.v (.str (.plus:Opr).s)) (wdS tk mk n q2 .none)) (by kernel_rfl) (Nat.lt_succ_self f) (.inl ⟨by lia,q2,.call [.name (.plus:Opr).s,u,b],_,by lia,hpl.2,P_scan f _ _ h1 _ _ rfl k hs ds ⟨rfl,hS1⟩,h3 b q2 rfl,rfl⟩)
    ·rw [show opIs (.op .star) "+" = false from by decide +kernel] at iP
     rw [show opIs (.op .star) "*" = true from by decide +kernel] at iS
     refine Internal.W.c iP (by kernel_rfl) ?_
     refine Internal.W.c iS (by kernel_rfl) ?_
     refine Internal.W.a (v:=.bool true) (P:=V.bool true=.bool (decide ((lv:Int)<3))) (by rw [decide_eq_true (by lia)]) (by kernel_rfl) ?_
     refine Internal.W.a (v:=.bool false) (hmk▸mark_at (mk:=mk) hn hq) (by kernel_rfl) ?_
     refine Internal.W.a (v:=tokS (.op .star) (tk q).nl) htok (by kernel_rfl) ?_
     refine Internal.W.a (v:=.str (.star:Opr).s) (P:=3≤sizeLine∧(0:Int)≤1∧[V.str "op",.str (.star:Opr).s,.bool (tk q).nl][(1:Int).toNat]?=some (.str (.star:Opr).s)) ⟨sizeM (by decide),by decide,rfl⟩ (by kernel_rfl) ?_
     refine Internal.W.a (v:=.int (q+1:Nat)) (P:=V.int (q+1:Nat)=.int ((q:Int)+1)) (by simp) (by kernel_rfl) ?_
     refine Internal.W.a (v:=.none) (P:=4≤1000) (by decide) (by kernel_rfl) ?_
     refine Internal.W.cp hX (by kernel_rfl) (fun v r' z=>?_) (fun kd m z=>(SZ_exc z).elim)
     refine Internal.W.c (scall_ok (w:=w) X.ok (g:=g) (r:=r') (s:=(.star:Opr).s) (l:=[toS u,v]) (by lia) (by simp)) (by kernel_rfl) ?_
     cases r2 with
     | bad q2=>
      obtain ⟨v',p',z⟩:=z
      cases z
      exact Internal.W.la (s':=sxSt (lv:Nat) (callT [.tup [.str "name",.str (.star:Opr).s],toS u,v]) (.v (.str (.star:Opr).s)) (wdS tk mk n p' (badV (tk q2).wd q2))) (by kernel_rfl) (Nat.succ_pos f) (.inr ⟨rfl,q2,_,_,p',h2 q2 rfl,rfl⟩)
     | ok b q2=>
      cases z
      have hpl:=P_place X.heof f _ _ h1 hq1
      have l2:q+1+1≤q2:=hpl.1
      exact Internal.W.la (s':=sxSt (lv:Nat) (toS (.call [.name (.star:Opr).s,u,b])) (.v (.str (.star:Opr).s)) (wdS tk mk n q2 .none)) (by kernel_rfl) (Nat.lt_succ_self f) (.inl ⟨by lia,q2,.call [.name (.star:Opr).s,u,b],_,by lia,hpl.2,P_scan f _ _ h1 _ _ rfl k hs ds ⟨rfl,hS1⟩,h3 b q2 rfl,rfl⟩)
  refine P_loop hP ?_ ?_ ?_
  ·intro h1 ee
   subst ee
   have hmk:∀ o,(tk q).wd=.op o→goes o lv=true→mk q=true:=fun o hw hgo=>by
    have:=h1 o hw
    rw [hgo,Bool.and_true] at this
    rw [X.mks q hq,mark_op hE hw,this];rfl
   cases hw:(tk q).wd with
   | op o=>
    have hm':=hmk o hw
    rw [hw] at iP iS
    by_cases hP':o=.plus
    ·subst hP'
     rw [show opIs (.op .plus) "+" = true from by decide +kernel] at iP
     refine Internal.W.c iP (by kernel_rfl) ?_
     by_cases hl:lv<2
     ·refine Internal.W.a (v:=.bool true) (P:=V.bool true=.bool (decide ((lv:Int)<2))) (by rw [decide_eq_true (by lia)]) (by kernel_rfl) ?_
      refine Internal.W.a (v:=.bool true) (hm' (by simp [goes,hl])▸mark_at (mk:=mk) hn hq) (by kernel_rfl) ?_
      exact Internal.W.le (by kernel_rfl) (W.rz (Z:=SZ tk mk n (.ok u q)) (v:=toS u) (r:=wdS tk mk n q .none) (by kernel_rfl) rfl)
     ·rw [show opIs (.op .plus) "*" = false from by decide +kernel] at iS
      refine Internal.W.a (v:=.bool false) (P:=V.bool false=.bool (decide ((lv:Int)<2))) (by rw [decide_eq_false (by lia)]) (by kernel_rfl) ?_
      exact Internal.W.c iS (by kernel_rfl) (Internal.W.le (by kernel_rfl) (W.rz (Z:=SZ tk mk n (.ok u q)) (v:=toS u) (r:=wdS tk mk n q .none) (by kernel_rfl) rfl))
    ·rw [opIs_no (s:="+") (o:=.plus) (fun e=>hP' (by cases e;rfl)) rfl] at iP
     refine Internal.W.c iP (by kernel_rfl) ?_
     by_cases hS':o=.star
     ·subst hS'
      rw [show opIs (.op .star) "*" = true from by decide +kernel] at iS
      refine Internal.W.c iS (by kernel_rfl) ?_
      by_cases hl:lv<3
      ·refine Internal.W.a (v:=.bool true) (P:=V.bool true=.bool (decide ((lv:Int)<3))) (by rw [decide_eq_true (by lia)]) (by kernel_rfl) ?_
       refine Internal.W.a (v:=.bool true) (hm' (by simp [goes,hl])▸mark_at (mk:=mk) hn hq) (by kernel_rfl) ?_
       exact Internal.W.le (by kernel_rfl) (W.rz (Z:=SZ tk mk n (.ok u q)) (v:=toS u) (r:=wdS tk mk n q .none) (by kernel_rfl) rfl)
      ·refine Internal.W.a (v:=.bool false) (P:=V.bool false=.bool (decide ((lv:Int)<3))) (by rw [decide_eq_false (by lia)]) (by kernel_rfl) ?_
       exact Internal.W.le (by kernel_rfl) (W.rz (Z:=SZ tk mk n (.ok u q)) (v:=toS u) (r:=wdS tk mk n q .none) (by kernel_rfl) rfl)
     ·rw [opIs_no (s:="*") (o:=.star) (fun e=>hS' (by cases e;rfl)) rfl] at iS
      exact Internal.W.c iS (by kernel_rfl) (Internal.W.le (by kernel_rfl) (W.rz (Z:=SZ tk mk n (.ok u q)) (v:=toS u) (r:=wdS tk mk n q .none) (by kernel_rfl) rfl))
   | _=>rw [hw] at iP iS;exact Internal.W.c iP (by kernel_rfl) (Internal.W.c iS (by kernel_rfl) (Internal.W.le (by kernel_rfl) (W.rz (Z:=SZ tk mk n (.ok u q)) (v:=toS u) (r:=wdS tk mk n q .none) (by kernel_rfl) rfl)))
  ·intro _ _ h1 h2 h3 ee
   subst ee
   exact step _ h1 h2 _ h3 (fun q2 e=>by (injection e with e1;subst e1);rfl) (fun b q2 e=>by injection e)
  ·intro _ _ _ h1 h2 h3 h4
   exact step _ h1 h2 _ h3 (fun q2 e=>by injection e) (fun b q2 e=>by cases e;exact h4)
 ·refine Internal.W.c (is_bad (tk:=tk) (mk:=mk) (n:=n) (p:=p') (l:=badL (tk qb).wd qb) X.ok (by lia) "+") (by kernel_rfl) ?_
  refine Internal.W.c (is_bad (tk:=tk) (mk:=mk) (n:=n) (p:=p') (l:=badL (tk qb).wd qb) X.ok (by lia) "*") (by kernel_rfl) ?_
  exact Internal.W.le (by kernel_rfl) (W.rz (Z:=SZ tk mk n (.bad qb)) (v:=v) (r:=wdS tk mk n p' (badV (tk qb).wd qb)) (by kernel_rfl) ⟨_,_,rfl⟩)
theorem sexpr_ok (X:Sk w tk mk n) (F:Nat) (ih:∀ f,f<F→∀ md r,P tk f md=some r→SSp w tk mk n md r) {p:Nat} {k:Ctx} {lv:Nat} {res:Res} (h:P tk F (.expr p k lv)=some res):SSp w tk mk n (.expr p k lv) res:=by
 intro hs ds g hp hS hlv hg
 obtain ⟨g,rfl⟩:∃ g',g=g'+1:=⟨g - 1,by lia⟩
 obtain ⟨F,rfl⟩:∃ f,F=f+1:=by cases F with | zero=>exact by injection h | succ f=>exact ⟨f,rfl⟩
 refine X.ok.fn (by lia) (by kernel_rfl) (.o2 fun a b=>by kernel_rfl) ?_
 refine P_expr h ?_ ?_
 ·intro _ h1 ee
  subst ee
  refine Internal.W.cp (ih F (by lia) _ _ h1 hs ds g hp hS (by lia)) (by kernel_rfl) (fun v r' z=>?_) (fun kd m z=>(SZ_exc z).elim)
  obtain ⟨v',p',z⟩:=z
  cases z
  exact sexpr_run (k:=k) (hs:=hs) (ds:=ds) X F ih hlv hg (m0:=0) (.inr ⟨rfl,_,_,_,p',rfl,rfl⟩)
 ·intro _ _ h1 h2
  rename_i t q0
  have hpl:=P_place X.heof F _ _ h1 hp
  refine Internal.W.cp (ih F (by lia) _ _ h1 hs ds g hp hS (by lia)) (by kernel_rfl) (fun v r' z=>?_) (fun kd m z=>(SZ_exc z).elim)
  cases z
  exact sexpr_run (k:=k) (hs:=hs) (ds:=ds) X F ih hlv hg (m0:=F) (.inl ⟨Nat.le_refl _,q0,t,_,Nat.le_of_succ_le hpl.1,hpl.2,P_scan F _ _ h1 _ _ rfl k hs ds ⟨rfl,hS⟩,h2,rfl⟩)
end
end
end Internal
end
section
namespace Internal
open PySem PySem.W PyProof.Rows
section
section
variable {w:Wo} {tk:Nat→Tk} {mk:Nat→Bool} {n:Nat}
noncomputable def ssSt (a:V) (x:LV) (r:List Root):Fst:=⟨[("world",.v (.cell 0)),("tree",.v a),("items",x)],r⟩
noncomputable def SsI (tk:Nat→Tk) (mk:Nat→Bool) (n:Nat) (k:Ctx) (hs:List Ctx) (ds:List Bool) (F p:Nat) (res:Res) (m:Nat) (s:Fst):Prop:=
 (m≤F∧∃ q u x,p≤q∧q<n∧SEnd tk q k hs ds∧P tk m (.foll q k u)=some res∧s=ssSt (toS u) x (wdS tk mk n q .none))∨(m=0∧∃ qb v x p',res=.bad qb∧s=ssSt v x (wdS tk mk n p' (badV (tk qb).wd qb)))
theorem sside_run (X:Sk w tk mk n) (F:Nat) (ih:∀ f,f<F+1→∀ md r,P tk f md=some r→SSp w tk mk n md r) {p:Nat} {k:Ctx} {res:Res} {hs:List Ctx} {ds:List Bool} {g:Nat} (hg:Wt tk n p+11≤g) (hwn:(tk p).wd≠.op .plus) {a:V} {r1:List Root} {m0:Nat} (h0:SsI tk mk n k hs ds F p res m0 (ssSt a .un r1)) :
  Internal.W (GoodP w.e g) (fun k' n'=>SZ tk mk n res (.exc k' n')) (rsC (rsC (treeOf tabs w.e.g.K 666 [.cell 0] (wdS tk mk n p .none)) (.bool false) (wdS tk mk n p .none)) a r1) fun q=>SZ tk mk n res (.ok (retV q.1) q.2.r):=by
 have hn:=X.n1
 refine Internal.W.l (SsI tk mk n k hs ds F p res) m0 (by kernel_rfl) h0 ?_
 clear h0 m0
 rintro m s (⟨hm,q,u,x,hpq,hq,hE,hP,rfl⟩ | ⟨rfl,qb,v,x,p',rfl,rfl⟩)
 ·obtain ⟨f,rfl⟩:∃ f,m=f+1:=by cases m with | zero=>exact nomatch hP | succ f=>exact ⟨f,rfl⟩
  have hW:=Wt_le (tk:=tk) (n:=n) hpq
  have iL:=is_ok (tk:=tk) (mk:=mk) X.ok (g:=g) (by lia) hn hq "("
  rw [isB_op] at iL
  have go:(tk q).wd=.op .lp→joins (tk q) k=true→∀ r2,P tk f (.args (q+1))=some r2→(∀ q2,r2=.bad q2→res=.bad q2)→(∀ b q2,r2=.ok b q2→P tk f (.foll q2 k (.call (u::itemsOf b)))=some res) →
    Internal.W (GoodP w.e g) (fun k' n'=>SZ tk mk n res (.exc k' n')) (lpT (rsC (rsC (treeOf tabs w.e.g.K 666 [.cell 0] (wdS tk mk n p .none)) (.bool false) (wdS tk mk n p .none)) a r1) (ssSt (toS u) x (wdS tk mk n q .none))) (LQ (GoodP w.e g) (fun k' n'=>SZ tk mk n res (.exc k' n')) (rsC (rsC (treeOf tabs w.e.g.K 666 [.cell 0] (wdS tk mk n p .none)) (.bool false) (wdS tk mk n p .none)) a r1) (SsI tk mk n k hs ds F p res) (f+1) fun q=>SZ tk mk n res (.ok (retV q.1) q.2.r)):=by
   intro hw hj r2 h1 hb hok
   have hq1:=X.heof q hq (by rw [hw];exact fun e=>by injection e)
   have hW1:Wt tk n q=12+Wt tk n (q+1):=by have h:=Wt_step (tk:=tk) hq;rw [hw] at h;exact h
   have hS1:=hE.toSAt.lp hw
   have hmk:mk q=false:=by rw [X.mks q hq,mark_op hE hw,hj];rfl
   have iR:=is_ok (tk:=tk) (mk:=mk) X.ok (g:=g) (by lia) hn hq1 ")"
   rw [isB_op] at iR
   rw [opIs_yes (s:="(") hw rfl] at iL
   refine Internal.W.c iL (by kernel_rfl) ?_
   refine Internal.W.a (v:=.bool false) (hmk▸mark_at (mk:=mk) hn hq) (by kernel_rfl) ?_
   refine Internal.W.a (v:=.int (q+1:Nat)) (P:=V.int (q+1:Nat)=.int ((q:Int)+1)) (by simp) (by kernel_rfl) ?_
   refine Internal.W.a (v:=.none) (P:=4≤1000) (by decide) (by kernel_rfl) ?_
   cases f with
   | zero=>exact by injection h1
   | succ f=>
   have one:(1:Nat)≤sizeLine:=sizeM (by decide)
   have item:(tk (q+1)).wd≠.op .rp→∀ r3,P tk f (.expr (q+1) .par 0)=some r3→(∀ q3,r3=.bad q3→r2=.bad q3)→(∀ b q3,r3=.ok b q3→((tk q3).wd≠.op .rp∧r2=.bad q3)∨((tk q3).wd=.op .rp∧r2=.ok (.call [b]) (q3+1))) →
     Internal.W (GoodP w.e g) (fun k' n'=>SZ tk mk n res (.exc k' n')) (rsA (rsA (rsA (rsC (lpT (rsC (rsC (treeOf tabs w.e.g.K 666 [.cell 0] (wdS tk mk n p .none)) (.bool false) (wdS tk mk n p .none)) a r1) (ssSt (toS u) x (wdS tk mk n q .none))) (.bool true) (wdS tk mk n q .none)) (.bool false)) (.int (q+1:Nat))) .none) (LQ (GoodP w.e g) (fun k' n'=>SZ tk mk n res (.exc k' n')) (rsC (rsC (treeOf tabs w.e.g.K 666 [.cell 0] (wdS tk mk n p .none)) (.bool false) (wdS tk mk n p .none)) a r1) (SsI tk mk n k hs ds F p res) (f+1+1) fun q=>SZ tk mk n res (.ok (retV q.1) q.2.r)):=by
    intro hr r3 h3 hb3 ho3
    rw [opIs_no (s:=")") hr rfl] at iR
    refine Internal.W.c iR (by kernel_rfl) ?_
    refine Internal.W.cp (ih f (by lia) _ _ h3 _ _ g hq1 hS1 (by lia) (by lia)) (by kernel_rfl) (fun v r' z=>?_) (fun kd m z=>(SZ_exc z).elim)
    cases r3 with
    | bad q3=>
     obtain ⟨v',p',z⟩:=z
     cases z
     refine Internal.W.c (want_bad (tk:=tk) (mk:=mk) (n:=n) (p:=p') (l:=badL (tk q3).wd q3) X.ok (by lia) ")") (by kernel_rfl) ?_
     refine Internal.W.a (v:=.none) (P:=1+1≤sizeLine) (sizeM (by decide)) (by kernel_rfl) ?_
     refine Internal.W.a (v:=.int 1) (P:=1≤sizeLine∧V.int 1=.int 1) ⟨one,rfl⟩ (by kernel_rfl) ?_
     refine Internal.W.aq (v:=.int 2) (by kernel_rfl) ?_
     refine Internal.W.a (v:=.lst [.none,.none]) (P:=((0:Int)≤2∧(2:Int)≤2 ^ 20)∧V.lst [.none,.none]=.lst [.none,.none]) ⟨⟨by decide,by decide⟩,rfl⟩ (by kernel_rfl) ?_
     exact Internal.W.la (s':=ssSt (.tup [.str "call",.lst [toS u,v],.lst [.none,.none]]) (.v (.lst [v])) (wdS tk mk n p' (badV (tk q3).wd q3))) (by kernel_rfl) (Nat.succ_pos _) (.inr ⟨rfl,q3,_,_,p',hb q3 (hb3 q3 rfl),rfl⟩)
    | ok b q3=>
     cases z
     have hpl:=P_place X.heof f _ _ h3 hq1
     have hE3:=P_scan f _ _ h3 _ _ rfl .par (k::hs) (false::ds) ⟨rfl,hS1⟩
     have l3:q+1+1≤q3:=hpl.1
     rcases ho3 b q3 rfl with ⟨hr3,ho⟩ | ⟨hr3,ho⟩
     ·refine Internal.W.c (want_no (mk:=mk) X.ok (by lia) hn hpl.2 ")" (opIs_no hr3 rfl)) (by kernel_rfl) ?_
      refine Internal.W.a (v:=.none) (P:=1+1≤sizeLine) (sizeM (by decide)) (by kernel_rfl) ?_
      refine Internal.W.a (v:=.int 1) (P:=1≤sizeLine∧V.int 1=.int 1) ⟨one,rfl⟩ (by kernel_rfl) ?_
      refine Internal.W.aq (v:=.int 2) (by kernel_rfl) ?_
      refine Internal.W.a (v:=.lst [.none,.none]) (P:=((0:Int)≤2∧(2:Int)≤2 ^ 20)∧V.lst [.none,.none]=.lst [.none,.none]) ⟨⟨by decide,by decide⟩,rfl⟩ (by kernel_rfl) ?_
      exact Internal.W.la (s':=ssSt (.tup [.str "call",.lst [toS u,toS b],.lst [.none,.none]]) (.v (.lst [toS b])) (wdS tk mk n q3 (badV (tk q3).wd q3))) (by kernel_rfl) (Nat.succ_pos _) (.inr ⟨rfl,q3,_,_,q3,hb q3 ho,rfl⟩)
     ·have hq4:=X.heof q3 hpl.2 (by rw [hr3];exact fun e=>by injection e)
      refine Internal.W.c (want_ok (mk:=mk) X.ok (by lia) hn hpl.2 ")" (opIs_yes hr3 rfl)) (by kernel_rfl) ?_
      refine Internal.W.a (v:=.none) (P:=1+1≤sizeLine) (sizeM (by decide)) (by kernel_rfl) ?_
      refine Internal.W.a (v:=.int 1) (P:=1≤sizeLine∧V.int 1=.int 1) ⟨one,rfl⟩ (by kernel_rfl) ?_
      refine Internal.W.aq (v:=.int 2) (by kernel_rfl) ?_
      refine Internal.W.a (v:=.lst [.none,.none]) (P:=((0:Int)≤2∧(2:Int)≤2 ^ 20)∧V.lst [.none,.none]=.lst [.none,.none]) ⟨⟨by decide,by decide⟩,rfl⟩ (by kernel_rfl) ?_
      exact Internal.W.la (s':=ssSt (toS (.call [u,b])) (.v (.lst [toS b])) (wdS tk mk n (q3+1) .none)) (by kernel_rfl) (Nat.lt_succ_self _) (.inl ⟨by lia,q3+1,.call [u,b],_,by lia,hq4,hE3.toSAt.close (.inl hr3),hok _ _ ho,rfl⟩)
   refine P_args h1 ?_ ?_ ?_ ?_
   ·intro h2 ee
    subst ee
    have hq2:=X.heof _ hq1 (by rw [h2];exact fun e=>by injection e)
    rw [opIs_yes (s:=")") h2 rfl] at iR
    refine Internal.W.c iR (by kernel_rfl) ?_
    refine Internal.W.c (want_ok (mk:=mk) X.ok (by lia) hn hq1 ")" (opIs_yes h2 rfl)) (by kernel_rfl) ?_
    refine Internal.W.a (v:=.none) (P:=1+0≤sizeLine) one (by kernel_rfl) ?_
    refine Internal.W.a (v:=.int 0) (P:=0≤sizeLine∧V.int 0=.int 0) ⟨Nat.zero_le _,rfl⟩ (by kernel_rfl) ?_
    refine Internal.W.aq (v:=.int 1) (by kernel_rfl) ?_
    refine Internal.W.a (v:=.lst [.none]) (P:=((0:Int)≤1∧(1:Int)≤2 ^ 20)∧V.lst [.none]=.lst [.none]) ⟨⟨by decide,by decide⟩,rfl⟩ (by kernel_rfl) ?_
    exact Internal.W.la (s':=ssSt (toS (.call [u])) (.v (.lst [])) (wdS tk mk n (q+1+1) .none)) (by kernel_rfl) (Nat.lt_succ_self _) (.inl ⟨by lia,q+1+1,.call [u],_,by lia,hq2,SAt.close hS1 (.inl h2),hok _ _ rfl,rfl⟩)
   ·intro _ h2 h3 ee
    subst ee
    exact item h2 _ h3 (fun q3 e=>by (injection e with e1;subst e1);rfl) (fun b q3 e=>by injection e)
   ·intro _ _ h2 h3 h4 ee
    subst ee
    exact item h2 _ h3 (fun q3 e=>by injection e) (fun b q3 e=>by cases e;exact .inl ⟨h4,rfl⟩)
   ·intro _ _ h2 h3 h4 ee
    subst ee
    exact item h2 _ h3 (fun q3 e=>by injection e) (fun b q3 e=>by cases e;exact .inr ⟨h4,rfl⟩)
  refine P_foll hP ?_ ?_ ?_
  ·intro h1 ee
   subst ee
   by_cases hw:(tk q).wd=.op .lp
   ·have hj:joins (tk q) k=false:=Bool.eq_false_iff.mpr fun e=>h1 ⟨hw,e⟩
    have hmk:mk q=true:=by rw [X.mks q hq,mark_op hE hw,hj];rfl
    rw [opIs_yes (s:="(") hw rfl] at iL
    refine Internal.W.c iL (by kernel_rfl) ?_
    refine Internal.W.a (v:=.bool true) (hmk▸mark_at (mk:=mk) hn hq) (by kernel_rfl) ?_
    exact Internal.W.le (by kernel_rfl) (W.rz (Z:=SZ tk mk n (.ok u q)) (v:=toS u) (r:=wdS tk mk n q .none) (by kernel_rfl) rfl)
   ·rw [opIs_no (s:="(") hw rfl] at iL
    refine Internal.W.c iL (by kernel_rfl) ?_
    exact Internal.W.le (by kernel_rfl) (W.rz (Z:=SZ tk mk n (.ok u q)) (v:=toS u) (r:=wdS tk mk n q .none) (by kernel_rfl) rfl)
  ·intro _ h1 h2 h3 ee
   subst ee
   exact go h1 h2 _ h3 (fun q2 e=>by (injection e with e1;subst e1);rfl) (fun b q2 e=>by injection e)
  ·intro _ _ h1 h2 h3 h4
   exact go h1 h2 _ h3 (fun q2 e=>by injection e) (fun b q2 e=>by cases e;exact h4)
 ·refine Internal.W.c (is_bad (tk:=tk) (mk:=mk) (n:=n) (p:=p') (l:=badL (tk qb).wd qb) X.ok (by lia) "(") (by kernel_rfl) ?_
  exact Internal.W.le (by kernel_rfl) (W.rz (Z:=SZ tk mk n (.bad qb)) (v:=v) (r:=wdS tk mk n p' (badV (tk qb).wd qb)) (by kernel_rfl) ⟨_,_,rfl⟩)
theorem sside_ok (X:Sk w tk mk n) (F:Nat) (ih:∀ f,f<F→∀ md r,P tk f md=some r→SSp w tk mk n md r) {p:Nat} {k:Ctx} {res:Res} (h:P tk F (.side p k)=some res):SSp w tk mk n (.side p k) res:=by
 intro hs ds g hp hS hg
 obtain ⟨g,rfl⟩:∃ g',g=g'+1:=⟨g - 1,by lia⟩
 obtain ⟨F,rfl⟩:∃ f,F=f+1:=by cases F with | zero=>exact nomatch h | succ f=>exact ⟨f,rfl⟩
 have hn:=X.n1
 have iP:=is_ok (tk:=tk) (mk:=mk) X.ok (g:=g) (by lia) hn hp "+"
 rw [isB_op] at iP
 refine X.ok.fn (by lia) (by kernel_rfl) (.o1 fun a=>by kernel_rfl) ?_
 have plus:(tk p).wd=.op .plus→∀ r2,P tk F (.side (p+1) k)=some r2→(∀ q,r2=.bad q→res=.bad q)→(∀ t q,r2=.ok t q→res=.ok (.call [.name "+",t]) q) →
   Internal.W (GoodP w.e g) (fun k' n'=>SZ tk mk n res (.exc k' n')) (treeOf tabs w.e.g.K 666 [.cell 0] (wdS tk mk n p .none)) fun q=>SZ tk mk n res (.ok (retV q.1) q.2.r):=by
  intro hw r2 h1 hb ho
  have hp1:=X.heof p hp (by rw [hw];exact fun e=>by injection e)
  have hW:Wt tk n p=4+Wt tk n (p+1):=by have h:=Wt_step (tk:=tk) hp;rw [hw] at h;exact h
  rw [opIs_yes (s:="+") hw rfl] at iP
  refine Internal.W.c iP (by kernel_rfl) ?_
  refine Internal.W.a (v:=.int (p+1:Nat)) (P:=V.int (p+1:Nat)=.int ((p:Int)+1)) (by simp) (by kernel_rfl) ?_
  refine Internal.W.a (v:=.none) (P:=4≤1000) (by decide) (by kernel_rfl) ?_
  refine Internal.W.cp (ih F (by lia) _ _ h1 hs ds g hp1 (hS.step (.inl hw)) (by lia)) (by kernel_rfl) (fun v r' z=>?_) (fun kd m z=>(SZ_exc z).elim)
  refine Internal.W.c (scall_ok (w:=w) X.ok (g:=g) (r:=r') (s:="+") (l:=[v]) (by lia) (by simp)) (by kernel_rfl) ?_
  cases r2 with
  | bad q=>
   obtain ⟨v',p',z⟩:=z
   cases z
   rw [hb q rfl]
   exact W.rz (Z:=SZ tk mk n (.bad q)) (v:=callT [.tup [.str "name",.str "+"],v]) (r:=wdS tk mk n p' (badV (tk q).wd q)) (by kernel_rfl) ⟨_,_,rfl⟩
  | ok t q=>
   cases z
   rw [ho t q rfl]
   exact W.rz (Z:=SZ tk mk n (.ok (.call [.name "+",t]) q)) (v:=callT [.tup [.str "name",.str "+"],toS t]) (r:=wdS tk mk n q .none) (by kernel_rfl) rfl
 refine P_side h ?_ ?_ ?_ ?_
 ·intro _ h0 h1 ee
  subst ee
  exact plus h0 _ h1 (fun q e=>by (injection e with e1;subst e1);rfl) (fun t q e=>by injection e)
 ·intro _ _ h0 h1 ee
  subst ee
  exact plus h0 _ h1 (fun q e=>by injection e) (fun t q e=>by cases e;rfl)
 ·intro _ h0 h1 ee
  subst ee
  rw [opIs_no (s:="+") h0 rfl] at iP
  refine Internal.W.c iP (by kernel_rfl) ?_
  refine Internal.W.cp (ih F (by lia) _ _ h1 hs ds g hp hS (by lia)) (by kernel_rfl) (fun v r' z=>?_) (fun kd m z=>(SZ_exc z).elim)
  obtain ⟨v',p',z⟩:=z
  cases z
  exact sside_run (k:=k) (hs:=hs) (ds:=ds) X F ih (by lia) h0 (m0:=0) (.inr ⟨rfl,_,_,_,p',rfl,rfl⟩)
 ·intro _ _ h0 h1 h2
  rename_i t q0
  have hpl:=P_place X.heof F _ _ h1 hp
  rw [opIs_no (s:="+") h0 rfl] at iP
  refine Internal.W.c iP (by kernel_rfl) ?_
  refine Internal.W.cp (ih F (by lia) _ _ h1 hs ds g hp hS (by lia)) (by kernel_rfl) (fun v r' z=>?_) (fun kd m z=>(SZ_exc z).elim)
  cases z
  exact sside_run (k:=k) (hs:=hs) (ds:=ds) X F ih (by lia) h0 (m0:=F) (.inl ⟨Nat.le_refl _,q0,t,_,Nat.le_of_succ_le hpl.1,hpl.2,P_scan F _ _ h1 _ _ rfl k hs ds ⟨rfl,hS⟩,h2,rfl⟩)
end
end
end Internal
end
section
namespace Internal
open PySem PySem.W PyProof.Rows
section
section
variable {R:Addr→List V→List Root→(Out→Prop)→Prop} {xp:Str→Int→Prop} {α:Type}
noncomputable def cmL (t:Tr α):Option (List V × List Root):=match t with | .comp _ l r _=>some (l,r) | _=>none
noncomputable def cmF (t:Tr α) (x:V) (r:List Root):Tr (V × Fst):=match t with | .comp f _ _ _=>f x r | _=>.stuck
noncomputable def rsM (t:Tr α) (ys:List V) (r:List Root):Tr α:=match t with | .comp _ _ _ k=>k ys r | _=>.stuck
theorem W.cm {t:Tr α} {l:List V} {r:List Root} {ys:List V} {Q:α→Prop} (e:cmL t=some (l,r)) (hl:ys.length=l.length) (h:∀ (i:Nat) (x y:V),l[i]?=some x→ys[i]?=some y→Internal.W R (fun _ _=>False) (cmF t x r) fun p=>p.1=y∧p.2.r=r) (k:Internal.W R xp (rsM t ys r) Q):Internal.W R xp t Q:=by
 induction t using Tr.casesOn
 case comp f l' r' k'=>
  have e1:=Option.some.inj (show some (l',r')=some (l,r) from e)
  injection e1 with e1 e2
  subst e1 e2
  refine ⟨fun i us rr=>us=ys.take i∧rr=r',⟨rfl,rfl⟩,fun i x us rr hx hI=>?_,fun us rr hI=>?_⟩
  ·have hi:i<ys.length:=by rw [hl];exact (List.getElem?_eq_some_iff.mp hx).1
   have hy:ys[i]?=some ys[i]:=List.getElem?_eq_getElem hi
   rw [hI.2]
   refine (h i x _ hx hy).mono _ fun p hp=>⟨?_,hp.2⟩
   rw [hI.1,hp.1,List.take_add_one,hy];rfl
  ·rw [hI.1,hI.2,← hl,List.take_length];exact k
 all_goals exact noneE e
end
section
variable {w:Wo} {tk:Nat→Tk} {mk:Nat→Bool} {n:Nat}
theorem prim_else {f p:Nat} {k:Ctx} {r:Res} (hw:(tk p).wd=.key .kelse) (h:P tk f (.prim p k)=some r):r=.bad p:=by
 cases f with
 | zero=>exact by injection h
 | succ f=>
  refine Q_prim h ?_ ?_ ?_ ?_ ?_ ?_ ?_
  ·intro _ h0
   rw [hw] at h0;injection h0
  ·intro _ h0
   rw [hw] at h0;injection h0
  ·intro _ h0 _
   rw [hw] at h0;injection h0
  ·intro _ _ h0 _ _
   rw [hw] at h0;injection h0
  ·intro _ _ h0 _ _
   rw [hw] at h0;injection h0
  ·intro _ h0 _
   rcases h0 with ⟨h0,_⟩ | ⟨h0,_⟩ | ⟨h0,_⟩ | ⟨h0,_⟩<;>(rw [hw] at h0;cases h0)
  ·intro _
   rfl
theorem side_else {f p:Nat} {k:Ctx} {r:Res} (hw:(tk p).wd=.key .kelse) (h:P tk f (.side p k)=some r):r=.bad p:=by
 cases f with
 | zero=>exact by injection h
 | succ f=>
  refine Q_side h ?_ ?_ ?_ ?_
  ·intro _ h0 _
   rw [hw] at h0;injection h0
  ·intro _ _ h0 _
   rw [hw] at h0;injection h0
  ·intro _ h0 h1
   exact prim_else hw h1
  ·intro _ _ h0 h1 _
   injection (prim_else hw h1)
theorem expr_else {f p:Nat} {k:Ctx} {lv:Nat} {r:Res} (hw:(tk p).wd=.key .kelse) (h:P tk f (.expr p k lv)=some r):r=.bad p:=by
 cases f with
 | zero=>exact by injection h
 | succ f=>
  refine Q_expr h ?_ ?_
  ·intro _ h1
   exact side_else hw h1
  ·intro _ _ h1 _
   injection (side_else hw h1)
theorem block_else {f p:Nat} {ts:List Tree} {r:Res} (hw:(tk p).wd=.key .kelse) (h:P tk f (.block p ts)=some r):r=.bad p:=by
 cases f with
 | zero=>exact by injection h
 | succ f=>
  refine Q_block h ?_ ?_ ?_ ?_ ?_
  ·intro h0
   rw [hw] at h0;injection h0
  ·intro h0 _
   rw [hw] at h0;injection h0
  ·intro _ _ _ h1
   exact expr_else hw h1
  ·intro _ _ _ _ h1 _
   injection (expr_else hw h1)
  ·intro _ _ _ _ h1 _ _
   injection (expr_else hw h1)
theorem sfn_ok (X:Sk w tk mk n) (F:Nat) (ih:∀ f,f<F→∀ md r,P tk f md=some r→SSp w tk mk n md r) {p:Nat} {k:Ctx} {res:Res} (h:P tk F (.fn p k)=some res):SSp w tk mk n (.fn p k) res:=by
 intro hs ds g hp hS hg
 obtain ⟨g,rfl⟩:∃ g',g=g'+1:=⟨g - 1,by lia⟩
 obtain ⟨F,rfl⟩:∃ f,F=f+1:=by cases F with | zero=>exact nomatch h | succ f=>exact ⟨f,rfl⟩
 have hn:=X.n1
 have one:(1:Nat)≤sizeLine:=sizeM (by decide)
 refine X.ok.fn (by lia) (by kernel_rfl) (.o1 fun a=>by kernel_rfl) ?_
 have fin0:∀ t:Tr (Fl × Fst),∀ q p',res=.bad q→rqC t=some (633,[.cell 0,.str ")"],wdS tk mk n p' (badV (tk q).wd q))→prA (rsC t .none (wdS tk mk n p' (badV (tk q).wd q))) .none=(0≤sizeLine)→cmL (rsA (rsC t .none (wdS tk mk n p' (badV (tk q).wd q))) .none)=some ([],wdS tk mk n p' (badV (tk q).wd q)) →
   rqC (rsM (rsA (rsC t .none (wdS tk mk n p' (badV (tk q).wd q))) .none) [] (wdS tk mk n p' (badV (tk q).wd q)))=some (673,[.cell 0,.int 0],wdS tk mk n p' (badV (tk q).wd q)) →
   prA (rsC (rsM (rsA (rsC t .none (wdS tk mk n p' (badV (tk q).wd q))) .none) [] (wdS tk mk n p' (badV (tk q).wd q))) nulT (wdS tk mk n p' (badV (tk q).wd q))) (.lst [.none,.none,.none,.none])=(((0:Int)≤4∧(4:Int)≤2 ^ 20)∧V.lst [.none,.none,.none,.none]=.lst [.none,.none,.none,.none]) →
   (∃ v,rtF (rsA (rsC (rsM (rsA (rsC t .none (wdS tk mk n p' (badV (tk q).wd q))) .none) [] (wdS tk mk n p' (badV (tk q).wd q))) nulT (wdS tk mk n p' (badV (tk q).wd q))) (.lst [.none,.none,.none,.none]))=some (v,wdS tk mk n p' (badV (tk q).wd q))) →
   Internal.W (GoodP w.e g) (fun k' n'=>SZ tk mk n res (.exc k' n')) t fun q=>SZ tk mk n res (.ok (retV q.1) q.2.r):=by
  rintro t q p' rfl e1 e0 e2 e3 e4 ⟨v,e5⟩
  refine Internal.W.c (want_bad (tk:=tk) (mk:=mk) (n:=n) (p:=p') (l:=badL (tk q).wd q) X.ok (by lia) ")") e1 ?_
  refine Internal.W.a (v:=.none) (Nat.zero_le sizeLine) e0 ?_
  refine W.cm (ys:=[]) e2 rfl (fun i x y hx=>by injection hx) ?_
  refine Internal.W.c (sexpr_bad (tk:=tk) (mk:=mk) (n:=n) (p:=p') (l:=badL (tk q).wd q) (lv:=0) X.ok (by lia)) e3 ?_
  refine Internal.W.a (v:=.lst [.none,.none,.none,.none]) ⟨⟨by decide,by decide⟩,rfl⟩ e4 ?_
  exact W.rz (Z:=SZ tk mk n (.bad q)) e5 ⟨_,_,rfl⟩
 by_cases hlp:(tk p).wd=.op .lp
 ·have hp1:=X.heof p hp (by rw [hlp];exact fun e=>by injection e)
  have hW:Wt tk n p=12+Wt tk n (p+1):=by have h:=Wt_step (tk:=tk) hp;rw [hlp] at h;exact h
  have hS1:=hS.lp hlp
  have iR:=is_ok (tk:=tk) (mk:=mk) X.ok (g:=g) (by lia) hn hp1 ")"
  rw [isB_op] at iR
  refine Internal.W.c (want_ok (mk:=mk) X.ok (by lia) hn hp "(" (opIs_yes hlp rfl)) (by kernel_rfl) ?_
  refine Q_fn h ?_ ?_ ?_ ?_
  ·intro h0
   exact absurd hlp h0
  ·intro h0 h1 h2
   rw [opIs_no (s:=")") h1 rfl] at iR
   refine Internal.W.c iR (by kernel_rfl) ?_
   refine Internal.W.a (v:=tokS (tk (p+1)).wd (tk (p+1)).nl) (tok_at (tk:=tk) hn hp1) (by kernel_rfl) ?_
   have hF:=sfail_ok (tk:=tk) (mk:=mk) X.ok (g:=g) (by lia) hn hp1
   have fin:∀ t:Tr (Fl × Fst),rqC t=some (618,[.cell 0],wdS tk mk n (p+1) .none)→rtF (rsC t nulT (wdS tk mk n (p+1) (badV (tk (p+1)).wd (p+1))))=some (nulT,wdS tk mk n (p+1) (badV (tk (p+1)).wd (p+1)))→Internal.W (GoodP w.e g) (fun k' n'=>SZ tk mk n (.bad (p+1)) (.exc k' n')) t fun q=>SZ tk mk n (.bad (p+1)) (.ok (retV q.1) q.2.r):=
    fun t e1 e2=>Internal.W.c hF e1 (W.rz (Z:=SZ tk mk n (.bad (p+1))) e2 ⟨_,_,rfl⟩)
   cases hw:(tk (p+1)).wd with
   | id s=>exact absurd hw (h2 s)
   | _=>rw [hw] at fin;exact fin _ (by kernel_rfl) (by kernel_rfl)
  ·intro _ h0 h1 h2
   rename_i s
   have hp2:=X.heof _ hp1 (by rw [h1];exact fun e=>by injection e)
   rw [opIs_no (s:=")") (o:=.rp) (by rw [h1];exact fun e=>by injection e) rfl] at iR
   have htok:=tok_at (tk:=tk) hn hp1
   rw [h1] at htok
   refine Internal.W.c iR (by kernel_rfl) ?_
   refine Internal.W.a (v:=tokS (.id s) (tk (p+1)).nl) htok (by kernel_rfl) ?_
   refine Internal.W.a (v:=.none) (P:=0≤sizeLine) (Nat.zero_le _) (by kernel_rfl) ?_
   refine Internal.W.a (v:=.int (p+2:Nat)) (P:=V.int (p+2:Nat)=.int (((p+1:Nat):Int)+1)) (by congr 1) (by kernel_rfl) ?_
   refine Internal.W.a (v:=.none) (P:=4≤1000) (by decide) (by kernel_rfl) ?_
   refine Internal.W.c (want_no (mk:=mk) X.ok (by lia) hn hp2 ")" (opIs_no h2 rfl)) (by kernel_rfl) ?_
   refine Internal.W.a (v:=.none) one (by kernel_rfl) ?_
   refine W.cm (l:=[.str s]) (r:=wdS tk mk n (p+2) (badV (tk (p+2)).wd (p+2))) (ys:=[.tup [.str "missing"]]) (by kernel_rfl) rfl (fun i x y hx hy=>?_) ?_
   ·cases i with
    | zero=>cases hx;cases hy;exact Internal.W.r (a:=(.tup [.str "missing"],⟨[("name",.v (.str s))],wdS tk mk n (p+2) (badV (tk (p+2)).wd (p+2))⟩)) (by kernel_rfl) ⟨rfl,rfl⟩
    | succ i=>injection hx
   refine Internal.W.c (sexpr_bad (tk:=tk) (mk:=mk) (n:=n) (p:=p+2) (l:=badL (tk (p+2)).wd (p+2)) (lv:=0) X.ok (by lia)) (by kernel_rfl) ?_
   refine Internal.W.a (v:=.lst [.none,.none,.none,.none]) (P:=((0:Int)≤4∧(4:Int)≤2 ^ 20)∧V.lst [.none,.none,.none,.none]=.lst [.none,.none,.none,.none]) ⟨⟨by decide,by decide⟩,rfl⟩ (by kernel_rfl) ?_
   exact W.rz (Z:=SZ tk mk n (.bad (p+2))) (v:=.tup [.str "call",.lst [.tup [.str "name",.str "function"],.tup [.str "pairlist",.lst [.tup [.str "missing"]],.lst [.str s]],nulT,nulT],.lst [.none,.none,.none,.none]]) (r:=wdS tk mk n (p+2) (badV (tk (p+2)).wd (p+2))) (by kernel_rfl) ⟨_,_,rfl⟩
  ·intro _ _ _ h0 h1 h2 h3
   rename_i names q r
   have hW2:∀ q,p+1≤q→Wt tk n q≤Wt tk n (p+1):=fun q h=>Wt_le h
   rcases h1 with ⟨rfl,rfl⟩ | ⟨s,rfl,rfl,h1⟩
   ·have hq1:=X.heof _ hp1 (by rw [h2];exact fun e=>by injection e)
    have hX:=ih F (by lia) _ _ h3 hs ds g hq1 (hS1.closeH h2) (by lia) (by have:=hW2 (p+1+1) (by lia);lia)
    rw [opIs_yes (s:=")") h2 rfl] at iR
    refine Internal.W.c iR (by kernel_rfl) ?_
    refine Internal.W.c (want_ok (mk:=mk) X.ok (by lia) hn hp1 ")" (opIs_yes h2 rfl)) (by kernel_rfl) ?_
    refine Internal.W.a (v:=.none) (Nat.zero_le sizeLine) (by kernel_rfl) ?_
    refine W.cm (l:=[]) (r:=wdS tk mk n (p+1+1) .none) (ys:=[]) (by kernel_rfl) rfl (fun i x y hx=>by injection hx) ?_
    refine Internal.W.cp hX (by kernel_rfl) (fun v r' z=>?_) (fun kd m z=>(SZ_exc z).elim)
    refine Internal.W.a (v:=.lst [.none,.none,.none,.none]) (P:=((0:Int)≤4∧(4:Int)≤2 ^ 20)∧V.lst [.none,.none,.none,.none]=.lst [.none,.none,.none,.none]) ⟨⟨by decide,by decide⟩,rfl⟩ (by kernel_rfl) ?_
    cases r with
    | bad q2=>
     obtain ⟨v',p',z⟩:=z
     cases z
     exact W.rz (Z:=SZ tk mk n (.bad q2)) (v:=.tup [.str "call",.lst [.tup [.str "name",.str "function"],.tup [.str "pairlist",.lst [],.lst []],v,nulT],.lst [.none,.none,.none,.none]]) (r:=wdS tk mk n p' (badV (tk q2).wd q2)) (by kernel_rfl) ⟨_,_,rfl⟩
    | ok e q2=>
     cases z
     exact W.rz (Z:=SZ tk mk n (.ok (.fn [] e) q2)) (v:=toS (.fn [] e)) (r:=wdS tk mk n q2 .none) (by kernel_rfl) rfl
   ·have hp2:=X.heof _ hp1 (by rw [h1];exact fun e=>by injection e)
    have hq1:=X.heof _ hp2 (by rw [h2];exact fun e=>by injection e)
    have hX:=ih F (by lia) _ _ h3 hs ds g hq1 ((hS1.step (.inr (.inr (.inr (.inr ⟨s,h1⟩))))).closeH h2) (by lia) (by have:=hW2 (p+2+1) (by lia);lia)
    rw [opIs_no (s:=")") (o:=.rp) (by rw [h1];exact fun e=>by injection e) rfl] at iR
    have htok:=tok_at (tk:=tk) hn hp1
    rw [h1] at htok
    refine Internal.W.c iR (by kernel_rfl) ?_
    refine Internal.W.a (v:=tokS (.id s) (tk (p+1)).nl) htok (by kernel_rfl) ?_
    refine Internal.W.a (v:=.none) (P:=0≤sizeLine) (Nat.zero_le _) (by kernel_rfl) ?_
    refine Internal.W.a (v:=.int (p+2:Nat)) (P:=V.int (p+2:Nat)=.int (((p+1:Nat):Int)+1)) (by congr 1) (by kernel_rfl) ?_
    refine Internal.W.a (v:=.none) (P:=4≤1000) (by decide) (by kernel_rfl) ?_
    refine Internal.W.c (want_ok (mk:=mk) X.ok (by lia) hn hp2 ")" (opIs_yes h2 rfl)) (by kernel_rfl) ?_
    refine Internal.W.a (v:=.none) one (by kernel_rfl) ?_
    refine W.cm (l:=[.str s]) (r:=wdS tk mk n (p+2+1) .none) (ys:=[.tup [.str "missing"]]) (by kernel_rfl) rfl (fun i x y hx hy=>?_) ?_
    ·cases i with
     | zero=>cases hx;cases hy;exact Internal.W.r (a:=(.tup [.str "missing"],⟨[("name",.v (.str s))],wdS tk mk n (p+2+1) .none⟩)) (by kernel_rfl) ⟨rfl,rfl⟩
     | succ i=>injection hx
    refine Internal.W.cp hX (by kernel_rfl) (fun v r' z=>?_) (fun kd m z=>(SZ_exc z).elim)
    refine Internal.W.a (v:=.lst [.none,.none,.none,.none]) (P:=((0:Int)≤4∧(4:Int)≤2 ^ 20)∧V.lst [.none,.none,.none,.none]=.lst [.none,.none,.none,.none]) ⟨⟨by decide,by decide⟩,rfl⟩ (by kernel_rfl) ?_
    cases r with
    | bad q2=>
     obtain ⟨v',p',z⟩:=z
     cases z
     exact W.rz (Z:=SZ tk mk n (.bad q2)) (v:=.tup [.str "call",.lst [.tup [.str "name",.str "function"],.tup [.str "pairlist",.lst [.tup [.str "missing"]],.lst [.str s]],v,nulT],.lst [.none,.none,.none,.none]]) (r:=wdS tk mk n p' (badV (tk q2).wd q2)) (by kernel_rfl) ⟨_,_,rfl⟩
    | ok e q2=>
     cases z
     exact W.rz (Z:=SZ tk mk n (.ok (.fn [s] e) q2)) (v:=toS (.fn [s] e)) (r:=wdS tk mk n q2 .none) (by kernel_rfl) rfl
 ·have hb:res=.bad p:=by
   refine Q_fn h ?_ ?_ ?_ ?_
   ·intro h0
    rfl
   ·intro h0 _ _
    exact absurd h0 hlp
   ·intro _ h0 _ _
    exact absurd h0 hlp
   ·intro _ _ _ h0 _ _ _
    exact absurd h0 hlp
  refine Internal.W.c (want_no (mk:=mk) X.ok (by lia) hn hp "(" (opIs_no hlp rfl)) (by kernel_rfl) ?_
  refine Internal.W.c (is_bad (tk:=tk) (mk:=mk) (n:=n) (p:=p) (l:=badL (tk p).wd p) X.ok (by lia) ")") (by kernel_rfl) ?_
  exact fin0 _ p p hb (by kernel_rfl) (by kernel_rfl) (by kernel_rfl) (by kernel_rfl) (by kernel_rfl) ⟨.tup [.str "call",.lst [.tup [.str "name",.str "function"],.tup [.str "pairlist",.lst [],.lst []],nulT,nulT],.lst [.none,.none,.none,.none]],by kernel_rfl⟩
end
end
end Internal
end
section
namespace Internal
open PySem PySem.W PyProof.Rows
section
section
variable {w:Wo} {tk:Nat→Tk} {mk:Nat→Bool} {n:Nat}
theorem isB_key (x:Wd) (s:Str):isB x s "key" = keyIs x s:=by cases x<;>rfl
noncomputable def sbSt (nl:Bool) (l:List V) (r:List Root):Fst:=⟨[("world",.v (.cell 0)),("kind",.v (.str "op")),("value",.v (.str "{")),("newline",.v (.bool nl)),("items",.own l),("parts",.un)],r⟩
noncomputable def SbI (tk:Nat→Tk) (mk:Nat→Bool) (n:Nat) (k:Ctx) (hs:List Ctx) (ds:List Bool) (F p:Nat) (nl:Bool) (res:Res) (m:Nat) (s:Fst):Prop:=
 (m≤F∧∃ q ts l,p+1≤q∧q<n∧ts.length≤q∧SAt tk q .brace (k::hs) (false::ds)∧P tk m (.block q ts)=some res∧l=toSs ts∧s=sbSt nl l (wdS tk mk n q .none))∨(m=0∧∃ qb l p',res=.bad qb∧l.length≤1000∧s=sbSt nl l (wdS tk mk n p' (badV (tk qb).wd qb)))
noncomputable def sbT (w:Wo) (tk:Nat→Tk) (mk:Nat→Bool) (n p:Nat) (nl:Bool):Tr (Fl × Fst):=rsA (rsA (rsC (rsC (rsA (treeOf tabs w.e.g.K 654 [.cell 0] (wdS tk mk n p .none)) (tokS (.op .lb) nl)) (.bool false) (wdS tk mk n p .none)) (.bool true) (wdS tk mk n p .none)) (.int (p+1:Nat))) .none
theorem sblock_run (X:Sk w tk mk n) (F:Nat) (ih:∀ f,f<F+1→∀ md r,P tk f md=some r→SSp w tk mk n md r) {p:Nat} {k:Ctx} {res:Res} {hs:List Ctx} {ds:List Bool} {g:Nat} {nl:Bool} (hp1:p+1<n) (hg:Wt tk n (p+1)+20≤g) (hS:SAt tk (p+1) .brace (k::hs) (false::ds)) (h:P tk F (.block (p+1) [])=some res) :
  Internal.W (GoodP w.e g) (fun k' n'=>SZ tk mk n res (.exc k' n')) (sbT w tk mk n p nl) fun q=>SZ tk mk n res (.ok (retV q.1) q.2.r):=by
 have hn:=X.n1
 refine Internal.W.l (s:=sbSt nl [] (wdS tk mk n (p+1) .none)) (SbI tk mk n k hs ds F p nl res) F (by kernel_rfl) (.inl ⟨Nat.le_refl _,p+1,[],[],Nat.le_refl _,hp1,Nat.zero_le _,hS,h,rfl,rfl⟩) ?_
 rintro m s (⟨hm,q,ts,l,hpq,hq,hl,hA,hP,hlt,rfl⟩ | ⟨rfl,qb,l,p',rfl,hl,rfl⟩)
 ·obtain ⟨f,rfl⟩:∃ f,m=f+1:=by cases m with | zero=>exact nomatch hP | succ f=>exact ⟨f,rfl⟩
  have hW:=Wt_le (tk:=tk) (n:=n) hpq
  have hll:l.length≤1000:=by rw [hlt,toSs_len];lia
  have iR:=is_ok (tk:=tk) (mk:=mk) X.ok (g:=g) (by lia) hn hq "}"
  have iS:=is_ok (tk:=tk) (mk:=mk) X.ok (g:=g) (by lia) hn hq ";"
  rw [isB_op] at iR iS
  have turn:(tk q).wd≠.op .rb→(tk q).wd≠.op .semi→∀ r2,P tk f (.expr q .brace 0)=some r2→(∀ q2,r2=.bad q2→res=.bad q2)→(∀ t q2,r2=.ok t q2→(¬((tk q2).nl=true∨(tk q2).wd=.op .semi∨(tk q2).wd=.op .rb)∧res=.bad q2)∨(((tk q2).nl=true∨(tk q2).wd=.op .semi∨(tk q2).wd=.op .rb)∧P tk f (.block q2 (ts++[t]))=some res)) →
    Internal.W (GoodP w.e g) (fun k' n'=>SZ tk mk n res (.exc k' n')) (lpT (sbT w tk mk n p nl) (sbSt nl l (wdS tk mk n q .none))) (LQ (GoodP w.e g) (fun k' n'=>SZ tk mk n res (.exc k' n')) (sbT w tk mk n p nl) (SbI tk mk n k hs ds F p nl res) (f+1) fun q=>SZ tk mk n res (.ok (retV q.1) q.2.r)):=by
   intro h0 h1 r2 h2 hb ho
   rw [opIs_no (s:="}") h0 rfl] at iR
   rw [opIs_no (s:=";") h1 rfl] at iS
   refine Internal.W.c iR (by kernel_rfl) ?_
   refine Internal.W.c iS (by kernel_rfl) ?_
   refine Internal.W.cp (ih f (by lia) _ _ h2 _ _ g hq hA (by lia) (by lia)) (by kernel_rfl) (fun v r' z=>?_) (fun kd m z=>(SZ_exc z).elim)
   cases r2 with
   | bad q2=>
    obtain ⟨v',p',z⟩:=z
    cases z
    refine Internal.W.a (v:=.none) (P:=l.length≤sizeLine) (sizeM (by lia)) (by kernel_rfl) ?_
    have hq2:q2<n:=(P_place X.heof f _ _ h2 hq).2
    exact Internal.W.la (s':=sbSt nl (l++[v]) (wdS tk mk n p' (badV (tk q2).wd q2))) (by kernel_rfl) (Nat.succ_pos f) (.inr ⟨rfl,q2,l++[v],p',hb q2 rfl,by simp;rw [hlt,toSs_len];lia,rfl⟩)
   | ok t q2=>
    cases z
    have hpl:=P_place X.heof f _ _ h2 hq
    have l2:q+1≤q2:=hpl.1
    have hE:=P_scan f _ _ h2 _ _ rfl .brace (k::hs) (false::ds) ⟨rfl,hA⟩
    have jR:=is_ok (tk:=tk) (mk:=mk) X.ok (g:=g) (by lia) hn hpl.2 "}"
    have jS:=is_ok (tk:=tk) (mk:=mk) X.ok (g:=g) (by lia) hn hpl.2 ";"
    rw [isB_op] at jR jS
    have hmk:mk q2=((tk q2).nl&&!((tk q2).wd==.key .kelse)):=by
     rw [X.mks q2 hpl.2,mark_end hE]
     cases (tk q2).nl<;>cases ((tk q2).wd==Wd.key .kelse)<;>rfl
    refine Internal.W.a (v:=.none) (P:=l.length≤sizeLine) (sizeM (by lia)) (by kernel_rfl) ?_
    have again:P tk f (.block q2 (ts++[t]))=some res→SbI tk mk n k hs ds F p nl res f (sbSt nl (l++[toS t]) (wdS tk mk n q2 .none)):=fun hh=>
     .inl ⟨by lia,q2,ts++[t],l++[toS t],by lia,hpl.2,by simp;lia,hE.toSAt,hh,by rw [toSs_app,hlt],rfl⟩
    have gone:res=.bad q2→SbI tk mk n k hs ds F p nl res 0 (sbSt nl (l++[toS t]) (wdS tk mk n q2 (badV (tk q2).wd q2))):=fun hh=>.inr ⟨rfl,q2,l++[toS t],q2,hh,by simp;rw [hlt,toSs_len];lia,rfl⟩
    have hm:=mark_at (mk:=mk) hn hpl.2
    cases hmv:mk q2 with
    | true=>
     rw [hmv] at hm hmk
     refine Internal.W.a (v:=.bool true) hm (by kernel_rfl) ?_
     have hnl:(tk q2).nl=true:=by cases hh:(tk q2).nl with | true=>rfl | false=>rw [hh] at hmk;injection hmk
     rcases ho t q2 rfl with ⟨h3,_⟩ | ⟨_,h3⟩
     ·exact absurd (.inl hnl) h3
     ·exact Internal.W.la (s':=sbSt nl (l++[toS t]) (wdS tk mk n q2 .none)) (by kernel_rfl) (Nat.lt_succ_self f) (again h3)
    | false=>
     rw [hmv] at hm hmk
     refine Internal.W.a (v:=.bool false) hm (by kernel_rfl) ?_
     by_cases hs':(tk q2).wd=.op .semi
     ·rw [opIs_yes (s:=";") hs' rfl] at jS
      refine Internal.W.c jS (by kernel_rfl) ?_
      rcases ho t q2 rfl with ⟨h3,_⟩ | ⟨_,h3⟩
      ·exact absurd (.inr (.inl hs')) h3
      ·exact Internal.W.la (s':=sbSt nl (l++[toS t]) (wdS tk mk n q2 .none)) (by kernel_rfl) (Nat.lt_succ_self f) (again h3)
     ·rw [opIs_no (s:=";") hs' rfl] at jS
      refine Internal.W.c jS (by kernel_rfl) ?_
      by_cases hr:(tk q2).wd=.op .rb
      ·rw [opIs_yes (s:="}") hr rfl] at jR
       refine Internal.W.c jR (by kernel_rfl) ?_
       rcases ho t q2 rfl with ⟨h3,_⟩ | ⟨_,h3⟩
       ·exact absurd (.inr (.inr hr)) h3
       ·exact Internal.W.la (s':=sbSt nl (l++[toS t]) (wdS tk mk n q2 .none)) (by kernel_rfl) (Nat.lt_succ_self f) (again h3)
      ·rw [opIs_no (s:="}") hr rfl] at jR
       refine Internal.W.c jR (by kernel_rfl) ?_
       have hres:res=.bad q2:=by
        rcases ho t q2 rfl with ⟨_,h3⟩ | ⟨h4,h3⟩
        ·exact h3
        ·rcases h4 with h4 | h4 | h4
         ·rw [h4,Bool.true_and] at hmk
          have:(tk q2).wd=.key .kelse:=by simpa using hmk
          exact block_else this h3
         ·exact absurd h4 hs'
         ·exact absurd h4 hr
       refine Internal.W.c (sfail_ok (tk:=tk) (mk:=mk) X.ok (by lia) hn hpl.2) (by kernel_rfl) ?_
       exact Internal.W.la (s':=sbSt nl (l++[toS t]) (wdS tk mk n q2 (badV (tk q2).wd q2))) (by kernel_rfl) (Nat.succ_pos f) (gone hres)
  refine P_block hP ?_ ?_ ?_ ?_ ?_
  ·intro h0 ee
   subst ee
   rw [opIs_yes (s:="}") h0 rfl] at iR
   refine Internal.W.c iR (by kernel_rfl) ?_
   refine Internal.W.le (by kernel_rfl) ?_
   refine Internal.W.c (want_ok (mk:=mk) X.ok (by lia) hn hq "}" (opIs_yes h0 rfl)) (by kernel_rfl) ?_
   refine Internal.W.c (scall_ok (w:=w) X.ok (g:=g) (r:=wdS tk mk n (q+1) .none) (s:="{") (l:=l) (by lia) hll) (by kernel_rfl) ?_
   exact W.rz (Z:=SZ tk mk n (.ok (.call (.name "{" :: ts)) (q+1))) (v:=callT (.tup [.str "name",.str "{"]::l)) (r:=wdS tk mk n (q+1) .none) (by kernel_rfl) (by subst hlt;show Out.ok _ _=Out.ok _ _;congr 1;unfold callT;rw [List.length_cons,toSs_len];rfl)
  ·intro h0 h1
   have hq1:=X.heof q hq (by rw [h0];exact fun e=>by injection e)
   rw [opIs_no (s:="}") (o:=.rb) (by rw [h0];exact fun e=>nomatch e) rfl] at iR
   rw [opIs_yes (s:=";") h0 rfl] at iS
   refine Internal.W.c iR (by kernel_rfl) ?_
   refine Internal.W.c iS (by kernel_rfl) ?_
   refine Internal.W.a (v:=.int (q+1:Nat)) (P:=V.int (q+1:Nat)=.int ((q:Int)+1)) (by simp) (by kernel_rfl) ?_
   refine Internal.W.a (v:=.none) (P:=4≤1000) (by decide) (by kernel_rfl) ?_
   exact Internal.W.la (s':=sbSt nl l (wdS tk mk n (q+1) .none)) (by kernel_rfl) (Nat.lt_succ_self f) (.inl ⟨by lia,q+1,ts,l,by lia,hq1,by lia,hA.step (.inr (.inr (.inl h0))),h1,hlt,rfl⟩)
  ·intro _ h0 h1 h2 ee
   subst ee
   exact turn h0 h1 _ h2 (fun q2 e=>by (injection e with e1;subst e1);rfl) (fun t q2 e=>by injection e)
  ·intro _ _ h0 h1 h2 h3 ee
   subst ee
   exact turn h0 h1 _ h2 (fun q2 e=>by injection e) (fun t q2 e=>by cases e;exact .inl ⟨h3,rfl⟩)
  ·intro _ _ h0 h1 h2 h3 h4
   exact turn h0 h1 _ h2 (fun q2 e=>by injection e) (fun t q2 e=>by cases e;exact .inr ⟨h3,h4⟩)
 ·refine Internal.W.le (by kernel_rfl) ?_
  refine Internal.W.c (want_bad (tk:=tk) (mk:=mk) (n:=n) (p:=p') (l:=badL (tk qb).wd qb) X.ok (by lia) "}") (by kernel_rfl) ?_
  refine Internal.W.c (scall_ok (w:=w) X.ok (g:=g) (r:=wdS tk mk n p' (badV (tk qb).wd qb)) (s:="{") (l:=l) (by lia) hl) (by kernel_rfl) ?_
  exact W.rz (Z:=SZ tk mk n (.bad qb)) (v:=callT (.tup [.str "name",.str "{"]::l)) (r:=wdS tk mk n p' (badV (tk qb).wd qb)) (by kernel_rfl) ⟨_,_,rfl⟩
end
end
end Internal
end
section
namespace Internal
open PySem PySem.W PyProof.Rows
section
section
variable {w:Wo} {tk:Nat→Tk} {mk:Nat→Bool} {n:Nat}
theorem swhile_run (X:Sk w tk mk n) (F:Nat) (ih:∀ f,f<F+1→∀ md r,P tk f md=some r→SSp w tk mk n md r) {p:Nat} {k:Ctx} {res:Res} {hs:List Ctx} {ds:List Bool} {g:Nat} {nl:Bool} (hp1:p+1<n) (hg:Wt tk n (p+1)+20≤g) (hS:SHd tk (p+1) k hs ds) (h:P tk F (.cond (p+1) k false)=some res) :
  Internal.W (GoodP w.e g) (fun k' n'=>SZ tk mk n res (.exc k' n')) (rsA (rsA (rsC (rsC (rsA (treeOf tabs w.e.g.K 654 [.cell 0] (wdS tk mk n p .none)) (tokS (.key .kwhile) nl)) (.bool false) (wdS tk mk n p .none)) (.bool false) (wdS tk mk n p .none)) (.int (p+1:Nat))) .none) fun q=>SZ tk mk n res (.ok (retV q.1) q.2.r):=by
 have hn:=X.n1
 obtain ⟨F,rfl⟩:∃ f,F=f+1:=by cases F with | zero=>exact nomatch h | succ f=>exact ⟨f,rfl⟩
 have hbad:∀ q,res=.bad q→GoodP w.e g 647 [.cell 0] (wdS tk mk n (p+1) .none) (SZ tk mk n (.bad q))→Internal.W (GoodP w.e g) (fun k' n'=>SZ tk mk n res (.exc k' n')) (rsA (rsA (rsC (rsC (rsA (treeOf tabs w.e.g.K 654 [.cell 0] (wdS tk mk n p .none)) (tokS (.key .kwhile) nl)) (.bool false) (wdS tk mk n p .none)) (.bool false) (wdS tk mk n p .none)) (.int (p+1:Nat))) .none) fun q=>SZ tk mk n res (.ok (retV q.1) q.2.r):=by
  rintro q rfl hH
  refine Internal.W.cp hH (by kernel_rfl) (fun v r' z=>?_) (fun kd m z=>(SZ_exc z).elim)
  obtain ⟨v',p',z⟩:=z
  cases z
  refine Internal.W.c (sexpr_bad (tk:=tk) (mk:=mk) (n:=n) (p:=p') (l:=badL (tk q).wd q) (lv:=0) X.ok (by lia)) (by kernel_rfl) ?_
  refine Internal.W.c (scall_ok (w:=w) X.ok (g:=g) (r:=wdS tk mk n p' (badV (tk q).wd q)) (s:="while") (l:=[v,nulT]) (by lia) (by simp)) (by kernel_rfl) ?_
  exact W.rz (Z:=SZ tk mk n (.bad q)) (v:=callT (.tup [.str "name",.str "while"]::[v,nulT])) (r:=wdS tk mk n p' (badV (tk q).wd q)) (by kernel_rfl) ⟨_,_,rfl⟩
 have body:∀ a q r2,(tk (p+1)).wd=.op .lp→P tk F (.expr (p+1+1) .par 0)=some (.ok a q)→(tk q).wd=.op .rp→P tk F (.expr (q+1) k 0)=some r2→(∀ q2,r2=.bad q2→res=.bad q2) →
   (∀ e q2,r2=.ok e q2→res=.ok (.call [.name "while",a,e]) q2) →
   Internal.W (GoodP w.e g) (fun k' n'=>SZ tk mk n res (.exc k' n')) (rsA (rsA (rsC (rsC (rsA (treeOf tabs w.e.g.K 654 [.cell 0] (wdS tk mk n p .none)) (tokS (.key .kwhile) nl)) (.bool false) (wdS tk mk n p .none)) (.bool false) (wdS tk mk n p .none)) (.int (p+1:Nat))) .none) fun q=>SZ tk mk n res (.ok (retV q.1) q.2.r):=by
  intro a q r2 h0 h1 h2 h3 hb ho
  have hp2:=X.heof _ hp1 (by rw [h0];exact fun e=>by injection e)
  have hpl:=P_place X.heof F _ _ h1 hp2
  have hq1:=X.heof q hpl.2 (by rw [h2];exact fun e=>by injection e)
  have l1:p+2+1≤q:=hpl.1
  have hW2:=Wt_le (tk:=tk) (n:=n) (show p+1≤q+1 by lia)
  have hA:SAt tk (q+1) k hs ds:=(P_scan F _ _ h1 _ _ rfl .par (k::hs) (true::ds) ⟨rfl,hS.lp h0⟩).toSAt.closeH h2
  have hH:=shead_ok (g:=g) (Z:=SZ tk mk n (.ok a (q+1))) X ih hp1 (by lia) F (by lia) (fun _=>hS.lp h0) (fun e=>absurd h0 e) (fun _=>⟨_,h1,.inr ⟨h2,rfl⟩⟩)
  refine Internal.W.c hH (by kernel_rfl) ?_
  refine Internal.W.cp (ih F (by lia) _ _ h3 hs ds g hq1 hA (by lia) (by lia)) (by kernel_rfl) (fun v r' z=>?_) (fun kd m z=>(SZ_exc z).elim)
  cases r2 with
  | bad q2=>
   obtain ⟨v',p',z⟩:=z
   cases z
   rw [hb q2 rfl]
   refine Internal.W.c (scall_ok (w:=w) X.ok (g:=g) (r:=wdS tk mk n p' (badV (tk q2).wd q2)) (s:="while") (l:=[toS a,v]) (by lia) (by simp)) (by kernel_rfl) ?_
   exact W.rz (Z:=SZ tk mk n (.bad q2)) (v:=callT (.tup [.str "name",.str "while"]::[toS a,v])) (r:=wdS tk mk n p' (badV (tk q2).wd q2)) (by kernel_rfl) ⟨_,_,rfl⟩
  | ok e q2=>
   cases z
   rw [ho e q2 rfl]
   refine Internal.W.c (scall_ok (w:=w) X.ok (g:=g) (r:=wdS tk mk n q2 .none) (s:="while") (l:=[toS a,toS e]) (by lia) (by simp)) (by kernel_rfl) ?_
   exact W.rz (Z:=SZ tk mk n (.ok (.call [.name "while",a,e]) q2)) (v:=toS (.call [.name "while",a,e])) (r:=wdS tk mk n q2 .none) (by kernel_rfl) rfl
 refine P_cond h ?_ ?_ ?_ ?_ ?_ ?_ ?_
 ·intro h0 ee
  subst ee
  exact hbad _ rfl (shead_ok (g:=g) (Z:=SZ tk mk n (.bad _)) X ih hp1 (by lia) F (by lia) (fun e=>hS.lp e) (fun _ v p'=>⟨v,p',rfl⟩) (fun e=>absurd e h0))
 ·intro _ h0 h1 ee
  subst ee
  exact hbad _ rfl (shead_ok (g:=g) (Z:=SZ tk mk n (.bad _)) X ih hp1 (by lia) F (by lia) (fun e=>hS.lp e) (fun e=>absurd h0 e) (fun _=>⟨_,h1,fun v p'=>⟨v,p',rfl⟩⟩))
 ·intro _ _ h0 h1 h2 ee
  subst ee
  exact hbad _ rfl (shead_ok (g:=g) (Z:=SZ tk mk n (.bad _)) X ih hp1 (by lia) F (by lia) (fun e=>hS.lp e) (fun e=>absurd h0 e) (fun _=>⟨_,h1,.inl ⟨h2,fun v p'=>⟨v,p',rfl⟩⟩⟩))
 ·intro _ _ _ h0 h1 h2 h3 ee
  subst ee
  exact body _ _ _ h0 h1 h2 h3 (fun q2 e=>by (injection e with e1;subst e1);rfl) (fun e q2 e'=>by injection e')
 ·intro _ _ _ _ h0 h1 h2 h3 h4 ee
  subst ee
  exact body _ _ _ h0 h1 h2 h3 (fun q2 e=>by injection e) (fun e q2 e'=>by cases e';rfl)
 ·intro _ _ _ _ _ _ _ _ _ hb;exact by injection hb
 ·intro _ _ _ _ _ _ _ _ _ _ hb;exact by injection hb
theorem sif_run (X:Sk w tk mk n) (F:Nat) (ih:∀ f,f<F+1→∀ md r,P tk f md=some r→SSp w tk mk n md r) {p:Nat} {k:Ctx} {res:Res} {hs:List Ctx} {ds:List Bool} {g:Nat} {nl:Bool} (hp1:p+1<n) (hg:Wt tk n (p+1)+20≤g) (hS:SHd tk (p+1) k hs ds) (h:P tk F (.cond (p+1) k true)=some res) :
  Internal.W (GoodP w.e g) (fun k' n'=>SZ tk mk n res (.exc k' n')) (rsA (rsA (rsC (rsC (rsA (treeOf tabs w.e.g.K 654 [.cell 0] (wdS tk mk n p .none)) (tokS (.key .kif) nl)) (.bool false) (wdS tk mk n p .none)) (.bool false) (wdS tk mk n p .none)) (.int (p+1:Nat))) .none) fun q=>SZ tk mk n res (.ok (retV q.1) q.2.r):=by
 have hn:=X.n1
 obtain ⟨F,rfl⟩:∃ f,F=f+1:=by cases F with | zero=>exact nomatch h | succ f=>exact ⟨f,rfl⟩
 have hbad:∀ q,res=.bad q→GoodP w.e g 647 [.cell 0] (wdS tk mk n (p+1) .none) (SZ tk mk n (.bad q))→Internal.W (GoodP w.e g) (fun k' n'=>SZ tk mk n res (.exc k' n')) (rsA (rsA (rsC (rsC (rsA (treeOf tabs w.e.g.K 654 [.cell 0] (wdS tk mk n p .none)) (tokS (.key .kif) nl)) (.bool false) (wdS tk mk n p .none)) (.bool false) (wdS tk mk n p .none)) (.int (p+1:Nat))) .none) fun q=>SZ tk mk n res (.ok (retV q.1) q.2.r):=by
  rintro q rfl hH
  refine Internal.W.cp hH (by kernel_rfl) (fun v r' z=>?_) (fun kd m z=>(SZ_exc z).elim)
  obtain ⟨v',p',z⟩:=z
  cases z
  refine Internal.W.c (sexpr_bad (tk:=tk) (mk:=mk) (n:=n) (p:=p') (l:=badL (tk q).wd q) (lv:=0) X.ok (by lia)) (by kernel_rfl) ?_
  refine Internal.W.c (isk_bad (tk:=tk) (mk:=mk) (n:=n) (p:=p') (l:=badL (tk q).wd q) X.ok (by lia) "else" "key") (by kernel_rfl) ?_
  refine Internal.W.c (scall_ok (w:=w) X.ok (g:=g) (r:=wdS tk mk n p' (badV (tk q).wd q)) (s:="if") (l:=[v,nulT]) (by lia) (by simp)) (by kernel_rfl) ?_
  exact W.rz (Z:=SZ tk mk n (.bad q)) (v:=callT (.tup [.str "name",.str "if"]::[v,nulT])) (r:=wdS tk mk n p' (badV (tk q).wd q)) (by kernel_rfl) ⟨_,_,rfl⟩
 have body:∀ a q r2,(tk (p+1)).wd=.op .lp→P tk F (.expr (p+1+1) .par 0)=some (.ok a q)→(tk q).wd=.op .rp→P tk F (.expr (q+1) k 0)=some r2→(∀ q2,r2=.bad q2→res=.bad q2) →
   (∀ e q2,r2=.ok e q2→res=.ok (.call [.name "if",a,e]) q2∧((tk q2).wd≠.key .kelse∨((tk q2).wd=.key .kelse∧(tk q2).nl=true∧k=.top))∨((tk q2).wd=.key .kelse∧((tk q2).nl=false∨k≠.top)∧∃ r3,P tk F (.expr (q2+1) k 0)=some r3∧(∀ q3,r3=.bad q3→res=.bad q3)∧∀ e2 q3,r3=.ok e2 q3→res=.ok (.call [.name "if",a,e,e2]) q3)) →
   Internal.W (GoodP w.e g) (fun k' n'=>SZ tk mk n res (.exc k' n')) (rsA (rsA (rsC (rsC (rsA (treeOf tabs w.e.g.K 654 [.cell 0] (wdS tk mk n p .none)) (tokS (.key .kif) nl)) (.bool false) (wdS tk mk n p .none)) (.bool false) (wdS tk mk n p .none)) (.int (p+1:Nat))) .none) fun q=>SZ tk mk n res (.ok (retV q.1) q.2.r):=by
  intro a q r2 h0 h1 h2 h3 hb ho
  have hp2:=X.heof _ hp1 (by rw [h0];exact fun e=>by injection e)
  have hpl:=P_place X.heof F _ _ h1 hp2
  have hq1:=X.heof q hpl.2 (by rw [h2];exact fun e=>by injection e)
  have l1:p+2+1≤q:=hpl.1
  have hW2:=Wt_le (tk:=tk) (n:=n) (show p+1≤q+1 by lia)
  have hA:SAt tk (q+1) k hs ds:=(P_scan F _ _ h1 _ _ rfl .par (k::hs) (true::ds) ⟨rfl,hS.lp h0⟩).toSAt.closeH h2
  have hH:=shead_ok (g:=g) (Z:=SZ tk mk n (.ok a (q+1))) X ih hp1 (by lia) F (by lia) (fun _=>hS.lp h0) (fun e=>absurd h0 e) (fun _=>⟨_,h1,.inr ⟨h2,rfl⟩⟩)
  refine Internal.W.c hH (by kernel_rfl) ?_
  refine Internal.W.cp (ih F (by lia) _ _ h3 hs ds g hq1 hA (by lia) (by lia)) (by kernel_rfl) (fun v r' z=>?_) (fun kd m z=>(SZ_exc z).elim)
  cases r2 with
  | bad q2=>
   obtain ⟨v',p',z⟩:=z
   cases z
   rw [hb q2 rfl]
   refine Internal.W.c (isk_bad (tk:=tk) (mk:=mk) (n:=n) (p:=p') (l:=badL (tk q2).wd q2) X.ok (by lia) "else" "key") (by kernel_rfl) ?_
   refine Internal.W.c (scall_ok (w:=w) X.ok (g:=g) (r:=wdS tk mk n p' (badV (tk q2).wd q2)) (s:="if") (l:=[toS a,v]) (by lia) (by simp)) (by kernel_rfl) ?_
   exact W.rz (Z:=SZ tk mk n (.bad q2)) (v:=callT (.tup [.str "name",.str "if"]::[toS a,v])) (r:=wdS tk mk n p' (badV (tk q2).wd q2)) (by kernel_rfl) ⟨_,_,rfl⟩
  | ok e q2=>
   cases z
   have hpl2:=P_place X.heof F _ _ h3 hq1
   have l2:q+1+1≤q2:=hpl2.1
   have hE:=P_scan F _ _ h3 _ _ rfl k hs ds ⟨rfl,hA⟩
   have iE:=isk_ok (tk:=tk) (mk:=mk) X.ok (g:=g) (by lia) hn hpl2.2 "else" "key"
   rw [isB_key] at iE
   have two:∀ t:Tr (Fl × Fst),rqC t=some (640,[.str "if",.lst [toS a,toS e]],wdS tk mk n q2 .none)→rtF (rsC t (callT [.tup [.str "name",.str "if"],toS a,toS e]) (wdS tk mk n q2 .none))=some (callT [.tup [.str "name",.str "if"],toS a,toS e],wdS tk mk n q2 .none)→res=.ok (.call [.name "if",a,e]) q2 →
     Internal.W (GoodP w.e g) (fun k' n'=>SZ tk mk n res (.exc k' n')) t fun q=>SZ tk mk n res (.ok (retV q.1) q.2.r):=by
    rintro t e1 e2 rfl
    refine Internal.W.c (scall_ok (w:=w) X.ok (g:=g) (r:=wdS tk mk n q2 .none) (s:="if") (l:=[toS a,toS e]) (by lia) (by simp)) e1 ?_
    exact W.rz (Z:=SZ tk mk n (.ok (.call [.name "if",a,e]) q2)) e2 rfl
   rcases ho e q2 rfl with ⟨hres,h4 | ⟨h4,h5,rfl⟩⟩ | ⟨h4,h5,r3,h6,hb3,ho3⟩
   ·rw [keyIs_no (s:="else") h4 rfl] at iE
    refine Internal.W.c iE (by kernel_rfl) ?_
    exact two _ (by kernel_rfl) (by kernel_rfl) hres
   ·have hmk:mk q2=true:=by rw [X.mks q2 hpl2.2,mark_else hE h4,h5];rfl
    rw [keyIs_yes (s:="else") h4 rfl] at iE
    refine Internal.W.c iE (by kernel_rfl) ?_
    refine Internal.W.a (v:=.bool true) (hmk▸mark_at (mk:=mk) hn hpl2.2) (by kernel_rfl) ?_
    exact two _ (by kernel_rfl) (by kernel_rfl) hres
   ·have hmk:mk q2=false:=by
     rw [X.mks q2 hpl2.2,mark_else hE h4]
     rcases h5 with h5 | h5
     ·rw [h5];rfl
     ·cases k with
      | top=>exact absurd rfl h5
      | par=>exact Bool.and_false _
      | brace=>exact Bool.and_false _
    have hq3:=X.heof q2 hpl2.2 (by rw [h4];exact fun e=>by injection e)
    have hW3:=Wt_le (tk:=tk) (n:=n) (show p+1≤q2+1 by lia)
    rw [keyIs_yes (s:="else") h4 rfl] at iE
    refine Internal.W.c iE (by kernel_rfl) ?_
    refine Internal.W.a (v:=.bool false) (hmk▸mark_at (mk:=mk) hn hpl2.2) (by kernel_rfl) ?_
    refine Internal.W.a (v:=.int (q2+1:Nat)) (P:=V.int (q2+1:Nat)=.int ((q2:Int)+1)) (by simp) (by kernel_rfl) ?_
    refine Internal.W.a (v:=.none) (P:=4≤1000) (by decide) (by kernel_rfl) ?_
    refine Internal.W.cp (ih F (by lia) _ _ h6 hs ds g hq3 (hE.toSAt.step (.inr (.inr (.inr (.inl h4))))) (by lia) (by lia)) (by kernel_rfl) (fun v r' z=>?_) (fun kd m z=>(SZ_exc z).elim)
    refine Internal.W.a (v:=.none) (P:=2≤sizeLine) (sizeM (by decide)) (by kernel_rfl) ?_
    cases r3 with
    | bad q3=>
     obtain ⟨v',p',z⟩:=z
     cases z
     rw [hb3 q3 rfl]
     refine Internal.W.c (scall_ok (w:=w) X.ok (g:=g) (r:=wdS tk mk n p' (badV (tk q3).wd q3)) (s:="if") (l:=[toS a,toS e,v]) (by lia) (by simp)) (by kernel_rfl) ?_
     exact W.rz (Z:=SZ tk mk n (.bad q3)) (v:=callT [.tup [.str "name",.str "if"],toS a,toS e,v]) (r:=wdS tk mk n p' (badV (tk q3).wd q3)) (by kernel_rfl) ⟨_,_,rfl⟩
    | ok e2 q3=>
     cases z
     rw [ho3 e2 q3 rfl]
     refine Internal.W.c (scall_ok (w:=w) X.ok (g:=g) (r:=wdS tk mk n q3 .none) (s:="if") (l:=[toS a,toS e,toS e2]) (by lia) (by simp)) (by kernel_rfl) ?_
     exact W.rz (Z:=SZ tk mk n (.ok (.call [.name "if",a,e,e2]) q3)) (v:=toS (.call [.name "if",a,e,e2])) (r:=wdS tk mk n q3 .none) (by kernel_rfl) rfl
 refine P_cond h ?_ ?_ ?_ ?_ ?_ ?_ ?_
 ·intro h0 ee
  subst ee
  exact hbad _ rfl (shead_ok (g:=g) (Z:=SZ tk mk n (.bad _)) X ih hp1 (by lia) F (by lia) (fun e=>hS.lp e) (fun _ v p'=>⟨v,p',rfl⟩) (fun e=>absurd e h0))
 ·intro _ h0 h1 ee
  subst ee
  exact hbad _ rfl (shead_ok (g:=g) (Z:=SZ tk mk n (.bad _)) X ih hp1 (by lia) F (by lia) (fun e=>hS.lp e) (fun e=>absurd h0 e) (fun _=>⟨_,h1,fun v p'=>⟨v,p',rfl⟩⟩))
 ·intro _ _ h0 h1 h2 ee
  subst ee
  exact hbad _ rfl (shead_ok (g:=g) (Z:=SZ tk mk n (.bad _)) X ih hp1 (by lia) F (by lia) (fun e=>hS.lp e) (fun e=>absurd h0 e) (fun _=>⟨_,h1,.inl ⟨h2,fun v p'=>⟨v,p',rfl⟩⟩⟩))
 ·intro _ _ _ h0 h1 h2 h3 ee
  subst ee
  exact body _ _ _ h0 h1 h2 h3 (fun q2 e=>by (injection e with e1;subst e1);rfl) (fun e q2 e'=>by injection e')
 ·intro _ _ _ _ h0 h1 h2 h3 h4 ee
  subst ee
  rename_i q2'
  have hx:(tk q2').wd≠.key .kelse∨((tk q2').wd=.key .kelse∧(tk q2').nl=true∧k=.top):=by
   by_cases hw2:(tk q2').wd=.key .kelse
   ·refine .inr ⟨hw2,?_⟩
    have hno:¬((tk q2').nl=false∨k≠.top):=fun e=>h4 ⟨rfl,hw2,e⟩
    refine ⟨by cases hb:(tk q2').nl with | true=>rfl | false=>exact absurd (.inl hb) hno,?_⟩
    cases k with
    | top=>rfl
    | par=>exact absurd (.inr (fun e=>by injection e)) hno
    | brace=>exact absurd (.inr (fun e=>by injection e)) hno
   ·exact .inl hw2
  exact body _ _ _ h0 h1 h2 h3 (fun q2 e=>by injection e) (fun e q2 e'=>by cases e';exact .inl ⟨rfl,hx⟩)
 ·intro _ _ _ _ _ h0 h1 h2 h3 hb h4 h5 h6 ee
  clear hb
  subst ee
  exact body _ _ _ h0 h1 h2 h3 (fun q2 e=>by injection e) (fun e q2 e'=>by cases e';exact .inr ⟨h4,h5,_,h6,(fun q3 e=>(by cases e;rfl)),(fun e2 q3 e=>nomatch e)⟩)
 ·intro _ _ _ _ _ _ h0 h1 h2 h3 hb h4 h5 h6 ee
  clear hb
  subst ee
  exact body _ _ _ h0 h1 h2 h3 (fun q2 e=>by injection e) (fun e q2 e'=>by cases e';exact .inr ⟨h4,h5,_,h6,(fun q3 e=>nomatch e),(fun e2 q3 e=>by cases e;rfl)⟩)
theorem sprim_ok (X:Sk w tk mk n) (F:Nat) (ih:∀ f,f<F→∀ md r,P tk f md=some r→SSp w tk mk n md r) {p:Nat} {k:Ctx} {res:Res} (h:P tk F (.prim p k)=some res):SSp w tk mk n (.prim p k) res:=by
 intro hs ds g hp hS hg
 obtain ⟨g,rfl⟩:∃ g',g=g'+1:=⟨g - 1,by lia⟩
 obtain ⟨F,rfl⟩:∃ f,F=f+1:=by cases F with | zero=>exact nomatch h | succ f=>exact ⟨f,rfl⟩
 have hn:=X.n1
 have iL:=is_ok (tk:=tk) (mk:=mk) X.ok (g:=g) (by lia) hn hp "("
 have iB:=is_ok (tk:=tk) (mk:=mk) X.ok (g:=g) (by lia) hn hp "{"
 rw [isB_op] at iL iB
 have htok:=tok_at (tk:=tk) hn hp
 refine X.ok.fn (by lia) (by kernel_rfl) (.o1 fun a=>by kernel_rfl) ?_
 refine Internal.W.a (v:=tokS (tk p).wd (tk p).nl) htok (by kernel_rfl) ?_
 have leaf:∀ (v:V) (t:Tr (Fl × Fst)),prA t (.int (p+1:Nat))=(V.int (p+1:Nat)=.int ((p:Int)+1))→prA (rsA t (.int (p+1:Nat))) .none=(4≤1000)→rtF (rsA (rsA t (.int (p+1:Nat))) .none)=some (v,wdS tk mk n (p+1) .none)→SZ tk mk n res (.ok v (wdS tk mk n (p+1) .none)) →
   Internal.W (GoodP w.e g) (fun k' n'=>SZ tk mk n res (.exc k' n')) t fun q=>SZ tk mk n res (.ok (retV q.1) q.2.r):=fun v t e1 e2 e3 hz=>by
  refine Internal.W.a (v:=.int (p+1:Nat)) (by simp) e1 ?_
  refine Internal.W.a (v:=.none) (P:=4≤1000) (by decide) e2 ?_
  exact W.rz e3 hz
 have par:(tk p).wd=.op .lp→∀ hres,GoodP w.e g 647 [.cell 0] (wdS tk mk n p .none) (SZ tk mk n hres)→(∀ q,hres=.bad q→res=.bad q)→(∀ t q,hres=.ok t q→res=.ok (.call [.name "(",t]) q) →
   Internal.W (GoodP w.e g) (fun k' n'=>SZ tk mk n res (.exc k' n')) (rsA (treeOf tabs w.e.g.K 654 [.cell 0] (wdS tk mk n p .none)) (tokS (tk p).wd (tk p).nl)) fun q=>SZ tk mk n res (.ok (retV q.1) q.2.r):=by
  intro hw hres hH hb ho
  rw [hw] at iL ⊢
  refine Internal.W.c iL (by kernel_rfl) ?_
  refine Internal.W.cp hH (by kernel_rfl) (fun v r' z=>?_) (fun kd m z=>(SZ_exc z).elim)
  refine Internal.W.c (scall_ok (w:=w) X.ok (g:=g) (r:=r') (s:="(") (l:=[v]) (by lia) (by simp)) (by kernel_rfl) ?_
  cases hres with
  | bad q=>
   obtain ⟨v',p',z⟩:=z
   cases z
   rw [hb q rfl]
   exact W.rz (Z:=SZ tk mk n (.bad q)) (v:=callT [.tup [.str "name",.str "("],v]) (r:=wdS tk mk n p' (badV (tk q).wd q)) (by kernel_rfl) ⟨_,_,rfl⟩
  | ok t q=>
   cases z
   rw [ho t q rfl]
   exact W.rz (Z:=SZ tk mk n (.ok (.call [.name "(",t]) q)) (v:=toS (.call [.name "(",t])) (r:=wdS tk mk n q .none) (by kernel_rfl) rfl
 have hWlp:(tk p).wd=.op .lp→Wt tk n p=12+Wt tk n (p+1):=fun hw=>by have h:=Wt_step (tk:=tk) hp;rw [hw] at h;exact h
 refine P_prim h ?_ ?_ ?_ ?_ ?_ ?_ ?_
 ·intro _ h0 ee
  subst ee
  rename_i m
  rw [h0]
  exact leaf (.tup [.str "double",.lst [.tup [.int m,.int 1]]]) _ (by kernel_rfl) (by kernel_rfl) (by kernel_rfl) rfl
 ·intro _ h0 ee
  subst ee
  rename_i s
  rw [h0]
  exact leaf (.tup [.str "name",.str s]) _ (by kernel_rfl) (by kernel_rfl) (by kernel_rfl) rfl
 ·intro _ h0 h1 ee
  subst ee
  exact par h0 (.bad _) (shead_ok (g:=g) (hs:=k::hs) (ds:=false::ds) X ih hp (by lia) F (by lia) (fun e=>hS.lp e) (fun e=>absurd h0 e) (fun _=>⟨_,h1,fun v p'=>⟨v,p',rfl⟩⟩)) (fun q e=>by (injection e with e1;subst e1);rfl) (fun t q e=>by injection e)
 ·intro _ _ h0 h1 h2 ee
  subst ee
  exact par h0 (.bad _) (shead_ok (g:=g) (hs:=k::hs) (ds:=false::ds) X ih hp (by lia) F (by lia) (fun e=>hS.lp e) (fun e=>absurd h0 e) (fun _=>⟨_,h1,.inl ⟨h2,fun v p'=>⟨v,p',rfl⟩⟩⟩)) (fun q e=>by (injection e with e1;subst e1);rfl) (fun t q e=>by injection e)
 ·intro _ _ h0 h1 h2 ee
  subst ee
  rename_i t q
  exact par h0 (.ok t (q+1)) (shead_ok (g:=g) (hs:=k::hs) (ds:=false::ds) X ih hp (by lia) F (by lia) (fun e=>hS.lp e) (fun e=>absurd h0 e) (fun _=>⟨_,h1,.inr ⟨h2,rfl⟩⟩)) (fun q e=>by injection e) (fun t q e=>by cases e;rfl)
 ·intro _ h0 h1
  have hp1:p+1<n:=X.heof p hp (by rcases h0 with ⟨h0,_⟩ | ⟨h0,_⟩ | ⟨h0,_⟩ | ⟨h0,_⟩<;>(rw [h0];exact fun e=>by injection e))
  have hW:Wt tk n p=12+Wt tk n (p+1):=by
   have h:=Wt_step (tk:=tk) hp
   rcases h0 with ⟨h0,_⟩ | ⟨h0,_⟩ | ⟨h0,_⟩ | ⟨h0,_⟩<;>(rw [h0] at h;exact h)
  rcases h0 with ⟨h0,rfl⟩ | ⟨h0,rfl⟩ | ⟨h0,rfl⟩ | ⟨h0,rfl⟩
  ·rw [opIs_no (s:="(") (o:=.lp) (by rw [h0];exact fun e=>nomatch e) rfl] at iL
   rw [opIs_yes (s:="{") h0 rfl] at iB
   rw [h0]
   refine Internal.W.c iL (by kernel_rfl) (Internal.W.c iB (by kernel_rfl) ?_)
   refine Internal.W.a (v:=.int (p+1:Nat)) (P:=V.int (p+1:Nat)=.int ((p:Int)+1)) (by simp) (by kernel_rfl) ?_
   refine Internal.W.a (v:=.none) (P:=4≤1000) (by decide) (by kernel_rfl) ?_
   exact sblock_run X F ih hp1 (by lia) (hS.lb h0) h1
  ·rw [h0] at iL iB ⊢
   refine Internal.W.c iL (by kernel_rfl) (Internal.W.c iB (by kernel_rfl) ?_)
   refine Internal.W.a (v:=.int (p+1:Nat)) (P:=V.int (p+1:Nat)=.int ((p:Int)+1)) (by simp) (by kernel_rfl) ?_
   refine Internal.W.a (v:=.none) (P:=4≤1000) (by decide) (by kernel_rfl) ?_
   exact sif_run X F ih hp1 (by lia) (hS.hd (.inl h0)) h1
  ·rw [h0] at iL iB ⊢
   refine Internal.W.c iL (by kernel_rfl) (Internal.W.c iB (by kernel_rfl) ?_)
   refine Internal.W.a (v:=.int (p+1:Nat)) (P:=V.int (p+1:Nat)=.int ((p:Int)+1)) (by simp) (by kernel_rfl) ?_
   refine Internal.W.a (v:=.none) (P:=4≤1000) (by decide) (by kernel_rfl) ?_
   exact swhile_run X F ih hp1 (by lia) (hS.hd (.inr (.inl h0))) h1
  ·have hX:=ih F (by lia) _ _ h1 hs ds g hp1 (hS.hd (.inr (.inr h0))) (by lia)
   rw [h0] at iL iB ⊢
   refine Internal.W.c iL (by kernel_rfl) (Internal.W.c iB (by kernel_rfl) ?_)
   refine Internal.W.a (v:=.int (p+1:Nat)) (P:=V.int (p+1:Nat)=.int ((p:Int)+1)) (by simp) (by kernel_rfl) ?_
   refine Internal.W.a (v:=.none) (P:=4≤1000) (by decide) (by kernel_rfl) ?_
   refine Internal.W.cp hX (by kernel_rfl) (fun v r' z=>?_) (fun kd m z=>(SZ_exc z).elim)
   exact W.rz (v:=v) (r:=r') (by kernel_rfl) z
 ·intro h0 ee
  subst ee
  have hF:=sfail_ok (tk:=tk) (mk:=mk) X.ok (g:=g) (by lia) hn hp
  have fin:∀ t:Tr (Fl × Fst),rqC t=some (618,[.cell 0],wdS tk mk n p .none)→rtF (rsC t nulT (wdS tk mk n p (badV (tk p).wd p)))=some (nulT,wdS tk mk n p (badV (tk p).wd p))→Internal.W (GoodP w.e g) (fun k' n'=>SZ tk mk n (.bad p) (.exc k' n')) t fun q=>SZ tk mk n (.bad p) (.ok (retV q.1) q.2.r):=
   fun t e1 e2=>Internal.W.c hF e1 (W.rz (Z:=SZ tk mk n (.bad p)) e2 ⟨_,_,rfl⟩)
  rcases h0 with h0 | h0 | ⟨o,h0,h1,h2⟩
  ·rw [h0] at iL iB fin ⊢
   exact Internal.W.c iL (by kernel_rfl) (Internal.W.c iB (by kernel_rfl) (fin _ (by kernel_rfl) (by kernel_rfl)))
  ·rw [h0] at iL iB fin ⊢
   exact Internal.W.c iL (by kernel_rfl) (Internal.W.c iB (by kernel_rfl) (fin _ (by kernel_rfl) (by kernel_rfl)))
  ·rw [opIs_no (s:="(") (o:=.lp) (by rw [h0];exact fun e=>h1 (by cases e;rfl)) rfl] at iL
   rw [opIs_no (s:="{") (o:=.lb) (by rw [h0];exact fun e=>h2 (by cases e;rfl)) rfl] at iB
   rw [h0] at fin ⊢
   exact Internal.W.c iL (by kernel_rfl) (Internal.W.c iB (by kernel_rfl) (fin _ (by kernel_rfl) (by kernel_rfl)))
theorem spec_all (X:Sk w tk mk n):∀ F,∀ f,f<F→∀ md r,P tk f md=some r→SSp w tk mk n md r:=by
 intro F
 induction F with
 | zero=>exact fun f h=>absurd h (Nat.not_lt_zero _)
 | succ F ih=>
  intro f hf md r h
  have ih':∀ f',f'<f→∀ md r,P tk f' md=some r→SSp w tk mk n md r:=fun f' h'=>ih f' (by lia)
  cases md with
  | expr p k lv=>exact sexpr_ok X f ih' h
  | side p k=>exact sside_ok X f ih' h
  | prim p k=>exact sprim_ok X f ih' h
  | fn p k=>exact sfn_ok X f ih' h
  | _=>trivial
end
end
end Internal
end
section
namespace Internal
open PySem PySem.W PyProof.Rows
section
section
variable {R:Addr→List V→List Root→(Out→Prop)→Prop} {xp:Str→Int→Prop} {α:Type}
noncomputable def flN (t:Tr α):Option (Nat × Fst):=match t with | .forl _ n _ s _=>some (n,s) | _=>none
noncomputable def flI (t:Tr α) (i:Nat):V:=match t with | .forl _ _ it _ _=>it i | _=>.none
noncomputable def flT (t:Tr α) (v:V) (s:Fst):Tr (Option Fl × Fst):=match t with | .forl u _ _ _ _=>u v s | _=>.stuck
noncomputable def flK (t:Tr α) (p:Fl × Fst):Tr α:=match t with | .forl _ _ _ _ k=>k p.1 p.2 | _=>.stuck
noncomputable def FQ (R:Addr→List V→List Root→(Out→Prop)→Prop) (xp:Str→Int→Prop) (t0:Tr α) (I:Fst→Prop) (Q:α→Prop) (p:Option Fl × Fst):Prop:=(∃ s',p=(none,s')∧I s')∨∃ fl s',p=(some fl,s')∧Internal.W R xp (flK t0 (fl,s')) Q
theorem W.f {t:Tr α} {n:Nat} {s:Fst} {Q:α→Prop} (I:Nat→Fst→Prop) (e:flN t=some (n,s)) (h0:I 0 s) (h:∀ i s,i<n→I i s→Internal.W R xp (flT t (flI t i) s) (FQ R xp t (I (i+1)) Q)) (hf:∀ s,I n s→Internal.W R xp (flK t (.next,s)) Q):Internal.W R xp t Q:=by
 cases t<;>try (cases e;done)
 cases e
 refine ⟨I,h0,fun i s hi hI=>(h i s hi hI).mono _ fun p hp=>?_,hf⟩
 rcases hp with ⟨s',rfl,h1⟩ | ⟨fl,s',rfl,h1⟩
 ·exact h1
 ·exact h1
theorem W.fa {t:Tr (Option Fl × Fst)} {t0:Tr α} {s':Fst} {I:Fst→Prop} {Q:α→Prop} (e:rtR t=some (none,s')) (h:I s'):Internal.W R xp t (FQ R xp t0 I Q):=Internal.W.r e (.inl ⟨s',rfl,h⟩)
theorem W.cut {t t':Tr α} {Q:α→Prop} (e:t=t') (h:Internal.W R xp t' Q):Internal.W R xp t Q:=e▸h
end
noncomputable def forBody:List Stmt→List Stmt
 | .For _ _ b _ _::_=>b
 | _::r=>forBody r
 | []=>[]
section
variable {w:Wo} {tk:Nat→Tk} {n g:Nat}
noncomputable def mkT (w:Wo) (j:Nat) (s:Fst):Tr (Option Fl × Fst):=turnE (evS tabs (ev tabs 30) (fdOf w.e.g.K 611).scope.names (54 - j) ((forBody (bodyOf w.e.g.K 611)).drop j) s)
noncomputable def mkSt (n:Nat) (tk:Nat→Tk) (rows:List V) (homes:List V) (heads:List V) (can:Bool) (last:Str) (x1 x2 x3 x4:LV):Fst:=
 ⟨[("tokens",.v (tokL tk n)),("rows",.own rows),("homes",.own homes),("heads",.own heads),("can_end",.v (.bool can)),("last",.v (.str last)),("kind",x1),("value",x2),("newline",x3),("ahead_of_else",x4)],[]⟩
noncomputable def hdL:List Bool→List V
 | []=>[]
 | d::ds=>hdL ds++[.bool d]
theorem hdL_len:∀ ds:List Bool,(hdL ds).length=ds.length
 | []=>rfl
 | d::ds=>(List.length_append (as:=hdL ds)).trans (congrArg Nat.succ (hdL_len ds))
noncomputable def lastW (s:Str):Bool:=[("if" : Str),"while","function"].any (·==s)
noncomputable def ahB:Wd→Ctx→Bool | .key .kelse,.brace=>true | _,_=>false
section
variable {R:Addr→List V→List Root→(Out→Prop)→Prop} {xp:Str→Int→Prop} {Q:Option Fl × Fst→Prop} {rows:List V} {hs:List Ctx} {ds:List Bool} {k:Ctx} {d:Bool} {can:Bool} {last:Str} {x4:LV} {wd:Wd} {nl:Bool}
theorem last_at (hk:hs.length≤1000):(ctxL (k::hs)).length≤sizeLine∧((0:Int)≤-1∧(ctxL (k::hs))[(-1:Int).toNat]?=some (.str k.s)∨(-1:Int)=-1∧∃ l',ctxL (k::hs)=l'++[.str k.s]):=⟨by rw [ctxL_len];exact sizeM (by simp;lia),.inr ⟨rfl,ctxL hs,rfl⟩⟩
theorem mk1 (hk:hs.length≤1000) (h:Internal.W R xp (mkT w 1 (mkSt n tk rows (ctxL (k::hs)) (hdL ds) can last (.v (.str wd.kd)) (.v (valS wd)) (.v (.bool nl)) (.v (.bool (ahB wd k))))) Q):Internal.W R xp (mkT w 0 (mkSt n tk rows (ctxL (k::hs)) (hdL ds) can last (.v (.str wd.kd)) (.v (valS wd)) (.v (.bool nl)) x4)) Q:=by
 cases wd with
 | key o=>
  cases o with
  | kelse=>
   refine Internal.W.a (v:=.str k.s) (last_at (k:=k) hk) (by kernel_rfl) ?_
   cases k<;>exact W.cut (by kernel_rfl) h
  | kif=>exact W.cut (by kernel_rfl) h
  | kwhile=>exact W.cut (by kernel_rfl) h
  | kfun=>exact W.cut (by kernel_rfl) h
 | id s=>exact W.cut (by kernel_rfl) h
 | num z=>exact W.cut (by kernel_rfl) h
 | op o=>exact W.cut (by kernel_rfl) h
 | eof=>exact W.cut (by kernel_rfl) h
theorem mk2 (hk:hs.length≤1000) (hr:rows.length≤1000) {x1 x2:LV} {a:Bool} (h:Internal.W R xp (mkT w 2 (mkSt n tk (rows++[.bool (nl&&can&&(k==.top||k==.brace)&&!a)]) (ctxL (k::hs)) (hdL ds) can last x1 x2 (.v (.bool nl)) (.v (.bool a)))) Q):Internal.W R xp (mkT w 1 (mkSt n tk rows (ctxL (k::hs)) (hdL ds) can last x1 x2 (.v (.bool nl)) (.v (.bool a)))) Q:=by
 have hz:rows.length≤sizeLine:=sizeM (by lia)
 cases nl with
 | false=>exact Internal.W.a (v:=.none) hz (by kernel_rfl) (W.cut (by kernel_rfl) h)
 | true=>cases can with
  | false=>exact Internal.W.a (v:=.none) hz (by kernel_rfl) (W.cut (by kernel_rfl) h)
  | true=>
   refine Internal.W.a (v:=.str k.s) (last_at (k:=k) hk) (by kernel_rfl) ?_
   cases k<;>exact Internal.W.a (v:=.none) hz (by kernel_rfl) (W.cut (by kernel_rfl) h)
theorem mk3 {x3:LV} {homes heads:List V} (h:Internal.W R xp (mkT w 3 (mkSt n tk rows homes heads (canOf wd) last (.v (.str wd.kd)) (.v (valS wd)) x3 x4)) Q):Internal.W R xp (mkT w 2 (mkSt n tk rows homes heads can last (.v (.str wd.kd)) (.v (valS wd)) x3 x4)) Q:=by
 cases wd with
 | op o=>cases o<;>exact W.cut (by kernel_rfl) h
 | key o=>cases o<;>exact W.cut (by kernel_rfl) h
 | id s=>exact W.cut (by kernel_rfl) h
 | num z=>exact W.cut (by kernel_rfl) h
 | eof=>exact W.cut (by kernel_rfl) h
noncomputable def opens:Wd→Option Ctx | .op .lp=>some .par | .op .lb=>some .brace | _=>none
theorem mk4 {x3:LV} (hk:hs.length≤1000) (hd:ds.length≤1000) (h:Internal.W R xp (mkT w 4 (mkSt n tk rows (match opens wd with | some k=>ctxL (k::hs) | none=>ctxL hs) (match opens wd with | some _=>hdL (lastW last::ds) | none=>hdL ds) can last (.v (.str wd.kd)) (.v (valS wd)) x3 x4)) Q):Internal.W R xp (mkT w 3 (mkSt n tk rows (ctxL hs) (hdL ds) can last (.v (.str wd.kd)) (.v (valS wd)) x3 x4)) Q:=by
 have h1:(ctxL hs).length≤sizeLine:=by rw [ctxL_len];exact sizeM (by lia)
 have h2:(hdL ds).length≤sizeLine:=by rw [hdL_len];exact sizeM (by lia)
 cases wd with
 | op o=>cases o with
  | lp=>exact Internal.W.a (v:=.none) h1 (by kernel_rfl) (Internal.W.a (v:=.none) h2 (by kernel_rfl) (W.cut (by kernel_rfl) h))
  | lb=>exact Internal.W.a (v:=.none) h1 (by kernel_rfl) (Internal.W.a (v:=.none) h2 (by kernel_rfl) (W.cut (by kernel_rfl) h))
  | plus=>exact W.cut (by kernel_rfl) h
  | star=>exact W.cut (by kernel_rfl) h
  | rp=>exact W.cut (by kernel_rfl) h
  | rb=>exact W.cut (by kernel_rfl) h
  | semi=>exact W.cut (by kernel_rfl) h
 | key o=>exact W.cut (by kernel_rfl) h
 | id s=>exact W.cut (by kernel_rfl) h
 | num z=>exact W.cut (by kernel_rfl) h
 | eof=>exact W.cut (by kernel_rfl) h
noncomputable def closes:Wd→Bool | .op .rp=>true | .op .rb=>true | _=>false
theorem mk5 {x3:LV} (hk:hs.length≤1000) (hd:ds.length≤1000) (h:Internal.W R xp (mkT w 5 (if closes wd=true∧1≤hs.length then mkSt n tk rows (ctxL hs) (hdL ds) (can&&!d) last (.v (.str wd.kd)) (.v (valS wd)) x3 x4 else mkSt n tk rows (ctxL (k::hs)) (hdL (d::ds)) can last (.v (.str wd.kd)) (.v (valS wd)) x3 x4)) Q):Internal.W R xp (mkT w 4 (mkSt n tk rows (ctxL (k::hs)) (hdL (d::ds)) can last (.v (.str wd.kd)) (.v (valS wd)) x3 x4)) Q:=by
 have h1:(ctxL (k::hs)).length≤sizeLine:=by rw [ctxL_len];exact sizeM (by simp;lia)
 have h2:(hdL (d::ds)).length≤sizeLine:=by rw [hdL_len];exact sizeM (by simp;lia)
 have len:(ctxL (k::hs)).length≤sizeLine∧V.int (hs.length+1:Nat)=.int (ctxL (k::hs)).length:=⟨h1,by rw [ctxL_len];rfl⟩
 have p1:popP (ctxL (k::hs)) (.tup [.str k.s,.lst (ctxL hs)]):=⟨h1,_,_,rfl,rfl⟩
 have p2:popP (hdL (d::ds)) (.tup [.bool d,.lst (hdL ds)]):=⟨h2,_,_,rfl,rfl⟩
 have go:∀ o,wd=.op o→(o=.rp∨o=.rb)→Internal.W R xp (mkT w 4 (mkSt n tk rows (ctxL (k::hs)) (hdL (d::ds)) can last (.v (.str "op")) (.v (.str o.s)) x3 x4)) Q:=by
  rintro o rfl ho
  have hc:closes (.op o)=true:=by rcases ho with rfl | rfl<;>rfl
  rw [hc] at h
  have hb:V.bool (decide (1≤hs.length))=.bool (decide (((hs.length+1:Nat):Int)>1)):=by congr 1;exact decide_eq_decide.mpr (by lia)
  by_cases hl:1≤hs.length
  ·rw [if_pos ⟨rfl,hl⟩] at h
   rw [decide_eq_true hl] at hb
   rcases ho with rfl | rfl
   ·refine Internal.W.a (v:=.int (hs.length+1:Nat)) len (by kernel_rfl) ?_
    refine Internal.W.a (v:=.bool true) hb (by kernel_rfl) ?_
    refine Internal.W.a (v:=.tup [.str k.s,.lst (ctxL hs)]) p1 (by kernel_rfl) ?_
    refine Internal.W.a (v:=.tup [.bool d,.lst (hdL ds)]) p2 (by kernel_rfl) ?_
    cases d<;>cases can<;>exact W.cut (by kernel_rfl) h
   ·refine Internal.W.a (v:=.int (hs.length+1:Nat)) len (by kernel_rfl) ?_
    refine Internal.W.a (v:=.bool true) hb (by kernel_rfl) ?_
    refine Internal.W.a (v:=.tup [.str k.s,.lst (ctxL hs)]) p1 (by kernel_rfl) ?_
    refine Internal.W.a (v:=.tup [.bool d,.lst (hdL ds)]) p2 (by kernel_rfl) ?_
    cases d<;>cases can<;>exact W.cut (by kernel_rfl) h
  ·rw [if_neg (fun e=>hl e.2)] at h
   rw [decide_eq_false hl] at hb
   rcases ho with rfl | rfl
   ·refine Internal.W.a (v:=.int (hs.length+1:Nat)) len (by kernel_rfl) ?_
    exact Internal.W.a (v:=.bool false) hb (by kernel_rfl) (W.cut (by kernel_rfl) h)
   ·refine Internal.W.a (v:=.int (hs.length+1:Nat)) len (by kernel_rfl) ?_
    exact Internal.W.a (v:=.bool false) hb (by kernel_rfl) (W.cut (by kernel_rfl) h)
 have no:closes wd=false→Internal.W R xp (mkT w 5 (mkSt n tk rows (ctxL (k::hs)) (hdL (d::ds)) can last (.v (.str wd.kd)) (.v (valS wd)) x3 x4)) Q:=fun hc=>by
  rw [hc,if_neg (fun e=>by injection e.1)] at h;exact h
 cases wd with
 | op o=>cases o with
  | rp=>exact go .rp rfl (.inl rfl)
  | rb=>exact go .rb rfl (.inr rfl)
  | lp=>exact W.cut (by kernel_rfl) (no rfl)
  | lb=>exact W.cut (by kernel_rfl) (no rfl)
  | plus=>exact W.cut (by kernel_rfl) (no rfl)
  | star=>exact W.cut (by kernel_rfl) (no rfl)
  | semi=>exact W.cut (by kernel_rfl) (no rfl)
 | key o=>exact W.cut (by kernel_rfl) (no rfl)
 | id s=>exact W.cut (by kernel_rfl) (no rfl)
 | num z=>exact W.cut (by kernel_rfl) (no rfl)
 | eof=>exact W.cut (by kernel_rfl) (no rfl)
noncomputable def lastS:Wd→Str | .key o=>o.s | _=> ""
theorem mk6 {x3:LV} {homes heads:List V}:rtR (mkT w 5 (mkSt n tk rows homes heads can last (.v (.str wd.kd)) (.v (valS wd)) x3 x4))=some (none,mkSt n tk rows homes heads can (lastS wd) (.v (.str wd.kd)) (.v (valS wd)) x3 x4):=by
 cases wd<;>kernel_rfl
end
end
end
end Internal
end
section
namespace Internal
open PySem PySem.W PyProof.Rows
section
section
variable {w:Wo} {tk:Nat→Tk} {n g:Nat}
noncomputable def mks (tk:Nat→Tk) (i:Nat):Bool:=markOf (scan tk i) (tk i)
noncomputable def mkRows (tk:Nat→Tk) (i:Nat):List V:=(List.range i).map fun j=>.bool (mks tk j)
theorem mkRows_s (i:Nat):mkRows tk (i+1)=mkRows tk i++[.bool (mks tk i)]:=by simp [mkRows,List.range_succ]
theorem mkRows_len (i:Nat):(mkRows tk i).length=i:=by simp [mkRows]
noncomputable def MkI (tk:Nat→Tk) (n i:Nat) (s:Fst):Prop:=∃ k hs d ds last x1 x2 x3 x4,(scan tk i).homes=k::hs∧(scan tk i).heads=d::ds∧hs.length≤i∧ds.length=hs.length∧lastW last=(scan tk i).last∧s=mkSt n tk (mkRows tk i) (ctxL (k::hs)) (hdL (d::ds)) (scan tk i).can last x1 x2 x3 x4
noncomputable def mkLoop (w:Wo) (tk:Nat→Tk) (n:Nat):Tr (Fl × Fst):=treeOf tabs w.e.g.K 611 [tokL tk n] []
theorem mk_turn {R:Addr→List V→List Root→(Out→Prop)→Prop} {xp:Str→Int→Prop} {Q:Fl × Fst→Prop} {i:Nat} {s:Fst} (hn:n≤900) (hi:i<n) (h:MkI tk n i s):Internal.W R xp (flT (mkLoop w tk n) (tokS (tk i).wd (tk i).nl) s) (FQ R xp (mkLoop w tk n) (MkI tk n (i+1)) Q):=by
 obtain ⟨k,hs,d,ds,last,x1,x2,x3,x4,hh,hd,lh,ld,hl,rfl⟩:=h
 have hm:mks tk i=((tk i).nl&&(scan tk i).can&&(k==.top||k==.brace)&&!(ahB (tk i).wd k)):=by
  unfold mks markOf;rw [hh];cases (tk i).wd with
  | key o=>cases o<;>cases k<;>rfl
  | _=>cases k<;>rfl
 have hsc:scan tk (i+1)=stepS (scan tk i) (tk i).wd:=rfl
 generalize hc:(scan tk i).can=can at hm
 have hR:=mkRows_s (tk:=tk) i
 have hl2:=mkRows_len (tk:=tk) i
 have hlast:lastW (lastS (tk i).wd)=lastOf (tk i).wd:=by
  cases (tk i).wd with
  | key o=>cases o<;>kernel_rfl
  | _=>kernel_rfl
 refine W.cut (t':=mkT w 0 (mkSt n tk (mkRows tk i) (ctxL (k::hs)) (hdL (d::ds)) can last (.v (.str (tk i).wd.kd)) (.v (valS (tk i).wd)) (.v (.bool (tk i).nl)) x4)) (by kernel_rfl) ?_
 refine mk1 (by lia) (mk2 (by lia) (by lia) (mk3 (mk4 (by simp;lia) (by simp;lia) ?_)))
 rw [← hm,← hR]
 generalize (tk i).wd=wd at *
 have fin:∀ {k':Ctx} {hs':List Ctx} {d':Bool} {ds':List Bool} {can':Bool},(scan tk (i+1)).homes=k'::hs'→(scan tk (i+1)).heads=d'::ds'→hs'.length≤i+1→ds'.length=hs'.length→(scan tk (i+1)).can=can'→(scan tk (i+1)).last=lastOf wd →
   Internal.W R xp (mkT w 5 (mkSt n tk (mkRows tk (i+1)) (ctxL (k'::hs')) (hdL (d'::ds')) can' last (.v (.str wd.kd)) (.v (valS wd)) (.v (.bool (tk i).nl)) (.v (.bool (ahB wd k))))) (FQ R xp (mkLoop w tk n) (MkI tk n (i+1)) Q):=fun a b c d e f=>
  W.fa mk6 ⟨_,_,_,_,_,_,_,_,_,a,b,c,d,hlast.trans f.symm,by rw [e]⟩
 have plain:opens wd=none→closes wd=false→stepS (scan tk i) wd=⟨(scan tk i).homes,(scan tk i).heads,canOf wd,lastOf wd⟩→Internal.W R xp (mkT w 4 (mkSt n tk (mkRows tk (i+1)) (match opens wd with | some k'=>ctxL (k'::k::hs) | none=>ctxL (k::hs)) (match opens wd with | some _=>hdL (lastW last::d::ds) | none=>hdL (d::ds)) (canOf wd) last (.v (.str wd.kd)) (.v (valS wd)) (.v (.bool (tk i).nl)) (.v (.bool (ahB wd k))))) (FQ R xp (mkLoop w tk n) (MkI tk n (i+1)) Q):=fun h1 h2 h3=>by
  rw [h1]
  refine mk5 (by lia) (by lia) ?_
  rw [if_neg (fun e=>by rw [h2] at e;exact by injection e.1)]
  rw [h3] at hsc
  exact fin (by rw [hsc];exact hh) (by rw [hsc];exact hd) (by lia) (by lia) (by rw [hsc]) (by rw [hsc])
 have shut:∀ o,wd=.op o→(o=.rp∨o=.rb)→Internal.W R xp (mkT w 4 (mkSt n tk (mkRows tk (i+1)) (ctxL (k::hs)) (hdL (d::ds)) true last (.v (.str wd.kd)) (.v (valS wd)) (.v (.bool (tk i).nl)) (.v (.bool (ahB wd k))))) (FQ R xp (mkLoop w tk n) (MkI tk n (i+1)) Q):=by
  intro o ho hor
  have h2:closes wd=true:=by rw [ho];rcases hor with rfl | rfl<;>rfl
  have h3:stepS (scan tk i) wd=if (scan tk i).homes.length>1 then ⟨(scan tk i).homes.tail,(scan tk i).heads.tail,!((scan tk i).heads.headD false),false⟩ else ⟨(scan tk i).homes,(scan tk i).heads,true,false⟩:=by rw [ho];rcases hor with rfl | rfl<;>rfl
  have h4:lastOf wd=false:=by rw [ho];rfl
  rw [h3,hh,hd] at hsc
  refine mk5 (by lia) (by lia) ?_
  by_cases hl1:1≤hs.length
  ·rw [if_pos ⟨h2,hl1⟩]
   rw [if_pos (show (k::hs).length>1 by rw [List.length_cons];lia)] at hsc
   cases hs with
   | nil=>exact nomatch hl1
   | cons k2 hs=>cases ds with
    | nil=>exact by injection ld
    | cons d2 ds=>exact fin (by rw [hsc];rfl) (by rw [hsc];rfl) (by simp at lh;lia) (by simpa using ld) (by rw [hsc];cases d<;>rfl) (by rw [hsc,h4])
  ·rw [if_neg (fun e=>hl1 e.2)]
   rw [if_neg (show ¬(k::hs).length>1 by rw [List.length_cons];lia)] at hsc
   exact fin (by rw [hsc]) (by rw [hsc]) (by lia) (by lia) (by rw [hsc]) (by rw [hsc,h4])
 cases wd with
 | op o=>cases o with
  | lp=>
   refine mk5 (by simp;lia) (by simp;lia) ?_
   rw [if_neg (fun e=>by injection e.1)]
   exact fin (by rw [hsc];exact congrArg _ hh) (by rw [hsc];simp [st_lp,hd,hl]) (by simp;lia) (by simp;lia) (by rw [hsc];rfl) (by rw [hsc];rfl)
  | lb=>
   refine mk5 (by simp;lia) (by simp;lia) ?_
   rw [if_neg (fun e=>by injection e.1)]
   exact fin (by rw [hsc];exact congrArg _ hh) (by rw [hsc];simp [st_lb,hd,hl]) (by simp;lia) (by simp;lia) (by rw [hsc];rfl) (by rw [hsc];rfl)
  | rp=>exact shut _ rfl (.inl rfl)
  | rb=>exact shut _ rfl (.inr rfl)
  | plus=>exact plain rfl rfl rfl
  | star=>exact plain rfl rfl rfl
  | semi=>exact plain rfl rfl rfl
 | key o=>exact plain rfl rfl rfl
 | id s=>exact plain rfl rfl rfl
 | num z=>exact plain rfl rfl rfl
 | eof=>exact plain rfl rfl rfl
theorem marks_ok (O:w.Ok) (hg:3≤g) (hn:n≤900):GoodC w.e g 611 [tokL tk n] [] (.ok (mkL (mks tk) n) []):=by
 obtain ⟨g,rfl⟩:∃ k,g=k+1:=⟨g - 1,by lia⟩
 refine O.fn (by lia) (by kernel_rfl) (.o1 fun a=>by kernel_rfl) ?_
 refine Internal.W.f (n:=((List.range n).map fun i=>tokS (tk i).wd (tk i).nl).length) (s:=mkSt n tk [] [.str "top"] [.bool false] false "" .un .un .un .un) (fun i s=>MkI tk n i s) (by kernel_rfl) ⟨.top,[],false,[],"",_,_,_,_,rfl,rfl,Nat.le_refl _,rfl,rfl,rfl⟩ (fun i s hi h=>?_) (fun s h=>?_)
 ·rw [List.length_map,List.length_range] at hi
  have e:flI (mkLoop w tk n) i=((List.range n).map fun i=>tokS (tk i).wd (tk i).nl).getD i .none:=by kernel_rfl
  have e2:((List.range n).map fun i=>tokS (tk i).wd (tk i).nl).getD i .none=tokS (tk i).wd (tk i).nl:=by simp [hi]
  have:=mk_turn (R:=GoodP w.e g) (xp:=fun k n'=>Out.ok (mkL (mks tk) n) []=.exc k n') (w:=w) (Q:=fun p=>Out.ok (mkL (mks tk) n) []=.ok (retV p.1) p.2.r) hn hi h
  rw [← e2,← e] at this
  exact this
 ·rw [List.length_map,List.length_range] at h
  obtain ⟨k,hs,d,ds,last,x1,x2,x3,x4,-,-,-,-,-,rfl⟩:=h
  exact Internal.W.rf (by kernel_rfl)
end
end
end Internal
end
section
namespace Internal
open PySem PySem.W PyProof.Rows
section
section
variable {w:Wo} {g:Nat}
noncomputable def poolV (fs:List Int) (at' mix:Int):List V:=[.lst (fs.map .int),.int at',.int mix]
noncomputable def PoolI (fs:List Int) (P:List V):Prop:=∃ (i:Nat) (mix:Int),i≤fs.length∧P=poolV fs i mix
noncomputable def PickZ (fs:List Int) (b:Nat) (r:List Root) (o:Out):Prop:=∃ (z:Nat) (P:List V),z<b∧PoolI fs P∧.ok (.int z) (.lst P::r)=o
theorem pool_at {fs:List Int} {i mix:Int} {j:Nat} {v:V} (h:(poolV fs i mix)[j]?=some v):(poolV fs i mix).length≤sizeLine∧((0:Int)≤(j:Int)∧(poolV fs i mix)[(j:Int).toNat]?=some v∨(j:Int)=-1∧∃ l',poolV fs i mix=l'++[v]):=⟨sizeM (show 3≤2000 by decide),.inl ⟨by lia,h⟩⟩
theorem pick_ok (O:w.Ok) (hg:3≤g) {fs:List Int} (hf:fs.length≤1000) {P:List V} (hP:PoolI fs P) {b:Nat} (hb:0<b) {r:List Root}:GoodP w.e g 585 [.cell 0,.int b] (.lst P::r) (PickZ fs b r):=by
 refine GoodP.up (O.fn (g:=2) (by decide) (by kernel_rfl) (.o2 fun a b=>by kernel_rfl) ?_) hg
 obtain ⟨i,mix,hi,rfl⟩:=hP
 have three:(3:Nat)≤sizeLine:=sizeM (by decide)
 have hfl:(fs.map V.int).length≤sizeLine:=sizeM (by rw [List.length_map];lia)
 have fin:∀ (x:Int) (P:List V),PoolI fs P→∀ t:Tr (Fl × Fst),prA t (.int ((x % (b:Int)).toNat:Nat))=(((b:Nat):Int)≠0∧V.int ((x % (b:Int)).toNat:Nat)=.int (x.fmod (b:Nat)))→rtF (rsA t (.int ((x % (b:Int)).toNat:Nat)))=some (.int ((x % (b:Int)).toNat:Nat),.lst P::r) →
   Internal.W (GoodP w.e 2) (fun k n=>PickZ fs b r (.exc k n)) t fun p=>PickZ fs b r (.ok (retV p.1) p.2.r):=fun x P hP t e1 e2=>by
  have h0:((b:Nat):Int)≠0:=by lia
  have h1:=Int.emod_nonneg x h0
  have h2:=Int.emod_lt_of_pos x (show (0:Int)<b by lia)
  have h3:V.int ((x % (b:Int)).toNat:Nat)=.int (x.fmod (b:Nat)):=by
   rw [Int.fmod_eq_emod_of_nonneg x (show (0:Int)≤b by lia)]
   exact congrArg V.int (Int.toNat_of_nonneg h1)
  exact Internal.W.a (v:=.int ((x % (b:Int)).toNat:Nat)) ⟨h0,h3⟩ e1 (W.rz (Z:=PickZ fs b r) e2 ⟨_,P,by lia,hP,rfl⟩)
 refine Internal.W.a (v:=.int i) (pool_at (fs:=fs) (i:=i) (mix:=mix) (j:=1) rfl) (by kernel_rfl) ?_
 refine Internal.W.a (v:=.lst (fs.map .int)) (pool_at (fs:=fs) (i:=i) (mix:=mix) (j:=0) rfl) (by kernel_rfl) ?_
 refine Internal.W.a (v:=.int (fs.map V.int).length) (P:=(fs.map V.int).length≤sizeLine∧V.int (fs.map V.int).length=.int (fs.map V.int).length) ⟨hfl,rfl⟩ (by kernel_rfl) ?_
 by_cases hlt:i<fs.length
 ·have e:decide ((i:Int)<((fs.map V.int).length:Nat))=true:=decide_eq_true (by simpa using hlt)
  refine Internal.W.a (v:=.bool true) (P:=V.bool true=.bool (decide ((i:Int)<((fs.map V.int).length:Nat)))) (by rw [e]) (by kernel_rfl) ?_
  have hx:(fs.map V.int)[i]?=some (.int fs[i]):=by simp [hlt]
  have ex:(fs.map V.int).length≤sizeLine∧((0:Int)≤(i:Int)∧(fs.map V.int)[(i:Int).toNat]?=some (.int fs[i])∨(i:Int)=-1∧∃ l',fs.map V.int=l'++[.int fs[i]]):=⟨hfl,.inl ⟨by lia,hx⟩⟩
  refine Internal.W.a (v:=.lst (fs.map .int)) (pool_at (fs:=fs) (i:=i) (mix:=mix) (j:=0) rfl) (by kernel_rfl) ?_
  refine Internal.W.a (v:=.int i) (pool_at (fs:=fs) (i:=i) (mix:=mix) (j:=1) rfl) (by kernel_rfl) ?_
  refine Internal.W.a (v:=.int fs[i]) ex (by kernel_rfl) ?_
  refine Internal.W.a (v:=.int i) (pool_at (fs:=fs) (i:=i) (mix:=mix) (j:=1) rfl) (by kernel_rfl) ?_
  refine Internal.W.a (v:=.int (i+1:Nat)) (P:=V.int (i+1:Nat)=.int ((i:Int)+1)) (by simp) (by kernel_rfl) ?_
  refine Internal.W.a (v:=.none) (P:=((0:Int)≤1∧(1:Int)<(3:Nat))∧3≤sizeLine) ⟨⟨by decide,by decide⟩,three⟩ (by kernel_rfl) ?_
  exact fin fs[i] (poolV fs (i+1:Nat) mix) ⟨i+1,mix,hlt,rfl⟩ _ (by kernel_rfl) (by kernel_rfl)
 ·have e:decide ((i:Int)<((fs.map V.int).length:Nat))=false:=decide_eq_false (by simpa using hlt)
  refine Internal.W.a (v:=.bool false) (P:=V.bool false=.bool (decide ((i:Int)<((fs.map V.int).length:Nat)))) (by rw [e]) (by kernel_rfl) ?_
  refine Internal.W.a (v:=.lst (fs.map .int)) (pool_at (fs:=fs) (i:=i) (mix:=mix) (j:=0) rfl) (by kernel_rfl) ?_
  refine Internal.W.a (v:=.int (fs.map V.int).length) (P:=(fs.map V.int).length≤sizeLine∧V.int (fs.map V.int).length=.int (fs.map V.int).length) ⟨hfl,rfl⟩ (by kernel_rfl) ?_
  by_cases h3:fs.length<3
  ·have e:decide (((fs.map V.int).length:Int)<3)=true:=decide_eq_true (by rw [List.length_map];lia)
   refine Internal.W.a (v:=.bool true) (P:=V.bool true=.bool (decide (((fs.map V.int).length:Int)<3))) (by rw [e]) (by kernel_rfl) ?_
   exact fin 0 (poolV fs i mix) ⟨i,mix,hi,rfl⟩ _ (by kernel_rfl) (by kernel_rfl)
  ·have e:decide (((fs.map V.int).length:Int)<3)=false:=decide_eq_false (by rw [List.length_map];lia)
   refine Internal.W.a (v:=.bool false) (P:=V.bool false=.bool (decide (((fs.map V.int).length:Int)<3))) (by rw [e]) (by kernel_rfl) ?_
   have n0:(1009:Int)≠0:=by decide
   refine Internal.W.a (v:=.int mix) (pool_at (fs:=fs) (i:=i) (mix:=mix) (j:=2) rfl) (by kernel_rfl) ?_
   refine Internal.W.a (v:=.int (mix*37)) (P:=IntMulOk mix 37∧V.int (mix*37)=.int (mix*37)) ⟨.of_right (by decide),rfl⟩ (by kernel_rfl) ?_
   refine Internal.W.a (v:=.int (mix*37+11)) (P:=V.int (mix*37+11)=.int (mix*37+11)) rfl (by kernel_rfl) ?_
   refine Internal.W.a (v:=.int ((mix*37+11).fmod 1009)) (P:=(1009:Int)≠0∧V.int ((mix*37+11).fmod 1009)=.int ((mix*37+11).fmod 1009)) ⟨n0,rfl⟩ (by kernel_rfl) ?_
   refine Internal.W.a (v:=.none) (P:=((0:Int)≤2∧(2:Int)<(3:Nat))∧3≤sizeLine) ⟨⟨by decide,by decide⟩,three⟩ (by kernel_rfl) ?_
   refine Internal.W.a (v:=.int ((mix*37+11).fmod 1009)) (pool_at (fs:=fs) (i:=i) (mix:=(mix*37+11).fmod 1009) (j:=2) rfl) (by kernel_rfl) ?_
   exact fin ((mix*37+11).fmod 1009) (poolV fs i ((mix*37+11).fmod 1009)) ⟨i,_,hi,rfl⟩ _ (by kernel_rfl) (by kernel_rfl)
end
end
end Internal
end
section
namespace Internal
open PySem PySem.W PyProof.Rows
section
section
variable {w:Wo} {g:Nat}
noncomputable def wordV (w:Wd):V:=.tup [.str w.kd,valS w]
noncomputable def wtL:List Wd→Nat | []=>0 | x::xs=>wt x+wtL xs
theorem wtL_app:∀ (xs ys:List Wd),wtL (xs++ys)=wtL xs+wtL ys
 | [],ys=>(Nat.zero_add _).symm
 | x::xs,ys=>(congrArg (wt x+·) (wtL_app xs ys)).trans (Nat.add_assoc ..).symm
noncomputable def GI (b:Bool) (fs:List Int) (A L:Nat) (P l:List V) (s:Int):Prop:=PoolI fs P∧∃ ws:List Wd,l=ws.map wordV∧(∀ x ∈ ws,x≠.eof)∧wtL ws+48*s.toNat≤A∧ws.length+19*s.toNat≤L∧(b=true→ws≠[])
noncomputable def gnR (P l:List V) (s:Int):List Root:=[.lst P,.lst l,.lst [.int s]]
noncomputable def GZ (fs:List Int) (A L:Nat) (o:Out):Prop:=∃ P l s,GI true fs A L P l s∧.ok .none (gnR P l s)=o
variable {bb:Bool} {fs:List Int} {A L A' L':Nat} {P P' l:List V} {s:Int}
theorem GI.up (h:GI bb fs A L P l s) (ha:A≤A') (hl:L≤L'):GI bb fs A' L' P l s:=by
 obtain ⟨h1,ws,h2,h3,h4,h5,h6⟩:=h
 exact ⟨h1,ws,h2,h3,by lia,by lia,h6⟩
theorem GI.pool (h:GI bb fs A L P l s) (h':PoolI fs P'):GI bb fs A L P' l s:=⟨h',h.2⟩
theorem GI.app (h:GI bb fs A L P l s) (x:Wd) (hx:x≠.eof):GI true fs (A+wt x) (L+1) P (l++[wordV x]) s:=by
 obtain ⟨h1,ws,rfl,h3,h4,h5,h6⟩:=h
 refine ⟨h1,ws++[x],by simp,fun y hy=>?_,?_,?_,fun _=>by simp⟩
 ·rcases List.mem_append.mp hy with hy | hy
  ·exact h3 y hy
  ·rw [List.mem_singleton.mp hy];exact hx
 ·rw [wtL_app];show wtL ws+(wt x+0)+_≤_;lia
 ·simp;lia
theorem GI.len (h:GI bb fs A L P l s):l.length≤L:=by
 obtain ⟨h1,ws,rfl,h3,h4,h5,h6⟩:=h
 rw [List.length_map];lia
theorem tn_s {s:Int} (h:s - 1>0):s.toNat=(s - 1).toNat+1:=by lia
theorem GI.dec0 (h:GI bb fs A L P l s):GI bb fs A L P l (s - 1):=by
 obtain ⟨h1,ws,h2,h3,h4,h5,h6⟩:=h
 have z:(s - 1).toNat≤s.toNat:=Int.toNat_le_toNat (Int.sub_le_self s (by decide))
 exact ⟨h1,ws,h2,h3,Nat.le_trans (Nat.add_le_add_left (Nat.mul_le_mul_left 48 z) _) h4,Nat.le_trans (Nat.add_le_add_left (Nat.mul_le_mul_left 19 z) _) h5,h6⟩
theorem GI.dec (h:GI bb fs A L P l s) (hs:s - 1>0):∃ A' L',A'+48≤A∧L'+19≤L∧GI bb fs A' L' P l (s - 1):=by
 obtain ⟨h1,ws,h2,h3,h4,h5,h6⟩:=h
 rw [tn_s hs] at h4 h5
 exact ⟨wtL ws+48*(s - 1).toNat,ws.length+19*(s - 1).toNat,h4,h5,h1,ws,h2,h3,Nat.le_refl _,Nat.le_refl _,h6⟩
noncomputable def OpC (w:Wo) (fs:List Int) (m:Nat):Prop:=∀ (d:Nat) (A L:Nat) (P l:List V) (s:Int) (g:Nat) (bb:Bool),4≤d+m→GI bb fs A L P l s→L≤905→4+2*m≤g→GoodP w.e g 597 [.cell 0,.cell 1,.int d,.cell 2] (gnR P l s) (GZ fs A (L+1))
noncomputable def WoC (w:Wo) (fs:List Int) (m:Nat):Prop:=∀ (d:Nat) (A L:Nat) (P l:List V) (s:Int) (g:Nat) (bb:Bool),4≤d+m→GI bb fs A L P l s→L≤900→5+2*m≤g→GoodP w.e g 604 [.cell 0,.cell 1,.int d,.cell 2] (gnR P l s) (GZ fs (A+8) (L+5))
noncomputable def opK (w:Wo) (P l:List V) (s:Int) (d z:Nat):Tr (Fl × Fst):=evS tabs (ev tabs 30) (fdOf w.e.g.K 597).scope.names 58 ((bodyOf w.e.g.K 597).drop 2) ⟨[("spare",.v (.cell 2)),("deep",.v (.int d)),("words",.v (.cell 1)),("pool",.v (.cell 0)),("kind",.v (.int z)),("step",.un),("word",.un)],gnR P l s⟩
noncomputable abbrev WG (w:Wo) (g:Nat) (Z:Out→Prop) (t:Tr (Fl × Fst)):Prop:=Internal.W (GoodP w.e g) (fun k n=>Z (.exc k n)) t fun p=>Z (.ok (retV p.1) p.2.r)
theorem op_leaf {d z:Nat} (hz:z<2) (h:GI bb fs A L P l s) (hL:L≤905):WG w g (GZ fs A (L+1)) (opK w P l s d z):=by
 have hl:l.length≤sizeLine:=sizeM (by have:=h.len;lia)
 refine lt2 ?_ ?_ z hz
 ·refine Internal.W.aq (v:=.bool true) (by kernel_rfl) ?_
  refine Internal.W.a (v:=.str "a") (P:=(0:Int)≤(0:Nat)∧((0:Nat):Int)<2 ^ 62∧∃ cp,(("ab" : Str).cps)[((0:Nat):Int).toNat]?=some cp∧V.str "a" = .str ⟨#[cp]⟩) ⟨by decide,by decide,_,rfl,rfl⟩ (by kernel_rfl) ?_
  refine Internal.W.a (v:=.none) hl (by kernel_rfl) ?_
  exact W.rz (Z:=GZ fs A (L+1)) (v:=.none) (r:=gnR P (l++[wordV (.id "a")]) s) (by kernel_rfl) ⟨_,_,_,h.app (.id "a") (fun e=>by injection e),rfl⟩
 ·refine Internal.W.aq (v:=.bool true) (by kernel_rfl) ?_
  refine Internal.W.a (v:=.str "b") (P:=(0:Int)≤(1:Nat)∧((1:Nat):Int)<2 ^ 62∧∃ cp,(("ab" : Str).cps)[((1:Nat):Int).toNat]?=some cp∧V.str "b" = .str ⟨#[cp]⟩) ⟨by decide,by decide,_,rfl,rfl⟩ (by kernel_rfl) ?_
  refine Internal.W.a (v:=.none) hl (by kernel_rfl) ?_
  exact W.rz (Z:=GZ fs A (L+1)) (v:=.none) (r:=gnR P (l++[wordV (.id "b")]) s) (by kernel_rfl) ⟨_,_,_,h.app (.id "b") (fun e=>by injection e),rfl⟩
theorem op_num (O:w.Ok) (hg:3≤g) (hf:fs.length≤1000) {d:Nat} (h:GI bb fs A L P l s) (hL:L≤905):WG w g (GZ fs A (L+1)) (opK w P l s d 2):=by
 have hl:l.length≤sizeLine:=sizeM (by have:=h.len;lia)
 refine Internal.W.aq (v:=.bool false) (by kernel_rfl) ?_
 refine Internal.W.aq (v:=.bool true) (by kernel_rfl) ?_
 refine Internal.W.cp (pick_ok (b:=9) (r:=[.lst l,.lst [.int s]]) O hg hf h.1 (by decide)) (by kernel_rfl) (fun v r' z=>?_) (fun kd m z=>?_)
 ·obtain ⟨y,P',-,hP,e⟩:=z
  cases e
  refine Internal.W.a (v:=.none) hl (by kernel_rfl) ?_
  exact W.rz (Z:=GZ fs A (L+1)) (v:=.none) (r:=gnR P' (l++[wordV (.num y)]) s) (by kernel_rfl) ⟨_,_,_,(h.pool hP).app (.num y) (fun e=>by injection e),rfl⟩
 ·obtain ⟨_,_,_,_,e⟩:=z;exact by injection e
end
end
end Internal
end
section
namespace Internal
open PySem PySem.W PyProof.Rows
section
section
variable {w:Wo} {g:Nat} {bb:Bool} {fs:List Int} {A L A' L':Nat} {P P' l:List V} {s:Int}
theorem GZ_exc {k:Str} {n:Int}:¬GZ fs A L (.exc k n):=fun z=>z.elim fun _ z=>z.elim fun _ z=>z.elim fun _ z=>by injection z.2
theorem PickZ_exc {b:Nat} {r:List Root} {k:Str} {n:Int}:¬PickZ fs b r (.exc k n):=fun z=>z.elim fun _ z=>z.elim fun _ z=>z.elim fun _ z=>by injection z.2
theorem op_shut {m d:Nat} (hw:WoC w fs m) {t:Tr (Fl × Fst)} (hd:4≤d+1+m) (hg:5+2*m≤g) (h:GI bb fs A' L' P l s) (ha:A'+8≤A) (hl:L'+6≤L+1) (hL:L'≤900) (x:Wd) (hx:wt x=0) (hx':x≠.eof)
  (e1:prA t (.int (d+1:Nat))=(V.int (d+1:Nat)=.int ((d:Int)+1)))
  (e2:rqC (rsA t (.int (d+1:Nat)))=some (604,[.cell 0,.cell 1,.int (d+1:Nat),.cell 2],gnR P l s))
  (e3:∀ P' l' s',prA (rsC (rsA t (.int (d+1:Nat))) .none (gnR P' l' s')) .none=(l'.length≤sizeLine))
  (e4:∀ P' l' s',rtF (rsA (rsC (rsA t (.int (d+1:Nat))) .none (gnR P' l' s')) .none)=some (.none,gnR P' (l'++[wordV x]) s')):WG w g (GZ fs A (L+1)) t:=by
 refine Internal.W.a (v:=.int (d+1:Nat)) (P:=V.int (d+1:Nat)=.int ((d:Int)+1)) (by simp) e1 ?_
 refine Internal.W.cp (hw (d+1) A' L' P l s g _ (by lia) h hL hg) e2 (fun v r' z=>?_) (fun kd m z=>(GZ_exc z).elim)
 obtain ⟨P',l',s',h',e⟩:=z
 cases e
 have hl':l'.length≤sizeLine:=sizeM (by have:=h'.len;lia)
 exact Internal.W.a (v:=.none) hl' (e3 _ _ _) (W.rz (Z:=GZ fs A (L+1)) (e4 _ _ _) ⟨_,_,_,(h'.app x hx').up (by lia) (by lia),rfl⟩)
theorem op_br {m d:Nat} (O:w.Ok) (hf:fs.length≤1000) (hw:WoC w fs m) (hd:4≤d+1+m) (hg:5+2*m≤g) (h:GI bb fs A' L' P l s) (ha:A'+48≤A) (hl:L'+19≤L) (hL:L≤905):WG w g (GZ fs A (L+1)) (opK w P l s d 4):=by
 have hll:=h.len
 have h0:l.length+1≤sizeLine:=sizeM (by lia)
 refine Internal.W.aq (v:=.bool false) (by kernel_rfl) ?_
 refine Internal.W.aq (v:=.bool false) (by kernel_rfl) ?_
 refine Internal.W.aq (v:=.bool true) (by kernel_rfl) ?_
 refine Internal.W.aq (v:=.int 1) (by kernel_rfl) ?_
 refine Internal.W.a (v:=.lst [.tup [.str "op",.str "("]]) (P:=((2:Nat)≤sizeLine∧(0:Int)≤1)∧V.lst [.tup [.str "op",.str "("]]=.lst [.tup [.str "op",.str "("]]) ⟨⟨sizeM (by decide),by decide⟩,rfl⟩ (by kernel_rfl) ?_
 refine Internal.W.a (v:=.none) (P:=[V.tup [.str "op",.str "("]]≠[]∧l.length+1≤sizeLine) ⟨fun e=>(by injection e),h0⟩ (by kernel_rfl) ?_
 refine Internal.W.aq (v:=.bool true) (by kernel_rfl) ?_
 exact op_shut hw hd hg (h.app (.op .lp) (fun e=>by injection e)) (by simp only [w_lp,w_lb,w_rp,w_rb,w_se,w_ki,w_kw,w_kf,w_ke,w_id,w_nu];lia) (by lia) (by lia) (.op .rp) rfl (fun e=>by injection e) (by kernel_rfl) (by kernel_rfl) (fun _ _ _=>by kernel_rfl) (fun _ _ _=>by kernel_rfl)
theorem op_call {m d:Nat} (O:w.Ok) (hf:fs.length≤1000) (hw:WoC w fs m) (hd:4≤d+1+m) (hg:5+2*m≤g) (h:GI bb fs A' L' P l s) (ha:A'+48≤A) (hl:L'+19≤L) (hL:L≤905):WG w g (GZ fs A (L+1)) (opK w P l s d 3):=by
 have hll:=h.len
 have h0:l.length+2≤sizeLine:=sizeM (by lia)
 refine Internal.W.aq (v:=.bool false) (by kernel_rfl) ?_
 refine Internal.W.aq (v:=.bool false) (by kernel_rfl) ?_
 refine Internal.W.aq (v:=.bool true) (by kernel_rfl) ?_
 refine Internal.W.aq (v:=.int 0) (by kernel_rfl) ?_
 refine Internal.W.a (v:=.lst [.tup [.str "id",.str "f"],.tup [.str "op",.str "("]]) (P:=((2:Nat)≤sizeLine∧(0:Int)≤0)∧V.lst [.tup [.str "id",.str "f"],.tup [.str "op",.str "("]]=.lst [.tup [.str "id",.str "f"],.tup [.str "op",.str "("]]) ⟨⟨sizeM (by decide),by decide⟩,rfl⟩ (by kernel_rfl) ?_
 refine Internal.W.a (v:=.none) (P:=[V.tup [.str "id",.str "f"],.tup [.str "op",.str "("]]≠[]∧l.length+2≤sizeLine) ⟨fun e=>(by injection e),h0⟩ (by kernel_rfl) ?_
 refine Internal.W.aq (v:=.bool false) (by kernel_rfl) ?_
 have h2:=(h.app (.id "f") (fun e=>by injection e)).app (.op .lp) (fun e=>by injection e)
 have el:l++[wordV (.id "f")]++[wordV (.op .lp)]=l++[.tup [.str "id",.str "f"],.tup [.str "op",.str "("]]:=by rw [List.append_assoc];kernel_rfl
 rw [el] at h2
 refine Internal.W.cp (pick_ok (b:=5) (r:=[.lst (l++[.tup [.str "id",.str "f"],.tup [.str "op",.str "("]]),.lst [.int s]]) O (by lia) hf h.1 (by decide)) (by kernel_rfl) (fun v r' z=>?_) (fun kd m z=>(PickZ_exc z).elim)
 obtain ⟨y,P',hy,hP,e⟩:=z
 cases e
 by_cases hy4:(y:Int)<4
 ·refine Internal.W.a (v:=.bool true) (P:=V.bool true=.bool (decide ((y:Int)<4))) (by rw [decide_eq_true hy4]) (by kernel_rfl) ?_
  exact op_shut hw hd hg (h2.pool hP) (by simp only [w_lp,w_lb,w_rp,w_rb,w_se,w_ki,w_kw,w_kf,w_ke,w_id,w_nu];lia) (by lia) (by lia) (.op .rp) rfl (fun e=>by injection e) (by kernel_rfl) (by kernel_rfl) (fun _ _ _=>by kernel_rfl) (fun _ _ _=>by kernel_rfl)
 ·refine Internal.W.a (v:=.bool false) (P:=V.bool false=.bool (decide ((y:Int)<4))) (by rw [decide_eq_false hy4]) (by kernel_rfl) ?_
  have hl2:(l++[V.tup [.str "id",.str "f"],.tup [.str "op",.str "("]]).length≤sizeLine:=sizeM (by have:=h2.len;lia)
  refine Internal.W.a (v:=.none) hl2 (by kernel_rfl) ?_
  exact W.rz (Z:=GZ fs A (L+1)) (v:=.none) (r:=gnR P' (l++[.tup [.str "id",.str "f"],.tup [.str "op",.str "("]]++[wordV (.op .rp)]) s) (by kernel_rfl) ⟨_,_,_,((h2.pool hP).app (.op .rp) (fun e=>by injection e)).up (by simp only [w_lp,w_lb,w_rp,w_rb,w_se,w_ki,w_kw,w_kf,w_ke,w_id,w_nu];lia) (by lia),rfl⟩
theorem op_plus {m d:Nat} (ho:OpC w fs m) (hd:4≤d+1+m) (hg:4+2*m≤g) (h:GI bb fs A' L' P l s) (ha:A'+48≤A) (hl:L'+19≤L) (hL:L≤905):WG w g (GZ fs A (L+1)) (opK w P l s d 6):=by
 have h0:l.length≤sizeLine:=sizeM (by have:=h.len;lia)
 refine Internal.W.aq (v:=.bool false) (by kernel_rfl) ?_
 refine Internal.W.aq (v:=.bool false) (by kernel_rfl) ?_
 refine Internal.W.aq (v:=.bool false) (by kernel_rfl) ?_
 refine Internal.W.aq (v:=.bool false) (by kernel_rfl) ?_
 refine Internal.W.aq (v:=.bool true) (by kernel_rfl) ?_
 refine Internal.W.a (v:=.none) h0 (by kernel_rfl) ?_
 refine Internal.W.a (v:=.int (d+1:Nat)) (P:=V.int (d+1:Nat)=.int ((d:Int)+1)) (by simp) (by kernel_rfl) ?_
 refine Internal.W.cp (ho (d+1) (A'+4) (L'+1) P (l++[wordV (.op .plus)]) s g _ (by lia) (h.app (.op .plus) (fun e=>by injection e)) (by lia) hg) (by kernel_rfl) (fun v r' z=>?_) (fun kd m z=>(GZ_exc z).elim)
 obtain ⟨P',l',s',h',e⟩:=z
 cases e
 exact W.rz (Z:=GZ fs A (L+1)) (v:=.none) (r:=gnR P' l' s') (by kernel_rfl) ⟨_,_,_,h'.up (by lia) (by lia),rfl⟩
end
end
end Internal
end
section
namespace Internal
open PySem PySem.W PyProof.Rows
section
section
variable {w:Wo} {g:Nat} {bb:Bool} {fs:List Int} {A L A' L':Nat} {P P' l:List V} {s:Int}
theorem go_words {m d:Nat} {Z:Out→Prop} (hZ:∀ k n,¬Z (.exc k n)) (hw:WoC w fs m) {t:Tr (Fl × Fst)} (hd:4≤d+1+m) (hg:5+2*m≤g) (h:GI bb fs A' L' P l s) (hL:L'≤900)
  (e1:prA t (.int (d+1:Nat))=(V.int (d+1:Nat)=.int ((d:Int)+1)))
  (e2:rqC (rsA t (.int (d+1:Nat)))=some (604,[.cell 0,.cell 1,.int (d+1:Nat),.cell 2],gnR P l s))
  (k:∀ P' l' s',GI true fs (A'+8) (L'+5) P' l' s'→WG w g Z (rsC (rsA t (.int (d+1:Nat))) .none (gnR P' l' s'))):WG w g Z t:=by
 refine Internal.W.a (v:=.int (d+1:Nat)) (P:=V.int (d+1:Nat)=.int ((d:Int)+1)) (by simp) e1 ?_
 refine Internal.W.cp (hw (d+1) A' L' P l s g _ (by lia) h hL hg) e2 (fun v r' z=>?_) (fun kd m z=>(GZ_exc z).elim)
 obtain ⟨P',l',s',h',e⟩:=z
 cases e
 exact k _ _ _ h'
theorem nb {z k:Nat} (h:z≠k):V.bool false=.bool ((z:Int)==(k:Int)):=by
 rw [beq_eq_false_iff_ne.mpr (fun e=>h (by exact_mod_cast e))]
theorem op_key {m d z:Nat} (O:w.Ok) (hf:fs.length≤1000) (hw:WoC w fs m) (hd:4≤d+1+m) (hg:5+2*m≤g) (hz:7≤z) (h:GI bb fs A' L' P l s) (ha:A'+48≤A) (hl:L'+19≤L) (hL:L≤905):WG w g (GZ fs A (L+1)) (opK w P l s d z):=by
 refine Internal.W.a (v:=.bool false) (P:=V.bool false=.bool (decide ((z:Int)<2))) (by rw [decide_eq_false (by lia)]) (by kernel_rfl) ?_
 refine Internal.W.a (v:=.bool false) (nb (z:=z) (k:=2) (by lia)) (by kernel_rfl) ?_
 refine Internal.W.a (v:=.bool false) (P:=V.bool false=.bool (decide ((z:Int)<5))) (by rw [decide_eq_false (by lia)]) (by kernel_rfl) ?_
 refine Internal.W.a (v:=.bool false) (nb (z:=z) (k:=5) (by lia)) (by kernel_rfl) ?_
 refine Internal.W.a (v:=.bool false) (nb (z:=z) (k:=6) (by lia)) (by kernel_rfl) ?_
 refine Internal.W.cp (pick_ok (b:=3) (r:=[.lst l,.lst [.int s]]) O (by lia) hf h.1 (by decide)) (by kernel_rfl) (fun v r' z=>?_) (fun kd m z=>(PickZ_exc z).elim)
 obtain ⟨y,P1,hy,hP,e⟩:=z
 cases e
 have three:(3:Nat)≤sizeLine:=sizeM (by decide)
 have h0:l.length+2≤sizeLine:=sizeM (by have:=h.len;lia)
 have hK:∀ kw:Key,GI true fs (A'+24) (L'+2) P1 (l++[.tup [.str "key",.str kw.s],.tup [.str "op",.str "("]]) s:=fun kw=>by
  have h2:=(h.app (.key kw) (fun e=>by injection e)).app (.op .lp) (fun e=>by injection e)
  have el:l++[wordV (.key kw)]++[wordV (.op .lp)]=l++[.tup [.str "key",.str kw.s],.tup [.str "op",.str "("]]:=by rw [List.append_assoc];rfl
  rw [el] at h2
  exact (h2.pool hP).up (by cases kw<;>(simp only [w_lp,w_lb,w_rp,w_rb,w_se,w_ki,w_kw,w_kf,w_ke,w_id,w_nu];lia)) (by lia)
 refine lt3 ?_ ?_ ?_ y hy
 ·refine Internal.W.a (v:=.str "if") (P:=(3:Nat)≤sizeLine∧((0:Int)≤(0:Nat)∧[V.str "if",.str "while",.str "function"][((0:Nat):Int).toNat]?=some (.str "if")∨((0:Nat):Int)=-1∧∃ l',[V.str "if",.str "while",.str "function"]=l'++[.str "if"])) ⟨three,.inl ⟨by decide,rfl⟩⟩ (by kernel_rfl) ?_
  refine Internal.W.a (v:=.none) (P:=[V.tup [.str "key",.str "if"],.tup [.str "op",.str "("]]≠[]∧l.length+2≤sizeLine) ⟨fun e=>(by injection e),h0⟩ (by kernel_rfl) ?_
  refine go_words (P:=P1) (l:=l++[.tup [.str "key",.str "if"],.tup [.str "op",.str "("]]) (s:=s) (fun _ _=>GZ_exc) hw hd hg (hK .kif) (by lia) (by kernel_rfl) (by kernel_rfl) fun P2 l2 s2 h2=>?_
  refine Internal.W.a (v:=.none) (P:=l2.length≤sizeLine) (sizeM (by have:=h2.len;lia)) (by kernel_rfl) ?_
  refine go_words (P:=P2) (l:=l2++[wordV (.op .rp)]) (s:=s2) (fun _ _=>GZ_exc) hw hd hg (h2.app (.op .rp) (fun e=>by injection e)) (by lia) (by kernel_rfl) (by kernel_rfl) fun P3 l3 s3 h3=>?_
  refine Internal.W.cp (pick_ok (b:=3) (r:=[.lst l3,.lst [.int s3]]) O (by lia) hf h3.1 (by decide)) (by kernel_rfl) (fun v r' z=>?_) (fun kd m z=>(PickZ_exc z).elim)
  obtain ⟨y4,P4,hy4,hP4,e⟩:=z
  cases e
  by_cases hy4:(y4:Int)<2
  ·refine Internal.W.a (v:=.bool true) (P:=V.bool true=.bool (decide ((y4:Int)<2))) (by rw [decide_eq_true hy4]) (by kernel_rfl) ?_
   refine Internal.W.a (v:=.none) (P:=l3.length≤sizeLine) (sizeM (by have:=h3.len;lia)) (by kernel_rfl) ?_
   refine go_words (P:=P4) (l:=l3++[wordV (.key .kelse)]) (s:=s3) (fun _ _=>GZ_exc) hw hd hg ((h3.pool hP4).app (.key .kelse) (fun e=>by injection e)) (by lia) (by kernel_rfl) (by kernel_rfl) fun P5 l5 s5 h5=>?_
   exact W.rz (Z:=GZ fs A (L+1)) (v:=.none) (r:=gnR P5 l5 s5) (by kernel_rfl) ⟨_,_,_,h5.up (by simp only [w_lp,w_lb,w_rp,w_rb,w_se,w_ki,w_kw,w_kf,w_ke,w_id,w_nu];lia) (by lia),rfl⟩
  ·refine Internal.W.a (v:=.bool false) (P:=V.bool false=.bool (decide ((y4:Int)<2))) (by rw [decide_eq_false hy4]) (by kernel_rfl) ?_
   exact W.rz (Z:=GZ fs A (L+1)) (v:=.none) (r:=gnR P4 l3 s3) (by kernel_rfl) ⟨_,_,_,(h3.pool hP4).up (by simp only [w_lp,w_lb,w_rp,w_rb,w_se,w_ki,w_kw,w_kf,w_ke,w_id,w_nu];lia) (by lia),rfl⟩
 ·refine Internal.W.a (v:=.str "while") (P:=(3:Nat)≤sizeLine∧((0:Int)≤(1:Nat)∧[V.str "if",.str "while",.str "function"][((1:Nat):Int).toNat]?=some (.str "while")∨((1:Nat):Int)=-1∧∃ l',[V.str "if",.str "while",.str "function"]=l'++[.str "while"])) ⟨three,.inl ⟨by decide,rfl⟩⟩ (by kernel_rfl) ?_
  refine Internal.W.a (v:=.none) (P:=[V.tup [.str "key",.str "while"],.tup [.str "op",.str "("]]≠[]∧l.length+2≤sizeLine) ⟨fun e=>(by injection e),h0⟩ (by kernel_rfl) ?_
  refine go_words (P:=P1) (l:=l++[.tup [.str "key",.str "while"],.tup [.str "op",.str "("]]) (s:=s) (fun _ _=>GZ_exc) hw hd hg (hK .kwhile) (by lia) (by kernel_rfl) (by kernel_rfl) fun P2 l2 s2 h2=>?_
  refine Internal.W.a (v:=.none) (P:=l2.length≤sizeLine) (sizeM (by have:=h2.len;lia)) (by kernel_rfl) ?_
  refine go_words (P:=P2) (l:=l2++[wordV (.op .rp)]) (s:=s2) (fun _ _=>GZ_exc) hw hd hg (h2.app (.op .rp) (fun e=>by injection e)) (by lia) (by kernel_rfl) (by kernel_rfl) fun P3 l3 s3 h3=>?_
  exact W.rz (Z:=GZ fs A (L+1)) (v:=.none) (r:=gnR P3 l3 s3) (by kernel_rfl) ⟨_,_,_,h3.up (by simp only [w_lp,w_lb,w_rp,w_rb,w_se,w_ki,w_kw,w_kf,w_ke,w_id,w_nu];lia) (by lia),rfl⟩
 ·refine Internal.W.a (v:=.str "function") (P:=(3:Nat)≤sizeLine∧((0:Int)≤(2:Nat)∧[V.str "if",.str "while",.str "function"][((2:Nat):Int).toNat]?=some (.str "function")∨((2:Nat):Int)=-1∧∃ l',[V.str "if",.str "while",.str "function"]=l'++[.str "function"])) ⟨three,.inl ⟨by decide,rfl⟩⟩ (by kernel_rfl) ?_
  refine Internal.W.a (v:=.none) (P:=[V.tup [.str "key",.str "function"],.tup [.str "op",.str "("]]≠[]∧l.length+2≤sizeLine) ⟨fun e=>(by injection e),h0⟩ (by kernel_rfl) ?_
  have h2:=(hK .kfun)
  have h3:=h2.app (.id "x") (fun e=>by injection e)
  refine Internal.W.a (v:=.none) (P:=(l++[V.tup [.str "key",.str "function"],.tup [.str "op",.str "("]]).length≤sizeLine) (sizeM (by have:=h2.len;simp at this ⊢;lia)) (by kernel_rfl) ?_
  refine Internal.W.a (v:=.none) (P:=(l++[V.tup [.str "key",.str "function"],.tup [.str "op",.str "("]]++[wordV (.id "x")]).length≤sizeLine) (sizeM (by have:=h2.len;simp at this ⊢;lia)) (by kernel_rfl) ?_
  refine go_words (P:=P1) (l:=l++[.tup [.str "key",.str "function"],.tup [.str "op",.str "("]]++[wordV (.id "x")]++[wordV (.op .rp)]) (s:=s) (fun _ _=>GZ_exc) hw hd hg (h3.app (.op .rp) (fun e=>by injection e)) (by lia) (by kernel_rfl) (by kernel_rfl) fun P4 l4 s4 h4=>?_
  exact W.rz (Z:=GZ fs A (L+1)) (v:=.none) (r:=gnR P4 l4 s4) (by kernel_rfl) ⟨_,_,_,h4.up (by simp only [w_lp,w_lb,w_rp,w_rb,w_se,w_ki,w_kw,w_kf,w_ke,w_id,w_nu];lia) (by lia),rfl⟩
end
end
end Internal
end
section
namespace Internal
open PySem PySem.W PyProof.Rows
section
section
variable {w:Wo} {g:Nat} {bb:Bool} {fs:List Int} {A L A' L':Nat} {P P' l:List V} {s:Int}
noncomputable def blkSt (d:Nat) (x:LV) (P l:List V) (s:Int):Fst:=⟨[("spare",.v (.cell 2)),("deep",.v (.int d)),("words",.v (.cell 1)),("pool",.v (.cell 0)),("kind",.v (.int 5)),("step",x),("word",.un)],gnR P l s⟩
noncomputable def BlkI (fs:List Int) (d A L i:Nat) (st:Fst):Prop:=∃ x P l s,GI true fs (A+8*i) (L+6*i) P l s∧st=blkSt d x P l s
theorem op_blk {m d:Nat} (O:w.Ok) (hf:fs.length≤1000) (hw:WoC w fs m) (hd:4≤d+1+m) (hg:5+2*m≤g) (h:GI bb fs A' L' P l s) (ha:A'+48≤A) (hl:L'+19≤L) (hL:L≤905):WG w g (GZ fs A (L+1)) (opK w P l s d 5):=by
 have h0:l.length≤sizeLine:=sizeM (by have:=h.len;lia)
 refine Internal.W.aq (v:=.bool false) (by kernel_rfl) ?_
 refine Internal.W.aq (v:=.bool false) (by kernel_rfl) ?_
 refine Internal.W.aq (v:=.bool false) (by kernel_rfl) ?_
 refine Internal.W.aq (v:=.bool true) (by kernel_rfl) ?_
 refine Internal.W.a (v:=.none) h0 (by kernel_rfl) ?_
 have h1:=h.app (.op .lb) (fun e=>by injection e)
 refine Internal.W.cp (pick_ok (b:=4) (r:=[.lst (l++[wordV (.op .lb)]),.lst [.int s]]) O (by lia) hf h.1 (by decide)) (by kernel_rfl) (fun v r' z=>?_) (fun kd m z=>(PickZ_exc z).elim)
 obtain ⟨y,P1,hy,hP,e⟩:=z
 cases e
 have hy60:-(2 ^ 60:Int)≤(y:Int)∧(y:Int)≤2 ^ 60:=by lia
 refine Internal.W.a (v:=.none) hy60 (by kernel_rfl) ?_
 refine Internal.W.f (n:=((y:Nat):Int).toNat) (s:=blkSt d .un P1 (l++[wordV (.op .lb)]) s) (fun i st=>BlkI fs d (A'+12) (L'+1) i st) (by kernel_rfl) ⟨.un,_,_,_,(h1.pool hP).up (by simp only [w_lp,w_lb,w_rp,w_rb,w_se,w_ki,w_kw,w_kf,w_ke,w_id,w_nu];lia) (by lia),rfl⟩ (fun i st hi hI=>?_) (fun st hI=>?_)
 ·obtain ⟨x,P2,l2,s2,h2,rfl⟩:=hI
  have hi3:i<y:=by lia
  refine Internal.W.a (v:=.int (d+1:Nat)) (P:=V.int (d+1:Nat)=.int ((d:Int)+1)) (by simp) (by kernel_rfl) ?_
  refine Internal.W.cp (hw (d+1) _ _ P2 l2 s2 g _ (by lia) h2 (by lia) hg) (by kernel_rfl) (fun v r' z=>?_) (fun kd m z=>(GZ_exc z).elim)
  obtain ⟨P3,l3,s3,h3,e⟩:=z
  cases e
  refine Internal.W.cp (pick_ok (b:=2) (r:=[.lst l3,.lst [.int s3]]) O (by lia) hf h3.1 (by decide)) (by kernel_rfl) (fun v r' z=>?_) (fun kd m z=>(PickZ_exc z).elim)
  obtain ⟨y4,P4,hy4,hP4,e⟩:=z
  cases e
  refine lt2 ?_ ?_ y4 hy4
  ·refine Internal.W.aq (v:=.bool true) (by kernel_rfl) ?_
   refine Internal.W.a (v:=.none) (P:=l3.length≤sizeLine) (sizeM (by have:=h3.len;lia)) (by kernel_rfl) ?_
   exact W.fa (s':=blkSt d (.v (.int i)) P4 (l3++[wordV (.op .semi)]) s3) (by kernel_rfl) ⟨_,_,_,_,((h3.pool hP4).app (.op .semi) (fun e=>by injection e)).up (by simp only [w_lp,w_lb,w_rp,w_rb,w_se,w_ki,w_kw,w_kf,w_ke,w_id,w_nu];lia) (by lia),rfl⟩
  ·refine Internal.W.aq (v:=.bool false) (by kernel_rfl) ?_
   exact W.fa (s':=blkSt d (.v (.int i)) P4 l3 s3) (by kernel_rfl) ⟨_,_,_,_,(h3.pool hP4).up (by lia) (by lia),rfl⟩
 ·obtain ⟨x,P2,l2,s2,h2,rfl⟩:=hI
  refine Internal.W.a (v:=.none) (P:=l2.length≤sizeLine) (sizeM (by have:=h2.len;lia)) (by kernel_rfl) ?_
  exact W.rz (Z:=GZ fs A (L+1)) (v:=.none) (r:=gnR P2 (l2++[wordV (.op .rb)]) s2) (by kernel_rfl) ⟨_,_,_,(h2.app (.op .rb) (fun e=>by injection e)).up (by simp only [w_lp,w_lb,w_rp,w_rb,w_se,w_ki,w_kw,w_kf,w_ke,w_id,w_nu];lia) (by lia),rfl⟩
theorem op_step {m:Nat} (O:w.Ok) (hf:fs.length≤1000) (hr:∀ m',m=m'+1→OpC w fs m'∧WoC w fs m'):OpC w fs m:=by
 intro d A L P l s g bb hd h hL hg
 obtain ⟨g,rfl⟩:∃ g',g=g'+1:=⟨g - 1,by lia⟩
 refine O.fn (by lia) (by kernel_rfl) (.o4 fun a b c d=>by kernel_rfl) ?_
 have one:(1:Nat)≤sizeLine:=sizeM (by decide)
 have at0:∀ s:Int,(1:Nat)≤sizeLine∧((0:Int)≤0∧[V.int s][(0:Int).toNat]?=some (.int s)∨(0:Int)=-1∧∃ l',[V.int s]=l'++[.int s]):=fun s=>⟨one,.inl ⟨by decide,rfl⟩⟩
 refine Internal.W.a (v:=.int s) (at0 s) (by kernel_rfl) ?_
 refine Internal.W.aq (v:=.int (s - 1)) (by kernel_rfl) ?_
 refine Internal.W.a (v:=.none) (P:=((0:Int)≤0∧(0:Int)<(1:Nat))∧1≤sizeLine) ⟨⟨by decide,by decide⟩,one⟩ (by kernel_rfl) ?_
 have low:∀ t:Tr (Fl × Fst),rqC t=some (585,[.cell 0,.int 2],gnR P l (s - 1))→(∀ P' z,rsC t (.int (z:Nat)) (gnR P' l (s - 1))=opK w P' l (s - 1) d z)→WG w g (GZ fs A (L+1)) t:=fun t e1 e2=>by
  refine Internal.W.cp (pick_ok (b:=2) (r:=[.lst l,.lst [.int (s - 1)]]) O (by lia) hf h.1 (by decide)) e1 (fun v r' z=>?_) (fun kd m z=>(PickZ_exc z).elim)
  obtain ⟨y,P1,hy,hP,e⟩:=z
  cases e
  exact W.cut (e2 P1 y) (op_leaf hy (h.dec0.pool hP) hL)
 by_cases hd4:(d:Int)<4
 ·refine Internal.W.a (v:=.bool true) (P:=V.bool true=.bool (decide ((d:Int)<4))) (by rw [decide_eq_true hd4]) (by kernel_rfl) ?_
  refine Internal.W.a (v:=.int (s - 1)) (at0 (s - 1)) (by kernel_rfl) ?_
  by_cases hs:s - 1>0
  ·refine Internal.W.a (v:=.bool true) (P:=V.bool true=.bool (decide (s - 1>0))) (by rw [decide_eq_true hs]) (by kernel_rfl) ?_
   obtain ⟨m',rfl⟩:∃ m',m=m'+1:=⟨m - 1,by lia⟩
   obtain ⟨ho,hw⟩:=hr m' rfl
   obtain ⟨A',L',hA',hL',h'⟩:=h.dec hs
   refine Internal.W.cp (pick_ok (b:=9) (r:=[.lst l,.lst [.int (s - 1)]]) O (by lia) hf h.1 (by decide)) (by kernel_rfl) (fun v r' z=>?_) (fun kd m z=>(PickZ_exc z).elim)
   obtain ⟨y,P1,hy,hP,e⟩:=z
   cases e
   refine W.cut (t':=opK w P1 l (s - 1) d y) (by kernel_rfl) ?_
   have hI:=h'.pool hP
   refine lt9 ?_ ?_ ?_ ?_ ?_ ?_ ?_ ?_ ?_ y hy
   ·exact op_leaf (by decide) (h.dec0.pool hP) hL
   ·exact op_leaf (by decide) (h.dec0.pool hP) hL
   ·exact op_num O (by lia) hf (h.dec0.pool hP) hL
   ·exact op_call O hf hw (by lia) (by lia) hI hA' hL' hL
   ·exact op_br O hf hw (by lia) (by lia) hI hA' hL' hL
   ·exact op_blk O hf hw (by lia) (by lia) hI hA' hL' hL
   ·exact op_plus ho (by lia) (by lia) hI hA' hL' hL
   ·exact op_key O hf hw (by lia) (by lia) (by decide) hI hA' hL' hL
   ·exact op_key O hf hw (by lia) (by lia) (by decide) hI hA' hL' hL
  ·refine Internal.W.a (v:=.bool false) (P:=V.bool false=.bool (decide (s - 1>0))) (by rw [decide_eq_false hs]) (by kernel_rfl) ?_
   exact low _ (by kernel_rfl) (fun _ _=>by kernel_rfl)
 ·refine Internal.W.a (v:=.bool false) (P:=V.bool false=.bool (decide ((d:Int)<4))) (by rw [decide_eq_false hd4]) (by kernel_rfl) ?_
  exact low _ (by kernel_rfl) (fun _ _=>by kernel_rfl)
noncomputable def wosSt (d:Nat) (x:LV) (P l:List V) (s:Int):Fst:=⟨[("spare",.v (.cell 2)),("deep",.v (.int d)),("words",.v (.cell 1)),("pool",.v (.cell 0)),("step",x)],gnR P l s⟩
noncomputable def WosI (fs:List Int) (d A L i:Nat) (st:Fst):Prop:=∃ x P l s,GI true fs (A+4*i) (L+2*i) P l s∧st=wosSt d x P l s
theorem words_step {m:Nat} (O:w.Ok) (hf:fs.length≤1000) (ho:OpC w fs m):WoC w fs m:=by
 intro d A L P l s g bb hd h hL hg
 obtain ⟨g,rfl⟩:∃ g',g=g'+1:=⟨g - 1,by lia⟩
 refine O.fn (by lia) (by kernel_rfl) (.o4 fun a b c d=>by kernel_rfl) ?_
 refine Internal.W.cp (ho d A L P l s g _ hd h (by lia) (by lia)) (by kernel_rfl) (fun v r' z=>?_) (fun kd m z=>(GZ_exc z).elim)
 obtain ⟨P1,l1,s1,h1,e⟩:=z
 cases e
 refine Internal.W.cp (pick_ok (b:=4) (r:=[.lst l1,.lst [.int s1]]) O (by lia) hf h1.1 (by decide)) (by kernel_rfl) (fun v r' z=>?_) (fun kd m z=>(PickZ_exc z).elim)
 obtain ⟨y,P2,hy,hP,e⟩:=z
 cases e
 have hy1:V.int ((y - 1:Nat):Nat)=.int (if (y:Int) - 1>0 then (y:Int) - 1 else 0):=by
  congr 1
  split<;>lia
 refine Internal.W.aq (v:=.int ((y:Int) - 1)) (by kernel_rfl) ?_
 refine Internal.W.a (v:=.int ((y - 1:Nat):Nat)) hy1 (by kernel_rfl) ?_
 have hy60:-(2 ^ 60:Int)≤((y - 1:Nat):Int)∧((y - 1:Nat):Int)≤2 ^ 60:=by lia
 refine Internal.W.a (v:=.none) hy60 (by kernel_rfl) ?_
 refine Internal.W.f (n:=((y - 1:Nat):Int).toNat) (s:=wosSt d .un P2 l1 s1) (fun i st=>WosI fs d A (L+1) i st) (by kernel_rfl) ⟨.un,_,_,_,(h1.pool hP).up (by lia) (by lia),rfl⟩ (fun i st hi hI=>?_) (fun st hI=>?_)
 ·obtain ⟨x,P3,l3,s3,h3,rfl⟩:=hI
  have hi3:i<y - 1:=by lia
  refine Internal.W.cp (pick_ok (b:=2) (r:=[.lst l3,.lst [.int s3]]) O (by lia) hf h3.1 (by decide)) (by kernel_rfl) (fun v r' z=>?_) (fun kd m z=>(PickZ_exc z).elim)
  obtain ⟨y4,P4,hy4,hP4,e⟩:=z
  cases e
  have h0:l3.length≤sizeLine:=sizeM (by have:=h3.len;lia)
  refine lt2 ?_ ?_ y4 hy4
  ·refine Internal.W.a (v:=.str "+") (P:=(0:Int)≤(0:Nat)∧((0:Nat):Int)<2 ^ 62∧∃ cp,(("+*" : Str).cps)[((0:Nat):Int).toNat]?=some cp∧V.str "+" = .str ⟨#[cp]⟩) ⟨by decide,by decide,_,rfl,rfl⟩ (by kernel_rfl) ?_
   refine Internal.W.a (v:=.none) h0 (by kernel_rfl) ?_
   refine Internal.W.a (v:=.int (d+1:Nat)) (P:=V.int (d+1:Nat)=.int ((d:Int)+1)) (by simp) (by kernel_rfl) ?_
   refine Internal.W.cp (ho (d+1) _ _ P4 (l3++[wordV (.op .plus)]) s3 g _ (by lia) ((h3.pool hP4).app (.op .plus) (fun e=>by injection e)) (by lia) (by lia)) (by kernel_rfl) (fun v r' z=>?_) (fun kd m z=>(GZ_exc z).elim)
   obtain ⟨P5,l5,s5,h5,e⟩:=z
   cases e
   exact W.fa (s':=wosSt d (.v (.int i)) P5 l5 s5) (by kernel_rfl) ⟨_,_,_,_,h5.up (by simp only [w_pl];lia) (by lia),rfl⟩
  ·refine Internal.W.a (v:=.str "*") (P:=(0:Int)≤(1:Nat)∧((1:Nat):Int)<2 ^ 62∧∃ cp,(("+*" : Str).cps)[((1:Nat):Int).toNat]?=some cp∧V.str "*" = .str ⟨#[cp]⟩) ⟨by decide,by decide,_,rfl,rfl⟩ (by kernel_rfl) ?_
   refine Internal.W.a (v:=.none) h0 (by kernel_rfl) ?_
   refine Internal.W.a (v:=.int (d+1:Nat)) (P:=V.int (d+1:Nat)=.int ((d:Int)+1)) (by simp) (by kernel_rfl) ?_
   refine Internal.W.cp (ho (d+1) _ _ P4 (l3++[wordV (.op .star)]) s3 g _ (by lia) ((h3.pool hP4).app (.op .star) (fun e=>by injection e)) (by lia) (by lia)) (by kernel_rfl) (fun v r' z=>?_) (fun kd m z=>(GZ_exc z).elim)
   obtain ⟨P5,l5,s5,h5,e⟩:=z
   cases e
   exact W.fa (s':=wosSt d (.v (.int i)) P5 l5 s5) (by kernel_rfl) ⟨_,_,_,_,h5.up (by simp only [w_st];lia) (by lia),rfl⟩
 ·obtain ⟨x,P3,l3,s3,h3,rfl⟩:=hI
  exact W.rz (Z:=GZ fs (A+8) (L+5)) (v:=.none) (r:=gnR P3 l3 s3) (by kernel_rfl) ⟨_,_,_,h3.up (by lia) (by lia),rfl⟩
theorem gen_all (O:w.Ok) (hf:fs.length≤1000):∀ m,OpC w fs m∧WoC w fs m
 | 0=>⟨op_step O hf (fun _ e=>by injection e),words_step O hf (op_step O hf (fun _ e=>by injection e))⟩
 | m+1=>
  have h:OpC w fs (m+1):=op_step O hf (fun m' e=>by (injection e with e1;subst e1);exact gen_all O hf m)
  ⟨h,words_step O hf h⟩
theorem words_ok (O:w.Ok) (hg:13≤g) (hf:fs.length≤1000) (h:GI bb fs A L P l s) (hL:L≤900):GoodP w.e g 604 [.cell 0,.cell 1,.int 0,.cell 2] (gnR P l s) (GZ fs (A+8) (L+5)):=(gen_all O hf 4).2 0 A L P l s g _ (by decide) h hL hg
end
end
end Internal
end
section
namespace Internal
open PySem PySem.W PyProof.Rows
section
section
variable {w:Wo} {g:Nat} {r:List Root}
noncomputable def fits:Nat→Tree→Prop
 | 0,_=>False
 | h+1,.call ts=>ts.length≤1000∧∀ t ∈ ts,fits h t
 | h+1,.fn names b=>names.length≤1000∧1≤h∧fits h b
 | _+1,_=>True
theorem toRs_at:∀ {ts:List Tree} {i:Nat} {x:V},(toRs ts)[i]?=some x→∃ t,ts[i]?=some t∧x=toR t:=by
 intro ts
 induction ts with
 | nil=>intro i x h;injection h
 | cons t ts ih=>
  intro i
  exact n1 (fun h=>⟨t,rfl,(Option.some.inj h).symm⟩) (fun n h=>ih (i:=n) h) i
theorem toSs_at:∀ {ts:List Tree} {i:Nat} {x:V},(toSs ts)[i]?=some x→∃ t,ts[i]?=some t∧x=toS t:=by
 intro ts
 induction ts with
 | nil=>intro i x h;injection h
 | cons t ts ih=>
  intro i
  exact n1 (fun h=>⟨t,rfl,(Option.some.inj h).symm⟩) (fun n h=>ih (i:=n) h) i
theorem plain_sym (O:w.Ok) (hg:3≤g) (s:Str):GoodC w.e g 590 [symV s] r (.ok (.tup [.str "name",.str s]) r):=O.fn0 hg (by kernel_rfl) (.o1 fun a=>by kernel_rfl) (by kernel_rfl)
theorem plain_mis (O:w.Ok) (hg:3≤g):GoodC w.e g 590 [misV] r (.ok (.tup [.str "missing"]) r):=O.fn0 hg (by kernel_rfl) (.o1 fun a=>by kernel_rfl) (by kernel_rfl)
theorem plain_nul (O:w.Ok) (hg:3≤g):GoodC w.e g 590 [nulV] r (.ok nulT r):=O.fn0 hg (by kernel_rfl) (.o1 fun a=>by kernel_rfl) (by kernel_rfl)
theorem plain_num (O:w.Ok) (hg:3≤g) (n:Int):GoodC w.e g 590 [toR (.num n)] r (.ok (toS (.num n)) r):=by
 refine GoodP.up (O.fn (g:=2) (by decide) (by kernel_rfl) (.o1 fun a=>by kernel_rfl) ?_) hg
 exact Internal.W.a (v:=.none) (P:=1≤sizeLine) (sizeM (by decide)) (by kernel_rfl) (Internal.W.rf (by kernel_rfl))
theorem plain_call (O:w.Ok) (hg:3≤g) {xs ys tags:List V} (hx:xs.length≤1000) (hy:ys.length=xs.length) (ht:tags.length≤1000) (h:∀ (i:Nat) (x y:V),xs[i]?=some x→ys[i]?=some y→GoodC w.e g 590 [x] r (.ok y r)):GoodC w.e (g+1) 590 [callV (.lst xs) (.lst tags)] r (.ok (.tup [.str "call",.lst ys,.lst tags]) r):=by
 refine O.fn (by lia) (by kernel_rfl) (.o1 fun a=>by kernel_rfl) ?_
 refine Internal.W.a (v:=.none) (P:=xs.length≤sizeLine) (sizeM (by lia)) (by kernel_rfl) ?_
 refine W.cm (ys:=ys) (l:=xs) (r:=r) (by kernel_rfl) hy (fun i x y h1 h2=>?_) ?_
 ·exact Internal.W.c (h i x y h1 h2) (by kernel_rfl) (Internal.W.r (a:=(y,⟨[("item",.v x)],r⟩)) (by kernel_rfl) ⟨rfl,rfl⟩)
 ·exact Internal.W.a (v:=.none) (P:=tags.length≤sizeLine) (sizeM (by lia)) (by kernel_rfl) (Internal.W.rf (by kernel_rfl))
theorem rep_at {α:Type} {n i:Nat} {a x:α} (h:(List.replicate n a)[i]?=some x):x=a:=by
 simp [List.getElem?_replicate] at h;exact h.2.symm
theorem plain_pl (O:w.Ok) (hg:3≤g) {names:List Str} (hn:names.length≤1000):GoodC w.e (g+1) 590 [plV names] r (.ok (.tup [.str "pairlist",.lst (List.replicate names.length (.tup [.str "missing"])),.lst (names.map .str)]) r):=by
 refine O.fn (by lia) (by kernel_rfl) (.o1 fun a=>by kernel_rfl) ?_
 have h0:(List.replicate names.length misV).length≤sizeLine:=sizeM (by simp;lia)
 have h1:(names.map V.str).length≤sizeLine:=sizeM (by simp;lia)
 refine Internal.W.a (v:=.none) h0 (by kernel_rfl) ?_
 refine W.cm (ys:=List.replicate names.length (.tup [.str "missing"])) (l:=List.replicate names.length misV) (r:=r) (by kernel_rfl) (by simp) (fun i x y h1 h2=>?_) ?_
 ·rw [rep_at h1,rep_at h2]
  exact Internal.W.c (plain_mis (r:=r) O hg) (by kernel_rfl) (Internal.W.r (a:=(.tup [.str "missing"],⟨[("item",.v misV)],r⟩)) (by kernel_rfl) ⟨rfl,rfl⟩)
 ·exact Internal.W.a (v:=.none) h1 (by kernel_rfl) (Internal.W.rf (by kernel_rfl))
theorem plain_ok (O:w.Ok):∀ (h:Nat) (t:Tree),fits h t→∀ g,3+h≤g→GoodC w.e g 590 [toR t] r (.ok (toS t) r):=by
 intro h
 induction h with
 | zero=>exact fun t z=>z.elim
 | succ h ih=>
 intro t z g hg
 induction t using Tree.casesOn
 case name s=>exact plain_sym O (by lia) s
 case num n=>exact plain_num O (by lia) n
 case call ts=>
  obtain ⟨g,rfl⟩:∃ g',g=g'+1:=⟨g - 1,by lia⟩
  refine plain_call (ys:=toSs ts) O (by lia) (by rw [toRs_len];exact z.1) (by rw [toRs_len,toSs_len]) (by rw [List.length_replicate];exact z.1) fun i x y hx hy=>?_
  obtain ⟨t,e1,rfl⟩:=toRs_at hx
  obtain ⟨t',e2,rfl⟩:=toSs_at hy
  rw [Option.some.inj (e1.symm.trans e2)]
  exact ih t' (z.2 t' (List.mem_of_getElem? e2)) g (by lia)
 case fn names b=>
  obtain ⟨h1,h2,h3⟩:=z
  obtain ⟨g,rfl⟩:∃ g',g=g'+1:=⟨g - 1,by lia⟩
  refine plain_call (ys:=[.tup [.str "name",.str "function"],.tup [.str "pairlist",.lst (List.replicate names.length (.tup [.str "missing"])),.lst (names.map .str)],toS b,nulT]) O (by lia) (show 4≤1000 by decide) rfl (by rw [List.length_replicate];decide) fun i=>n4 (fun x y hx hy=>?_) (fun x y hx hy=>?_) (fun x y hx hy=>?_) (fun x y hx hy=>?_) (fun n x y hx hy=>noneE hx) i
  ·exact Option.some.inj hx▸Option.some.inj hy▸plain_sym O (by lia) _
  ·obtain ⟨g,rfl⟩:∃ g',g=g'+1:=⟨g - 1,by lia⟩
   exact Option.some.inj hx▸Option.some.inj hy▸plain_pl O (by lia) h1
  ·exact Option.some.inj hx▸Option.some.inj hy▸ih b h3 g (by lia)
  ·exact Option.some.inj hx▸Option.some.inj hy▸plain_nul O (by lia)
end
end
end Internal
end
section
namespace Internal
open PySem
theorem fits_up:∀ (h:Nat) (t:Tree),fits h t→∀ h',h≤h'→fits h' t:=by
 intro h
 induction h with
 | zero=>exact fun t z=>z.elim
 | succ h ih=>
 intro t z h' hh
 obtain ⟨h',rfl⟩:∃ k,h'=k+1:=⟨h' - 1,by lia⟩
 have hh:=Nat.le_of_succ_le_succ hh
 induction t using Tree.casesOn
 case call ts=>exact ⟨z.1,fun t ht=>ih t (z.2 t ht) h' hh⟩
 case fn names b=>exact ⟨z.1,Nat.le_trans z.2.1 hh,ih b z.2.2 h' hh⟩
 all_goals trivial
noncomputable def FA (p q:Nat) (t:Tree):Prop:=fits (q - p) t
section
variable {p q p' q':Nat} {t a b c:Tree} {s:Str} {ts:List Tree}
theorem FA.up (h:FA p q t) (hp:p'≤p) (hq:q≤q'):FA p' q' t:=fits_up _ _ h _ (Nat.le_trans (Nat.sub_le_sub_right hq p) (Nat.sub_le_sub_left hp q'))
theorem FA.up1 (h:FA p q t) (hq:q+1≤q'):FA (p+1) q' t:=fits_up _ _ h _ (Nat.succ_sub_succ q p▸Nat.sub_le_sub_right hq (p+1))
theorem FA.call (h:p+1≤q) (hl:ts.length≤1000) (ht:∀ t ∈ ts,FA (p+1) q t):FA p q (.call ts):=by
 unfold FA
 rw [sub_s h]
 exact ⟨hl,ht⟩
theorem FA.fn {names:List Str} (h:p+1+1≤q) (hl:names.length≤1000) (ht:FA (p+1) q t):FA p q (.fn names t):=by
 unfold FA
 rw [sub_s (Nat.le_of_succ_le h)]
 exact ⟨hl,Nat.sub_pos_of_lt h,ht⟩
theorem FA.nm (h:p+1≤q):FA p q (.name s):=by
 unfold FA
 rw [sub_s h];trivial
theorem FA.num {m:Int} (h:p+1≤q):FA p q (.num m):=by
 unfold FA
 rw [sub_s h];trivial
theorem FA.c2 (h:p+1+1≤q) (ha:FA (p+1) q a):FA p q (.call [.name s,a]):=.call (Nat.le_of_succ_le h) (by simp) (by simp [ha,FA.nm h])
theorem FA.c3 (h:p+1+1≤q) (ha:FA (p+1) q a) (hb:FA (p+1) q b):FA p q (.call [.name s,a,b]):=.call (Nat.le_of_succ_le h) (by simp) (by simp [ha,hb,FA.nm h])
theorem FA.c4 (h:p+1+1≤q) (ha:FA (p+1) q a) (hb:FA (p+1) q b) (hc:FA (p+1) q c):FA p q (.call [.name s,a,b,c]):=.call (Nat.le_of_succ_le h) (by simp) (by simp [ha,hb,hc,FA.nm h])
end
noncomputable def FitR (md:Md) (t:Tree) (q:Nat):Prop:=match md with
 | .expr p _ _=>FA p q t
 | .side p _=>FA p q t
 | .prim p _=>FA p q t
 | .loop p _ _ t0=>∀ s,s+1≤p→FA s p t0→FA s q t
 | .foll p _ t0=>∀ s,s+1≤p→FA s p t0→FA s q t
 | .args p=>∃ ts,t=.call ts∧ts.length≤1∧∀ x ∈ ts,FA p q x
 | .cond p _ _=>FA p q t
 | .fn p _=>FA p q t
 | .block p ts=>∀ s,s+1≤p→ts.length≤p→(∀ x ∈ ts,FA (s+1) p x)→FA s q t
 | .prog p ts=>ts.length≤p→(∀ x ∈ ts,FA 0 p x)→∃ ts',t=.call ts'∧ts'.length≤q∧∀ x ∈ ts',FA 0 q x
theorem snoc_all {ts:List Tree} {t0:Tree} {Z:Tree→Prop} (h:∀ x ∈ ts,Z x) (h0:Z t0):∀ x ∈ ts++[t0],Z x:=fun x hx=>(List.mem_append.mp hx).elim (h x) fun hx=>List.mem_singleton.mp hx▸h0
theorem snoc_len {ts:List Tree} {t0:Tree} {p q:Nat} (h:ts.length≤p) (hq:p+1≤q):(ts++[t0]).length≤q:=by
 rw [List.length_append];exact Nat.le_trans (Nat.succ_le_succ h) hq
section
variable {tk:Nat→Tk} {n:Nat}
structure FitX (tk:Nat→Tk) (n f:Nat):Prop where
 hn:n≤900
 nx:∀ {p w},p<n→(tk p).wd=w→w≠.eof→p+1<n
 pl:∀ {md1 t q},P tk f md1=some (.ok t q)→md1.pos<n→md1.lo≤q∧q<n
 sq:∀ {md1 t q},P tk f md1=some (.ok t q)→md1.pos<n→FitR md1 t q
noncomputable def FitG (tk:Nat→Tk) (n f:Nat) (md:Md):Prop:=∀ r,P tk f md=some r→md.pos<n→∀ t q,r=.ok t q→FitR md t q
variable {f p:Nat} {k:Ctx}
theorem fit_expr {lv:Nat} (X:FitX tk n f):FitG tk n (f+1) (.expr p k lv):=fun r h hp t q hr=>
 P_expr h (fun _ _ e=>badE e hr) fun t0 q1 h1 h2=>have a:=X.pl h1 hp;X.sq (okE h2 hr) a.2 p a.1 (X.sq h1 hp)
theorem fit_loop {lv:Nat} {t0:Tree} (X:FitX tk n f):FitG tk n (f+1) (.loop p k lv t0):=fun r h hp t q hr=>
 P_loop h (fun _ e=>by cases e.symm.trans hr;exact fun _ _ h=>h) (fun _ _ _ _ _ e=>badE e hr) fun o u q1 h0 _ h1 h2 s hs hf=>
  have p1:=X.nx hp h0 opE
  have a:=X.pl h1 p1
  have l:p+1≤q1:=Nat.le_of_succ_le a.1
  X.sq (okE h2 hr) a.2 s (Nat.le_trans hs (Nat.le_of_succ_le l)) (.c3 (Nat.le_trans (Nat.succ_le_succ hs) l) (hf.up1 l) ((X.sq h1 p1).up (Nat.le_succ_of_le hs) (Nat.le_refl _)))
theorem fit_side (X:FitX tk n f):FitG tk n (f+1) (.side p k):=fun r h hp t q hr=>
 P_side h (fun _ _ _ e=>badE e hr) (fun t0 q1 h0 h1 e=>by
  cases e.symm.trans hr
  have p1:=X.nx hp h0 opE
  exact .c2 (X.pl h1 p1).1 (X.sq h1 p1)) (fun _ _ _ e=>badE e hr) fun t0 q1 h0 h1 h2=>have a:=X.pl h1 hp;X.sq (okE h2 hr) a.2 p a.1 (X.sq h1 hp)
theorem fit_prim (X:FitX tk n f):FitG tk n (f+1) (.prim p k):=fun r h hp t q hr=>
 P_prim h (fun m h0 e=>by cases e.symm.trans hr;exact .num (Nat.le_refl _)) (fun m h0 e=>by cases e.symm.trans hr;exact .nm (Nat.le_refl _)) (fun _ _ _ e=>badE e hr) (fun _ _ _ _ _ e=>badE e hr)
  (fun t0 q1 h0 h1 h2 e=>by
   cases e.symm.trans hr
   have p1:=X.nx hp h0 opE
   exact .c2 (Nat.le_succ_of_le (X.pl h1 p1).1) ((X.sq h1 p1).up (Nat.le_refl _) (Nat.le_succ _)))
  (fun md h0 h1=>by
   rw [hr] at h1
   rcases h0 with ⟨h0,rfl⟩ | ⟨h0,rfl⟩ | ⟨h0,rfl⟩ | ⟨h0,rfl⟩
   ·exact X.sq h1 (X.nx hp h0 opE) p (Nat.le_refl _) (Nat.zero_le _) (fun x hx=>nomatch hx)
   all_goals exact FA.up (X.sq h1 (X.nx hp h0 keyE)) (Nat.le_succ _) (Nat.le_refl _))
  (fun _ e=>badE e hr)
theorem fit_foll {t0:Tree} (X:FitX tk n f):FitG tk n (f+1) (.foll p k t0):=fun r h hp t q hr=>
 P_foll h (fun _ e=>by cases e.symm.trans hr;exact fun _ _ h=>h) (fun _ _ _ _ e=>badE e hr) fun a1 q1 h0 hj h1 h2 s hs hf=>by
  have p1:=X.nx hp h0 opE
  have a:=X.pl h1 p1
  have l:p+1≤q1:=Nat.le_of_succ_le a.1
  obtain ⟨ts,rfl,hl,ht⟩:=X.sq h1 p1
  exact X.sq (okE h2 hr) a.2 s (Nat.le_trans hs (Nat.le_of_succ_le l)) (.call (Nat.le_trans hs (Nat.le_of_succ_le l)) (Nat.le_trans (Nat.succ_le_succ hl) (by decide)) fun x hx=>by
   rcases List.mem_cons.mp hx with rfl | hx
   ·exact hf.up1 l
   ·exact (ht x hx).up (Nat.le_succ_of_le hs) (Nat.le_refl _))
theorem fit_args (X:FitX tk n f):FitG tk n (f+1) (.args p):=fun r h hp t q hr=>
 P_args h (fun h0 e=>by (injection (e.symm.trans hr) with e1;subst e1);exact ⟨[],rfl,Nat.zero_le _,fun x hx=>nomatch hx⟩) (fun _ _ _ e=>badE e hr) (fun _ _ _ _ _ e=>badE e hr) fun a1 q1 h0 h1 h2 e=>by
  cases e.symm.trans hr
  exact ⟨[a1],rfl,Nat.le_refl _,fun x hx=>List.mem_singleton.mp hx▸(X.sq h1 hp).up (Nat.le_refl _) (Nat.le_succ _)⟩
theorem fit_cond {bb:Bool} (X:FitX tk n f):FitG tk n (f+1) (.cond p k bb):=fun r h hp t q hr=>
 P_cond h (fun _ e=>badE e hr) (fun _ _ _ e=>badE e hr) (fun _ _ _ _ _ e=>badE e hr) (fun _ _ _ _ _ _ _ e=>badE e hr) (fun a1 q1 e1 q2 h0 h1 h2 h3 h4 e=>by
   cases e.symm.trans hr
   have p1:=X.nx hp h0 opE
   have a:=X.pl h1 p1
   have p2:=X.nx a.2 h2 opE
   have b:=X.pl h3 p2
   have l:q1≤q:=Nat.le_of_succ_le (Nat.le_of_succ_le b.1)
   exact .c3 (Nat.le_trans a.1 l) ((X.sq h1 p1).up (Nat.le_refl _) l) ((X.sq h3 p2).up (Nat.le_succ_of_le (Nat.le_of_succ_le a.1)) (Nat.le_refl _)))
  (fun _ _ _ _ _ _ _ _ _ _ _ _ _ e=>badE e hr) fun a1 q1 e1 q2 e2 q3 h0 h1 h2 h3 _ h4 h5 h6 e=>by
   cases e.symm.trans hr
   have p1:=X.nx hp h0 opE
   have a:=X.pl h1 p1
   have p2:=X.nx a.2 h2 opE
   have b:=X.pl h3 p2
   have p3:=X.nx b.2 h4 keyE
   have c:=X.pl h6 p3
   have l:q2≤q:=Nat.le_of_succ_le (Nat.le_of_succ_le c.1)
   have l1:q1≤q2:=Nat.le_of_succ_le (Nat.le_of_succ_le b.1)
   have l2:p+1≤q1+1:=Nat.le_succ_of_le (Nat.le_of_succ_le a.1)
   exact .c4 (Nat.le_trans a.1 (Nat.le_trans l1 l)) ((X.sq h1 p1).up (Nat.le_refl _) (Nat.le_trans l1 l)) ((X.sq h3 p2).up l2 l) ((X.sq h6 p3).up (Nat.le_trans l2 (Nat.succ_le_succ l1)) (Nat.le_refl _))
theorem fit_fn (X:FitX tk n f):FitG tk n (f+1) (.fn p k):=fun r h hp t q hr=>
 P_fn h (fun _ e=>badE e hr) (fun _ _ _ e=>badE e hr) (fun _ _ _ _ e=>badE e hr) fun names q1 r' h0 h1 h2 h3 e=>by
  have hr':=e.symm.trans hr
  cases r' with
  | bad q2=>exact by injection hr'
  | ok e1 q2=>
   cases hr'
   have p1:=X.nx hp h0 opE
   have hq:q1<n∧p+1≤q1∧names.length≤1:=by
    rcases h1 with ⟨rfl,rfl⟩ | ⟨s,rfl,rfl,h1⟩
    ·exact ⟨p1,Nat.le_refl _,Nat.zero_le _⟩
    ·exact ⟨X.nx p1 h1 (fun e=>by injection e),Nat.le_succ _,Nat.le_refl _⟩
   have p2:=X.nx hq.1 h2 opE
   have a:=X.pl h3 p2
   exact .fn (Nat.le_trans (Nat.succ_le_succ hq.2.1) (Nat.le_of_succ_le a.1)) (Nat.le_trans hq.2.2 (by decide)) ((X.sq h3 p2).up (Nat.le_succ_of_le hq.2.1) (Nat.le_refl _))
theorem fit_block {ts:List Tree} (X:FitX tk n f):FitG tk n (f+1) (.block p ts):=fun r h hp t q hr=>
 P_block h (fun h0 e=>by
   cases e.symm.trans hr
   intro s hs hl ht
   refine .call (Nat.le_succ_of_le hs) (Nat.le_trans (Nat.succ_le_succ hl) (Nat.le_trans (Nat.succ_le_of_lt hp) (Nat.le_trans X.hn (by decide)))) fun x hx=>?_
   rcases List.mem_cons.mp hx with rfl | hx
   ·exact .nm (Nat.succ_le_succ hs)
   ·exact (ht x hx).up (Nat.le_refl _) (Nat.le_succ _)) (fun h0 h1 s hs hl ht=>X.sq (okE h1 hr) (X.nx hp h0 opE) s (Nat.le_succ_of_le hs) (Nat.le_succ_of_le hl) fun x hx=>(ht x hx).up (Nat.le_refl _) (Nat.le_succ _))
  (fun _ _ _ _ e=>badE e hr) (fun _ _ _ _ _ _ e=>badE e hr) fun t0 q1 _ _ h1 _ h2 s hs hl ht=>
   have a:=X.pl h1 hp
   have l:p≤q1:=Nat.le_of_succ_le a.1
   X.sq (okE h2 hr) a.2 s (Nat.le_trans hs l) (snoc_len hl a.1) (snoc_all (fun x hx=>(ht x hx).up (Nat.le_refl _) l) ((X.sq h1 hp).up hs (Nat.le_refl _)))
theorem fit_prog {ts:List Tree} (X:FitX tk n f):FitG tk n (f+1) (.prog p ts):=fun r h hp t q hr=>
 P_prog h (fun h0 e=>by cases e.symm.trans hr;exact fun hl ht=>⟨_,rfl,hl,ht⟩) (fun _ _ _ e=>badE e hr) (fun _ _ _ _ _ _ e=>badE e hr)
  (fun t0 q1 _ h1 h0 h2 hl ht=>
   have a:=X.pl h1 hp
   have l:p≤q1:=Nat.le_of_succ_le a.1
   X.sq (okE h2 hr) (X.nx a.2 h0 opE) (snoc_len hl (Nat.le_succ_of_le a.1)) (snoc_all (fun x hx=>(ht x hx).up (Nat.le_refl _) (Nat.le_succ_of_le l)) ((X.sq h1 hp).up (Nat.zero_le _) (Nat.le_succ _))))
  fun t0 q1 _ h1 _ _ h2 hl ht=>
   have a:=X.pl h1 hp
   have l:p≤q1:=Nat.le_of_succ_le a.1
   X.sq (okE h2 hr) a.2 (snoc_len hl a.1) (snoc_all (fun x hx=>(ht x hx).up (Nat.le_refl _) l) ((X.sq h1 hp).up (Nat.zero_le _) (Nat.le_refl _)))
theorem P_fits (hn:n≤900) (heof:∀ p,p<n→(tk p).wd≠.eof→p+1<n):∀ f md,FitG tk n f md:=by
 intro f
 induction f with
 | zero=>intro md r h;exact by injection h
 | succ f ih=>
  intro md
  have X:FitX tk n f:=⟨hn,fun hp e hw=>heof _ hp (by rw [e];exact hw),fun h1 p1=>P_place heof f _ _ h1 p1,fun h1 p1=>ih _ _ h1 p1 _ _ rfl⟩
  induction md using Md.casesOn
  case expr=>exact fit_expr X
  case loop=>exact fit_loop X
  case side=>exact fit_side X
  case prim=>exact fit_prim X
  case foll=>exact fit_foll X
  case args=>exact fit_args X
  case cond=>exact fit_cond X
  case fn=>exact fit_fn X
  case block=>exact fit_block X
  case prog=>exact fit_prog X
end
theorem prog_fits {tk:Nat→Tk} {n:Nat} (hn:n≤900) (heof:∀ p,p<n→(tk p).wd≠.eof→p+1<n) (h0:0<n) {f:Nat} {t:Tree} {q:Nat} (h:P tk f (.prog 0 [])=some (.ok t q)):∃ ts,t=.call ts∧ts.length≤900∧∀ x ∈ ts,fits n x:=by
 have a:=(P_place heof f _ _ h h0).2
 obtain ⟨ts,e,hl,hx⟩:=P_fits hn heof f _ _ h h0 _ _ rfl (Nat.zero_le _) (fun x hx=>nomatch hx)
 exact ⟨ts,e,Nat.le_trans hl (Nat.le_trans (Nat.le_of_lt a) hn),fun x hm=>fits_up _ _ (hx x hm) _ (Nat.le_of_lt a)⟩
end Internal
end
section
namespace Internal
open PySem PySem.W PyProof.Rows
section
section
variable {w:Wo} {tk:Nat→Tk} {mk:Nat→Bool} {n:Nat}
noncomputable def lawA:Addr:=678
noncomputable def lawLoop (w:Wo) (s:Fst):Tr (Fl × Fst):=evS tabs (ev tabs 30) (fdOf w.e.g.K lawA).scope.names 40 (((bodyOf w.e.g.K lawA).drop 10).take 1) s
noncomputable def lawSt (tk:Nat→Tk) (n:Nat) (l:List V) (r:List Root):Fst:=⟨[("world",.v (.cell 0)),("tokens",.v (tokL tk n)),("due",.own l)],r⟩
noncomputable def LawQ (tk:Nat→Tk) (mk:Nat→Bool) (n:Nat) (res:Res) (s:Fst):Prop:=(∃ ts q,res=.ok (.call ts) q∧s=lawSt tk n (toSs ts) (wdS tk mk n q .none))∨(∃ qb l p',res=.bad qb∧s=lawSt tk n l (wdS tk mk n p' (badV (tk qb).wd qb)))
noncomputable def LawI (tk:Nat→Tk) (mk:Nat→Bool) (n:Nat) (res:Res) (m:Nat) (s:Fst):Prop:=
 (∃ q ts,q<n∧ts.length≤q∧SAt tk q .top [] [false]∧P tk m (.prog q ts)=some res∧s=lawSt tk n (toSs ts) (wdS tk mk n q .none))∨(m=0∧∃ qb l p',res=.bad qb∧s=lawSt tk n l (wdS tk mk n p' (badV (tk qb).wd qb)))
theorem law_loop (X:Sk w tk mk n) {f:Nat} {res:Res} {g:Nat} (h0:0<n) (hg:Wt tk n 0+17≤g) (h:P tk f (.prog 0 [])=some res) :
  Internal.W (GoodP w.e g) (fun _ _=>False) (lawLoop w (lawSt tk n [] (wdS tk mk n 0 .none))) fun q=>q.1=.next∧LawQ tk mk n res q.2:=by
 have hn:=X.n1
 have hA0:SAt tk 0 .top [] [false]:=⟨rfl,rfl,rfl,rfl⟩
 refine Internal.W.l (s:=lawSt tk n [] (wdS tk mk n 0 .none)) (LawI tk mk n res) f (by kernel_rfl) (.inl ⟨0,[],h0,Nat.le_refl _,hA0,h,rfl⟩) ?_
 rintro m s (⟨q,ts,hq,hl,hA,hP,rfl⟩ | ⟨rfl,qb,l,p',rfl,rfl⟩)
 ·obtain ⟨m,rfl⟩:∃ m',m=m'+1:=by cases m with | zero=>exact nomatch hP | succ m=>exact ⟨m,rfl⟩
  have iS:=is_ok (tk:=tk) (mk:=mk) X.ok (g:=g) (by lia) hn hq ";"
  have hll:(toSs ts).length≤sizeLine:=by rw [toSs_len];exact sizeM (by lia)
  have three:(3:Nat)≤sizeLine:=sizeM (by decide)
  have ce:∀ (t:Tr (Option Fl × Fst)) (Q:Option Fl × Fst→Prop) (x:Wd) (b:Bool),prA t (.str x.kd)=((3:Nat)≤sizeLine∧(0:Int)≤0∧[V.str x.kd,valS x,.bool b][(0:Int).toNat]?=some (.str x.kd))→Internal.W (GoodP w.e g) (fun _ _=>False) (rsA t (.str x.kd)) Q→Internal.W (GoodP w.e g) (fun _ _=>False) t Q:=fun t Q x b e h=>Internal.W.a ⟨three,by decide,rfl⟩ e h
  have turn:(tk q).wd≠.eof→∀ r2,P tk m (.expr q .top 0)=some r2→(∀ q2,r2=.bad q2→res=.bad q2)→(∀ t q2,r2=.ok t q2→((tk q2).wd≠.op .semi∧¬((tk q2).wd=.eof∨(tk q2).nl=true)∧res=.bad q2)∨((tk q2).wd=.op .semi∧P tk m (.prog (q2+1) (ts++[t]))=some res)∨((tk q2).wd≠.op .semi∧((tk q2).wd=.eof∨(tk q2).nl=true)∧P tk m (.prog q2 (ts++[t]))=some res)) →
    Internal.W (GoodP w.e g) (fun _ _=>False) (lpT (lawLoop w (lawSt tk n [] (wdS tk mk n 0 .none))) (lawSt tk n (toSs ts) (wdS tk mk n q .none))) (LQ (GoodP w.e g) (fun _ _=>False) (lawLoop w (lawSt tk n [] (wdS tk mk n 0 .none))) (LawI tk mk n res) (m+1) fun q=>q.1=.next∧LawQ tk mk n res q.2):=by
   intro hne r2 h2 hb ho
   refine Internal.W.a (v:=tokS (tk q).wd (tk q).nl) (tok_at (tk:=tk) hn hq) (by kernel_rfl) ?_
   refine ce _ _ (tk q).wd (tk q).nl (by kernel_rfl) ?_
   have cut:∀ (x:Wd) (b:Bool),x≠.eof→rsA (rsA (lpT (lawLoop w (lawSt tk n [] (wdS tk mk n 0 .none))) (lawSt tk n (toSs ts) (wdS tk mk n q .none))) (tokS x b)) (.str x.kd)=rsA (rsA (lpT (lawLoop w (lawSt tk n [] (wdS tk mk n 0 .none))) (lawSt tk n (toSs ts) (wdS tk mk n q .none))) nulT) (.str "id"):=fun x b hx=>by
    cases x with
    | eof=>exact absurd rfl hx
    | id s=>kernel_rfl
    | num s=>kernel_rfl
    | op s=>kernel_rfl
    | key s=>cases s<;>kernel_rfl
   refine W.cut (cut _ _ hne) ?_
   refine Internal.W.cp (spec_all X (m+1) m (Nat.lt_succ_self m) _ _ h2 [] [false] g hq hA (by lia) (by have:=Wt_le (tk:=tk) (n:=n) (Nat.zero_le q);lia)) (by kernel_rfl) (fun v r' z=>?_) (fun kd m z=>(SZ_exc z).elim)
   cases r2 with
   | bad q2=>
    obtain ⟨v',p',z⟩:=z
    cases z
    refine Internal.W.a (v:=.none) hll (by kernel_rfl) ?_
    refine Internal.W.c (is_bad (tk:=tk) (mk:=mk) (n:=n) (p:=p') (l:=badL (tk q2).wd q2) X.ok (by lia) ";") (by kernel_rfl) ?_
    exact Internal.W.la (s':=lawSt tk n (toSs ts++[v]) (wdS tk mk n p' (badV (tk q2).wd q2))) (by kernel_rfl) (Nat.succ_pos m) (.inr ⟨rfl,q2,_,p',hb q2 rfl,rfl⟩)
   | ok t q2=>
    cases z
    have hpl:=P_place X.heof m _ _ h2 hq
    have l2:q+1≤q2:=hpl.1
    have hE:=P_scan m _ _ h2 _ _ rfl .top [] [false] ⟨rfl,hA⟩
    have jS:=is_ok (tk:=tk) (mk:=mk) X.ok (g:=g) (by lia) hn hpl.2 ";"
    rw [isB_op] at jS
    have hmk:mk q2=(tk q2).nl:=by
     rw [X.mks q2 hpl.2,mark_end hE]
     cases (tk q2).nl<;>simp
    refine Internal.W.a (v:=.none) hll (by kernel_rfl) ?_
    have again:∀ q3 l',q+1≤q3→q3<n→SAt tk q3 .top [] [false]→P tk m (.prog q3 (ts++[t]))=some res→l'=toSs ts++[toS t]→LawI tk mk n res m (lawSt tk n l' (wdS tk mk n q3 .none)):=fun q3 l' a b c d e=>.inl ⟨q3,ts++[t],b,by simp;lia,c,d,by rw [e,toSs_app]⟩
    by_cases hs:(tk q2).wd=.op .semi
    ·rw [opIs_yes (s:=";") hs rfl] at jS
     refine Internal.W.c jS (by kernel_rfl) ?_
     have hq3:=X.heof q2 hpl.2 (by rw [hs];exact fun e=>by injection e)
     refine Internal.W.a (v:=.int (q2+1:Nat)) (P:=V.int (q2+1:Nat)=.int ((q2:Int)+1)) (by simp) (by kernel_rfl) ?_
     refine Internal.W.a (v:=.none) (P:=4≤1000) (by decide) (by kernel_rfl) ?_
     rcases ho t q2 rfl with ⟨h3,_⟩ | ⟨_,h3⟩ | ⟨h3,_⟩
     ·exact absurd hs h3
     ·exact Internal.W.la (s':=lawSt tk n (toSs ts++[toS t]) (wdS tk mk n (q2+1) .none)) (by kernel_rfl) (Nat.lt_succ_self m) (again (q2+1) _ (by lia) hq3 (hE.toSAt.step (.inr (.inr (.inl hs)))) h3 rfl)
     ·exact absurd hs h3
    ·rw [opIs_no (s:=";") hs rfl] at jS
     refine Internal.W.c jS (by kernel_rfl) ?_
     refine Internal.W.a (v:=tokS (tk q2).wd (tk q2).nl) (tok_at (tk:=tk) hn hpl.2) (by kernel_rfl) ?_
     refine ce _ _ (tk q2).wd (tk q2).nl (by kernel_rfl) ?_
     have go:((tk q2).wd=.eof∨(tk q2).nl=true)→LawI tk mk n res m (lawSt tk n (toSs ts++[toS t]) (wdS tk mk n q2 .none)):=fun hx=>by
      rcases ho t q2 rfl with ⟨_,h3,_⟩ | ⟨h3,_⟩ | ⟨_,_,h3⟩
      ·exact absurd hx h3
      ·exact absurd h3 hs
      ·exact again q2 _ (by lia) hpl.2 hE.toSAt h3 rfl
     have rest:(tk q2).wd≠.eof→∀ T:Tr (Option Fl × Fst),prA T (.bool (mk q2))=(((List.range n).map fun i=>V.bool (mk i)).length≤sizeLine∧((0:Int)≤(q2:Nat)∧((List.range n).map fun i=>V.bool (mk i))[((q2:Nat):Int).toNat]?=some (.bool (mk q2))∨((q2:Nat):Int)=-1∧∃ l',((List.range n).map fun i=>V.bool (mk i))=l'++[.bool (mk q2)])) →
       rtR (rsA T (.bool true))=some (none,lawSt tk n (toSs ts++[toS t]) (wdS tk mk n q2 .none))→rqC (rsA T (.bool false))=some (618,[.cell 0],wdS tk mk n q2 .none)→rtR (rsC (rsA T (.bool false)) nulT (wdS tk mk n q2 (badV (tk q2).wd q2)))=some (none,lawSt tk n (toSs ts++[toS t]) (wdS tk mk n q2 (badV (tk q2).wd q2))) →
       Internal.W (GoodP w.e g) (fun _ _=>False) T (LQ (GoodP w.e g) (fun _ _=>False) (lawLoop w (lawSt tk n [] (wdS tk mk n 0 .none))) (LawI tk mk n res) (m+1) fun q=>q.1=.next∧LawQ tk mk n res q.2):=fun hx T e1 e2 e3 e4=>by
      refine Internal.W.a (mark_at (mk:=mk) hn hpl.2) e1 ?_
      cases hb2:mk q2 with
      | true=>exact Internal.W.la e2 (Nat.lt_succ_self m) (go (.inr (by rw [← hmk];exact hb2)))
      | false=>
       refine Internal.W.c (sfail_ok (tk:=tk) (mk:=mk) X.ok (by lia) hn hpl.2) e3 ?_
       have hr:res=.bad q2:=by
        rcases ho t q2 rfl with ⟨_,_,h3⟩ | ⟨h3,_⟩ | ⟨_,h3,_⟩
        ·exact h3
        ·exact absurd h3 hs
        ·rcases h3 with h3 | h3
         ·exact absurd h3 hx
         ·rw [← hmk,hb2] at h3;injection h3
       exact Internal.W.la e4 (Nat.succ_pos m) (.inr ⟨rfl,q2,_,q2,hr,rfl⟩)
     cases hw:(tk q2).wd with
     | eof=>exact Internal.W.la (s':=lawSt tk n (toSs ts++[toS t]) (wdS tk mk n q2 .none)) (by kernel_rfl) (Nat.lt_succ_self m) (go (.inl hw))
     | id x=>exact rest (by rw [hw];exact fun e=>by injection e) _ (by kernel_rfl) (by kernel_rfl) (by kernel_rfl) (by kernel_rfl)
     | num x=>exact rest (by rw [hw];exact fun e=>by injection e) _ (by kernel_rfl) (by kernel_rfl) (by kernel_rfl) (by kernel_rfl)
     | op x=>exact rest (by rw [hw];exact fun e=>by injection e) _ (by kernel_rfl) (by kernel_rfl) (by kernel_rfl) (by kernel_rfl)
     | key x=>exact rest (by rw [hw];exact fun e=>by injection e) _ (by kernel_rfl) (by kernel_rfl) (by kernel_rfl) (by kernel_rfl)
  refine P_prog hP ?_ ?_ ?_ ?_ ?_
  ·intro h0 ee
   subst ee
   refine Internal.W.a (v:=tokS (tk q).wd (tk q).nl) (tok_at (tk:=tk) hn hq) (by kernel_rfl) ?_
   refine ce _ _ (tk q).wd (tk q).nl (by kernel_rfl) ?_
   rw [h0]
   refine Internal.W.le (by kernel_rfl) ?_
   exact Internal.W.r (a:=(.next,lawSt tk n (toSs ts) (wdS tk mk n q .none))) (by kernel_rfl) ⟨rfl,.inl ⟨_,_,rfl,rfl⟩⟩
  ·intro _ h0 h1 ee
   subst ee
   exact turn h0 _ h1 (fun q2 e=>by (injection e with e1;subst e1);rfl) (fun t q2 e=>by injection e)
  ·intro _ _ h0 h1 h2 h3 ee
   subst ee
   exact turn h0 _ h1 (fun q2 e=>by injection e) (fun t q2 e=>by cases e;exact .inl ⟨h2,h3,rfl⟩)
  ·intro _ _ h0 h1 h2 h3
   exact turn h0 _ h1 (fun q2 e=>by injection e) (fun t q2 e=>by cases e;exact .inr (.inl ⟨h2,h3⟩))
  ·intro _ _ h0 h1 h2 h3 h4
   exact turn h0 _ h1 (fun q2 e=>by injection e) (fun t q2 e=>by cases e;exact .inr (.inr ⟨h2,h3,h4⟩))
 ·refine Internal.W.le (by kernel_rfl) ?_
  exact Internal.W.r (a:=(.next,lawSt tk n l (wdS tk mk n p' (badV (tk qb).wd qb)))) (by kernel_rfl) ⟨rfl,.inr ⟨_,_,_,rfl,rfl⟩⟩
end
end
end Internal
end
section
namespace Internal
open PySem PySem.W PyProof.Rows PySem.Calls Builtin Builtin.ObjectAttr
noncomputable abbrev excBm:List Value:=[.ref 31,.type "Exception",.type "BaseException",.type "object"]
noncomputable abbrev excO:Obj:=excClassObj "ReadError" "ReadError" 51 50 [.ref 31] excBm true [] [] false none none (some (.ref 35)) none (some (.str "ReadError" 216)) (some (.str "ReadError" 224)) (some (.bool true)) "Exception.__new__"
section
variable {w:World} {b:Heap} {mg mb:Str→Option Value} {os:OsState}
theorem x_cls:(cfg w b mg mb os).K.lookup 51=some excO:=by kernel_rfl
theorem x_tail:tailIn (cfg w b mg mb os).K [.type "Exception",.type "BaseException",.type "object"] excBm=true:=by kernel_rfl
theorem x_init:findIn (cfg w b mg mb os).K (.ref 51) "__init__" = some (some (.ref 48)):=by kernel_rfl
theorem x_initfn:typeIn (cfg w b mg mb os).K (.ref 48)=some (.type "function"):=by kernel_rfl
theorem x_setattr:findIn (cfg w b mg mb os).K (.ref 51) "__setattr__" = some (some (.builtin "object.__setattr__")):=by kernel_rfl
theorem x_getattr:findIn (cfg w b mg mb os).K (.ref 51) "__getattribute__" = some (some (.builtin "BaseException.__getattribute__")):=by kernel_rfl
theorem x_nokind:findIn (cfg w b mg mb os).K (.ref 51) "kind" = some none:=by kernel_rfl
theorem x_noat:findIn (cfg w b mg mb os).K (.ref 51) "at" = some none:=by kernel_rfl
end
section
open Sem (wp)
variable {prog:Program} {w:World} {A:Around} {E:Value→Shared→Prop} {h:Heap} {g:Array GenState} {d:Drawn} {t:Nat} {os:OsState} {K:Frag}
theorem exc_type_call {rest:List Value} {fI:Addr} {Q:Fin→Shared→Prop} (X:K.In h) (hC:h.get? 51=some excO) (T:OwnTail h [.type "Exception",.type "BaseException",.type "object"] excBm)
  (hi:findIn K (.ref 51) "__init__" = some (some (.ref fI))) (hf:typeIn K (.ref fI)=some (.type "function"))
  (hq:∀ h' e,Heap.MadeExcOf h h' e (.ref 51) rest →
   wpAny (model prog w) A (call (.ref fI) (.ref e::rest)) (fun r s'=>r=.none∧Q (.done (.ret (.ref e))) s') E ⟨h',g,d,t,os⟩) (hrest:rest.length≤sizeLine) :
  wpAny (model prog w) A (Builtin.«type.__call__» ⟨.ref 51::rest,[]⟩) Q E ⟨h,g,d,t,os⟩:=by
 have F:=PySem.F.excBase_Exception
 have hB:([.type "Exception",.type "BaseException",.type "object"]:List Value).contains (.type "Exception")=true:=by decide
 repeat (first | with_reducible refine wpAny_loadPart_at hC ?_ | with_reducible refine wpAny_madeBy_exc hC ?_ | wp_step)
 refine codeAny_call_builtin_code (Code.quiet_builtin _ F.quiet) (wpAny_check_new_subU F hB T hC ?_)
 refine codeAny_exc_new_subU F hB F T hC ?_ hrest
 show wpAny _ _ _ _ _ _
 have hg:∀ b o,h.get? b=some o→((h.push { cls:=.type "tuple",data:=.seq rest.toArray }).push { cls:=.ref 51,data:=.fields #[.ref h.objs.size,.none,.none,.none,.bool false,.none] }).get? b=some o:=
  fun b o e=>Heap.get?_push_of_some _ (Heap.get?_push_of_some _ e)
 have hC₁:=hg _ _ hC
 have X₁:K.In ((h.push { cls:=.type "tuple",data:=.seq rest.toArray }).push { cls:=.ref 51,data:=.fields #[.ref h.objs.size,.none,.none,.none,.bool false,.none] }):=X.keeps hg
 have hget:((h.push { cls:=.type "tuple",data:=.seq rest.toArray }).push
   { cls:=.ref 51,data:=.fields #[.ref h.objs.size,.none,.none,.none,.bool false,.none] }).get? (h.objs.size+1)=some
   { cls:=.ref 51,data:=.fields #[.ref h.objs.size,.none,.none,.none,.bool false,.none] }:=by heap_get
 have hcC:(Value.ref 51::excBm).contains (.ref 51)=true:=by simp
 unfold isInstance
 repeat (first | with_reducible refine wpAny_loadPart_at hget ?_ | (with_reducible refine wpAny_isSubtype_exc hC₁ ?_;rw [hcC]) | wp_step)
 show wpAny _ _ (typeLookup (.ref 51) _) _ _ _
 refine (looks_findIn X₁ hi).here ?_
 refine wpAny_holding (wpAny_bind ?_)
 refine (bind_fn X₁ _ hf).here ?_
 refine wpAny_bind (wpAny_mono (hq _ (h.objs.size+1) ⟨hg,Heap.get?_none_of_le (Nat.le_succ _),h.objs.size,hget,Heap.get?_none_of_le (Nat.le_refl _),?_⟩) (fun r s' hr=>?_) fun _ _ x=>x)
 ·exact Heap.get?_push_of_some _ (Heap.get?_push_at rfl rfl)
 ·obtain ⟨rfl,hQ⟩:=hr
  wp_walk
  exact hQ
theorem exc_call {rest:List Value} {fI:Addr} {Q:Value→Shared→Prop} (X:K.In h) (hC:h.get? 51=some excO) (T:OwnTail h [.type "Exception",.type "BaseException",.type "object"] excBm)
  (hi:findIn K (.ref 51) "__init__" = some (some (.ref fI))) (hf:typeIn K (.ref fI)=some (.type "function"))
  (hq:∀ h' e,Heap.MadeExcOf h h' e (.ref 51) rest →
   wpAny (model prog w) (A.under (.builtin "type.__call__" ⟨.ref 51::rest,[]⟩)) (call (.ref fI) (.ref e::rest)) (fun r s'=>r=.none∧Q (.ref e) s') E ⟨h',g,d,t,os⟩) (hrest:rest.length≤sizeLine) :
  wpAny (model prog w) A (call (.ref 51) rest) Q E ⟨h,g,d,t,os⟩:=by
 have f1:=tc_lookup
 have f2:=tc_bind (.ref 51)
 have hT:(⟨h,g,d,t,os⟩:Shared).TypeIs (.ref 51) "type":=⟨_,hC,rfl⟩
 refine wpAny_call (codeAny_of_tree ?_)
 show wpAny _ _ (callAny (.ref 51) _) _ _ _
 repeat (any_goals (first | assumption | with_reducible refine wpAny_loadPart_at hC ?_ | wp_step))
 refine ⟨rfl,?_⟩
 exact codeAny_call_builtin_at (Code.quiet_builtin _ (by decide +kernel)) entry_typeCall (wpAny_check_type_call_sub hC (exc_type_call X hC T hi hf (fun h' e hm=>hq h' e hm) hrest))
end
theorem exc_passes (self:Value):refuseLoop self "__setattr__" [.type "Exception",.type "BaseException",.type "object"]=pure ():=by kernel_rfl
noncomputable def excCd:ClassData:={ name:="ReadError",bases:=[.ref 31],mro:=.ref 51::excBm,ns:=50,qualname:="ReadError",hasDict:=true,slotNames:=[],subclasses:=[],abstract:=false,collection:=none,hasDel:=false }
section
variable {prog:Program} {w:World} {A:Around} {E:Value→Shared→Prop} {s:Shared} {K:Frag} {x:Addr} {R:Result→Shared→Prop}
theorem exc_osa {ox:Obj} {od:Option Obj} {name:Str} {tk:Tok} {v:Value} (X:K.In s.heap) (hc:clsIn K 51=some excCd) (hmro:mroIn K 51 (.type "object")=some true) (I:PySem.W.InstAt s.heap x ox 51 od) (ht:findIn K (.ref 51) name=some none)
  (h:∀ b,wpAny (model prog w) A.in1 (storeInOwnDict (.ref x) (.ref 51) (.str name tk) name v b)
   (fun fin s'=>match fin with | .done f=>R (.ok f) s' | .again c'=>c'.quiet=true∧codeAny (model prog w) A c' R s') (fun e s'=>R (.error e) s') s) :
  codeAny (model prog w) A (.call (.builtin "object.__setattr__") ⟨[.ref x,.str name tk,v],[]⟩) R s:=by
 have SF:=PySem.F.store_object
 have sub:Looks (model prog w) s.heap (isInstance (.ref x) (.type "object")) true:=I.type.andThen (looks_mroIn X hmro)
 refine codeAny_call_builtin SF.slot.plain SF.entry (@check_slot (model prog w) _ _ s "object.__setattr__" "object" "__setattr__" (.ref x) [.str name tk,v] [] _ SF.kind SF.split sub (SF.args (.ref x) (.str name tk) v) ?_)
 have hm:Looks (model prog w) s.heap (mroOf (.ref 51)) (.ref 51::excBm):=(looks_clsIn X hc).andThen .now
 rw [osa_eq,refuse_eq]
 refine wpAny_bind (wpAny_bind (I.type.here (wpAny_bind (hm.here ?_))))
 rw [refuseLoop_ref,refuseLoop_ref,exc_passes]
 refine wpAny_pure (wpAny_bind (I.type.here (wpAny_bind ((looks_findIn X ht).here (wpAny_bind ?_)))))
 show wpAny _ _ (pure none) _ _ _
 exact wpAny_pure (h _)
theorem exc_set {ox:Obj} {od:Option Obj} {name:Str} {v:Value} {Q:Unit→Shared→Prop} (X:K.In s.heap) (hc:clsIn K 51=some excCd) (hmro:mroIn K 51 (.type "object")=some true) (I:PySem.W.InstAt s.heap x ox 51 od) (ht:findIn K (.ref 51) name=some none)
  (hs:findIn K (.ref 51) "__setattr__" = some (some (.builtin "object.__setattr__")))
  (h:∀ b,wpAny (model prog w) A.in1 (storeInOwnDict (.ref x) (.ref 51) (.str name s.toks) name v b)
   (fun fin s'=>match fin with | .done (.ret _)=>Q () s' | _=>False) (fun e s'=>E e s') { s with toks:=s.toks+1 }) :
  wpAny (model prog w) A (setAttr (.ref x) name v) Q E s:=by
 refine set_plain X I hs (exc_osa (s:={ s with toks:=s.toks+1 }) X hc hmro I ht fun b=>wpAny_mono (h b) (fun fin s' z=>?_) fun _ _ z=>z)
 rcases fin with (_ | _ | _ | _) | _<;>first | exact z | exact z.elim
theorem exc_store {A:Around} {Q:PySem.Fin→Shared→Prop} {d:Addr} {od:Obj} {es:List (Str × Value)} {name:Str} {tk:Tok} {v:Value} (hd:s.heap.get? d=some od) (hD:od.IsDictOf (PySem.strKind prog w) es) (hz:es.length≤1000)
  (h:∀ od' tk',od'.IsDictOf (PySem.strKind prog w) (stored es name v)→∀ h',Heap.SameBut d s.heap h'→h'.get? d=some od'→Q (.done (.ret .none)) { s with heap:=h',toks:=tk' }) :
  wpAny (model prog w) A (storeInDict d (.str name tk) name v) Q E s:=by
 have hnew:=putName_of (prog:=prog) (w:=w) hD name s.toks v
 obtain ⟨es',ep,hex,hdat,hks,hps,hnd⟩:=id hD
 have hfree:(Obj.putName name (PyData.keyHash w.params name) (.str name s.toks) v od).isFreed=false:=by
  obtain ⟨es2,ep2,_,hd2,_⟩:=hnew
  exact Obj.isFreed_of_dict hd2
 have hup:=Heap.get?_update_self (Obj.putName name (PyData.keyHash w.params name) (.str name s.toks) v) hd hfree
 refine wpAny_bind (wpAny_pure (wpAny_bind ?_))
 unfold nsSet
 refine wpAny_bind (wpAny_bind (wpAny_askSetting (wpAny_pure (wpAny_bind (wpAny_mkText (wpAny_bind (wpAny_loadPart hd ?_)))))))
 rw [hdat]
 dsimp only
 have cc:(!es'.any (·.key.isStr name)&&es'.any (·.refKey))=false:=by
  have:es'.any (·.refKey)=false:=by
   rw [Array.any_eq_false']
   intro e he
   obtain ⟨k,q1,_⟩:=hks e he
   obtain ⟨tt,q2⟩:=isStrOf_str q1
   simp [DictEntry.refKey,q2]
  rw [this,Bool.and_false]
 rw [aRefKeyMayBeTheName_at,cc]
 refine wpAny_updatePart hd ?_
 obtain ⟨es2,ep2,_,hd2,_,hp2,_⟩:=id hnew
 have hl2:es2.size≤sizeLine+1:=by
  have a1:=hp2.length
  have a2:es2.toList.length=es2.size:=by simp
  have a3:(stored es name v).length≤es.length+1:=by
   unfold stored;split<;>simp
  have:sizeLine=2 ^ 24:=rfl
  lia
 refine wpAny_bind (wpAny_lookBehind hup (by rw [hd2];exact pastItsLine_dict hl2) ?_)
 exact wpAny_pure (h _ _ hnew _ (Heap.SameBut.update ..) hup)
theorem exc_set1 {ox od:Obj} {d:Addr} {es:List (Str × Value)} {name:Str} {v:Value} {Q:Unit→Shared→Prop} (X:K.In s.heap) (hc:clsIn K 51=some excCd) (hmro:mroIn K 51 (.type "object")=some true)
  (hx:s.heap.get? x=some ox) (hcl:ox.cls=.ref 51) (hno:notCls ox=true) (hxd:ox.dict=some d) (hd:s.heap.get? d=some od) (hD:od.IsDictOf (PySem.strKind prog w) es) (hz:es.length≤1000) (ht:findIn K (.ref 51) name=some none)
  (hs:findIn K (.ref 51) "__setattr__" = some (some (.builtin "object.__setattr__")))
  (h:∀ od' tk',od'.IsDictOf (PySem.strKind prog w) (stored es name v)→∀ h',Heap.SameBut d s.heap h'→h'.get? d=some od'→Q () { s with heap:=h',toks:=tk' }) :
  wpAny (model prog w) A (setAttr (.ref x) name v) Q E s:=by
 obtain ⟨oc,odi,oda,osl⟩:=ox
 dsimp only at hcl hxd
 subst hcl hxd
 refine exc_set X hc hmro (od:=some od) ⟨hx,rfl,hno,hd⟩ ht hs fun b=>?_
 refine wpAny_bind (wpAny_pure (wpAny_bind (wpAny_bind (wpAny_loadPart hx (wpAny_bind (looks_clsIn X hc _ _ _ _ (fun _ _ e=>e) ?_))))))
 refine wpAny_pure (a:=some d) ?_
 exact exc_store (s:={ s with toks:=s.toks+1 }) hd hD hz h
theorem exc_set0 {ox:Obj} {name:Str} {v:Value} {Q:Unit→Shared→Prop} (X:K.In s.heap) (hc:clsIn K 51=some excCd) (hmro:mroIn K 51 (.type "object")=some true)
  (hx:s.heap.get? x=some ox) (hcl:ox.cls=.ref 51) {vs:Array Value} (hda:ox.data=.fields vs) (hxd:ox.dict=none) (ht:findIn K (.ref 51) name=some none)
  (hs:findIn K (.ref 51) "__setattr__" = some (some (.builtin "object.__setattr__")))
  (h:∀ od' tk',od'.IsDictOf (PySem.strKind prog w) (stored [] name v)→∀ h',(∀ b o,b≠x→s.heap.get? b=some o→h'.get? b=some o)→h'.get? x=some { ox with dict:=some s.heap.objs.size }→h'.get? s.heap.objs.size=some od'→Q () { s with heap:=h',toks:=tk' }) :
  wpAny (model prog w) A (setAttr (.ref x) name v) Q E s:=by
 obtain ⟨oc,odi,oda,osl⟩:=ox
 dsimp only at hcl hxd hda
 subst hcl hxd hda
 refine exc_set X hc hmro (od:=none) ⟨hx,rfl,rfl,trivial⟩ ht hs fun b=>?_
 refine wpAny_bind (wpAny_pure (wpAny_bind (wpAny_bind (wpAny_loadPart hx (wpAny_bind (looks_clsIn X hc _ _ _ _ (fun _ _ e=>e) ?_))))))
 have hpush:(s.heap.push { cls:=.type "dict",data:=.dict #[] }).get? x=some { cls:=.ref 51,dict:=none,data:=.fields vs,slots:=osl }:=Heap.get?_push_of_some _ hx
 have hne:x≠s.heap.objs.size:=Nat.ne_of_lt (Heap.lt_size hx)
 refine wpAny_bind (wpAny_alloc ?_)
 refine wpAny_bind (wpAny_update (s:={ s with heap:=s.heap.push { cls:=.type "dict",data:=.dict #[] },toks:=s.toks+1 }) hpush ?_)
 refine wpAny_pure (a:=some s.heap.objs.size) ?_
 have hD0:((s.heap.push { cls:=.type "dict",data:=.dict #[] }).update x fun o=>{ o with dict:=some s.heap.objs.size }).get? s.heap.objs.size=some { cls:=.type "dict",data:=.dict #[] }:=by
  rw [Heap.get?_update_other _ _ hne]
  exact Heap.get?_push_size _ rfl
 refine exc_store (s:={ s with heap:=(s.heap.push { cls:=.type "dict",data:=.dict #[] }).update x fun o=>{ o with dict:=some s.heap.objs.size },toks:=s.toks+1 }) (es:=[]) hD0 ⟨#[],0,⟨rfl,rfl,rfl⟩,rfl,(fun e he=>by simp at he),.nil,List.nodup_nil⟩ (by simp) ?_
 intro od' tk' hod h' hsb hget
 refine h od' tk' hod h' (fun b o hb e=>?_) ?_ hget
 ·have hb2:b≠s.heap.objs.size:=Nat.ne_of_lt (Heap.lt_size e)
  rw [hsb.2 b hb2,Heap.get?_update_other _ _ (Ne.symm hb)]
  exact Heap.get?_push_of_some _ e
 ·rw [hsb.2 x hne]
  exact Heap.get?_update_self _ hpush rfl
end
end Internal
end
section
namespace Internal
open PySem PySem.W PyProof.Rows PySem.Calls Builtin Builtin.ObjectAttr
section
variable {w:World} {b:Heap} {mg mb:Str→Option Value} {os:OsState}
theorem g_ReadError:nsIn (cfg w b mg mb os).K mainGlobals "ReadError" = some (some (.ref 51)):=by kernel_rfl
theorem x_cd:clsIn (cfg w b mg mb os).K 51=some excCd:=by kernel_rfl
theorem x_mro:mroIn (cfg w b mg mb os).K 51 (.type "object")=some true:=by kernel_rfl
theorem st_kind {k:Str} {v:Value}:stored [] k v=[(k,v)]:=rfl
theorem st_at {v u:Value}:stored ([("kind",v)]:List (Str × Value)) ("at" : Str) u=([("kind",v),("at",u)]:List (Str × Value)):=by kernel_rfl
theorem wpAny_rel {M:Model} {A:Around} {E:Value→Shared→Prop} {s:Shared} {vs ks:List Value} {Q:Unit→Shared→Prop} (h:Q () s):wpAny M A (release vs ks) Q E s:=fun Γ p hΓ=>by
 rw [Sem.wp_release];exact h
theorem asg_self {M:Model} {A:Around} {E:Value→Shared→Prop} {s:Shared} {env:Env} {mm:Str→Option Value} {L:Addr} {x y a:Str} {p1 p2 p3 pos:Pos} {v o:Value} {Q:Flow→Shared→Prop} (hk:env.scope.kind=.function) (hL:env.locals=L) (hx:env.kindOf x=some .local) (hy:env.kindOf y=some .local)
  (hns:s.heap.Ns L mm) (h1:mm x=some o) (h2:mm y=some v) (hdx:(x==("__debug__" : Str))=false) (hdy:(y==("__debug__" : Str))=false)
  (h:wpAny M A (setAttr o a v) (fun _ s'=>Q .next s') E s):wpAny M A (exec (.Assign [.Attribute (.Name x p1) a p2] (.Name y p3) pos) env) Q E s:=by
 show wpAny _ _ (standAt _ >>= fun _=>eval _ _ >>= fun v=>assign _ _ v >>= fun _=>pure Flow.next) _ _ _
 refine wpAny_bind (wpAny_standAt (wpAny_bind (wpAny_Name (wpAny_loadName_local hk hy (by rw [hL];exact hns) h2 (wpAny_bind ?_)) hdy)))
 show wpAny _ _ (holding [v] (eval _ env) >>= fun ov=>standAt _ >>= fun _=>holding [v,ov] (setAttr ov a v) >>= fun _=>release [v,ov] []) _ _ _
 refine wpAny_bind (wpAny_holding (wpAny_Name (wpAny_loadName_local hk hx (by rw [hL];exact hns) h1 ?_) hdx))
 exact wpAny_bind (wpAny_standAt (wpAny_bind (wpAny_holding (wpAny_mono h (fun _ s' q=>wpAny_rel (wpAny_pure q)) fun _ _ e=>e))))
theorem exc_init (cok:(cfg w b mg mb os).Ok) {A:Around} {s:Shared} {H:AH} {e:Addr} {k:Str} {n:Int} {t1 t2:Tok} {vs:Array Value} (rm:Room A 1) (I:Inv (cfg w b mg mb os) H s)
  (he:s.heap.get? e=some { cls:=.ref 51,data:=.fields vs }) (heb:b.get? e=none) {R:Result→Shared→Prop}
  (h:∀ s' dx od,s'.gens=s.gens→s'.os=s.os→s.heap.get? dx=none→s'.heap.get? dx=some od→od.IsDictOf (PySem.strKind (cfg w b mg mb os).prog (cfg w b mg mb os).w) [("kind",.str k t1),("at",.int n t2)] →
   s'.heap.get? e=some { cls:=.ref 51,dict:=some dx,data:=.fields vs }→(∀ b o,b≠e→s.heap.get? b=some o→s'.heap.get? b=some o)→R (.ok (.ret .none)) s') :
  codeAny (model (cfg w b mg mb os).prog (cfg w b mg mb os).w) A (.call (.ref 48) ⟨[.ref e,.str k t1,.int n t2],[]⟩) R s:=by
 have hK:(cfg w b mg mb os).K.In s.heap:=cok.X.keeps I.stays
 have fn:FnOk (cfg w b mg mb os).K 48 _ _:=⟨⟨_,_,_,rfl⟩,rfl,rfl,by kernel_rfl,rfl,by decide,rfl,rfl,rfl⟩
 obtain ⟨cls,od,sl,hat⟩:=id fn.at_
 refine codeAny_call_def (binds:=[("self",.ref e),("kind",.str k t1),("at",.int n t2)]) (by have:=rm.depth;lia) (hK _ _ hat) rfl (cok.nolimit.keeps I.stays) (codeRec_of hK fn.code) fn.body (.of_eq rfl) fn.cell (locs rfl) ?_ fn.co fn.gen fn.kind
 intro h₁ hns hk₁
 have he1:=hk₁ _ _ he
 have heL:e≠s.heap.objs.size:=Nat.ne_of_lt (Heap.lt_size he)
 have hK1:(cfg w b mg mb os).K.In h₁:=hK.keeps hk₁
 rw [execs_cons]
 refine wpAny_bind (asg_self (o:=.ref e) (v:=.str k t1) fn.kind rfl rfl rfl hns rfl rfl rfl rfl ?_)
 refine exc_set0 (prog:=(cfg w b mg mb os).prog) (w:=(cfg w b mg mb os).w) hK1 x_cd x_mro he1 rfl rfl rfl x_nokind x_setattr ?_
 intro od1 tk1 hod1 h₂ hk₂ he2 hd2
 have hLe:s.heap.objs.size≠e:=Ne.symm heL
 have hns2:h₂.Ns s.heap.objs.size (fun x=>List.lookup x ([("self",.ref e),("kind",.str k t1),("at",.int n t2)]:List (Str × Value)).reverse):=by
  obtain ⟨o,es,ep,ho,r⟩:=hns
  exact ⟨o,es,ep,hk₂ _ _ hLe ho,r⟩
 have hsz:s.heap.get? h₁.objs.size=none:=by
  cases q:s.heap.get? h₁.objs.size with
  | none=>rfl
  | some o=>exact absurd (Heap.lt_size (hk₁ _ _ q)) (Nat.lt_irrefl _)
 have hK2:(cfg w b mg mb os).K.In h₂:=fun a o q=>hk₂ a o (by
  rintro rfl
  have:=cok.X _ _ q
  rw [show (cfg w b mg mb os).b=b from rfl,heb] at this;injection this) (hK1 a o q)
 rw [execs_cons]
 refine wpAny_bind (asg_self (s:=⟨h₂,_,_,_,_⟩) (o:=.ref e) (v:=.int n t2) fn.kind rfl rfl rfl hns2 rfl rfl rfl rfl ?_)
 rw [st_kind] at hod1
 refine exc_set1 (prog:=(cfg w b mg mb os).prog) (w:=(cfg w b mg mb os).w) (s:=⟨h₂,_,_,_,_⟩) hK2 x_cd x_mro he2 rfl rfl rfl hd2 hod1 (by simp) x_noat x_setattr ?_
 intro od2 tk2 hod2 h₃ hsb3 hd3
 rw [st_at] at hod2
 refine wpAny_execs_nil ?_
 have hne:e≠h₁.objs.size:=Nat.ne_of_lt (Heap.lt_size he1)
 exact h _ _ od2 rfl rfl hsz hd3 hod2 ((hsb3.2 e hne).trans he2) (fun b o hb q=>(hsb3.2 b (Nat.ne_of_lt (Heap.lt_size (hk₁ _ _ q)))).trans (hk₂ _ _ hb (hk₁ _ _ q)))
theorem exc_raiseStmt {M:Model} {A:Around} {E:Value→Shared→Prop} {env:Env} {s:Shared} {x:Sem Value} {Q:Flow→Shared→Prop} (hh:A.handled=none)
  (h:wpAny M A x (fun v s₁=>∃ e t dx,v=.ref e∧s₁.heap.get? 51=some excO∧s₁.heap.get? e=some { cls:=.ref 51,dict:=some dx,data:=.fields #[.ref t,.none,.none,.none,.bool false,.none] }∧E (.ref e) s₁) E s) :
  wpAny M A (raiseStmt env (some x) none) Q E s:=by
 have hcB:(Value.ref 51::excBm).contains (.type "BaseException")=true:=by decide
 unfold raiseStmt
 refine wpAny_bind (wpAny_mono h (fun v s₁ h₁=>?_) fun _ _ x=>x)
 obtain ⟨e,t,dx,rfl,hC,he,hE⟩:=h₁
 obtain ⟨hp,g,d,tk,os⟩:=s₁
 repeat (first | with_reducible refine wpAny_loadPart_at he ?_ | with_reducible refine wpAny_loadPart_at hC ?_ | (with_reducible refine wpAny_isSubtype_exc hC ?_;rw [hcB]) | wp_step)
 exact wpAny_raiseNew_none hh hE
variable {F:Fx} {m:LM} {H:AH}
theorem q_raise (cok:(cfg w b mg mb os).Ok) (ok:F.Ok) {args:List PySem.Expr} {np cpos pos:Pos} {rest:List Stmt} {R:Flow→LM→AH→Prop} (hr:2≤F.r) (hx:F.env.kindOf "ReadError" = some .globalImplicit)
  (hp:(backTo cpos (starEach args F.env)).any (·.1)=false)
  (h:PW (cfg w b mg mb os) F m H (spliced (backTo cpos (starEach args F.env))) fun vs H1=>∃ k n t1 t2,vs=[.str k t1,.int n t2]∧∀ dx,H1 dx=none→F.X k n m (H1.set dx (.dict 0 [("kind",.str k t1),("at",.int n t2)]))) :
  PS (cfg w b mg mb os) F m H (execs (.Raise (some (.Call (.Name "ReadError" np) args [] cpos)) none pos::rest) F.env) R:=by
 refine q_cons ?_
 intro s st
 rw [arm_exec_Raise]
 refine wpAny_bind (wpAny_standAt (exc_raiseStmt ok.hd ?_))
 refine wpAny_bind (wpAny_mono (Q:=fun v s₁=>∃ e t dx,v=.ref e∧s₁.heap.get? 51=some excO∧s₁.heap.get? e=some { cls:=.ref 51,dict:=some dx,data:=.fields #[.ref t,.none,.none,.none,.bool false,.none] }∧XE (cfg w b mg mb os) F (.ref e) s₁) ?_ (fun v s' q=>wpAny_bind (wpAny_standAt (wpAny_pure q))) fun _ _ e=>e)
 refine wpAny_Call_ofName (Calls.Name_function_global ok.kind hx (Calls.loadGlobal_global (mg:=(cfg w b mg mb os).mg) (by rw [ok.glb];exact cok.g.keeps st.inv.stays) (mg_of cok.X cok.g g_ReadError) ?_) (by decide))
 have hKp:∀ h,(cfg w b mg mb os).K.In h→∃ k,(k=Keeper.frame∨k=Keeper.machine∨k=Keeper.boundFrame)∧Looks (model (cfg w b mg mb os).prog (cfg w b mg mb os).w) h (keeperOf (.ref 51)) k:=keeps_K (by kernel_rfl)
 refine callWith_of (P:=(cfg w b mg mb os).K.In) (by rw [hp];rfl) hKp (evalArgs_of hp (wpAny_mono (h s st) (fun vs s1 z=>?_) fun _ _ e=>e))
 obtain ⟨H1,st1,k,n,t1,t2,rfl,hX⟩:=z
 have hK1:=st1.K cok
 refine ⟨hK1,?_⟩
 obtain ⟨hp1,g1,d1,tk1,os1⟩:=s1
 refine exc_call hK1 (hK1 _ _ x_cls) (tail_of_in hK1 x_tail) x_init x_initfn (fun h' e hm=>?_) (by exact Nat.le_of_ble_eq_true rfl)
 obtain ⟨tt,hte,htn,htt⟩:=hm.there
 have heb:b.get? e=none:=by
  cases q:b.get? e with
  | none=>rfl
  | some o=>have:=st1.inv.stays e o q;rw [hm.new] at this;injection this
 have I':Inv (cfg w b mg mb os) H1 ⟨h',g1,d1,tk1,os1⟩:=⟨fun a o q=>hm.keeps _ _ (st1.inv.stays a o q),fun a o q=>by
  obtain ⟨q1,co,q2,q3⟩:=st1.inv.obj a o q
  exact ⟨q1,co,hm.keeps _ _ q2,q3⟩,st1.inv.gens,st1.inv.os⟩
 have he1:H1 e=none:=by
  cases q:H1 e with
  | none=>rfl
  | some o=>obtain ⟨_,co,q2,_⟩:=st1.inv.obj e o q;rw [hm.new] at q2;injection q2
 have rm:=ok.room
 refine wpAny_call (exc_init cok (vs:=#[.ref tt,.none,.none,.none,.bool false,.none]) ⟨by rw [depth_under_make];have:=rm.depth;lia,by rw [units_under_make];have:=rm.units;lia⟩ I' hte heb ?_)
 intro s' dx od hg ho hdn hdx hod hee hkp
 refine ⟨rfl,e,tt,dx,rfl,?_,hee,?_⟩
 ·refine hkp 51 excO (by rintro rfl;have:=cok.X _ _ x_cls;rw [show (cfg w b mg mb os).b=b from rfl,heb] at this;injection this) (hm.keeps _ _ (hK1 _ _ x_cls))
 have hd1:H1 dx=none:=by
  cases q:H1 dx with
  | none=>rfl
  | some o=>obtain ⟨_,co,q2,_⟩:=I'.obj dx o q;rw [hdn] at q2;injection q2
 have hkeepA:∀ a o,H1 a=some o→a≠e:=fun a o q=>by rintro rfl;rw [he1] at q;injection q
 refine ⟨e,dx,51,H1.set dx (.dict 0 [("kind",.str k t1),("at",.int n t2)]),k,n,t1,t2,0,m,rfl,⟨fun a o q=>?_,fun a o q=>?_,hg.trans st1.inv.gens,ho.trans st1.inv.os⟩,?_,st1.keep.set_fresh (st1.fresh0 hd1),fun a p q hp o y=>?_,⟨heb,_,_,hee,rfl,rfl,rfl,.inl ⟨rfl,.inl rfl⟩⟩,g_ReadError,AH.set_self,ns_of_slots st1.loc (fun o ho=>⟨o.slots,hkp _ _ (hkeepA _ _ st1.own) (hm.keeps _ _ ho)⟩),hX dx hd1⟩
 ·exact hkp a o (by rintro rfl;rw [show (cfg w b mg mb os).b=b from rfl,heb] at q;injection q) (I'.stays a o q)
 ·by_cases ha:a=dx
  ·subst ha
   rw [AH.set_self] at q;(injection q with e1;subst e1)
   refine ⟨?_,od,hdx,hod⟩
   show b.get? a=none
   cases q7:b.get? a with
   | none=>rfl
   | some o=>have:=I'.stays a o q7;rw [hdn] at this;injection this
  ·rw [AH.set_ne ha] at q
   obtain ⟨q1,co,q2,q3⟩:=I'.obj a o q
   exact ⟨q1,co,hkp a co (hkeepA a o q) q2,q3⟩
 ·rw [AH.set_ne (by rintro qq;have:=st1.own;rw [qq,hd1] at this;injection this)];exact st1.own
 ·obtain ⟨z1,sl,z2⟩:=st1.nsk a p q hp o y
  have hae:a≠e:=by rintro rfl;rw [hm.new] at z2;injection z2
  exact ⟨fun qq=>hkp _ _ hae (hm.keeps _ _ (z1 qq)),sl,hkp _ _ hae (hm.keeps _ _ z2)⟩
theorem raises_ok (cok:(cfg w b mg mb os).Ok):Raises (cfg w b mg mb os):=fun ok hr hx hp h=>q_raise cok ok hr hx hp h
end
end Internal
end
section
namespace Internal
open PySem PySem.W PyProof.Rows PySem.Calls Builtin Builtin.ObjectAttr
section
variable {w:World} {b:Heap} {mg mb:Str→Option Value} {os:OsState}
theorem x_base:mroIn (cfg w b mg mb os).K 51 (.type "BaseException")=some true:=by kernel_rfl
theorem x_noget:findIn (cfg w b mg mb os).K (.ref 51) "__getattr__" = some none:=by kernel_rfl
end
section
variable {prog:Program} {w:World} {A:Around} {E:Value→Shared→Prop} {s:Shared} {K:Frag} {x:Addr} {R:Result→Shared→Prop} {ox:Obj} {od:Option Obj} {name:Str} {v:Value}
theorem exc_ga {tk:Tok} (X:K.In s.heap) (hb:mroIn K 51 (.type "BaseException")=some true) (I:PySem.W.InstAt s.heap x ox 51 od) (hf:findObj K 51 od name=some (.value v)) (h:R (.ok (.ret v)) s) :
  codeAny (model prog w) A (.call (.builtin "BaseException.__getattribute__") ⟨[.ref x,.str name tk],[]⟩) R s:=by
 have sub:Looks (model prog w) s.heap (isInstance (.ref x) (.type "BaseException")) true:=I.type.andThen (looks_mroIn X hb)
 refine codeAny_call_builtin F.excAttr_ValueError.ga.plain F.entry_bexc_ga (@check_slot (model prog w) _ _ s "BaseException.__getattribute__" "BaseException" "__getattribute__" (.ref x) [.str name tk] [] _ (by decide +kernel) (by decide +kernel) sub (F.args_bexc_ga _ _) ?_)
 have L1:=looks_find (M:=model prog w) X I hf
 refine wpAny_bind (wpAny_pure (wpAny_bind (wpAny_pure (wpAny_bind (I.type.here (wpAny_bind (L1.here ?_)))))))
 exact wpAny_pure h
theorem exc_get {expr:Bool} {Q:Value→Shared→Prop} (X:K.In s.heap) (hb:mroIn K 51 (.type "BaseException")=some true) (hg:findIn K (.ref 51) "__getattribute__" = some (some (.builtin "BaseException.__getattribute__"))) (hn:findIn K (.ref 51) "__getattr__" = some none)
  (I:PySem.W.InstAt s.heap x ox 51 od) (hf:findObj K 51 od name=some (.value v)) (hh:handedIn v=true) (h:Q v { s with toks:=s.toks+1 }):wpAny (model prog w) A (getAttr (.ref x) name expr) Q E s:=by
 have L0:=I.type (M:=model prog w)
 have L1:=looks_findIn (M:=model prog w) X hg
 have L2:=looks_findIn (M:=model prog w) X hn
 have L3:=F.excAttr_ValueError.ga.bind (.ref x)
 unfold getAttr getAttrBy
 refine wpAny_bind (wpAny_mkText (wpAny_holding (wpAny_bind (L0.here (s:={ s with toks:=s.toks+1 }) (wpAny_bind (L1.here (s:={ s with toks:=s.toks+1 }) ?_))))))
 show wpAny _ _ (getAttrByItsOwn (.ref x) (.str name s.toks) (.ref 51) (.builtin "BaseException.__getattribute__") true expr) _ _ _
 unfold getAttrByItsOwn
 refine wpAny_bind (L2.here (s:={ s with toks:=s.toks+1 }) (wpAny_bind (wpAny_attempt (wpAny_holding ?_))))
 have e1:callGetattribute (.ref x) (.str name s.toks) (.builtin "BaseException.__getattribute__") expr=boundAndCalled (.builtin "BaseException.__getattribute__") (.ref x) (.str name s.toks):=by
  unfold callGetattribute
  cases expr<;>rfl
 rw [e1]
 unfold boundAndCalled
 rw [L3]
 refine wpAny_bind (wpAny_pure (wpAny_call (exc_ga (s:={ s with toks:=s.toks+1 }) X hb I hf ?_)))
 show wpAny _ _ (handedOut v) _ _ _
 rw [handedOut_of hh]
 exact wpAny_pure h
end
end Internal
end
section
namespace Internal
open PySem PySem.W PyProof.Rows
section
section
variable {w:Wo} {rw c al:List V} {q n g:Nat} {v:V}
noncomputable def R4 (rw:List V) (q:Nat) (al c:List V):List Root:=[.inst 520 [("source",.cell 2),("ahead",.cell 3),("contexts",.cell 1)],.lst c,.inst 567 [("tokens",.lst rw),("place",.int q)],.lst al]
theorem next_ok (O:w.Ok) (hg:3≤g) (hz:rw.length≤1000) (hv:rw[q]?=some v):GoodC w.e g 564 [.cell 2] (R4 rw q al c) (.ok v (R4 rw (q+1) al c)):=by
 have hq:q<rw.length:=(List.getElem?_eq_some_iff.mp hv).1
 have hs:=le1000 hz
 refine GoodP.up (O.fn (g:=2) (by decide) (by kernel_rfl) (.o1 fun a=>by kernel_rfl) ?_) hg
 refine Internal.W.a (v:=.int rw.length) (P:=rw.length≤sizeLine∧V.int rw.length=.int rw.length) ⟨hs,rfl⟩ (by kernel_rfl) ?_
 refine Internal.W.a (v:=.bool false) (P:=V.bool false=.bool (decide ((q:Int)≥(rw.length:Int)))) (by rw [decide_eq_false (by lia)]) (by kernel_rfl) ?_
 refine Internal.W.a (v:=v) (P:=rw.length≤sizeLine∧(0≤(q:Int)∧rw[(q:Int).toNat]?=some v∨(q:Int)=-1∧∃ l',rw=l'++[v])) ⟨hs,.inl ⟨by lia,hv⟩⟩ (by kernel_rfl) ?_
 refine Internal.W.a (v:=.int (q+1:Nat)) (P:=V.int (q+1:Nat)=.int ((q:Int)+1)) rfl (by kernel_rfl) ?_
 refine Internal.W.a (v:=.none) (P:=2≤1000) (by decide) (by kernel_rfl) ?_
 exact Internal.W.rf (by kernel_rfl)
noncomputable def pkSt (rw:List V) (p a j:Nat) (c:List V):Fst:=⟨[("n",.v (.int j)),("self",.v (.cell 0))],R4 rw (p+a) ((rw.drop p).take a) c⟩
noncomputable def PkZ (rw:List V) (p j:Nat) (c:List V) (v:V) (o:Out):Prop:=∃ a,j<a∧p+a≤rw.length∧o=.ok v (R4 rw (p+a) ((rw.drop p).take a) c)
theorem seg_len {p a:Nat} (h:p+a≤rw.length):((rw.drop p).take a).length=a:=by rw [List.length_take,List.length_drop];lia
theorem peek_in (O:w.Ok) (hg:3≤g) {p a0 j:Nat} (hz:rw.length≤1000) (ha:p+a0≤rw.length) (hv:rw[p+j]?=some v) :
  Internal.W (GoodP w.e g) (fun k n=>PkZ rw p j c v (.exc k n)) (treeOf tabs w.e.g.K 320 [.cell 0,.int j] (R4 rw (p+a0) ((rw.drop p).take a0) c)) fun x=>PkZ rw p j c v (.ok (retV x.1) x.2.r):=by
 have hj:p+j<rw.length:=(List.getElem?_eq_some_iff.mp hv).1
 refine Internal.W.l (s:=pkSt rw p a0 j c) (fun m s=>∃ a,m=j+1 - a∧p+a≤rw.length∧s=pkSt rw p a j c) (j+1 - a0) (by kernel_rfl) ⟨a0,rfl,ha,rfl⟩ ?_
 rintro m s ⟨a,rfl,h,rfl⟩
 have hl:=seg_len (rw:=rw) h
 have hs:((rw.drop p).take a).length≤sizeLine:=le1000 (by lia)
 refine Internal.W.a (v:=.int a) (P:=((rw.drop p).take a).length≤sizeLine∧V.int a=.int ((rw.drop p).take a).length) ⟨hs,by rw [hl]⟩ (by kernel_rfl) ?_
 by_cases hc:a≤j
 ·refine Internal.W.a (v:=.bool true) (P:=V.bool true=.bool (decide ((a:Int)≤(j:Int)))) (by rw [decide_eq_true (by lia)]) (by kernel_rfl) ?_
  obtain ⟨u,hu⟩:∃ u,rw[p+a]?=some u:=⟨_,List.getElem?_eq_getElem (by lia)⟩
  refine Internal.W.c (next_ok O (g:=g) (al:=(rw.drop p).take a) (c:=c) hg hz hu) (by kernel_rfl) ?_
  refine Internal.W.a (v:=.none) (P:=((rw.drop p).take a).length≤sizeLine) hs (by kernel_rfl) ?_
  have e:(rw.drop p).take (a+1)=(rw.drop p).take a++[u]:=by rw [List.take_add_one,List.getElem?_drop,hu];rfl
  refine Internal.W.la (m:=j+1 - (a+1)) (s':=⟨[("n",.v (.int j)),("self",.v (.cell 0))],R4 rw (p+a+1) ((rw.drop p).take a++[u]) c⟩) (by kernel_rfl) (by lia) ⟨a+1,rfl,by lia,?_⟩
  unfold pkSt
  rw [e]
  rfl
 ·refine Internal.W.a (v:=.bool false) (P:=V.bool false=.bool (decide ((a:Int)≤(j:Int)))) (by rw [decide_eq_false (by lia)]) (by kernel_rfl) ?_
  refine Internal.W.le (by kernel_rfl) ?_
  refine Internal.W.a (v:=v) (P:=((rw.drop p).take a).length≤sizeLine∧(0≤(j:Int)∧((rw.drop p).take a)[(j:Int).toNat]?=some v∨(j:Int)=-1∧∃ l',(rw.drop p).take a=l'++[v])) ⟨hs,.inl ⟨by lia,?_⟩⟩ (by kernel_rfl) ?_
  ·rw [Int.toNat_natCast,List.getElem?_take,if_pos (by lia),List.getElem?_drop,hv]
  ·exact Internal.W.r (a:=(Fl.ret v,pkSt rw p a j c)) (by kernel_rfl) ⟨a,by lia,h,rfl⟩
theorem peek_ok0 (O:w.Ok) (hg:4≤g) {p a:Nat} (hz:rw.length≤1000) (ha:p+a≤rw.length) (hv:rw[p]?=some v):GoodP w.e g 320 [.cell 0] (R4 rw (p+a) ((rw.drop p).take a) c) (PkZ rw p 0 c v):=
 GoodP.up (O.fnD (g:=3) (by decide) (by kernel_rfl) (ds:=[.int 0]) (dv:=[.int 0 580]) (fun _=>.cons .int .nil) (.o1 fun a=>by kernel_rfl) (peek_in O (by decide) (j:=0) hz ha hv)) hg
theorem peek_ok1 (O:w.Ok) (hg:4≤g) {p a:Nat} (hz:rw.length≤1000) (ha:p+a≤rw.length) (hv:rw[p+1]?=some v):GoodP w.e g 320 [.cell 0,.int 1] (R4 rw (p+a) ((rw.drop p).take a) c) (PkZ rw p 1 c v):=
 GoodP.up (O.fn (g:=3) (by decide) (by kernel_rfl) (.o2 fun a b=>by kernel_rfl) (peek_in O (by decide) (j:=1) hz ha hv)) hg
end
end
end Internal
end
section
namespace Internal
open PySem PySem.W PyProof.Rows
section
noncomputable def V.noC (x:V):Prop:=@V.rec (fun _=>Prop) (fun _=>Prop) True (fun _=>True) (fun _=>True) (fun _=>True) (fun _=>True) (fun _=>False) (fun _ a=>a) (fun _ a=>a) (fun _ _ a=>a) (fun _ _ _ a b=>a∧b) (fun _ a=>a) True (fun _ _ a b=>a∧b) x
noncomputable def V.noCs (l:List V):Prop:=@V.rec_1 (fun _=>Prop) (fun _=>Prop) True (fun _=>True) (fun _=>True) (fun _=>True) (fun _=>True) (fun _=>False) (fun _ a=>a) (fun _ a=>a) (fun _ _ a=>a) (fun _ _ _ a b=>a∧b) (fun _ a=>a) True (fun _ _ a b=>a∧b) l
section
variable {ad ad':Nat→Addr} {H:AH}
theorem Rep.swap (x:V):∀ {v:Value},x.noC→Rep ad H x v→Rep ad' H x v:=
 @V.rec (fun x=>∀ {v:Value},x.noC→Rep ad H x v→Rep ad' H x v) (fun l=>∀ {v:List Value},V.noCs l→Reps ad H l v→Reps ad' H l v) (fun _ h=>h) (fun _ _ _ h=>h) (fun _ _ _ h=>h) (fun _ _ _ h=>h) (fun _ _ _ h=>h) (fun _ _ c _=>c.elim)
  (fun _ ih _ c h=>h.tupE.imp fun a h=>h.imp fun ws h=>⟨h.1,h.2.1,ih c h.2.2⟩) (fun _ ih _ c h=>h.lstE.imp fun a h=>h.imp fun ws h=>⟨h.1,h.2.1,ih c h.2.2⟩)
  (fun _ _ ih _ c h=>h.objE.imp fun a h=>h.imp fun d h=>h.imp fun es h=>⟨h.1,h.2.1,h.2.2.1,h.2.2.2.1,ih c h.2.2.2.2⟩)
  (fun _ _ _ i1 i2 _ c h=>h.vecE.imp fun a h=>h.imp fun d h=>h.imp fun t h=>h.imp fun iv h=>h.imp fun av h=>⟨h.1,h.2.1,h.2.2.1,i1 c.1 h.2.2.2.1,i2 c.2 h.2.2.2.2⟩)
  (fun _ ih _ c h=>h.nmE.imp fun a h=>h.imp fun u h=>⟨h.1,h.2.1,ih c h.2.2⟩) (fun _ h=>h) (fun _ _ i1 i2 _ c h=>h.imp fun w h=>h.imp fun ws h=>⟨h.1,i1 c.1 h.2.1,i2 c.2 h.2.2⟩) x
theorem Reps.swap {l:List V}:∀ {v:List Value},(∀ x ∈ l,x.noC)→Reps ad H l v→Reps ad' H l v:=by
 induction l with
 | nil=>exact fun _ h=>h
 | cons x l ih=>exact fun c h=>h.imp fun w h=>h.imp fun ws h=>⟨h.1,Rep.swap x (c x (.head _)) h.2.1,ih (fun y hy=>c y (.tail _ hy)) h.2.2⟩
end
noncomputable def at? (l:List Addr) (i:Nat):Addr:=l.getD i 0
theorem at_get {l:List Addr} {i:Nat} (hi:i<l.length):at? l i=l[i]:=congrArg (Option.getD · 0) (List.getElem?_eq_getElem hi)
theorem at_inj {l:List Addr} (h:l.Nodup) {i j:Nat} (hi:i<l.length) (hj:j<l.length) (e:at? l i=at? l j):i=j:=by
 rw [at_get hi,at_get hj] at e
 have k:=List.pairwise_iff_getElem.mp h
 rcases Nat.lt_trichotomy i j with q | q | q
 ·exact absurd e (k i j hi hj q)
 ·exact q
 ·exact absurd e.symm (k j i hj hi q)
theorem at_sep {l l':List Addr} (h:(l++l').Nodup) {i j:Nat} (hi:i<l.length) (hj:j<l'.length):at? l i≠at? l' j:=by
 rw [at_get hi,at_get hj]
 exact (List.nodup_append.mp h).2.2 _ (List.getElem_mem hi) _ (List.getElem_mem hj)
noncomputable def mcAt (c:Cfg) (l l':List Addr) (hid:Nat→AH→Prop):Mc:=⟨c,at? l,at? l',hid,l.length⟩
theorem mcAt_ok {c:Cfg} {l l':List Addr} {hid:Nat→AH→Prop} (cok:c.Ok) (hl:l'.length=l.length) (h:(l++l').Nodup) (hk:∀ p H H',hid p H→(∀ a o,H a=some o→¬o.priv→(o.tag=0∨o.tag=4)→(o.tag=4→(mcAt c l l' hid).off a)→H' a=some o)→hid p H')
  (hC:∀ p H,hid p H→∃ d src al,H (at? l 0)=some (.inst 520 d)∧H d=some (.dict 4 [("source",src),("ahead",al),("contexts",.ref (at? l 1))])):(mcAt c l l' hid).Ok:=
 ⟨cok,fun i j hi hj e=>at_inj (List.nodup_append.mp h).1 hi hj e,fun i j hi hj e=>at_inj (List.nodup_append.mp h).2.1 (hl▸hi) (hl▸hj) e,fun i j hi hj=>at_sep h hi (hl▸hj),hk,hC⟩
theorem CC.own {c:Cfg} {r T:Nat} {f:Value} {args:List Value} {H:AH} {Q:Value→AH→Prop} {X:Str→Int→AH→Prop} (h:(∀ a o,H a=some o→c.b.get? a=none)→CC c r T f args H Q X):CC c r T f args H Q X:=
 fun A s l rm hh gd fr oo I=>h (fun a o q=>(I.obj a o q).1) A s l rm hh gd fr oo I
theorem PS.own {c:Cfg} {F:Fx} {m:LM} {H:AH} {α:Type} {t:Sem α} {R:α→LM→AH→Prop} (h:(∀ a o,H a=some o→c.b.get? a=none)→PS c F m H t R):PS c F m H t R:=fun s st=>h (fun a o q=>(st.inv.obj a o q).1) s st
structure HidA (rd ctx:Addr) (rw:List V) (p:Nat) (H:AH) (d src ds al tl:Addr) (a:Nat):Prop where
 r0:H rd=some (.inst 520 d)
 r1:H d=some (.dict 4 [("source",.ref src),("ahead",.ref al),("contexts",.ref ctx)])
 r2:H src=some (.inst 567 ds)
 r3:∃ t,H ds=some (.dict 4 [("tokens",.ref tl),("place",.int (p+a:Nat) t)])
 r4:∃ vs,H tl=some (.list 0 vs)∧Reps (fun _=>0) H rw vs
 r5:∃ us,H al=some (.list 4 us)∧Reps (fun _=>0) H ((rw.drop p).take a) us
 ne:al≠ctx
 off:∀ x,x=d∨x=ds∨x=al→x≠rd∧x≠ctx∧x≠120∧x≠51
 le:p+a≤rw.length
noncomputable def hidP (rd ctx:Addr) (rw:List V) (p:Nat) (H:AH):Prop:=∃ d src ds al tl a,HidA rd ctx rw p H d src ds al tl a
theorem two {P:Nat→Prop} (h0:P 0) (h1:P 1):∀ i,i<2→P i
 | 0,_=>h0
 | 1,_=>h1
 | n+2,h=>absurd h (by lia)
section
variable {c:Cfg} {rd ctx:Addr} {rw:List V} {p:Nat} {H H':AH} {d src ds al tl:Addr} {a:Nat}
theorem HidA.keep (h:HidA rd ctx rw p H d src ds al tl a) (k:∀ a o,H a=some o→¬o.priv→(o.tag=0∨o.tag=4)→(o.tag=4→(mcAt c [rd,ctx] [120,51] (hidP rd ctx rw)).off a)→H' a=some o):HidA rd ctx rw p H' d src ds al tl a:=by
 have fz:Fz H H':=fun a o q t p=>k a o q p (.inl t) fun z=>absurd (t.symm.trans z) (by decide)
 have of4:∀ x,x=d∨x=ds∨x=al→(mcAt c [rd,ctx] [120,51] (hidP rd ctx rw)).off x:=fun x hx=>
  two (P:=fun i=>x≠at? [rd,ctx] i∧x≠at? [120,51] i) ⟨(h.off x hx).1,(h.off x hx).2.2.1⟩ ⟨(h.off x hx).2.1,(h.off x hx).2.2.2⟩
 exact ⟨fz _ _ h.r0 rfl id,k _ _ h.r1 id (.inr rfl) fun _=>of4 _ (.inl rfl),fz _ _ h.r2 rfl id,h.r3.imp fun t q=>k _ _ q id (.inr rfl) fun _=>of4 _ (.inr (.inl rfl)),
  h.r4.imp fun vs q=>⟨fz _ _ q.1 rfl id,q.2.fz fz⟩,h.r5.imp fun vs q=>⟨k _ _ q.1 id (.inr rfl) fun _=>of4 _ (.inr (.inr rfl)),q.2.fz fz⟩,h.ne,h.off,h.le⟩
theorem out_ok (cok:c.Ok) (h:([rd,ctx]++[120,51]:List Addr).Nodup):(mcAt c [rd,ctx] [120,51] (hidP rd ctx rw)).Ok:=
 mcAt_ok cok rfl h (fun p H H' h k=>h.imp fun d h=>h.imp fun s h=>h.imp fun ds h=>h.imp fun al h=>h.imp fun tl h=>h.imp fun a h=>h.keep k) fun p H z=>z.elim fun d z=>z.elim fun src z=>z.elim fun _ z=>z.elim fun al z=>z.elim fun _ z=>z.elim fun _ h=>⟨d,.ref src,.ref al,h.r0,h.r1⟩
noncomputable def kyO (o:Option AObj):Nat:=match o with
 | some (.list t _)=>if t=0 then 5 else 3
 | some (.dict _ ((k,_)::_))=>if k = "source" then 7 else 8
 | some (.inst C _)=>C
 | _=>4
theorem HidA.nodup (h:HidA rd ctx rw p H d src ds al tl a) (h1:∃ ws,H ctx=some (.list 4 ws)) (hn:H 120=none):([rd,ctx,src,al]++[d,120,ds,tl]:List Addr).Nodup:=by
 obtain ⟨ws,h1⟩:=h1
 obtain ⟨t,h3⟩:=h.r3
 obtain ⟨vs,h4,_⟩:=h.r4
 obtain ⟨us,h5,_⟩:=h.r5
 have ne:∀ x k,kyO (H x)=k→k≠3→x≠ctx:=fun x k e hk z=>hk (by rw [← e,z,h1];rfl)
 have k0:kyO (H rd)=520:=by rw [h.r0];rfl
 have k2:kyO (H src)=567:=by rw [h.r2];rfl
 have k3:kyO (H al)=3:=by rw [h5];rfl
 have k4:kyO (H d)=7:=by rw [h.r1];kernel_rfl
 have k5:kyO (H 120)=4:=by rw [hn];rfl
 have k6:kyO (H ds)=8:=by rw [h3];kernel_rfl
 have k7:kyO (H tl)=5:=by rw [h4];rfl
 let f:Addr→Nat:=fun x=>if x=ctx then 9 else kyO (H x)
 have e:∀ x k,kyO (H x)=k→k≠3→f x=k:=fun x k e hk=>(if_neg (ne x k e hk)).trans e
 refine List.Pairwise.of_map f (fun a b h z=>h (by rw [z])) (S:=(·≠·)) ?_
 have:([rd,ctx,src,al]++[d,120,ds,tl]:List Addr).map f=[520,9,567,3,7,4,8,5]:=by
  show [f rd,f ctx,f src,f al,f d,f 120,f ds,f tl]=_
  rw [e _ _ k0 (by decide),e _ _ k2 (by decide),e _ _ k4 (by decide),e _ _ k5 (by decide),e _ _ k6 (by decide),e _ _ k7 (by decide),show f al=3 from (if_neg h.ne).trans k3,show f ctx=9 from if_pos rfl]
 rw [this]
 decide
end
end
end Internal
end
section
namespace Internal
open PySem PySem.W PyProof.Rows
section
noncomputable def wOut (w:World) (b:Heap) (mg mb:Str→Option Value) (os:OsState) (rd ctx:Addr) (rw:List V):Wo:=⟨w,b,mg,mb,os,at? [rd,ctx],at? [120,51],hidP rd ctx rw,2⟩
noncomputable def wIn (w:World) (b:Heap) (mg mb:Str→Option Value) (os:OsState) (rd ctx d src ds al tl:Addr):Wo:=⟨w,b,mg,mb,os,at? [rd,ctx,src,al],at? [d,120,ds,tl],fun _ _=>False,4⟩
section
variable {w:World} {b:Heap} {mg mb:Str→Option Value} {os:OsState} {rd ctx:Addr} {rw cl:List V} {p:Nat} {H:AH} {d src ds al tl:Addr} {a g:Nat} {v:V}
theorem wOut_e:(wOut w b mg mb os rd ctx rw).e=mcAt (cfg w b mg mb os) [rd,ctx] [120,51] (hidP rd ctx rw):=by unfold Wo.e;rfl
theorem wIn_e:(wIn w b mg mb os rd ctx d src ds al tl).e=mcAt (cfg w b mg mb os) [rd,ctx,src,al] [d,120,ds,tl] fun _ _=>False:=by unfold Wo.e;rfl
structure RdH (w:World) (b:Heap) (mg mb:Str→Option Value) (os:OsState) (rd ctx:Addr) (rw:List V):Prop where
 cok:(cfg w b mg mb os).Ok
 nd:([rd,ctx]++[120,51]:List Addr).Nodup
 nc:∀ x ∈ rw,x.noC
 hz:rw.length≤1000
theorem RdH.out (h:RdH w b mg mb os rd ctx rw):(wOut w b mg mb os rd ctx rw).Ok:=⟨by rw [wOut_e];exact out_ok h.cok h.nd,by rw [wOut_e];exact raises_ok h.cok⟩
theorem k_120:(((cfg w b mg mb os).K.lookup 120).isSome&&((cfg w b mg mb os).K.lookup 51).isSome)=true:=by kernel_rfl
theorem RdH.b1 (h:(cfg w b mg mb os).Ok) {H:AH} (ow:∀ a o,H a=some o→(cfg w b mg mb os).b.get? a=none) {x:Addr} (hx:H x≠none):x≠120∧x≠51:=by
 have bq:=Bool.and_eq_true_iff.mp (k_120 (w:=w) (b:=b) (mg:=mg) (mb:=mb) (os:=os))
 have k1:=bq.1
 have k2:=bq.2
 obtain ⟨o,q⟩:=Option.ne_none_iff_exists'.mp hx
 have g:∀ y,((cfg w b mg mb os).K.lookup y).isSome=true→x≠y:=fun y k z=>by
  obtain ⟨u,k⟩:=Option.isSome_iff_exists.mp k
  have:=h.X _ _ k
  rw [← z,ow _ _ q] at this
  exact noneE this
 exact ⟨g _ k1,g _ k2⟩
theorem RdH.inn (h:RdH w b mg mb os rd ctx rw) (ow:∀ a o,H a=some o→(cfg w b mg mb os).b.get? a=none) (A:HidA rd ctx rw p H d src ds al tl a) (h1:∃ ws,H ctx=some (.list 4 ws)):(wIn w b mg mb os rd ctx d src ds al tl).Ok:=by
 have hn:H 120=none:=by
  cases q:H 120 with
  | none=>rfl
  | some o=>exact absurd rfl (RdH.b1 h.cok ow (x:=120) (by rw [q];exact fun z=>by injection z)).1
 refine ⟨by rw [wIn_e];exact mcAt_ok h.cok rfl (A.nodup h1 hn) (fun _ _ _ z=>z.elim) fun _ _ z=>z.elim,by rw [wIn_e];exact raises_ok h.cok⟩
theorem nm3:((["source","ahead","contexts"]:List Str)).Nodup:=by decide +kernel
theorem nm2:((["tokens","place"]:List Str)).Nodup:=by decide +kernel
noncomputable abbrev adI (rd ctx src al:Addr):Nat→Addr:=at? [rd,ctx,src,al]
theorem HidA.roots (h:HidA rd ctx rw p H d src ds al tl a) (nc:∀ x ∈ rw,x.noC) (hc:∃ ws,H ctx=some (.list 4 ws)∧Reps (adI rd ctx src al) H cl ws):RootsRep (wIn w b mg mb os rd ctx d src ds al tl).e (R4 rw (p+a) ((rw.drop p).take a) cl) H:=by
 rw [wIn_e]
 obtain ⟨t,h3⟩:=h.r3
 obtain ⟨vs,h4,h4'⟩:=h.r4
 obtain ⟨us,h5,h5'⟩:=h.r5
 refine fun i=>n4 (fun x hx=>?_) (fun x hx=>?_) (fun x hx=>?_) (fun x hx=>?_) (fun n x hx=>by injection hx) i
 ·exact Option.some.inj (show some (Root.inst 520 _)=some x from hx)▸⟨(by decide:0<4),h.r0,_,h.r1,rfl,nm3,.cons .cell (.cons .cell (.cons .cell .nil))⟩
 ·exact Option.some.inj (show some (Root.lst cl)=some x from hx)▸⟨(by decide:1<4),hc⟩
 ·exact Option.some.inj (show some (Root.inst 567 _)=some x from hx)▸⟨(by decide:2<4),h.r2,_,h3,rfl,nm2,.cons (.lst h4 (h4'.swap nc)) (.cons .int .nil)⟩
 ·exact Option.some.inj (show some (Root.lst _)=some x from hx)▸⟨(by decide:3<4),us,h5,h5'.swap fun x hx=>nc x (List.mem_of_mem_drop (List.mem_of_mem_take hx))⟩
theorem HidA.back (nc:∀ x ∈ rw,x.noC) (ne:al≠ctx) (off:∀ x,x=d∨x=ds∨x=al→x≠rd∧x≠ctx∧x≠120∧x≠51) (le:p+a≤rw.length) (h:RootsRep (wIn w b mg mb os rd ctx d src ds al tl).e (R4 rw (p+a) ((rw.drop p).take a) cl) H) :
  (∃ tl',HidA rd ctx rw p H d src ds al tl' a)∧∃ ws,H ctx=some (.list 4 ws)∧Reps (adI rd ctx src al) H cl ws:=by
 rw [wIn_e] at h
 obtain ⟨h0,es0,h0',e0,_,f0⟩:=(h 0 _ rfl).2
 obtain ⟨h2,es2,h2',e2,_,f2⟩:=(h 2 _ rfl).2
 obtain ⟨us,h3,h3'⟩:=(h 3 _ rfl).2
 refine ⟨?_,(h 1 _ rfl).2⟩
 refine f2.fld (C:=fun es=>H (at? [d,120,ds,tl] 2)=some (.dict 4 es)→_) e2 (fun v1 es b1 f e=>f.fld (C:=fun es=>H (at? [d,120,ds,tl] 2)=some (.dict 4 (("tokens",v1)::es))→_) e (fun v2 es b2 f e=>?_)) h2'
 have e:es=[]:=List.map_eq_nil_iff.mp e
 subst e
 clear f2 e2 h2'
 intro h2'
 refine f0.fld (C:=fun es=>H (at? [d,120,ds,tl] 0)=some (.dict 4 es)→_) e0 (fun w1 es c1 f e=>f.fld (C:=fun es=>H (at? [d,120,ds,tl] 0)=some (.dict 4 (("source",w1)::es))→_) e (fun w2 es c2 f e=>f.fld (C:=fun es=>H (at? [d,120,ds,tl] 0)=some (.dict 4 (("source",w1)::("ahead",w2)::es))→_) e fun w3 es c3 f e=>?_)) h0'
 have e:es=[]:=List.map_eq_nil_iff.mp e
 subst e
 intro h0'
 obtain ⟨tl',vs,rfl,g1,g2⟩:=b1.lstE
 obtain ⟨t,rfl⟩:=b2
 cases (show w1=.ref src from c1)
 cases (show w2=.ref al from c2)
 cases (show w3=.ref ctx from c3)
 exact ⟨tl',h0,h0',h2,⟨t,h2'⟩,⟨vs,g1,g2.swap nc⟩,⟨us,h3,h3'.swap fun x hx=>nc x (List.mem_of_mem_drop (List.mem_of_mem_take hx))⟩,ne,off,le⟩
end
end
end Internal
end
section
namespace Internal
open PySem PySem.W PyProof.Rows
section
section
variable {w:World} {b:Heap} {mg mb:Str→Option Value} {os:OsState} {rd ctx:Addr} {rw cl:List V} {p j g:Nat} {v:V}
theorem eg_out:(wOut w b mg mb os rd ctx rw).e.g=cfg w b mg mb os:=by rw [wOut_e];rfl
theorem eg_in {d src ds al tl:Addr}:(wIn w b mg mb os rd ctx d src ds al tl).e.g=cfg w b mg mb os:=by rw [wIn_e];rfl
theorem hid_open {H:AH} (X:RdH w b mg mb os rd ctx rw) (hc:∀ x ∈ cl,x.noC) (hr:RootsRep (wOut w b mg mb os rd ctx rw).e [.hid p,.lst cl] H) (ow:∀ a o,H a=some o→(cfg w b mg mb os).b.get? a=none) :
  ∃ d src ds al tl a,HidA rd ctx rw p H d src ds al tl a∧(wIn w b mg mb os rd ctx d src ds al tl).Ok∧RootsRep (wIn w b mg mb os rd ctx d src ds al tl).e (R4 rw (p+a) ((rw.drop p).take a) cl) H:=by
 rw [wOut_e] at hr
 obtain ⟨d,src,ds,al,tl,a,A⟩:=(hr 0 _ rfl).2
 obtain ⟨ws,h1,h2⟩:=(hr 1 _ rfl).2
 exact ⟨d,src,ds,al,tl,a,A,X.inn ow A ⟨ws,h1⟩,A.roots X.nc ⟨ws,h1,h2.swap hc⟩⟩
theorem hid_close {H:AH} (hc:∀ x ∈ cl,x.noC) {d src ds al tl:Addr} {a:Nat} (A:HidA rd ctx rw p H d src ds al tl a) (h1:∃ ws,H ctx=some (.list 4 ws)∧Reps (adI rd ctx src al) H cl ws):RootsRep (wOut w b mg mb os rd ctx rw).e [.hid p,.lst cl] H:=by
 rw [wOut_e]
 refine fun i=>n2 (fun x hx=>?_) (fun x hx=>?_) (fun n x hx=>by injection hx) i
 ·exact Option.some.inj (show some (Root.hid p)=some x from hx)▸⟨(by decide:0<2),d,src,ds,al,tl,a,A⟩
 ·exact Option.some.inj (show some (Root.lst cl)=some x from hx)▸⟨(by decide:1<2),h1.imp fun ws h=>⟨h.1,h.2.swap hc⟩⟩
theorem pk_out (X:RdH w b mg mb os rd ctx rw) (hc:∀ x ∈ cl,x.noC) {as:List V} (ha:∀ H ws src al,Reps (at? [rd,ctx]) H as ws→Reps (adI rd ctx src al) H as ws) (hv:rw[p+j]?=some v)
  (h:∀ {w:Wo} {a},w.Ok→p+a≤rw.length→GoodP w.e g 320 as (R4 rw (p+a) ((rw.drop p).take a) cl) (PkZ rw p j cl v)):GoodC (wOut w b mg mb os rd ctx rw).e g 320 as [.hid p,.lst cl] (.ok v [.hid p,.lst cl]):=fun H ws hr hw=>by
 rw [eg_out]
 refine CC.own fun ow=>?_
 obtain ⟨d,src,ds,al,tl,a,A,O,h4⟩:=hid_open X hc hr ow
 have z:=h O A.le H ws h4 (by rw [wIn_e];rw [wOut_e] at hw;exact ha H ws src al hw)
 rw [eg_in] at z
 refine z.mono (fun u H' _ q=>?_) fun k n H' _ q=>q.elim fun a q=>by injection q.2.2
 obtain ⟨x,r',⟨a',q1,q2,q3⟩,q4,q5⟩:=q
 cases q3
 obtain ⟨⟨tl',A'⟩,h1⟩:=HidA.back X.nc A.ne A.off q2 q5
 refine ⟨_,_,rfl,?_,hid_close hc A' h1⟩
 rw [wOut_e];rw [wIn_e] at q4
 exact q4.swap _ (X.nc _ (List.mem_of_getElem? hv))
end
end
end Internal
end
section
namespace Internal
open PySem PySem.W PyProof.Rows
section
noncomputable def as1 (l:List Stmt):Expr × Expr × Pos:=match l with | .Assign [t] v p::_=>(t,v,p) | _=>(.Constant .none 0 default,.Constant .none 0 default,default)
theorem glook_mem {x:Str} {lv:LV} {G:List (Str × LV)}:glook x G=some lv→∃ p ∈ G,p.2.vis=some lv:=by
 induction G with
 | nil=>exact fun h=>noneE h
 | cons p r ih=>exact fun h=>ifs (show (if x=p.1 then p.2.vis else glook x r)=some lv from h) (fun _ h=>⟨p,.head _,h⟩) fun _ h=>(ih h).imp fun q h=>⟨.tail _ h.1,h.2⟩
section
variable {w:World} {b:Heap} {mg mb:Str→Option Value} {os:OsState} {rd ctx:Addr} {rw cl:List V} {p j g:Nat} {v:V}
theorem body_327 {C:Prop} (k:∀ b1 b2 b3 b4 b5 b6 b7 c1 c2 d1 d2,bodyOf (cfg w b mg mb os).K 327=.Assign [(as1 (bodyOf (cfg w b mg mb os).K 327)).1] (as1 (bodyOf (cfg w b mg mb os).K 327)).2.1 (as1 (bodyOf (cfg w b mg mb os).K 327)).2.2 ::
  .Assign [.Attribute (.Name "self" b1) "ahead" b2] (.Subscript (.Attribute (.Name "self" b3) "ahead" b4) (.Slice (some (.Constant (.int 1) c1 c2)) none none b5) b6) b7::.Return (some (.Name "token" d1)) d2::[]→C):C:=k _ _ _ _ _ _ _ _ _ _ _ rfl
theorem va_ahead {a b c:Value}:valueAt ([("source",a),("ahead",b),("contexts",c)]:List (Str × Value)) "ahead" = some b:=by kernel_rfl
theorem st_ahead {a b c d:Value}:stored ([("source",a),("ahead",b),("contexts",c)]:List (Str × Value)) ("ahead" : Str) d=([("source",a),("ahead",d),("contexts",c)]:List (Str × Value)):=by kernel_rfl
theorem ah_mem:(("ahead" : Str)) ∈ fnames 520:=List.contains_iff_mem.mp (show (fnames 520).contains "ahead" = true by kernel_rfl)
theorem set_520:setChk (cfg w b mg mb os).K 520=true:=by kernel_rfl
theorem tak_520:isNo (takerIn (cfg w b mg mb os).K 520 "ahead")=true:=by kernel_rfl
theorem par_327:((parOf (cfg w b mg mb os).K 327).zip (([V.cell 0]++[]).map LV.v)).reverse++unOf (cfg w b mg mb os).K 327=([("self",.v (.cell 0)),("token",.un)]:List (Str × LV)):=by kernel_rfl
theorem ns_327:((fdOf (cfg w b mg mb os).K 327).scope.names.lookup ("self" : Str)==some NameKind.local&&(fdOf (cfg w b mg mb os).K 327).scope.names.lookup ("token" : Str)==some NameKind.local)=true:=by kernel_rfl
noncomputable def tkSt (rw cl:List V) (p a:Nat) (v:V):Fst:=⟨[("self",.v (.cell 0)),("token",.v v)],R4 rw (p+a) ((rw.drop p).take a) cl⟩
theorem take_first {w:Wo} (O:w.Ok) {a:Nat} (hz:rw.length≤1000) (ha:p+a≤rw.length) (hv:rw[p]?=some v) {xp:Str→Int→Prop} :
  Internal.W (GoodP w.e 5) xp (asg (ev tabs 30) (fdOf w.e.g.K 327).scope.names (as1 (bodyOf w.e.g.K 327)).1 (as1 (bodyOf w.e.g.K 327)).2.1 ⟨[("self",.v (.cell 0)),("token",.un)],R4 rw (p+a) ((rw.drop p).take a) cl⟩) fun s=>∃ a',0<a'∧p+a'≤rw.length∧s=tkSt rw cl p a' v:=
 Internal.W.cp (peek_ok0 O (c:=cl) (by decide) hz ha hv) (by kernel_rfl) (fun u r' ⟨a',z1,z2,z3⟩=>by
  cases z3
  exact Internal.W.r (a:=tkSt rw cl p a' v) (by kernel_rfl) ⟨a',z1,z2,rfl⟩) fun kd n ⟨a',z1,z2,z3⟩=>by injection z3
theorem take_out (X:RdH w b mg mb os rd ctx rw) (hc:∀ x ∈ cl,x.noC) (hg:6≤g) (hv:rw[p]?=some v):GoodC (wOut w b mg mb os rd ctx rw).e g 327 [.cell 0] [.hid p,.lst cl] (.ok v [.hid (p+1),.lst cl]):=by
 refine GoodP.up (GoodP.by X.out.E (tabs_ok tabW (c:=[]) (s:=[]) fun p q=>noneE q) X.out.raise rfl (g:=5) (by decide) (by kernel_rfl) (ds:=[]) (dv:=[]) (fun _=>.nil) (.o1 fun a=>by kernel_rfl) fun F m H1 hrk fr S=>PS.own fun ow=>?_) hg
 rw [eg_out] at ow S ⊢
 have sc:=fr.sc
 rw [eg_out] at sc
 rw [par_327] at S
 obtain ⟨d,src,ds,al,tl,a,A,O,h4⟩:=hid_open X hc S.roots ow
 refine body_327 (w:=w) (b:=b) (mg:=mg) (mb:=mb) (os:=os) fun b1 b2 b3 b4 b5 b6 b7 c1 c2 d1 d2 hb=>?_
 have bq:=Bool.and_eq_true_iff.mp (ns_327 (w:=w) (b:=b) (mg:=mg) (mb:=mb) (os:=os))
 have n1:=bq.1
 have n2:=bq.2
 replace n1:=beq_iff_eq.mp n1
 replace n2:=beq_iff_eq.mp n2
 rw [hb]
 have fr':FrOk (wIn w b mg mb os rd ctx d src ds al tl).e tabs (GoodP (wIn w b mg mb os rd ctx d src ds al tl).e 5) F (fdOf (wIn w b mg mb os rd ctx d src ds al tl).e.g.K 327).scope.names fun _ _=>False:=
  ⟨O.E,tabs_ok tabW (c:=[]) (s:=[]) fun p q=>noneE q,fr.ok,by rw [eg_in];exact sc,fr.T,fun _ _ _ _ q=>q.elim,by rw [hrk];exact fun _ _ _ _ q=>q,fun x v k q=>noneE q⟩
 have S':SimF (wIn w b mg mb os rd ctx d src ds al tl).e F ⟨[("self",.v (.cell 0)),("token",.un)],R4 rw (p+a) ((rw.drop p).take a) cl⟩ m H1:=by
  have z:∀ {x lv},glook x ([("self",.v (.cell 0)),("token",.un)]:List (Str × LV))=some lv→lv=.v (.cell 0):=fun h=>(glook_mem h).elim fun q h=>by
   rcases List.mem_cons.mp h.1 with rfl | h1
   ·exact (Option.some.inj h.2).symm
   ·rw [List.mem_singleton.mp h1] at h;exact noneE h.2
  refine ⟨fun x lv hx=>(S.loc x lv hx).imp fun u q=>⟨q.1,?_⟩,S.own,h4⟩
  rw [z hx] at q ⊢
  have q2:u=.ref ((wOut w b mg mb os rd ctx rw).e.ad 0):=q.2
  rw [wOut_e] at q2
  show u=.ref ((wIn w b mg mb os rd ctx d src ds al tl).e.ad 0)
  rw [wIn_e];exact q2
 have key:=asg_sound (ev_sound 30) fr' S' (pos:=(as1 (bodyOf (wIn w b mg mb os rd ctx d src ds al tl).e.g.K 327)).2.2) (rest:=.Assign [.Attribute (.Name "self" b1) "ahead" b2] (.Subscript (.Attribute (.Name "self" b3) "ahead" b4) (.Slice (some (.Constant (.int 1) c1 c2)) none none b5) b6) b7::.Return (some (.Name "token" d1)) d2::[]) (take_first O X.hz A.le hv)
  (R':=PostS (wOut w b mg mb os rd ctx rw).e F H1 fun q=>Out.ok v [.hid (p+1),.lst cl]=.ok (retV q.1) q.2.r)
 rw [eg_in] at key
 refine key ?_
 clear key S' S h4
 rintro s' m2 H2 S2 k2 ⟨a',ha,hle,rfl⟩
 rw [eg_in]
 obtain ⟨⟨tl',A2⟩,h1⟩:=HidA.back X.nc A.ne A.off hle S2.roots
 obtain ⟨u,hs,hu⟩:=S2.loc "self" _ rfl
 obtain ⟨tv,ht,hr⟩:=S2.loc "token" _ rfl
 replace hu:u=.ref ((wIn w b mg mb os rd ctx d src ds al tl).e.ad 0):=hu
 replace hr:Rep (wIn w b mg mb os rd ctx d src ds al tl).e.ad H2 v tv:=hr
 rw [wIn_e] at hu hr
 subst hu
 obtain ⟨us,g1,g2⟩:=A2.r5
 have fo:=fr.tk.c 520 "ahead" ah_mem
 rw [eg_out] at fo
 have hl:us.length≤sizeLine:=by rw [g2.len,seg_len hle];exact le1000 (by have:=X.hz;lia)
 have cok:=X.cok
 refine q_assign1 (p_SubS (p_AttrN (p_nl fr.ok sc hs n1 (p_fld cok A2.r0 A2.r1 va_ahead rfl (p_opt_some (PW.const_int fun t=>p_opt_none (p_sliceFrom fr.ok 4 g1 (by decide) (fun y hy=>?_) hl fun _ _=>rfl))) fo)))) (exec_asg rfl rfl rfl)
 have ex:Ext H2 (H2.set y (.list 4 (us.drop (1:Int).toNat))):=.set hy
 obtain ⟨z1,z2,z3⟩:=setChk_spec (set_520 (w:=w) (b:=b) (mg:=mg) (mb:=mb) (os:=os))
 refine q_asAttr (p_nl fr.ok sc hs n1 (p_setField cok fr.ok (ex _ _ A2.r0) (ex _ _ A2.r1) (.inl fr.T.symm) ?_ z1 z2 (isNo_spec tak_520) z3 (by decide:3≤1000)))
 rw [st_ahead]
 refine PS.own fun ow4=>q_ret (p_nl fr.ok sc ht n2 ?_)
 have h3y:(H2.set y (.list 4 (us.drop (1:Int).toNat))) y=some (.list 4 (us.drop (1:Int).toNat)):=AH.set_self
 have kd:kyO ((H2.set y (.list 4 (us.drop (1:Int).toNat))) d)=7:=by rw [ex _ _ A2.r1];kernel_rfl
 have nd:∀ x o,(H2.set y (.list 4 (us.drop (1:Int).toNat))) x=some o→kyO (some o)≠7→∀ D,((H2.set y (.list 4 (us.drop (1:Int).toNat))).set d D) x=some o:=fun x o q hq D=>(AH.set_ne fun z=>hq (by rw [← q,z,kd])).trans q
 have dy:y≠d:=fun z=>by rw [z,A2.r1] at hy;exact by injection hy
 have fz:Fz H2 ((H2.set y (.list 4 (us.drop (1:Int).toNat))).set d (.dict 4 [("source",.ref src),("ahead",.ref y),("contexts",.ref ctx)])):=(Fz.ofExt ex).trans (.set1 (ex _ _ A2.r1) (by exact (by decide:(4:Nat)≠0)))
 obtain ⟨t3,r3⟩:=A2.r3
 obtain ⟨vs,r4,r4'⟩:=A2.r4
 obtain ⟨ws,hw,hw'⟩:=h1
 have yo:=RdH.b1 X.cok ow4 (x:=y) (by rw [nd y _ h3y (by decide:(3:Nat)≠7)];exact fun z=>by injection z)
 have e1:((rw.drop p).take a').drop 1=(rw.drop (p+1)).take (a' - 1):=by rw [List.drop_take,List.drop_drop]
 have A3:HidA rd ctx rw (p+1) ((H2.set y (.list 4 (us.drop (1:Int).toNat))).set d (.dict 4 [("source",.ref src),("ahead",.ref y),("contexts",.ref ctx)])) d src ds y tl' (a' - 1):=
  ⟨nd _ _ (ex _ _ A2.r0) (by decide:(520:Nat)≠7) _,AH.set_self,nd _ _ (ex _ _ A2.r2) (by decide:(567:Nat)≠7) _,⟨t3,by rw [show p+1+(a' - 1)=p+a' by lia];exact nd _ _ (ex _ _ r3) (by rw [show kyO (some (.dict 4 [("tokens",.ref tl'),("place",.int (p+a':Nat) t3)]))=8 from by kernel_rfl];decide) _⟩,
   ⟨vs,nd _ _ (ex _ _ r4) (by decide:(5:Nat)≠7) _,r4'.fz fz⟩,⟨_,nd y _ h3y (by decide:(3:Nat)≠7) _,e1▸(g2.drop (n:=1)).fz fz⟩,(fun z=>by rw [z,hw] at hy;exact by injection hy),
   (fun x hx=>hx.elim (fun q=>A.off x (.inl q)) fun hx=>hx.elim (fun q=>A.off x (.inr (.inl q))) fun q=>q▸⟨fun z=>(nomatch (z▸hy).symm.trans A2.r0),fun z=>(nomatch (z▸hy).symm.trans hw),yo⟩),by lia⟩
 have R:=hid_close (w:=w) (b:=b) (mg:=mg) (mb:=mb) (os:=os) hc A3 ⟨ws,nd _ _ (ex _ _ hw) (by decide:(3:Nat)≠7) _,(hw'.swap (ad':=adI rd ctx src y) hc).fz fz⟩
 refine ⟨(.ret v,⟨[],[.hid (p+1),.lst cl]⟩),⟨tv,rfl,?_⟩,⟨fun x lv q=>noneE q,fun x y l l' v q=>noneE q,R⟩,k2.trans fz,rfl⟩
 rw [wOut_e]
 exact Rep.fz fz _ (hr.swap _ (X.nc _ (List.mem_of_getElem? hv)))
end
end
end Internal
end
section
namespace Internal
open PySem PySem.W PyProof.Rows
section
section
variable {w:Wo} {g:Nat} {r:List Root}
theorem share_vec (O:w.Ok) (hg:3≤g) {k:Str} {i:V}:GoodC w.e g 256 [.vec k i .none] r (.ok (.vec k i .none) r):=O.fn0 hg (by kernel_rfl) (.o1 fun a=>by kernel_rfl) (by kernel_rfl)
theorem share_mis (O:w.Ok) (hg:3≤g):GoodC w.e g 256 [misV] r (.ok misV r):=O.fn0 hg (by kernel_rfl) (.o1 fun a=>by kernel_rfl) (by kernel_rfl)
theorem char_ok (O:w.Ok) (hg:4≤g) {l:List V} (hl:l.length≤1000):GoodC w.e g 209 [.lst l] r (.ok (.vec "character" (.lst l) .none) r):=by
 refine GoodP.up (O.fn (g:=3) (by decide) (by kernel_rfl) (.o1 fun a=>by kernel_rfl) ?_) hg
 refine Internal.W.a (v:=.none) (P:=l.length≤sizeLine) (le1000 hl) (by kernel_rfl) ?_
 exact Internal.W.c (mk_vec O r (by decide) (k:="character") (i:=.lst l)) (by kernel_rfl) (Internal.W.rf (by kernel_rfl))
end
theorem Wo.eg (w:Wo):w.e.g=cfg w.w w.b w.mg w.mb w.os:=by unfold Wo.e;rfl
section
variable {c:Cfg} {F:Fx} {m:LM} {H:AH} {Q:Value→AH→Prop}
theorem p_Dict1 (ok:F.Ok) {k v:PySem.Expr} {pos:Pos} (tg:Nat) (h:∀ D,H D=none→PW c F m (H.set D (.dict 5 [])) (eval k F.env) fun kv H1=>PW c F m H1 (eval v F.env) fun vv H2=>∃ x t,kv=.str x t∧H2 D=some (.dict 5 [])∧Q (.ref D) (H2.set D (.dict tg [(x,vv)]))) :
  PW c F m H (eval (.Dict [some k] [v] pos) F.env) Q:=
 p_Dict ok tg (pairs:=[(eval k F.env,do let x ← eval v F.env;standAt pos;pure x)]) rfl (fun q=>by injection q) (by decide:1≤15) fun D hD=>
  p_pairs_cons ((h D hD).mono fun kv H1 h1=>PW.bind (h1.mono fun vv H2 h2=>PW.bind (PW.standAt (PW.pure (p_pairs_nil (by
   obtain ⟨x,t,rfl,hd,hq⟩:=h2
   exact ⟨[(x,vv)],⟨strKind_is _ _ _ _,rfl,trivial⟩,hd,hq⟩))))))
end
noncomputable def Wo.junk (w:Wo):Wo:={ w with ad:=at? [120],da:=at? [51],hid:=fun _ _=>False,n:=1 }
theorem Wo.junk_e (w:Wo):w.junk.e=mcAt w.e.g [120] [51] fun _ _=>False:=by unfold Wo.e;rfl
theorem Wo.Ok.junk {w:Wo} (O:w.Ok):w.junk.Ok:=⟨by rw [w.junk_e];exact mcAt_ok O.E.cok rfl (by decide) (fun _ _ _ z=>z.elim) fun _ _ z=>z.elim,by rw [w.junk_e];exact O.raise⟩
theorem GoodC.ext {w:Wo} (O:w.Ok) {g:Nat} {f:Addr} {as:List V} {v:V} (h:∀ {w:Wo} {r},w.Ok→GoodC w.e g f as r (.ok v r)) (ha:∀ x ∈ as,x.noC) (hv:v.noC) {H:AH} {ws:List Value} (hw:Reps w.e.ad H as ws) :
  CC w.e.g g 4 (.ref f) ws H (fun u H'=>Rep w.e.ad H' v u∧Ext H H') fun _ _ _=>False:=by
 refine CC.own fun ow=>?_
 have cok:=O.E.cok
 have z:=h (r:=[.stay H]) O.junk
 rw [w.junk_e] at z
 refine (z H ws (fun i x hx=>?_) (hw.swap ha)).mono (fun u H' k q=>?_) fun _ _ _ _ q=>by injection q
 ·match i with
  | 0=>exact Option.some.inj (show some (Root.stay H)=some x from hx)▸⟨(by decide:0<1),fun _ _ q _ _=>q⟩
  | n+1=>exact by injection hx
 ·obtain ⟨y,r',q1,q2,q3⟩:=q
  cases q1
  refine ⟨q2.swap _ hv,fun a o e=>?_⟩
  by_cases ht:o.tag=4
  ·rw [w.eg] at cok ow
   have:=RdH.b1 cok ow (x:=a) (by rw [e];exact fun z=>by injection z)
   exact (q3 0 _ rfl).2 a o e ht fun i hi=>by
    match i,hi with
    | 0,_=>exact this
    | i+1,hi=>exact absurd hi (by show ¬i+1<1;lia)
  ·exact (k a o e).1 ht
theorem noCs_iff {l:List V} (h:∀ x ∈ l,x.noC):V.noCs l:=by
 induction l with
 | nil=>trivial
 | cons x l ih=>exact ⟨h x (.head _),ih fun y hy=>h y (.tail _ hy)⟩
noncomputable def ifP (l:List Stmt):Pos:=match l with | .If _ _ _ p::_=>p | _=>default
section
variable {w:World} {b:Heap} {mg mb:Str→Option Value} {os:OsState}
theorem body_216 {C:Prop} (k:∀ a1 a2 a3 a4 b1 b2 c1 c2 d1 d2 d3 d4 d5 e1 e2,bodyOf (cfg w b mg mb os).K 216=.If (.Compare (.Name "names" a1) [.IsNot] [.Constant .none a2 a3] a4) [.Assign [.Attribute (.Name "v" b1) "attrs" b2] (.Dict [some (.Constant (.str "names") c1 c2)] [.Call (.Name "character" d1) [.Name "names" d2] [] d3] d4) d5] [] (ifP (bodyOf (cfg w b mg mb os).K 216)) ::
  .Return (some (.Name "v" e1)) e2::[]→C):C:=k _ _ _ _ _ _ _ _ _ _ _ _ _ _ _ rfl
theorem par_216 {a c:V}:((parOf (cfg w b mg mb os).K 216).zip (([a,c]++[]).map LV.v)).reverse++unOf (cfg w b mg mb os).K 216=([("names",.v c),("v",.v a)]:List (Str × LV)):=by kernel_rfl
theorem ns_216:((fdOf (cfg w b mg mb os).K 216).scope.names.lookup ("v" : Str)==some NameKind.local&&((fdOf (cfg w b mg mb os).K 216).scope.names.lookup ("names" : Str)==some NameKind.local&&(fdOf (cfg w b mg mb os).K 216).scope.names.lookup ("character" : Str)==some NameKind.globalImplicit))=true:=by kernel_rfl
theorem g_char:isRef 209 (nsIn (cfg w b mg mb os).K mainGlobals "character")=true:=by kernel_rfl
theorem k_char:keepIn (cfg w b mg mb os).K (.ref 209)=true:=by kernel_rfl
theorem set_120:setChk (cfg w b mg mb os).K 120=true:=by kernel_rfl
theorem tak_120:isNo (takerIn (cfg w b mg mb os).K 120 "attrs")=true:=by kernel_rfl
theorem st_attrs {k l a s o x:Value}:stored ([("kind",k),("items",l),("attrs",a),("shared",s),("loose",o)]:List (Str × Value)) "attrs" x=([("kind",k),("items",l),("attrs",x),("shared",s),("loose",o)]:List (Str × Value)):=by kernel_rfl
end
theorem named_ok {w:Wo} (O:w.Ok) {H:AH} {x dx:Addr} {kv iv nv sv lv:Value} {names:List V} (h1:H x=some (.inst 120 dx)) (h2:H dx=some (.dict 4 [("kind",kv),("items",iv),("attrs",.none),("shared",sv),("loose",lv)])) (hn:Rep w.e.ad H (.lst names) nv) (hz:names.length≤1000) (hnc:∀ x ∈ names,x.noC) :
  CC w.e.g 6 4 (.ref 216) [.ref x,nv] H (fun v H'=>v=.ref x∧(∀ a o,H a=some o→a≠dx→H' a=some o)∧∃ av,H' dx=some (.dict 4 [("kind",kv),("items",iv),("attrs",av),("shared",sv),("loose",lv)])∧Rep w.e.ad H' (.nm (.vec "character" (.lst names) .none)) av) fun _ _ _=>False:=by
 refine CC.by O.E (tabs_ok tabW (c:=[]) (s:=[]) fun p q=>noneE q) O.raise rfl (r:=[]) (xp:=fun _ _=>False) (as:=[.fn x,.lst names]) (fun i x q=>by injection q) (.cons .fn (.cons hn .nil)) (fun _ _ _ q=>q.elim) (g:=5) (by decide) (by kernel_rfl) (ds:=[]) (dv:=[]) (fun _=>.nil) (.o2 fun a b=>by kernel_rfl) fun F m H1 hrk fr S ext=>?_
 refine body_216 (w:=w.w) (b:=w.b) (mg:=w.mg) (mb:=w.mb) (os:=w.os) fun a1 a2 a3 a4 b1 b2 c1 c2 d1 d2 d3 d4 d5 e1 e2 hb=>?_
 have bq:=Bool.and_eq_true_iff.mp (ns_216 (w:=w.w) (b:=w.b) (mg:=w.mg) (mb:=w.mb) (os:=w.os))
 have n1:=bq.1
 have n:=bq.2
 have bq:=Bool.and_eq_true_iff.mp n
 have n2:=bq.1
 have n3:=bq.2
 replace n1:=beq_iff_eq.mp n1
 replace n2:=beq_iff_eq.mp n2
 replace n3:=beq_iff_eq.mp n3
 have gc:=isRef_spec (g_char (w:=w.w) (b:=w.b) (mg:=w.mg) (mb:=w.mb) (os:=w.os))
 have kc:=k_char (w:=w.w) (b:=w.b) (mg:=w.mg) (mb:=w.mb) (os:=w.os)
 obtain ⟨z1,z2,z3⟩:=setChk_spec (set_120 (w:=w.w) (b:=w.b) (mg:=w.mg) (mb:=w.mb) (os:=w.os))
 have z4:=isNo_spec (tak_120 (w:=w.w) (b:=w.b) (mg:=w.mg) (mb:=w.mb) (os:=w.os))
 have pr:=par_216 (w:=w.w) (b:=w.b) (mg:=w.mg) (mb:=w.mb) (os:=w.os) (a:=.fn x) (c:=.lst names)
 have sc:=fr.sc
 have cok:=O.E.cok
 have ok:=fr.ok
 rw [← Wo.eg] at hb gc kc n1 n2 n3 z1 z2 z3 z4 pr
 rw [hb]
 rw [pr] at S
 obtain ⟨u,hv,hu⟩:=S.loc "v" _ rfl
 obtain ⟨nu,hm,hr⟩:=S.loc "names" _ rfl
 cases (show u=.ref x from hu)
 replace hr:Rep w.e.ad H1 (.lst names) nu:=hr
 obtain ⟨na,ns,rfl,hr1,hr2⟩:=id hr.lstE
 refine q_if (p_tCompare (p_nl ok sc hm n2 (PW.const_none (p_isNot rfl (p_truthy_bool ?_)))))
 show PS w.e.g F m H1 _ _
 refine q_assign1 (p_Dict1 ok 0 fun D hD=>PW.const_str fun t=>p_CallN (p_ng cok ok sc gc n3 (p_callWith_K cok kc rfl (p_args_cons (p_nl ok sc hm n2 (p_args_nil ?_)))))) (exec_asg rfl rfl rfl)
 have hnc':V.noC (.lst names):=noCs_iff hnc
 refine p_call ok (GoodC.ext O (g:=5) (fun O'=>char_ok O' (by decide) hz) (fun y hy=>List.mem_singleton.mp hy▸hnc') ⟨hnc',trivial⟩ (.one (Rep.fz (.ofExt (.set hD)) _ hr))) (by rw [hrk];exact Nat.le_refl _) (by decide) (.inl fr.T.symm) (fun vv H2 _ q=>⟨_,_,rfl,q.2 _ _ AH.set_self,?_⟩) fun _ _ _ _ q=>q.elim
 have hD2:=q.2 _ _ (AH.set_self:(H1.set D (.dict 5 [])) D=_)
 have kz:Fz H2 (H2.set D (.dict 0 [("names",vv)])):=.set1 hD2 (by exact (by decide:(5:Nat)≠0))
 have X4:Ext H1 (H2.set D (.dict 0 [("names",vv)])):=fun a o e=>by
  have ha:a≠D:=fun z=>by rw [z,hD] at e;exact noneE e
  exact (AH.set_ne ha).trans (q.2 _ _ ((AH.set_ne ha).trans e))
 have g1:=X4 _ _ (ext _ _ h1)
 have g2:=X4 _ _ (ext _ _ h2)
 refine q_asAttr (p_nl ok sc hv n1 (p_setField cok ok g1 g2 (.inl fr.T.symm) ?_ z1 z2 z4 z3 (by decide:5≤1000)))
 rw [st_attrs]
 refine q_nil (q_ret (p_nl ok sc hv n1 ⟨rfl,fun a o e ha=>(AH.set_ne ha).trans (X4 _ _ (ext _ _ e)),.ref D,AH.set_self,D,vv,rfl,?_,?_⟩))
 ·refine (AH.set_ne fun z=>?_).trans AH.set_self
  have:=ext _ _ h2
  rw [← z,hD] at this;exact noneE this
 ·exact Rep.fz (kz.trans (.set1 g2 (by exact (by decide:(4:Nat)≠0)))) _ q.1
end
end Internal
end
section
namespace Internal
open PySem PySem.W PyProof.Rows
section
theorem PW.re {c:Cfg} {F:Fx} {m:LM} {H:AH} {α:Type} {t:Sem α} {Q:α→AH→Prop} (ok:F.Ok) (h:PW c F m H t fun v H'=>∃ a ao ao',H' a=some ao∧Mine F a ao∧¬ao.priv∧(∀ o,OR c.prog c.w ao o→OR c.prog c.w ao' o)∧Q v (H'.set a ao')):PW c F m H t Q:=fun s st=>
 PySem.wpAny_mono (h s st) (fun v s' z=>by
  obtain ⟨H',st',a,ao,ao',q1,q2,q3,q4,q5⟩:=z
  exact ⟨_,st'.retag ok q1 q2 q3 q4,q5⟩) fun _ _ e=>e
noncomputable def vecL (k:Value) (v2 v3:Value):List (Str × Value):=[("kind",k),("items",v2),("attrs",v3),("shared",.bool false),("loose",.bool false)]
noncomputable def VecF (ad:Nat→Addr) (H:AH) (k:Str) (i a:V) (es:List (Str × Value)):Prop:=∃ t v2 v3,es=vecL (.str k t) v2 v3∧Rep ad H i v2∧Rep ad H a v3
theorem vecFs {ad:Nat→Addr} {H:AH} {k:Str} {i a:V} {es:List (Str × Value)} (k1:es.map (·.1)=(["kind","items","attrs","shared","loose"]:List Str)) (k2:Reps ad H [.str k,i,a,.bool false,.bool false] (es.map (·.2))):VecF ad H k i a es:=by
 refine Reps.fld (f:=("kind",.str k)) (fs:=[("items",i),("attrs",a),("shared",.bool false),("loose",.bool false)]) (C:=fun es=>VecF ad H k i a es) k2 k1 fun v1 es a1 k2 k1=>?_
 refine Reps.fld (f:=("items",i)) (fs:=[("attrs",a),("shared",.bool false),("loose",.bool false)]) (C:=fun es=>VecF ad H k i a (("kind",v1)::es)) k2 k1 fun v2 es a2 k2 k1=>?_
 refine Reps.fld (f:=("attrs",a)) (fs:=[("shared",.bool false),("loose",.bool false)]) (C:=fun es=>VecF ad H k i a (("kind",v1)::("items",v2)::es)) k2 k1 fun v3 es a3 k2 k1=>?_
 refine Reps.fld (f:=("shared",.bool false)) (fs:=[("loose",.bool false)]) (C:=fun es=>VecF ad H k i a (("kind",v1)::("items",v2)::("attrs",v3)::es)) k2 k1 fun v4 es a4 k2 k1=>?_
 refine Reps.fld (f:=("loose",.bool false)) (fs:=[]) (C:=fun es=>VecF ad H k i a (("kind",v1)::("items",v2)::("attrs",v3)::("shared",v4)::es)) k2 k1 fun v5 es a5 k2 k1=>?_
 have e0:es=[]:=List.map_eq_nil_iff.mp k1
 obtain ⟨t1,rfl⟩:=a1
 cases (show v4=.bool false from a4)
 cases (show v5=.bool false from a5)
 exact ⟨t1,v2,v3,by rw [e0];rfl,a2,a3⟩
noncomputable def vArgs (l:List Stmt):List Expr:=match l with | .Return (some (.Call _ (.Call _ as _ _::_) _ _)) _::_=>as | _=>[]
section
variable {w:World} {b:Heap} {mg mb:Str→Option Value} {os:OsState}
theorem body_221 {C:Prop} (k:∀ a1 a2 a3 a4 a5 a6,bodyOf (cfg w b mg mb os).K 221=.Return (some (.Call (.Name "named" a1) [.Call (.Name "Vector" a2) (vArgs (bodyOf (cfg w b mg mb os).K 221)) [] a3,.Name "names" a4] [] a5)) a6::[]→C):C:=k _ _ _ _ _ _ rfl
theorem par_221 {a c:V}:((parOf (cfg w b mg mb os).K 221).zip (([a,c]++[]).map LV.v)).reverse++unOf (cfg w b mg mb os).K 221=([("names",.v c),("items",.v a)]:List (Str × LV)):=by kernel_rfl
theorem ns_221:((fdOf (cfg w b mg mb os).K 221).scope.names.lookup ("names" : Str)==some NameKind.local&&((fdOf (cfg w b mg mb os).K 221).scope.names.lookup ("named" : Str)==some NameKind.globalImplicit&&(fdOf (cfg w b mg mb os).K 221).scope.names.lookup ("Vector" : Str)==some NameKind.globalImplicit))=true:=by kernel_rfl
theorem g_named:(isRef 216 (nsIn (cfg w b mg mb os).K mainGlobals "named")&&isRef 120 (nsIn (cfg w b mg mb os).K mainGlobals "Vector"))=true:=by kernel_rfl
theorem k_named:(keepIn (cfg w b mg mb os).K (.ref 216)&&keepIn (cfg w b mg mb os).K (.ref 120))=true:=by kernel_rfl
theorem v_args:noStar (vArgs (bodyOf (cfg w b mg mb os).K 221))=true:=by kernel_rfl
end
theorem plist_args {w:Wo} (O:w.Ok) {m:Nat} {nm:V} {r:List Root} (hm:m≤1000):Internal.W (GoodP w.e 6) (fun _ _=>False) (evL (ev tabs 30) (fdOf w.e.g.K 221).scope.names (vArgs (bodyOf w.e.g.K 221)) ⟨[("names",.v nm),("items",.v (.lst (List.replicate m misV)))],r⟩)
  fun p=>p=([.str "pairlist",.lst (List.replicate m misV)],⟨[("names",.v nm),("items",.v (.lst (List.replicate m misV)))],r⟩):=by
 refine Internal.W.a (v:=.none) (P:=(List.replicate m misV).length≤sizeLine) (le1000 (by rw [List.length_replicate];exact hm)) (by kernel_rfl) ?_
 refine Internal.W.cm (l:=List.replicate m misV) (r:=r) (ys:=List.replicate m misV) (by kernel_rfl) rfl (fun i x y hx hy=>?_) (Internal.W.r (by kernel_rfl) rfl)
 cases List.eq_of_mem_replicate (List.mem_of_getElem? hx)
 cases List.eq_of_mem_replicate (List.mem_of_getElem? hy)
 exact Internal.W.c (share_mis O (r:=r) (by decide)) (by kernel_rfl) (Internal.W.r (a:=(misV,⟨[("item",.v misV)],r⟩)) (by kernel_rfl) ⟨rfl,rfl⟩)
end
end Internal
end
section
namespace Internal
open PySem PySem.W PyProof.Rows
section
theorem mk_vec4 {w:Wo} (O:w.Ok) {k:Str} {i:V} {H:AH} {ws:List Value} (hw:Reps w.e.ad H [.str k,i] ws) :
  CC w.e.g 3 4 (.ref 120) ws H (fun v H'=>∃ x dx t iv,v=.ref x∧H dx=none∧Ext H H'∧x≠dx∧H' x=some (.inst 120 dx)∧H' dx=some (.dict 4 (vecL (.str k t) iv .none))∧Rep w.e.ad H' i iv) fun _ _ _=>False:=
 make_sound (fl:=([("kind",.str k),("items",i),("attrs",.none),("shared",.bool false),("loose",.bool false)]:List (Str × V))) (fI:=110) (xs:=["kind","items","attrs"]) (as:=[.str k,i]) (ds:=[.none]) (dv:=[.none]) O.E (by decide) (by kernel_rfl) (by kernel_rfl) (by kernel_rfl) (.o3 fun a b c=>by kernel_rfl) (fun _=>.cons .none .nil) (by kernel_rfl) hw
  fun x dx H' es h0 hext hx hne hdx k1 k2=>by
   obtain ⟨t,v2,v3,rfl,a2,a3⟩:=vecFs k1 k2
   cases (show v3=.none from a3)
   exact ⟨.dict 4 (vecL (.str k t) v2 .none),fun o q=>q,x,dx,t,v2,rfl,h0,make_ext hext h0,hne,(AH.set_ne hne).trans hx,AH.set_self,Rep.fz (.set1 hdx (by exact (by decide:(99:Nat)≠0))) i a2⟩
theorem plist_ok {w:Wo} (O:w.Ok) {g m:Nat} {r:List Root} {names:List Str} (hg:7≤g) (hl:names.length≤1000) (hm:m=names.length):GoodC w.e g 221 [.lst (List.replicate m misV),.lst (names.map .str)] r (.ok (plV names) r):=by
 refine GoodP.up (GoodP.by O.E (tabs_ok tabW (c:=[]) (s:=[]) fun p q=>noneE q) O.raise rfl (g:=6) (by decide) (by kernel_rfl) (ds:=[]) (dv:=[]) (fun _=>.nil) (.o2 fun a b=>by kernel_rfl) fun F mm H0 hrk fr S=>?_) hg
 refine body_221 (w:=w.w) (b:=w.b) (mg:=w.mg) (mb:=w.mb) (os:=w.os) fun a1 a2 a3 a4 a5 a6 hb=>?_
 have bq:=Bool.and_eq_true_iff.mp (ns_221 (w:=w.w) (b:=w.b) (mg:=w.mg) (mb:=w.mb) (os:=w.os))
 have n1:=bq.1
 have n:=bq.2
 have bq:=Bool.and_eq_true_iff.mp n
 have n2:=bq.1
 have n3:=bq.2
 replace n1:=beq_iff_eq.mp n1
 replace n2:=beq_iff_eq.mp n2
 replace n3:=beq_iff_eq.mp n3
 have bq:=Bool.and_eq_true_iff.mp (g_named (w:=w.w) (b:=w.b) (mg:=w.mg) (mb:=w.mb) (os:=w.os))
 have g1:=bq.1
 have g2:=bq.2
 replace g1:=isRef_spec g1
 replace g2:=isRef_spec g2
 have bq:=Bool.and_eq_true_iff.mp (k_named (w:=w.w) (b:=w.b) (mg:=w.mg) (mb:=w.mb) (os:=w.os))
 have k1:=bq.1
 have k2:=bq.2
 have va:=v_args (w:=w.w) (b:=w.b) (mg:=w.mg) (mb:=w.mb) (os:=w.os)
 have pr:=par_221 (w:=w.w) (b:=w.b) (mg:=w.mg) (mb:=w.mb) (os:=w.os) (a:=.lst (List.replicate m misV)) (c:=.lst (names.map .str))
 rw [← Wo.eg] at hb g1 g2 k1 k2 n1 n2 n3 va pr
 rw [hb]
 rw [pr] at S
 have ok:=fr.ok
 have cok:=O.E.cok
 have sc:=fr.sc
 have fr':FrOk w.e tabs (GoodP w.e 6) F (fdOf w.e.g.K 221).scope.names fun _ _=>False:=
  ⟨O.E,tabs_ok tabW (c:=[]) (s:=[]) fun p q=>noneE q,ok,sc,fr.T,fun _ _ _ _ q=>q.elim,by rw [hrk];exact fun _ _ _ _ q=>q,fun x v k q=>noneE q⟩
 refine q_ret (PW.re ok (p_CallN (p_ng cok ok sc g1 n2 (p_callWith_K cok k1 rfl (p_args_cons (p_CallN (p_ng cok ok sc g2 n3 (p_callWith_K cok k2 (back_plain va).1 ((evL_sound (ev_sound 30) fr' S (plist_args O (by lia))).then fun vs H1 l s1 e1 S1 z1 h1=>?_)))))))))
 cases h1
 obtain ⟨nu,hn,hr⟩:=S1.loc "names" _ rfl
 refine p_call ok (mk_vec4 O e1) (by rw [hrk];decide) (by decide) (.inl fr.T.symm) (fun v H2 _ q=>?_) fun _ _ _ _ q=>q.elim
 obtain ⟨x,dx,t,iv,rfl,hdx,ex,hne,hx,hd,hi⟩:=q
 replace hr:Rep w.e.ad H1 (.lst (names.map .str)) nu:=hr
 refine p_args_cons (p_nl ok sc hn n1 (p_args_nil ?_))
 refine p_call ok (named_ok O hx hd (Rep.fz (.ofExt ex) _ hr) (by rw [List.length_map];exact hl) fun y hy=>?_) (by rw [hrk];decide) (by decide) (.inl fr.T.symm) (fun v H3 _ q=>?_) fun _ _ _ _ q=>q.elim
 ·obtain ⟨s,_,rfl⟩:=List.mem_map.mp hy;trivial
 obtain ⟨rfl,hk,av,hd3,ha⟩:=q
 refine ⟨dx,_,.vd (.str "pairlist" t) iv av,hd3,.inl fr.T.symm,id,fun o q=>⟨false,q⟩,?_⟩
 have e14:∀ o,Ext H1 (H3.set dx o):=fun o a p q=>by
  have hne:a≠dx:=fun z=>by rw [z,hdx] at q;exact noneE q
  exact (AH.set_ne hne).trans (hk _ _ (ex _ _ q) hne)
 have f34:∀ o,Fz H3 (H3.set dx o):=fun o=>.set1 hd3 (by exact (by decide:(4:Nat)≠0))
 have f24:∀ o,Fz H2 (H3.set dx o):=fun o a p q ht hp=>by
  have hne:a≠dx:=fun z=>by rw [z,hd] at q;cases q;exact absurd ht (by decide:(4:Nat)≠0)
  exact (AH.set_ne hne).trans (hk _ _ q hne)
 refine ⟨(.ret (plV names),⟨[],r⟩),⟨.ref x,rfl,⟨x,dx,t,iv,av,rfl,(AH.set_ne hne).trans (hk _ _ hx hne),AH.set_self,?_,Rep.fz (f34 _) _ ha⟩⟩,⟨fun x lv q=>noneE q,fun x y l l' v q=>noneE q,S1.roots.ext O.E (e14 _)⟩,z1.trans (.ofExt (e14 _)),rfl⟩
 exact hm▸Rep.fz (f24 _) _ hi
noncomputable def rowV (tk:Nat→Tk) (n:Nat):List V:=(List.range n).map fun i=>tokV (tk i).wd (tk i).nl i
theorem rowV_len {tk:Nat→Tk} {n:Nat}:(rowV tk n).length=n:=by rw [rowV,List.length_map,List.length_range]
theorem rowV_at {tk:Nat→Tk} {n p:Nat} (h:p<n):(rowV tk n)[p]?=some (tokV (tk p).wd (tk p).nl p):=by
 rw [rowV,List.getElem?_map,List.getElem?_range h];rfl
theorem valR_nc (w:Wd):(valR w).noC:=by
 cases w
 case num=>exact ⟨⟨⟨trivial,trivial,trivial⟩,trivial⟩,trivial⟩
 all_goals trivial
theorem tokV_nc (w:Wd) (nl:Bool) (i:Nat):(tokV w nl i).noC:=⟨trivial,valR_nc w,trivial,trivial,trivial⟩
theorem rowV_nc {tk:Nat→Tk} {n:Nat}:∀ x ∈ rowV tk n,x.noC:=fun x hx=>by
 obtain ⟨i,_,rfl⟩:=List.mem_map.mp hx
 exact tokV_nc _ _ _
theorem ctxL_nc:∀ ks:List Ctx,∀ x ∈ ctxL ks,x.noC
 | [],x,h=>nomatch h
 | k::ks,x,h=>(List.mem_append.mp h).elim (ctxL_nc ks x) fun h=>List.mem_singleton.mp h▸trivial
theorem reader_rk {w:World} {b:Heap} {mg mb:Str→Option Value} {os:OsState} {rd ctx:Addr} {tk:Nat→Tk} {n:Nat} (cok:(cfg w b mg mb os).Ok) (nd:([rd,ctx]++[120,51]:List Addr).Nodup) (h1:n≤1000) (heof:∀ p,p<n→(tk p).wd≠.eof→p+1<n):Rk (wOut w b mg mb os rd ctx (rowV tk n)) tk n:=by
 have X:RdH w b mg mb os rd ctx (rowV tk n):=⟨cok,nd,rowV_nc,by rw [rowV_len];exact h1⟩
 refine ⟨⟨X.out,fun {g p ks} hg hp=>pk_out X (ctxL_nc ks) (j:=0) (fun _ _ _ _ h=>h) (rowV_at hp) fun O ha=>peek_ok0 O (by lia) X.hz ha (rowV_at hp),
  fun {g p ks} hg hp=>pk_out X (ctxL_nc ks) (j:=1) (fun _ _ _ _ h=>h) (rowV_at hp) fun O ha=>peek_ok1 O (by lia) X.hz ha (rowV_at hp),
  fun {g p ks} hg hp=>take_out X (ctxL_nc ks) hg (rowV_at hp)⟩,heof,h1,fun hg=>share_vec X.out (by lia),fun hg hl hm=>plist_ok X.out (by lia) hl hm⟩
end
end Internal
end
section
namespace Internal
open PySem PySem.W PyProof.Rows
section
noncomputable def plTb (sa:Addr) (l:List Int):Tabs:={ tabs with c:=[],s:=[(sa,l)] }
noncomputable def plSt (sa:Addr) (fs:List Int) (mix:Int) (c b r s:LV):Fst:=⟨[("script",.v (.fn sa)),("figures",.own (fs.map .int)),("mix",.v (.int mix)),("cell",c),("big",b),("rest",r),("step",s)],[]⟩
noncomputable def PlZ (o:Out):Prop:=∃ (fs:List Int) (mix:Int),fs.length≤460∧o=.ok (.lst (poolV fs 0 mix)) []
noncomputable def plTree (w:Wo) (sa:Addr) (l:List Int):Tr (Fl × Fst):=treeOf (plTb sa l) w.e.g.K 578 [.fn sa] []
theorem pylong840 (a:Int):Builtin.divisionGoesByPylong a 840=false:=by
 unfold Builtin.divisionGoesByPylong
 exact Bool.and_eq_false_iff.mpr (.inl (by decide))
section
variable {w:Wo} {sa:Addr} {l:List Int}
noncomputable abbrev plLoop (w:Wo) (sa:Addr) (l:List Int):Tr (Fl × Fst):=rsA (plTree w sa l) .none
noncomputable def PlI (sa:Addr) (s:Fst):Prop:=∃ fs mix c b r st,fs.length≤400∧s=plSt sa fs mix c b r st
theorem pool_end {x big rest:Int} {fs:List Int} {mix:Int} {st:LV} {t:Tr (Option Fl × Fst)} (hf:fs.length≤460) {Q:Fl × Fst→Prop} {xp:Str→Int→Prop} {R:Addr→List V→List Root→(Out→Prop)→Prop}
  (e1:prA t (.int fs.length)=((fs.map V.int).length≤sizeLine∧V.int fs.length=.int (fs.map V.int).length)) (e2:∀ b,prA (rsA t (.int fs.length)) (.bool b)=(V.bool b=.bool (decide ((fs.length:Int)>400))))
  (e3:rtR (rsA (rsA t (.int fs.length)) (.bool false))=some (none,plSt sa fs mix (.v (.int x)) (.v (.int big)) (.v (.int rest)) st)) (e4:rtR (rsA (rsA t (.int fs.length)) (.bool true))=some (some .next,plSt sa fs mix (.v (.int x)) (.v (.int big)) (.v (.int rest)) st))
  (k:Internal.W R xp (flK (plLoop w sa l) (.next,plSt sa fs mix (.v (.int x)) (.v (.int big)) (.v (.int rest)) st)) Q):Internal.W R xp t (FQ R xp (plLoop w sa l) (PlI sa) Q):=by
 refine Internal.W.a ⟨le1000 (by rw [List.length_map];lia),by rw [List.length_map]⟩ e1 ?_
 by_cases h:fs.length≤400
 ·exact Internal.W.a (v:=.bool false) (by rw [decide_eq_false (by lia)]) (e2 false) (Internal.W.r e3 (.inl ⟨_,rfl,_,_,_,_,_,_,h,rfl⟩))
 ·exact Internal.W.a (v:=.bool true) (by rw [decide_eq_true (by lia)]) (e2 true) (Internal.W.r e4 (.inr ⟨_,_,rfl,k⟩))
theorem pool_fin {fs:List Int} {mix:Int} {c b r st:LV} (hf:fs.length≤460):Internal.W (GoodP w.e 3) (fun k n=>PlZ (.exc k n)) (flK (plLoop w sa l) (.next,plSt sa fs mix c b r st)) fun p=>PlZ (.ok (retV p.1) p.2.r):=
 W.rz (Z:=PlZ) (v:=.lst (poolV fs 0 mix)) (r:=[]) (by kernel_rfl) ⟨fs,mix,hf,rfl⟩
theorem pool_turn {x:Int} {fs:List Int} {mix:Int} {c b r st:LV} (hf:fs.length≤400):Internal.W (GoodP w.e 3) (fun k n=>PlZ (.exc k n)) (flT (plLoop w sa l) (.int x) (plSt sa fs mix c b r st)) (FQ (GoodP w.e 3) (fun k n=>PlZ (.exc k n)) (plLoop w sa l) (PlI sa) fun p=>PlZ (.ok (retV p.1) p.2.r)):=by
 refine Internal.W.a (v:=.int (mix*31)) (P:=IntMulOk mix 31∧V.int (mix*31)=.int (mix*31)) ⟨.of_right (by decide),rfl⟩ (by kernel_rfl) ?_
 refine Internal.W.a (v:=.int (mix*31+x)) (P:=V.int (mix*31+x)=.int (mix*31+x)) rfl (by kernel_rfl) ?_
 refine Internal.W.a (v:=.int ((mix*31+x).fmod 1009)) (P:=(1009:Int)≠0∧V.int ((mix*31+x).fmod 1009)=.int ((mix*31+x).fmod 1009)) ⟨by decide,rfl⟩ (by kernel_rfl) ?_
 refine Internal.W.a (v:=.none) (P:=-(2 ^ 60)≤(60:Int)∧(60:Int)≤2 ^ 60) (by decide) (by kernel_rfl) ?_
 refine Internal.W.f (n:=60) (s:=plSt sa fs ((mix*31+x).fmod 1009) (.v (.int x)) (.v (.int x)) (.v (.int (if x<0 then -x else x))) st) (fun i s=>∃ fs' rest st',fs'.length≤400+i∧s=plSt sa fs' ((mix*31+x).fmod 1009) (.v (.int x)) (.v (.int x)) (.v (.int rest)) st') (by kernel_rfl) ⟨fs,_,_,hf,rfl⟩ ?_ ?_
 ·rintro i s hi ⟨fs',rest,st',hl,rfl⟩
  refine Internal.W.a (v:=.int (rest.fmod 840)) (P:=(840:Int)≠0∧V.int (rest.fmod 840)=.int (rest.fmod 840)) ⟨by decide,rfl⟩ (by kernel_rfl) ?_
  refine Internal.W.a (v:=.none) (P:=(fs'.map V.int).length≤sizeLine) (le1000 (by rw [List.length_map];lia)) (by kernel_rfl) ?_
  refine Internal.W.a (v:=.int (rest.fdiv 840)) (P:=((840:Int)≠0∧Builtin.divisionGoesByPylong rest 840=false)∧V.int (rest.fdiv 840)=.int (rest.fdiv 840)) ⟨⟨by decide,pylong840 _⟩,rfl⟩ (by kernel_rfl) ?_
  have em:fs'.map V.int++[.int (rest.fmod 840)]=(fs'++[rest.fmod 840]).map V.int:=by rw [List.map_append];rfl
  have hl2:(fs'++[rest.fmod 840]).length≤400+(i+1):=by rw [List.length_append];exact Nat.succ_le_succ hl
  cases hb:(rest.fdiv 840==0)
  ·refine Internal.W.a (v:=.bool false) (P:=V.bool false=.bool (rest.fdiv 840==0)) (by rw [hb]) (by kernel_rfl) ?_
   refine Internal.W.r (a:=(none,⟨[("script",.v (.fn sa)),("figures",.own (fs'.map .int++[.int (rest.fmod 840)])),("mix",.v (.int ((mix*31+x).fmod 1009))),("cell",.v (.int x)),("big",.v (.int x)),("rest",.v (.int (rest.fdiv 840))),("step",.v (.int i))],[]⟩)) (by kernel_rfl) (.inl ⟨_,rfl,_,rest.fdiv 840,.v (.int i),hl2,?_⟩)
   rw [em];rfl
  ·refine Internal.W.a (v:=.bool true) (P:=V.bool true=.bool (rest.fdiv 840==0)) (by rw [hb]) (by kernel_rfl) ?_
   refine Internal.W.r (a:=(some .next,⟨[("script",.v (.fn sa)),("figures",.own (fs'.map .int++[.int (rest.fmod 840)])),("mix",.v (.int ((mix*31+x).fmod 1009))),("cell",.v (.int x)),("big",.v (.int x)),("rest",.v (.int (rest.fdiv 840))),("step",.v (.int i))],[]⟩)) (by kernel_rfl) (.inr ⟨_,_,rfl,?_⟩)
   rw [em]
   exact pool_end (fs:=fs'++[rest.fmod 840]) (mix:=(mix*31+x).fmod 1009) (x:=x) (big:=x) (rest:=rest.fdiv 840) (st:=.v (.int i)) (by lia) (by kernel_rfl) (fun b=>by kernel_rfl) (by kernel_rfl) (by kernel_rfl) (pool_fin (by lia))
 ·rintro s ⟨fs',rest,st',hl,rfl⟩
  exact pool_end (fs:=fs') (mix:=(mix*31+x).fmod 1009) (x:=x) (big:=x) (rest:=rest) (st:=st') hl (by kernel_rfl) (fun b=>by kernel_rfl) (by kernel_rfl) (by kernel_rfl) (pool_fin hl)
theorem pool_tree (hl:l.length≤1000):Internal.W (GoodP w.e 3) (fun k n=>PlZ (.exc k n)) (plTree w sa l) fun p=>PlZ (.ok (retV p.1) p.2.r):=by
 refine Internal.W.a (v:=.none) (P:=(sa=sa∧(0:Int)≤40)∧l.length≤sizeLine) ⟨⟨rfl,by decide⟩,le1000 hl⟩ (by kernel_rfl) ?_
 refine Internal.W.f (n:=((l.take 40).map V.int).length) (s:=plSt sa [] 5 .un .un .un .un) (fun _=>PlI sa) (by kernel_rfl) ⟨[],5,.un,.un,.un,.un,by decide,rfl⟩ (fun i s hi hI=>?_) fun s hI=>?_
 ·obtain ⟨fs,mix,c,b,r,st,h,rfl⟩:=hI
  have e:flI (plLoop w sa l) i=((l.take 40).map V.int).getD i .none:=by kernel_rfl
  rw [e,List.getD_eq_getElem?_getD,List.getElem?_eq_getElem hi]
  simp only [List.getElem_map,Option.getD_some]
  exact pool_turn h
 ·obtain ⟨fs,mix,c,b,r,st,h,rfl⟩:=hI
  exact pool_fin (by lia)
theorem pool_ok (O:w.Ok) (hs:∃ vs,w.e.g.b.IsList sa vs.toArray∧IntsAre vs l) (hl:l.length≤1000):GoodP w.e 4 578 [.fn sa] [] PlZ:=
 GoodP.fn (tb:=plTb sa l) O.E (tabs_ok tabW (c:=[]) (s:=[(sa,l)]) fun p q=>by (injection q with e1;subst e1);exact hs) O.raise rfl (by decide) (by kernel_rfl) (.o1 fun a=>by kernel_rfl) (pool_tree hl)
end
end
end Internal
end
section
namespace Internal
open PySem PySem.W PyProof.Rows
section
noncomputable def lwTb:Tabs:={ tabs with c:=[("pool",.cell 0)],s:=[] }
noncomputable def lwSegT (tb:Tabs) (w:Wo) (i k:Nat) (s:Fst):Tr (Fl × Fst):=evS tb (ev tb 30) (fdOf w.e.g.K 678).scope.names 40 (((bodyOf w.e.g.K 678).drop i).take k) s
noncomputable abbrev lwSeg:=lwSegT lwTb
noncomputable def lbSt (P l:List V) (sp:Int) (st wy sot:LV):Fst:=⟨[("words",.v (.cell 1)),("spare",.v (.cell 2)),("step",st),("way",wy),("spot",sot)],gnR P l sp⟩
noncomputable def LbQ (fs:List Int) (p:Fl × Fst):Prop:=∃ P l sp st,∃ way spot:Nat,GI true fs 608 252 P l sp∧way<8∧spot<l.length∧p=(.next,lbSt P l sp st (.v (.int way)) (.v (.int spot)))
section
variable {w:Wo} {g:Nat} {fs:List Int}
noncomputable abbrev XF:Str→Int→Prop:=fun _ _=>False
theorem lb_tail (O:w.Ok) (hg:13≤g) (hf:fs.length≤1000) {P l:List V} {sp:Int} {st:LV} {t:Tr (Fl × Fst)} (h:GI true fs 608 252 P l sp)
  (e1:rqC t=some (585,[.cell 0,.int 8],gnR P l sp)) (e2:∀ (z:Nat) P',prA (rsC t (.int z) (gnR P' l sp)) (.int l.length)=(l.length≤sizeLine∧V.int l.length=.int l.length))
  (e3:∀ (z:Nat) P',rqC (rsA (rsC t (.int z) (gnR P' l sp)) (.int l.length))=some (585,[.cell 0,.int l.length],gnR P' l sp))
  (e4:∀ (z:Nat) P' (y:Nat) P2,rtR (rsC (rsA (rsC t (.int z) (gnR P' l sp)) (.int l.length)) (.int y) (gnR P2 l sp))=some (.next,lbSt P2 l sp st (.v (.int z)) (.v (.int y)))):Internal.W (GoodP w.e g) XF t (LbQ fs):=by
 have hl:0<l.length:=by
  obtain ⟨_,ws,rfl,_,_,_,h6⟩:=h
  rw [List.length_map];exact List.length_pos_iff.mpr (h6 rfl)
 have hs:l.length≤sizeLine:=sizeM (by have:=h.len;lia)
 refine Internal.W.cp (pick_ok (b:=8) (r:=[.lst l,.lst [.int sp]]) O (by lia) hf h.1 (by decide)) e1 (fun v r' z=>?_) (fun kd m z=>(PickZ_exc z).elim)
 obtain ⟨y,P',hy,hP',e⟩:=z
 cases e
 refine Internal.W.a ⟨hs,rfl⟩ (e2 y P') ?_
 refine Internal.W.cp (pick_ok (b:=l.length) (r:=[.lst l,.lst [.int sp]]) O (by lia) hf hP' hl) (e3 y P') (fun v r' z=>?_) (fun kd m z=>(PickZ_exc z).elim)
 obtain ⟨y2,P2,hy2,hP2,e⟩:=z
 cases e
 exact Internal.W.r (e4 y P' y2 P2) ⟨P2,l,sp,st,y,y2,h.pool hP2,hy,hy2,rfl⟩
noncomputable def LbI (fs:List Int) (i:Nat) (s:Fst):Prop:=∃ bb P l sp st,GI bb fs (576+8*i) (228+6*i) P l sp∧(0<i→bb=true)∧s=lbSt P l sp st .un .un
theorem lb_ok (O:w.Ok) (hg:13≤g) (hf:fs.length≤1000) {P0:List V} (hP:PoolI fs P0):Internal.W (GoodP w.e g) XF (lwSeg w 3 3 (lbSt P0 [] 12 .un .un .un)) (LbQ fs):=by
 refine Internal.W.cp (pick_ok (b:=4) (r:=[.lst [],.lst [.int 12]]) O (by lia) hf hP (by decide)) (by kernel_rfl) (fun v r' z=>?_) (fun kd m z=>(PickZ_exc z).elim)
 obtain ⟨y,P1,hy,hP1,e⟩:=z
 cases e
 refine Internal.W.a (v:=.int (y+1:Nat)) (P:=V.int (y+1:Nat)=.int (1+(y:Int))) (congrArg V.int (by lia)) (by kernel_rfl) ?_
 refine Internal.W.a (v:=.none) (P:=-(2 ^ 60)≤((y+1:Nat):Int)∧((y+1:Nat):Int)≤2 ^ 60) (by lia) (by kernel_rfl) ?_
 refine Internal.W.f (n:=((y+1:Nat):Int).toNat) (s:=lbSt P1 [] 12 .un .un .un) (LbI fs) (by kernel_rfl) ⟨false,P1,[],12,.un,⟨hP1,[],rfl,fun _ h=>(nomatch h),by decide,by decide,fun h=>by injection h⟩,fun h=>absurd h (Nat.lt_irrefl 0),rfl⟩ (fun i s hi hI=>?_) fun s hI=>?_
 ·obtain ⟨bb,P,l,sp,st,h,_,rfl⟩:=hI
  refine Internal.W.cp (words_ok O hg hf h (by lia)) (by kernel_rfl) (fun v r' z=>?_) (fun kd m z=>(GZ_exc z).elim)
  obtain ⟨P2,l2,sp2,h2,e⟩:=z
  cases e
  refine Internal.W.cp (pick_ok (b:=2) (r:=[.lst l2,.lst [.int sp2]]) O (by lia) hf h2.1 (by decide)) (by kernel_rfl) (fun v r' z=>?_) (fun kd m z=>(PickZ_exc z).elim)
  obtain ⟨y4,P4,hy4,hP4,e⟩:=z
  cases e
  have h0:l2.length≤sizeLine:=sizeM (by have:=h2.len;lia)
  refine lt2 ?_ ?_ y4 hy4
  ·refine Internal.W.aq (v:=.bool false) (by kernel_rfl) ?_
   exact W.fa (s':=lbSt P4 l2 sp2 (.v (.int i)) .un .un) (by kernel_rfl) ⟨true,_,_,_,_,(h2.pool hP4).up (by lia) (by lia),fun _=>rfl,rfl⟩
  ·refine Internal.W.aq (v:=.bool true) (by kernel_rfl) ?_
   refine Internal.W.a (v:=.none) h0 (by kernel_rfl) ?_
   exact W.fa (s':=lbSt P4 (l2++[wordV (.op .semi)]) sp2 (.v (.int i)) .un .un) (by kernel_rfl) ⟨true,_,_,_,_,((h2.pool hP4).app (.op .semi) (fun e=>by injection e)).up (by simp only [w_lp,w_lb,w_rp,w_rb,w_se,w_ki,w_kw,w_kf,w_ke,w_id,w_nu];lia) (by lia),fun _=>rfl,rfl⟩
 ·obtain ⟨bb,P,l,sp,st,h,hb,rfl⟩:=hI
  have hn:((y+1:Nat):Int).toNat=y+1:=Int.toNat_natCast _
  rw [hn] at h hb
  cases hb (Nat.succ_pos y)
  exact lb_tail (st:=st) O hg hf (h.up (by lia) (by lia)) (by kernel_rfl) (fun z P'=>by kernel_rfl) (fun z P'=>by kernel_rfl) fun z P' y P2=>by kernel_rfl
end
end
end Internal
end
section
namespace Internal
open PySem PySem.W PyProof.Rows
section
noncomputable def lcSt (P:List V) (l:List V) (way spot:Nat) (toks:LV):Fst:=⟨[("words",.v (.lst l)),("way",.v (.int way)),("spot",.v (.int spot)),("tokens",toks)],[.lst P]⟩
noncomputable def lcWs (ws:List Wd):List V:=ws.map wordV
structure WsOk (ws:List Wd):Prop where
 noEof:∀ x ∈ ws,x≠.eof
 wt:wtL ws≤608
 len:ws.length≤253
noncomputable def LcQ (fs:List Int) (p:Fl × Fst):Prop:=∃ P ws way spot,PoolI fs P∧WsOk ws∧p=(.next,lcSt P (lcWs ws) way spot .un)
noncomputable def putW:Nat→Wd | 0=>.id "b" | 1=>.op .rp | 2=>.key .kelse | _=>.op .semi
theorem wtL_take_drop (ws:List Wd) (i:Nat):wtL (ws.take i)+wtL (ws.drop i)=wtL ws:=by rw [← wtL_app,List.take_append_drop]
section
variable {w:Wo} {g:Nat} {fs:List Int}
theorem lc_ok (O:w.Ok) (hg:13≤g) (hf:fs.length≤1000) {P:List V} (hP:PoolI fs P) {ws:List Wd} (h1:∀ x ∈ ws,x≠.eof) (h2:wtL ws≤608) (h3:ws.length≤252) {way spot:Nat} (hw:way<8) (hs:spot<ws.length) :
  Internal.W (GoodP w.e g) XF (lwSeg w 6 1 (lcSt P (lcWs ws) way spot .un)) (LcQ fs):=by
 have hl:(lcWs ws).length=ws.length:=List.length_map _
 have hsz:(lcWs ws).length≤sizeLine:=sizeM (by lia)
 have hd:=wtL_take_drop ws spot
 by_cases h6:way=6
 ·subst h6
  refine Internal.W.aq (v:=.bool true) (by kernel_rfl) ?_
  refine Internal.W.a (v:=.lst ((lcWs ws).take spot)) (P:=((lcWs ws).length≤sizeLine∧(0:Int)≤(spot:Int))∧V.lst ((lcWs ws).take spot)=.lst ((lcWs ws).take (spot:Int).toNat)) ⟨⟨hsz,by lia⟩,rfl⟩ (by kernel_rfl) ?_
  refine Internal.W.cp (pick_ok (b:=4) (r:=[]) O (by lia) hf hP (by decide)) (by kernel_rfl) (fun v r' z=>?_) (fun kd m z=>(PickZ_exc z).elim)
  obtain ⟨y,P1,hy,hP1,e⟩:=z
  cases e
  have four:(4:Nat)≤sizeLine:=sizeM (by decide)
  refine Internal.W.a (v:=wordV (putW y)) (P:=([wordV (.id "b"),wordV (.op .rp),wordV (.key .kelse),wordV (.op .semi)]:List V).length≤sizeLine∧((0:Int)≤(y:Int)∧([wordV (.id "b"),wordV (.op .rp),wordV (.key .kelse),wordV (.op .semi)]:List V)[(y:Int).toNat]?=some (wordV (putW y))∨(y:Int)=-1∧∃ l',([wordV (.id "b"),wordV (.op .rp),wordV (.key .kelse),wordV (.op .semi)]:List V)=l'++[wordV (putW y)])) ⟨four,.inl ⟨by lia,?_⟩⟩ (by kernel_rfl) ?_
  ·exact lt4 rfl rfl rfl rfl y hy
  refine Internal.W.a (v:=.none) (P:=((lcWs ws).take spot).length+1≤sizeLine) (sizeM (by rw [List.length_take];lia)) (by kernel_rfl) ?_
  refine Internal.W.a (v:=.lst ((lcWs ws).drop spot)) (P:=((lcWs ws).length≤sizeLine∧(0:Int)≤(spot:Int))∧V.lst ((lcWs ws).drop spot)=.lst ((lcWs ws).drop (spot:Int).toNat)) ⟨⟨hsz,by lia⟩,rfl⟩ (by kernel_rfl) ?_
  refine Internal.W.a (v:=.none) (P:=((lcWs ws).take spot++[wordV (putW y)]).length+((lcWs ws).drop spot).length≤sizeLine) (sizeM (by rw [List.length_append,List.length_take,List.length_drop];simp only [List.length_cons,List.length_nil];lia)) (by kernel_rfl) ?_
  refine Internal.W.r (a:=(.next,lcSt P1 (((lcWs ws).take spot++[wordV (putW y)])++(lcWs ws).drop spot) 6 spot .un)) (by kernel_rfl) ⟨P1,(ws.take spot++[putW y])++ws.drop spot,6,spot,hP1,⟨fun x hx=>?_,?_,?_⟩,?_⟩
  ·rcases List.mem_append.mp hx with hx | hx
   ·rcases List.mem_append.mp hx with hx | hx
    ·exact h1 x (List.mem_of_mem_take hx)
    ·rw [List.mem_singleton.mp hx]
     refine lt4 ?_ ?_ ?_ ?_ y hy
     ·exact fun e=>by injection e
     ·exact fun e=>by injection e
     ·exact fun e=>by injection e
     ·exact fun e=>by injection e
   ·exact h1 x (List.mem_of_mem_drop hx)
  ·have:wtL [putW y]=0:=by
    refine lt4 ?_ ?_ ?_ ?_ y hy
    ·rfl
    ·rfl
    ·rfl
    ·rfl
   rw [wtL_app,wtL_app,this];lia
  ·rw [List.length_append,List.length_append,List.length_take,List.length_drop];simp only [List.length_cons,List.length_nil];lia
  ·unfold lcWs
   rw [List.map_append,List.map_append,List.map_take,List.map_drop];rfl
 ·have e6:((way:Int)==6)=false:=beq_false_of_ne (by lia)
  refine Internal.W.a (v:=.bool false) (P:=V.bool false=.bool ((way:Int)==6)) (by rw [e6]) (by kernel_rfl) ?_
  by_cases h7:way=7
  ·subst h7
   refine Internal.W.aq (v:=.bool true) (by kernel_rfl) ?_
   refine Internal.W.a (v:=.lst ((lcWs ws).take spot)) (P:=((lcWs ws).length≤sizeLine∧(0:Int)≤(spot:Int))∧V.lst ((lcWs ws).take spot)=.lst ((lcWs ws).take (spot:Int).toNat)) ⟨⟨hsz,by lia⟩,rfl⟩ (by kernel_rfl) ?_
   refine Internal.W.a (v:=.int (spot+1:Nat)) (P:=V.int (spot+1:Nat)=.int ((spot:Int)+1)) rfl (by kernel_rfl) ?_
   refine Internal.W.a (v:=.lst ((lcWs ws).drop (spot+1))) (P:=((lcWs ws).length≤sizeLine∧(0:Int)≤((spot+1:Nat):Int))∧V.lst ((lcWs ws).drop (spot+1))=.lst ((lcWs ws).drop ((spot+1:Nat):Int).toNat)) ⟨⟨hsz,by lia⟩,rfl⟩ (by kernel_rfl) ?_
   refine Internal.W.a (v:=.none) (P:=((lcWs ws).take spot).length+((lcWs ws).drop (spot+1)).length≤sizeLine) (sizeM (by rw [List.length_take,List.length_drop];lia)) (by kernel_rfl) ?_
   have hd1:=wtL_take_drop (ws.drop spot) 1
   rw [List.drop_drop] at hd1
   refine Internal.W.r (a:=(.next,lcSt P ((lcWs ws).take spot++(lcWs ws).drop (spot+1)) 7 spot .un)) (by kernel_rfl) ⟨P,ws.take spot++ws.drop (spot+1),7,spot,hP,⟨fun x hx=>?_,?_,?_⟩,?_⟩
   ·rcases List.mem_append.mp hx with hx | hx
    ·exact h1 x (List.mem_of_mem_take hx)
    ·exact h1 x (List.mem_of_mem_drop hx)
   ·rw [wtL_app];lia
   ·rw [List.length_append,List.length_take,List.length_drop];lia
   ·unfold lcWs
    rw [List.map_append,List.map_take,List.map_drop]
  ·have e7:((way:Int)==7)=false:=beq_false_of_ne (by lia)
   refine Internal.W.a (v:=.bool false) (P:=V.bool false=.bool ((way:Int)==7)) (by rw [e7]) (by kernel_rfl) ?_
   exact Internal.W.r (a:=(.next,lcSt P (lcWs ws) way spot .un)) (by kernel_rfl) ⟨P,ws,way,spot,hP,⟨h1,h2,by lia⟩,rfl⟩
end
end
end Internal
end
section
namespace Internal
open PySem PySem.W PyProof.Rows
section
theorem W.cmI {R:Addr→List V→List Root→(Out→Prop)→Prop} {xp:Str→Int→Prop} {α:Type} {t:Tr α} {l:List V} {r:List Root} {Q:α→Prop} (I:Nat→List V→List Root→Prop) (e:cmL t=some (l,r)) (h0:I 0 [] r)
  (h:∀ i x ys rr,l[i]?=some x→I i ys rr→Internal.W R (fun _ _=>False) (cmF t x rr) fun p=>I (i+1) (ys++[p.1]) p.2.r) (k:∀ ys rr,I l.length ys rr→Internal.W R xp (rsM t ys rr) Q):Internal.W R xp t Q:=by
 induction t using Tr.casesOn
 case comp f l' r' k'=>
  have e1:=Option.some.inj (show some (l',r')=some (l,r) from e)
  injection e1 with e1 e2
  subst e1 e2
  exact ⟨I,h0,h,k⟩
 all_goals exact noneE e
noncomputable def tkOf (ws:List Wd) (ns:List Bool) (i:Nat):Tk:=⟨ws.getD i .eof,ns.getD i false⟩
noncomputable def pairL (ws:List Wd) (ns:List Bool):List V:=(ws.zip ns).map fun p=>tokS p.1 p.2
theorem tok_list {ws:List Wd} {ns:List Bool} (h:ns.length=ws.length):.lst (pairL ws ns++[tokS .eof false])=tokL (tkOf ws ns) (ws.length+1):=by
 refine congrArg V.lst (List.ext_getElem? fun i=>?_)
 rw [List.getElem?_map]
 by_cases hi:i<ws.length
 ·rw [List.getElem?_range (by lia),List.getElem?_append_left (by rw [pairL,List.length_map,List.length_zip];lia)]
  unfold pairL tkOf
  have hi2:i<ns.length:=by lia
  have e:(ws.zip ns)[i]?=some (ws[i],ns[i]):=List.getElem?_zip_eq_some.mpr ⟨List.getElem?_eq_getElem hi,List.getElem?_eq_getElem hi2⟩
  rw [List.getElem?_map,e]
  simp [List.getD_eq_getElem?_getD,hi,h]
 ·by_cases hi2:i=ws.length
  ·subst hi2
   rw [List.getElem?_range (by lia),List.getElem?_append_right (by rw [pairL,List.length_map,List.length_zip];lia)]
   have:ws.length - (pairL ws ns).length=0:=by rw [pairL,List.length_map,List.length_zip];lia
   rw [this]
   unfold tkOf
   simp [List.getD_eq_getElem?_getD,h]
  ·rw [List.getElem?_eq_none (by rw [pairL,List.length_append,List.length_map,List.length_zip];simp;lia),List.getElem?_eq_none (by rw [List.length_range];lia)];rfl
noncomputable def LdQ (fs:List Int) (ws:List Wd) (p:Fl × Fst):Prop:=∃ P ns way spot,PoolI fs P∧ns.length=ws.length∧p=(.next,lcSt P (lcWs ws) way spot (.v (tokL (tkOf ws ns) (ws.length+1))))
section
variable {w:Wo} {g:Nat} {fs:List Int}
theorem ld_ok (O:w.Ok) (hg:13≤g) (hf:fs.length≤1000) {P:List V} (hP:PoolI fs P) {ws:List Wd} (h3:ws.length≤253) {way spot:Nat} :
  Internal.W (GoodP w.e g) XF (lwSeg w 7 1 (lcSt P (lcWs ws) way spot .un)) (LdQ fs ws):=by
 have hl:(lcWs ws).length=ws.length:=List.length_map _
 have hsz:(lcWs ws).length≤sizeLine:=sizeM (by lia)
 refine Internal.W.a (v:=.none) (P:=(lcWs ws).length≤sizeLine) hsz (by kernel_rfl) ?_
 refine W.cmI (l:=lcWs ws) (r:=[.lst P]) (fun i ys rr=>∃ P ns,PoolI fs P∧ns.length=i∧ys=pairL (ws.take i) ns∧rr=[.lst P]) (by kernel_rfl) ⟨P,[],hP,rfl,rfl,rfl⟩ (fun i x ys rr hx hI=>?_) fun ys rr hI=>?_
 ·obtain ⟨P1,ns,hP1,hn,rfl,rfl⟩:=hI
  unfold lcWs at hx
  rw [List.getElem?_map] at hx
  obtain ⟨wd,hwd,rfl⟩:=Option.map_eq_some_iff.mp hx
  have hi:i<ws.length:=(List.getElem?_eq_some_iff.mp hwd).1
  refine Internal.W.cp (pick_ok (b:=3) (r:=[]) O (by lia) hf hP1 (by decide)) (by kernel_rfl) (fun v r' z=>?_) (fun kd m z=>(PickZ_exc z).elim)
  obtain ⟨y,P2,hy,hP2,e⟩:=z
  cases e
  refine Internal.W.a (v:=.bool ((y:Int)==1)) (P:=V.bool ((y:Int)==1)=.bool ((y:Int)==1)) rfl (by kernel_rfl) ?_
  refine Internal.W.r (a:=(tokS wd ((y:Int)==1),⟨[("kind",.v (.str wd.kd)),("value",.v (valS wd))],[.lst P2]⟩)) (by kernel_rfl) ⟨P2,ns++[(y:Int)==1],hP2,by rw [List.length_append,hn];rfl,?_,rfl⟩
  unfold pairL
  rw [List.take_add_one,hwd]
  have:(ws.take i).length=ns.length:=by rw [List.length_take,hn];lia
  show _=List.map _ ((ws.take i++[wd]).zip _)
  rw [List.zip_append this,List.map_append];rfl
 ·obtain ⟨P1,ns,hP1,hn,rfl,rfl⟩:=hI
  rw [hl] at hn
  rw [show ws.take (lcWs ws).length=ws by rw [hl,List.take_length]]
  have hpl:(pairL ws ns).length=ws.length:=by rw [pairL,List.length_map,List.length_zip];lia
  refine Internal.W.a (v:=.none) (P:=(pairL ws ns).length+1≤sizeLine) (sizeM (by lia)) (by kernel_rfl) ?_
  refine Internal.W.r (a:=(.next,lcSt P1 (lcWs ws) way spot (.v (.lst (pairL ws ns++[tokS .eof false]))))) (by kernel_rfl) ⟨P1,ns,way,spot,hP1,hn,?_⟩
  rw [tok_list hn]
end
end
end Internal
end
section
namespace Internal
open PySem PySem.W PyProof.Rows
section
theorem mk_tok {w:Wo} {g:Nat} (O:w.Ok) (r:List Root) (hg:3≤g) {a b c d:V}:GoodC w.e g 539 [a,b,c,d] r (.ok (.obj 539 [a,b,c,d]) r):=
 GoodC.obj O.E (fI:=536) (xs:=["kind","value","at","newline"]) (ds:=[]) (dv:=[]) (fl:=[("kind",a),("value",b),("at",c),("newline",d)]) hg (by kernel_rfl) (by kernel_rfl) (by kernel_rfl) (.of fun ws hw=>lenS hw fun a ws h=>len4 (C:=fun ws=>BindN w.e.g.K 536 [] (a::ws)) h fun b c d e=>by kernel_rfl) (fun _=>.nil) (by kernel_rfl) (by kernel_rfl)
noncomputable def rwSt (tk:Nat→Tk) (n:Nat) (due:List V) (row:LV) (x1 x2 x3 x4:LV) (r:List Root):Fst:=⟨[("world",.v (.cell 0)),("tokens",.v (tokL tk n)),("due",.own due),("row",row),("step",x1),("kind",x2),("value",x3),("newline",x4)],r⟩
section
variable {w:Wo} {g:Nat} {tk:Nat→Tk} {n:Nat} {due:List V} {r:List Root}
noncomputable def RwQ (tk:Nat→Tk) (n:Nat) (due:List V) (r:List Root) (p:Fl × Fst):Prop:=∃ x1 x2 x3 x4,p=(.next,rwSt tk n due (.own (rowV tk n)) x1 x2 x3 x4 r)
theorem rowV_succ {i:Nat}:rowV tk (i+1)=rowV tk i++[tokV (tk i).wd (tk i).nl i]:=by
 unfold rowV
 rw [List.range_succ,List.map_append];rfl
theorem row_ok (O:w.Ok) (hg:4≤g) (hn:n≤900):Internal.W (GoodP w.e g) XF (lwSegT tabs w 11 2 (rwSt tk n due .un .un .un .un .un r)) (RwQ tk n due r):=by
 have hl:((List.range n).map fun i=>tokS (tk i).wd (tk i).nl).length=n:=by rw [List.length_map,List.length_range]
 refine Internal.W.a (v:=.int n) (P:=((List.range n).map fun i=>tokS (tk i).wd (tk i).nl).length≤sizeLine∧V.int n=.int ((List.range n).map fun i=>tokS (tk i).wd (tk i).nl).length) ⟨le1000 (by lia),by rw [hl]⟩ (by kernel_rfl) ?_
 refine Internal.W.a (v:=.none) (P:=-(2 ^ 60)≤(n:Int)∧(n:Int)≤2 ^ 60) (by lia) (by kernel_rfl) ?_
 refine Internal.W.f (n:=(n:Int).toNat) (s:=rwSt tk n due (.own []) .un .un .un .un r) (fun i s=>∃ x1 x2 x3 x4,s=rwSt tk n due (.own (rowV tk i)) x1 x2 x3 x4 r) (by kernel_rfl) ⟨_,_,_,_,rfl⟩ (fun i s hi hI=>?_) fun s hI=>?_
 ·obtain ⟨x1,x2,x3,x4,rfl⟩:=hI
  have hi':i<n:=by lia
  refine Internal.W.a (v:=tokS (tk i).wd (tk i).nl) (P:=((List.range n).map fun i=>tokS (tk i).wd (tk i).nl).length≤sizeLine∧((0:Int)≤(i:Int)∧((List.range n).map fun i=>tokS (tk i).wd (tk i).nl)[(i:Int).toNat]?=some (tokS (tk i).wd (tk i).nl)∨(i:Int)=-1∧∃ l',((List.range n).map fun i=>tokS (tk i).wd (tk i).nl)=l'++[tokS (tk i).wd (tk i).nl])) ⟨le1000 (by lia),.inl ⟨by lia,by rw [Int.toNat_natCast,List.getElem?_map,List.getElem?_range hi'];rfl⟩⟩ (by kernel_rfl) ?_
  have hr:(rowV tk i).length≤sizeLine:=le1000 (by rw [rowV_len];lia)
  have fin:∀ (wd:Wd) (nl:Bool) (t:Tr (Option Fl × Fst)) (s0 s1:Fst),prA t (.int (10*i:Nat))=(IntMulOk 10 i∧V.int (10*i:Nat)=.int (10*(i:Int)))→rqC (rsA t (.int (10*i:Nat)))=some (539,[.str wd.kd,valR wd,.int (10*i:Nat),.bool nl],r)→prA (rsC (rsA t (.int (10*i:Nat))) (tokV wd nl i) r) .none=((rowV tk i).length≤sizeLine) →
    rtR (rsA (rsC (rsA t (.int (10*i:Nat))) (tokV wd nl i) r) .none)=some (none,s1)→(∃ x1 x2 x3 x4,s1=rwSt tk n due (.own (rowV tk (i+1))) x1 x2 x3 x4 r)→Internal.W (GoodP w.e g) XF t (FQ (GoodP w.e g) XF (rsA (rsA (lwSegT tabs w 11 2 (rwSt tk n due .un .un .un .un .un r)) (.int n)) .none) (fun s=>∃ x1 x2 x3 x4,s=rwSt tk n due (.own (rowV tk (i+1))) x1 x2 x3 x4 r) (RwQ tk n due r)):=fun wd nl t s0 s1 e1 e2 e3 e4 h=>by
   refine Internal.W.a ⟨.of_left (by decide),rfl⟩ e1 ?_
   refine Internal.W.c (mk_tok O r (by lia)) e2 ?_
   exact Internal.W.a hr e3 (Internal.W.r e4 (.inl ⟨_,rfl,h⟩))
  have hrow:rowV tk (i+1)=rowV tk i++[tokV (tk i).wd (tk i).nl i]:=rowV_succ
  revert hrow fin
  generalize (tk i).wd=wd
  generalize (tk i).nl=nl
  intro fin hrow
  cases wd with
  | num m=>
   refine Internal.W.c (mk_vec O r (by lia) (k:="double") (i:=.lst [.tup [.int m,.int 1]])) (by kernel_rfl) ?_
   exact fin (.num m) nl _ ⟨[],[]⟩ (rwSt tk n due (.own (rowV tk i++[tokV (.num m) nl i])) (.v (.int i)) (.v (.str "num")) (.v (.int m)) (.v (.bool nl)) r) (by kernel_rfl) (by kernel_rfl) (by kernel_rfl) (by kernel_rfl) ⟨_,_,_,_,by rw [hrow]⟩
  | id m=>exact fin (.id m) nl _ ⟨[],[]⟩ (rwSt tk n due (.own (rowV tk i++[tokV (.id m) nl i])) (.v (.int i)) (.v (.str "id")) (.v (.str m)) (.v (.bool nl)) r) (by kernel_rfl) (by kernel_rfl) (by kernel_rfl) (by kernel_rfl) ⟨_,_,_,_,by rw [hrow]⟩
  | op m=>exact fin (.op m) nl _ ⟨[],[]⟩ (rwSt tk n due (.own (rowV tk i++[tokV (.op m) nl i])) (.v (.int i)) (.v (.str "op")) (.v (.str m.s)) (.v (.bool nl)) r) (by kernel_rfl) (by kernel_rfl) (by kernel_rfl) (by kernel_rfl) ⟨_,_,_,_,by rw [hrow]⟩
  | key m=>exact fin (.key m) nl _ ⟨[],[]⟩ (rwSt tk n due (.own (rowV tk i++[tokV (.key m) nl i])) (.v (.int i)) (.v (.str "key")) (.v (.str m.s)) (.v (.bool nl)) r) (by kernel_rfl) (by kernel_rfl) (by kernel_rfl) (by kernel_rfl) ⟨_,_,_,_,by rw [hrow]⟩
  | eof=>exact fin .eof nl _ ⟨[],[]⟩ (rwSt tk n due (.own (rowV tk i++[tokV .eof nl i])) (.v (.int i)) (.v (.str "eof")) (.v (.str "")) (.v (.bool nl)) r) (by kernel_rfl) (by kernel_rfl) (by kernel_rfl) (by kernel_rfl) ⟨_,_,_,_,by rw [hrow]⟩
 ·obtain ⟨x1,x2,x3,x4,rfl⟩:=hI
  exact Internal.W.r (a:=(.next,rwSt tk n due (.own (rowV tk (n:Int).toNat)) x1 x2 x3 x4 r)) (by kernel_rfl) ⟨x1,x2,x3,x4,rfl⟩
end
end
end Internal
end
section
namespace Internal
open PySem PySem.W PyProof.Rows
section
theorem execs_app (l1 l2:List Stmt) (env:Env):execs (l1++l2) env=(execs l1 env >>= fun f=>match f with | .next=>execs l2 env | f=>pure f):=by
 induction l1 with
 | nil=>show execs l2 env=(pure Flow.next >>= _);rw [pure_bind]
 | cons st l1 ih=>
  rw [List.cons_append,execs_cons,execs_cons,bind_assoc]
  refine congrArg _ (funext fun f=>?_)
  cases f with
  | next=>exact ih
  | _=>show pure _=(pure _ >>= _);rw [pure_bind]
section
variable {c:Cfg} {F:Fx} {m:LM} {H:AH} {R:Flow→LM→AH→Prop}
theorem q_app {l1 l2:List Stmt} (h:PS c F m H (execs l1 F.env) (NX c F l2 R)):PS c F m H (execs (l1++l2) F.env) R:=by
 rw [execs_app]
 refine PS.bind (h.mono fun f m' H' h'=>?_)
 cases f<;>first | exact h' | exact PS.pure h'
end
section
variable {e:Mc} {tb:Tabs} {R:Addr→List V→List Root→(Out→Prop)→Prop} {F:Fx} {ns:List (Str × NameKind)} {xp:Str→Int→Prop} {m:LM} {H:AH} {s:Fst}
theorem q_seg {d:Nat} {body:List Stmt} {i k:Nat} {Q:Fl × Fst→Prop} {R':Flow→LM→AH→Prop} (fr:FrS e tb R F ns xp) (S:SimF e F s m H) (h:W R xp (evS tb (ev tb 30) ns d ((body.drop i).take k) s) Q) (hq:∀ p,Q p→p.1=.next)
  (kk:∀ s' m' H',SimF e F s' m' H'→Fz H H'→Q (.next,s')→PS e.g F m' H' (execs (body.drop (i+k)) F.env) R'):PS e.g F m H (execs (body.drop i) F.env) R':=by
 have e1:body.drop i=(body.drop i).take k++body.drop (i+k):=by rw [← List.drop_drop,List.take_append_drop]
 rw [e1]
 refine q_app ((evS_sound (ev_sound 30) d _ fr S h).mono fun fl m' H' z=>?_)
 obtain ⟨⟨fl',s'⟩,a,b,k',q⟩:=z
 cases (show fl'=.next from hq _ q)
 rw [show fl=.next from a]
 exact kk _ _ _ b k' q
end
end
end Internal
end
section
namespace Internal
open PySem PySem.W PyProof.Rows
section
noncomputable def wAt (w:World) (b:Heap) (mg mb:Str→Option Value) (os:OsState) (l l':List Addr):Wo:=⟨w,b,mg,mb,os,at? l,at? l',fun _ _=>False,l.length⟩
section
variable {w:World} {b:Heap} {mg mb:Str→Option Value} {os:OsState}
theorem wAt_e {l l':List Addr}:(wAt w b mg mb os l l').e=mcAt (cfg w b mg mb os) l l' fun _ _=>False:=by unfold Wo.e;rfl
theorem wAt_g {l l':List Addr}:(wAt w b mg mb os l l').e.g=cfg w b mg mb os:=by rw [wAt_e];rfl
theorem wAt_ok {l l':List Addr} (cok:(cfg w b mg mb os).Ok) (hl:l'.length=l.length) (h:(l++l').Nodup):(wAt w b mg mb os l l').Ok:=
 ⟨by rw [wAt_e];exact mcAt_ok cok hl h (fun _ _ _ z=>z.elim) fun _ _ z=>z.elim,by rw [wAt_e];exact raises_ok cok⟩
structure LwF (w:World) (b:Heap) (mg mb:Str→Option Value) (os:OsState) (F:Fx) (g:Nat) (pl:Addr):Prop where
 cok:(cfg w b mg mb os).Ok
 ok:F.Ok
 sc:Sc F (fdOf (cfg w b mg mb os).K 678).scope.names
 T:F.T=4
 r:F.r=g
 g2:2≤g
 cel:CellAt b F.env "pool" (.ref pl)
variable {F:Fx} {g:Nat} {pl:Addr} {m:LM} {H:AH}
theorem LwF.fr (L:LwF w b mg mb os F g pl) {l l':List Addr} (O:(wAt w b mg mb os (pl::l) l').Ok):FrS (wAt w b mg mb os (pl::l) l').e lwTb (GoodP (wAt w b mg mb os (pl::l) l').e g) F (fdOf (wAt w b mg mb os (pl::l) l').e.g.K 678).scope.names XF:=
 ⟨⟨O.E,tabs_ok tabW (c:=[("pool",.cell 0)]) (s:=[]) fun p q=>noneE q,L.ok,by rw [wAt_g];exact L.sc,L.T,fun _ _ _ _ q=>q.elim,by rw [L.r];exact fun _ _ _ _ q=>q,fun x v k q _ _=>by
  refine ifs (show (if x = "pool" then some (V.cell 0) else none)=some v from ?_) (fun hx hv=>?_) fun _ h=>noneE h
  ·rw [← q]
   show _=(match x == "pool" with | true=>_ | false=>_)
   by_cases hx:x = "pool"
   ·rw [if_pos hx,beq_iff_eq.mpr hx]
   ·rw [if_neg hx,beq_eq_false_iff_ne.mpr hx];rfl
  ·subst hx
   refine ⟨.ref pl,by rw [wAt_g];exact L.cel,fun H=>?_⟩
   rw [← Option.some.inj hv,wAt_e]
   exact rfl⟩,by rw [L.r];exact L.g2,O.raise⟩
theorem LwF.fr0 (L:LwF w b mg mb os F g pl) {l l':List Addr} (O:(wAt w b mg mb os l l').Ok):FrS (wAt w b mg mb os l l').e tabs (GoodP (wAt w b mg mb os l l').e g) F (fdOf (wAt w b mg mb os l l').e.g.K 678).scope.names XF:=
 ⟨⟨O.E,tabs_ok tabW (c:=[]) (s:=[]) fun p q=>noneE q,L.ok,by rw [wAt_g];exact L.sc,L.T,fun _ _ _ _ q=>q.elim,by rw [L.r];exact fun _ _ _ _ q=>q,fun x v k q=>noneE q⟩,by rw [L.r];exact L.g2,O.raise⟩
theorem PS.re {c:Cfg} {α:Type} {t:Sem α} {R:α→LM→AH→Prop} (ok:F.Ok) {a:Addr} {ao ao':AObj} (ha:H a=some ao) (hm:Mine F a ao) (hp:¬ao.priv) (ho:∀ o,OR c.prog c.w ao o→OR c.prog c.w ao' o) (h:PS c F m (H.set a ao') t R):PS c F m H t R:=fun s st=>h s (st.retag ok ha hm hp ho)
end
end
end Internal
end
section
namespace Internal
open PySem PySem.W PyProof.Rows
section
section
variable {w:World} {b:Heap} {mg mb:Str→Option Value} {os:OsState}
theorem k_three:(((cfg w b mg mb os).K.lookup 120).isSome&&(((cfg w b mg mb os).K.lookup 51).isSome&&((cfg w b mg mb os).K.lookup 31).isSome))=true:=by kernel_rfl
theorem base_ne (h:(cfg w b mg mb os).Ok) {H:AH} (ow:∀ a o,H a=some o→(cfg w b mg mb os).b.get? a=none) {x:Addr} {o:AObj} (hx:H x=some o):x≠120∧x≠51∧x≠31:=by
 have bq:=Bool.and_eq_true_iff.mp (k_three (w:=w) (b:=b) (mg:=mg) (mb:=mb) (os:=os))
 have k1:=bq.1
 have k:=bq.2
 have bq:=Bool.and_eq_true_iff.mp k
 have k2:=bq.1
 have k3:=bq.2
 have g:∀ y,((cfg w b mg mb os).K.lookup y).isSome=true→x≠y:=fun y k z=>by
  obtain ⟨u,k⟩:=Option.isSome_iff_exists.mp k
  have:=h.X _ _ k
  rw [← z,ow _ _ hx] at this
  exact noneE this
 exact ⟨g _ k1,g _ k2,g _ k3⟩
theorem body_12 {C:Prop} (k:∀ a1 a2 a3 b1 b2 b3 b4 b5,((bodyOf (cfg w b mg mb os).K 678).drop 1).take 2=[.Assign [.Name "words" a1] (.List [] a2) a3,.Assign [.Name "spare" b1] (.List [.Constant (.int 12) b2 b3] b4) b5]→C):C:=k _ _ _ _ _ _ _ _ rfl
theorem ns_ws:((fdOf (cfg w b mg mb os).K 678).scope.names.lookup ("words" : Str)==some NameKind.local&&(fdOf (cfg w b mg mb os).K 678).scope.names.lookup ("spare" : Str)==some NameKind.local)=true:=by kernel_rfl
variable {F:Fx} {g:Nat} {pl:Addr} {m:LM} {H:AH} {fs:List Int}
theorem drop_split {l:List Stmt} {i k:Nat}:l.drop i=(l.drop i).take k++l.drop (i+k):=by rw [← List.drop_drop,List.take_append_drop]
theorem law_lists (L:LwF w b mg mb os F g pl) {pv:List Value} (hpl:H pl=some (.list 4 pv)) {R':Flow→LM→AH→Prop}
  (k:∀ m' H' a1 a2 t,Ext H H'→pl≠a1→pl≠a2→a1≠a2→H' a1=some (.list 4 [])→H' a2=some (.list 4 [.int 12 t])→look m' "words" = some (.ref a1)→look m' "spare" = some (.ref a2)→PS (cfg w b mg mb os) F m' H' (execs ((bodyOf (cfg w b mg mb os).K 678).drop 3) F.env) R') :
  PS (cfg w b mg mb os) F m H (execs ((bodyOf (cfg w b mg mb os).K 678).drop 1) F.env) R':=by
 refine body_12 (w:=w) (b:=b) (mg:=mg) (mb:=mb) (os:=os) fun a1 a2 a3 b1 b2 b3 b4 b5 hb=>?_
 have bq:=Bool.and_eq_true_iff.mp (ns_ws (w:=w) (b:=b) (mg:=mg) (mb:=mb) (os:=os))
 have n1:=bq.1
 have n2:=bq.2
 rw [drop_split (i:=1) (k:=2),hb]
 have z:(0:Nat)≤sizeLine:=Nat.zero_le _
 refine q_app (q_asN L.ok L.sc (beq_iff_eq.mp n1) (swaps_no rfl _ _ _) (p_List (p_args_nil (p_newListF 4 (fun x hx h0=>?_) z))))
 refine q_asN L.ok L.sc (beq_iff_eq.mp n2) (swaps_no rfl _ _ _) (p_List (p_args_cons (PW.const_int fun t=>p_args_nil (p_newListF 4 (fun y hy h1=>?_) (le1000 (by decide:1≤1000))))))
 have e1:Ext H (H.set x (.list 4 [])):=.set hx
 have e2:Ext (H.set x (.list 4 [])) ((H.set x (.list 4 [])).set y (.list 4 [.int 12 t])):=.set hy
 have hpx:pl≠x:=fun z=>by rw [z,hx] at hpl;exact noneE hpl
 have hpy:pl≠y:=fun z=>by have:=e1 _ _ hpl;rw [z,hy] at this;exact noneE this
 have hxy:x≠y:=fun z=>by rw [← z,AH.set_self] at hy;exact noneE hy.symm
 refine q_nil (k _ _ x y t (e1.trans e2) hpx hpy hxy (e2 _ _ AH.set_self) AH.set_self ?_ ?_)
 ·exact lk_ne (by decide +kernel) lk_self
 ·exact lk_self
theorem wordV_nc (x:Wd):(wordV x).noC:=by
 cases x<;>exact ⟨trivial,trivial,trivial⟩
theorem lcWs_nc {ws:List Wd}:∀ x ∈ lcWs ws,x.noC:=fun x hx=>by
 obtain ⟨y,_,rfl⟩:=List.mem_map.mp hx
 exact wordV_nc y
theorem poolV_nc {fs:List Int} {i mix:Int}:∀ x ∈ poolV fs i mix,x.noC:=fun x hx=>by
 rcases List.mem_cons.mp hx with rfl | hx
 ·exact noCs_iff fun y hy=>by
   obtain ⟨z,_,rfl⟩:=List.mem_map.mp hy;trivial
 ·rcases List.mem_cons.mp hx with rfl | hx
  ·trivial
  ·rw [List.mem_singleton.mp hx];trivial
theorem PoolI.nc {P:List V} (h:PoolI fs P):∀ x ∈ P,x.noC:=by
 obtain ⟨i,mix,_,rfl⟩:=h
 exact poolV_nc
theorem law_words (L:LwF w b mg mb os F g pl) (hg:13≤g) (hf:fs.length≤1000) {P:List V} (hP:PoolI fs P) {pv:List Value} (hpl:H pl=some (.list 4 pv)) (hpv:Reps (fun _=>0) H P pv) {R':Flow→LM→AH→Prop}
  (k:∀ m' H' P' ws,∀ way spot:Nat,(∃ pv',H' pl=some (.list 4 pv')∧Reps (fun _=>0) H' P' pv')→PoolI fs P'→(∀ x ∈ ws,x≠.eof)→wtL ws≤608→ws.length≤252→way<8→spot<ws.length→(∃ v,look m' "words" = some v∧Rep (fun _=>0) H' (.lst (lcWs ws)) v) →
   (∃ v,look m' "way" = some v∧Rep (fun _=>0) H' (.int way) v)→(∃ v,look m' "spot" = some v∧Rep (fun _=>0) H' (.int spot) v)→PS (cfg w b mg mb os) F m' H' (execs ((bodyOf (cfg w b mg mb os).K 678).drop 6) F.env) R') :
  PS (cfg w b mg mb os) F m H (execs ((bodyOf (cfg w b mg mb os).K 678).drop 1) F.env) R':=by
 refine law_lists L hpl fun m1 H1 a1 a2 t ex n1 n2 n3 h1 h2 l1 l2=>PS.own fun ow=>?_
 have hp1:=ex _ _ hpl
 have b0:=base_ne L.cok ow hp1
 have b1:=base_ne L.cok ow h1
 have b2:=base_ne L.cok ow h2
 have nd:([pl,a1,a2]++[120,51,31]:List Addr).Nodup:=by
  simp [n1,n2,n3,b0,b1,b2]
 have O:=wAt_ok L.cok (l:=[pl,a1,a2]) (l':=[120,51,31]) rfl nd
 have S:SimF (wAt w b mg mb os [pl,a1,a2] [120,51,31]).e F (lbSt P [] 12 .un .un .un) m1 H1:=by
  rw [wAt_e]
  refine ⟨fun x lv hx=>?_,fun x y l l' v q=>?_,fun i x hx=>?_⟩
  ·refine ifs (show (if x = "words" then (LV.v (.cell 1)).vis else glook x ([("spare",.v (.cell 2)),("step",.un),("way",.un),("spot",.un)]:List (Str × LV)))=some lv from hx) (fun q h=>⟨_,by rw [q];exact l1,by rw [← Option.some.inj h];exact rfl⟩) fun _ h=>?_
   refine ifs (show (if x = "spare" then (LV.v (.cell 2)).vis else glook x ([("step",.un),("way",.un),("spot",.un)]:List (Str × LV)))=some lv from h) (fun q h=>⟨_,by rw [q];exact l2,by rw [← Option.some.inj h];exact rfl⟩) fun _ h=>?_
   obtain ⟨p,hp,hv⟩:=glook_mem h
   rcases List.mem_cons.mp hp with rfl | hp
   ·exact noneE hv
   ·rcases List.mem_cons.mp hp with rfl | hp
    ·exact noneE hv
    ·rw [List.mem_singleton.mp hp] at hv;exact noneE hv
  ·obtain ⟨p,hp,hv⟩:=glook_mem q
   simp only [lbSt,List.mem_cons,List.not_mem_nil,or_false] at hp
   rcases hp with rfl | rfl | rfl | rfl | rfl<;>first | exact noneE hv | exact nomatch hv
  ·revert x
   refine Internal.n3 (fun x hx=>?_) (fun x hx=>?_) (fun x hx=>?_) (fun n x hx=>by injection hx) i
   ·exact Option.some.inj (show some (Root.lst P)=some x from hx)▸⟨(by decide:0<3),pv,hp1,(hpv.swap hP.nc).fz (.ofExt ex)⟩
   ·exact Option.some.inj (show some (Root.lst [])=some x from hx)▸⟨(by decide:1<3),[],h1,.nil⟩
   ·exact Option.some.inj (show some (Root.lst [.int 12])=some x from hx)▸⟨(by decide:2<3),_,h2,.one .int⟩
 have hW:=lb_ok O hg hf hP
 rw [← wAt_g (l:=[pl,a1,a2]) (l':=[120,51,31])]
 refine q_seg (i:=3) (k:=3) (L.fr O) S hW (fun p q=>?_) fun s' m' H' S' k' q=>?_
 ·obtain ⟨_,_,_,_,_,_,_,_,_,rfl⟩:=q;rfl
 obtain ⟨P',l,sp,st,way,spot,⟨hP',ws,rfl,h3,h4,h5,h6⟩,hw,hs,e⟩:=q
 cases e
 rw [wAt_g]
 rw [wAt_e] at S'
 obtain ⟨_,pv',q1,q2⟩:=S'.roots 0 _ rfl
 obtain ⟨_,us,q3,q4⟩:=S'.roots 1 _ rfl
 replace q1:H' pl=some (.list 4 pv'):=q1
 replace q3:H' a1=some (.list 4 us):=q3
 have fz:Fz H' (H'.set a1 (.list 0 us)):=.set1 q3 (by exact (by decide:(4:Nat)≠0))
 refine PS.re L.ok (ao':=.list 0 us) q3 (.inl L.T.symm) id (fun _ o=>o) ?_
 obtain ⟨v1,r1,r2⟩:=S'.loc "words" _ rfl
 obtain ⟨v2,r3,r4⟩:=S'.loc "way" _ rfl
 obtain ⟨v3,r5,r6⟩:=S'.loc "spot" _ rfl
 cases (show v1=.ref a1 from r2)
 rw [List.length_map] at hs
 exact k m' _ P' ws way spot ⟨pv',(AH.set_ne n1).trans q1,(q2.swap hP'.nc).fz fz⟩ hP' h3 (by lia) (by lia) hw hs ⟨_,r1,.lst AH.set_self ((q4.swap lcWs_nc).fz fz)⟩ ⟨_,r3,r4⟩ ⟨_,r5,r6⟩
end
end
end Internal
end
section
namespace Internal
open PySem PySem.W PyProof.Rows
section
theorem glook_at {x:Str} {lv:LV} {G:List (Str × LV)}:glook x G=some lv→∃ p ∈ G,p.1=x∧p.2.vis=some lv:=by
 induction G with
 | nil=>exact fun h=>noneE h
 | cons p r ih=>exact fun h=>ifs (show (if x=p.1 then p.2.vis else glook x r)=some lv from h) (fun q h=>⟨p,.head _,q.symm,h⟩) fun _ h=>(ih h).imp fun q h=>⟨.tail _ h.1,h.2⟩
noncomputable def HasV (ad:Nat→Addr) (m:LM) (H:AH) (p:Str × LV):Prop:=match p.2 with
 | .un=>True
 | .v x=>∃ v,look m p.1=some v∧Rep ad H x v
 | .own _=>False
theorem SimF.of {e:Mc} {F:Fx} {m:LM} {H:AH} {G:List (Str × LV)} {r:List Root} (h:∀ p ∈ G,HasV e.ad m H p) (hr:RootsRep e r H):SimF e F ⟨G,r⟩ m H:=by
 have z:∀ {x lv},glook x G=some lv→∃ y v,lv=.v y∧look m x=some v∧Rep e.ad H y v:=fun hx=>by
  obtain ⟨⟨n,lv'⟩,hp,hn,hv⟩:=glook_at hx
  have k:=h _ hp
  cases lv' with
  | un=>exact noneE hv
  | own l=>exact k.elim
  | v y=>
   obtain ⟨v,k1,k2⟩:=k
   exact ⟨y,v,(Option.some.inj hv).symm,hn▸k1,k2⟩
 exact ⟨fun x lv hx=>by
  obtain ⟨y,v,rfl,k1,k2⟩:=z hx
  exact ⟨v,k1,k2⟩,fun x y l l' v hx=>by
  obtain ⟨y,v,e,_⟩:=z hx
  exact (by injection e),hr⟩
section
variable {w:World} {b:Heap} {mg mb:Str→Option Value} {os:OsState} {F:Fx} {g:Nat} {pl:Addr} {m:LM} {H:AH} {fs:List Int}
noncomputable abbrev Holds1 (m:LM) (H:AH) (x:Str) (y:V):Prop:=∃ v,look m x=some v∧Rep (fun _=>0) H y v
theorem tokS_nc (x:Wd) (nl:Bool):(tokS x nl).noC:=by
 cases x<;>exact ⟨trivial,trivial,trivial,trivial⟩
theorem tokL_nc {tk:Nat→Tk} {n:Nat}:(tokL tk n).noC:=noCs_iff fun x hx=>by
 obtain ⟨i,_,rfl⟩:=List.mem_map.mp hx
 exact tokS_nc _ _
theorem law_toks (L:LwF w b mg mb os F g pl) (hg:13≤g) (hf:fs.length≤1000) {P:List V} {ws:List Wd} {way spot:Nat} {R':Flow→LM→AH→Prop}
  (hp:∃ pv',H pl=some (.list 4 pv')∧Reps (fun _=>0) H P pv') (hP:PoolI fs P) (h1:∀ x ∈ ws,x≠.eof) (h2:wtL ws≤608) (h3:ws.length≤252) (hw:way<8) (hs:spot<ws.length) (v1:Holds1 m H "words" (.lst (lcWs ws))) (v2:Holds1 m H "way" (.int way)) (v3:Holds1 m H "spot" (.int spot))
  (k:∀ m' H' ws' ns,WsOk ws'→ns.length=ws'.length→Holds1 m' H' "tokens" (tokL (tkOf ws' ns) (ws'.length+1))→PS (cfg w b mg mb os) F m' H' (execs ((bodyOf (cfg w b mg mb os).K 678).drop 8) F.env) R') :
  PS (cfg w b mg mb os) F m H (execs ((bodyOf (cfg w b mg mb os).K 678).drop 6) F.env) R':=PS.own fun ow=>by
 obtain ⟨pv,q1,q2⟩:=hp
 have b0:=base_ne L.cok ow q1
 have O:=wAt_ok L.cok (l:=[pl]) (l':=[120]) rfl (by simp [b0])
 have S:SimF (wAt w b mg mb os [pl] [120]).e F (lcSt P (lcWs ws) way spot .un) m H:=by
  rw [wAt_e]
  refine SimF.of (fun p hp=>?_) fun i x hx=>?_
  ·simp only [List.mem_cons,List.not_mem_nil,or_false] at hp
   rcases hp with rfl | rfl | rfl | rfl
   ·exact v1.imp fun v h=>⟨h.1,Rep.swap _ (noCs_iff lcWs_nc) h.2⟩
   ·exact v2
   ·exact v3
   ·trivial
  ·match i with
   | 0=>exact Option.some.inj (show some (Root.lst P)=some x from hx)▸⟨(by decide:0<1),pv,q1,q2.swap hP.nc⟩
   | n+1=>exact by injection hx
 rw [← wAt_g (l:=[pl]) (l':=[120])]
 refine q_seg (i:=6) (k:=1) (L.fr O) S (lc_ok O hg hf hP h1 h2 h3 hw hs) (fun p q=>?_) fun s1 m1 H1 S1 _ q=>?_
 ·obtain ⟨_,_,_,_,_,_,rfl⟩:=q;rfl
 obtain ⟨P1,ws1,way1,spot1,hP1,hW,e⟩:=q
 cases e
 refine q_seg (i:=7) (k:=1) (L.fr O) S1 (ld_ok O hg hf hP1 hW.len) (fun p q=>?_) fun s2 m2 H2 S2 _ q=>?_
 ·obtain ⟨_,_,_,_,_,_,rfl⟩:=q;rfl
 obtain ⟨P2,ns,way2,spot2,hP2,hns,e⟩:=q
 cases e
 obtain ⟨tv,t1,t2⟩:=S2.loc "tokens" _ rfl
 rw [wAt_g]
 exact k m2 H2 ws1 ns hW hns ⟨tv,t1,Rep.swap _ tokL_nc t2⟩
end
end
end Internal
end
section
namespace Internal
open PySem PySem.W PyProof.Rows
section
theorem p_pair {c:Cfg} {F:Fx} {m:LM} {H:AH} {k v:PySem.Expr} {pos:Pos} {rest:List (Sem Value × Sem Value)} {Q:List (Value × Value)→AH→Prop} (h:PW c F m H (eval k F.env) fun kv H1=>PW c F m H1 (eval v F.env) fun vv H2=>PW c F m H2 (evalPairs rest) fun vs H3=>Q ((kv,vv)::vs) H3) :
  PW c F m H (evalPairs ((eval k F.env,do let x ← eval v F.env;standAt pos;pure x)::rest)) Q:=
 p_pairs_cons (h.mono fun kv H1 h1=>PW.bind (h1.mono fun vv H2 h2=>PW.bind (PW.standAt (PW.pure h2))))
section
variable {w:World} {b:Heap} {mg mb:Str→Option Value} {os:OsState} {F:Fx} {g:Nat} {pl:Addr} {m:LM} {H:AH} {tk:Nat→Tk} {n:Nat}
theorem body_8 {C:Prop} (k:∀ a1 a2 a3 a4 a5 a6 a7 a8 a9 b1 b2 b3 b4 b5 b6 b7 b8 b9 c1,((bodyOf (cfg w b mg mb os).K 678).drop 8).take 1=[.Assign [.Name "world" a1] (.Dict [some (.Constant (.str "tokens") a2 a3),some (.Constant (.str "marks") a4 a5),some (.Constant (.str "at") a6 a7),some (.Constant (.str "bad") a8 a9)]
  [.Name "tokens" b1,.Call (.Name "_law_marks" b2) [.Name "tokens" b3] [] b4,.Constant (.int 0) b5 b6,.Constant .none b7 b8] b9) c1]→C):C:=k _ _ _ _ _ _ _ _ _ _ _ _ _ _ _ _ _ _ _ rfl
theorem ns_8:((fdOf (cfg w b mg mb os).K 678).scope.names.lookup ("world" : Str)==some NameKind.local&&((fdOf (cfg w b mg mb os).K 678).scope.names.lookup ("tokens" : Str)==some NameKind.local&&(fdOf (cfg w b mg mb os).K 678).scope.names.lookup ("_law_marks" : Str)==some NameKind.globalImplicit))=true:=by kernel_rfl
theorem g_marks:(isRef 611 (nsIn (cfg w b mg mb os).K mainGlobals "_law_marks")&&keepIn (cfg w b mg mb os).K (.ref 611))=true:=by kernel_rfl
noncomputable def wdL (a b c d:Value):List (Str × Value):=[("tokens",a),("marks",b),("at",c),("bad",d)]
theorem mg4 {a b c d:Value}:merged [] ([("tokens",a),("marks",b),("at",c),("bad",d)]:List (Str × Value))=wdL a b c d:=by kernel_rfl
theorem mkL_nc {mk:Nat→Bool}:(mkL mk n).noC:=noCs_iff fun x hx=>by
 obtain ⟨i,_,rfl⟩:=List.mem_map.mp hx;trivial
theorem law_world (L:LwF w b mg mb os F g pl) (hg:3≤g) (hn:n≤900) (ht:Holds1 m H "tokens" (tokL tk n)) {R':Flow→LM→AH→Prop}
  (k:∀ m' H' wd,look m' "world" = some (.ref wd)→Holds1 m' H' "tokens" (tokL tk n)→(∃ a b c d,H' wd=some (.dict 4 (wdL a b c d))∧Reps (fun _=>0) H' [tokL tk n,mkL (mks tk) n,.int (0:Nat),.none] [a,b,c,d])→PS (cfg w b mg mb os) F m' H' (execs ((bodyOf (cfg w b mg mb os).K 678).drop 9) F.env) R') :
  PS (cfg w b mg mb os) F m H (execs ((bodyOf (cfg w b mg mb os).K 678).drop 8) F.env) R':=by
 refine body_8 (w:=w) (b:=b) (mg:=mg) (mb:=mb) (os:=os) fun a1 a2 a3 a4 a5 a6 a7 a8 a9 b1 b2 b3 b4 b5 b6 b7 b8 b9 c1 hb=>?_
 have bq:=Bool.and_eq_true_iff.mp (ns_8 (w:=w) (b:=b) (mg:=mg) (mb:=mb) (os:=os))
 have n1:=bq.1
 have z:=bq.2
 have bq:=Bool.and_eq_true_iff.mp z
 have n2:=bq.1
 have n3:=bq.2
 have bq:=Bool.and_eq_true_iff.mp (g_marks (w:=w) (b:=b) (mg:=mg) (mb:=mb) (os:=os))
 have g1:=bq.1
 have g2:=bq.2
 replace n2:=beq_iff_eq.mp n2
 have ok:=L.ok
 have cok:=L.cok
 have sc:=L.sc
 obtain ⟨tv,t1,t2⟩:=ht
 have O:=wAt_ok cok (l:=[]) (l':=[]) rfl List.nodup_nil
 rw [drop_split (i:=8) (k:=1),hb]
 refine q_app (q_asN ok sc (beq_iff_eq.mp n1) (swaps_no rfl _ _ _) (p_Dict ok 4 (pairs:=[(eval (.Constant (.str "tokens") a2 a3) F.env,do let x ← eval (.Name "tokens" b1) F.env;standAt b9;pure x),(eval (.Constant (.str "marks") a4 a5) F.env,do let x ← eval (.Call (.Name "_law_marks" b2) [.Name "tokens" b3] [] b4) F.env;standAt b9;pure x),(eval (.Constant (.str "at") a6 a7) F.env,do let x ← eval (.Constant (.int 0) b5 b6) F.env;standAt b9;pure x),(eval (.Constant (.str "bad") a8 a9) F.env,do let x ← eval (.Constant .none b7 b8) F.env;standAt b9;pure x)]) rfl (fun q=>by injection q) (by decide:4≤15) fun D hD=>?_))
 have e1:Ext H (H.set D (.dict 5 [])):=.set hD
 refine p_pair (PW.const_str fun s1=>p_nl ok sc t1 n2 (p_pair (PW.const_str fun s2=>p_CallN (p_ng cok ok sc (isRef_spec g1) (beq_iff_eq.mp n3) (p_callWith_K cok g2 rfl (p_args_cons (p_nl ok sc t1 n2 (p_args_nil ?_))))))))
 have t3:Rep (fun _=>0) (H.set D (.dict 5 [])) (tokL tk n) tv:=Rep.fz (.ofExt e1) _ t2
 have hm:GoodC (wAt w b mg mb os [] []).e g 611 [tokL tk n] [] (.ok (mkL (mks tk) n) []):=marks_ok O hg hn
 have z:=hm _ [tv] (fun i x q=>by injection q) (.one (Rep.swap _ tokL_nc t3))
 rw [wAt_g] at z
 refine p_call ok z (by rw [L.r];exact Nat.le_refl _) (by decide) (.inl L.T.symm) (fun mv H2 kp q=>?_) fun _ _ _ _ q=>by injection q
 obtain ⟨x,r',q1,q2,_⟩:=q
 (injection q1 with e1;subst e1)
 replace q2:Rep (fun _=>0) H2 (mkL (mks tk) n) mv:=Rep.swap _ mkL_nc q2
 have hD2:H2 D=some (.dict 5 []):=(kp D _ AH.set_self).1 (by exact (by decide:(5:Nat)≠4))
 refine p_pair (PW.const_str fun s3=>PW.const_int fun t4=>p_pair (PW.const_str fun s4=>PW.const_none (p_pairs_nil ⟨[("tokens",tv),("marks",mv),("at",.int 0 t4),("bad",.none)],⟨strKind_is _ _ _ _,rfl,strKind_is _ _ _ _,rfl,strKind_is _ _ _ _,rfl,strKind_is _ _ _ _,rfl,trivial⟩,hD2,?_⟩)))
 rw [mg4]
 have fz:Fz H2 (H2.set D (.dict 4 (wdL tv mv (.int 0 t4) .none))):=.set1 hD2 (by exact (by decide:(5:Nat)≠0))
 have f1:Fz (H.set D (.dict 5 [])) H2:=.ofKeeps kp (by decide)
 have t5:=Rep.fz (f1.trans fz) _ t3
 exact q_nil (k _ _ D lk_self ⟨tv,lk_ne (by decide +kernel) t1,t5⟩ ⟨tv,mv,.int 0 t4,.none,AH.set_self,.cons t5 (.cons (Rep.fz fz _ q2) (.cons .int (.one .none)))⟩)
end
end
end Internal
end
section
namespace Internal
open PySem PySem.W PyProof.Rows
section
noncomputable def LwOut (tk:Nat→Tk) (n:Nat) (res:Res) (m:LM) (H:AH):Prop:=∃ bad wd es bv,look m "world" = some (.ref wd)∧H wd=some (.dict 4 es)∧valueAt es "bad" = some bv∧Rep (fun _=>0) H bad bv∧Holds1 m H "row" (.lst (rowV tk n)) ∧
 ((∃ ts q,res=.ok (.call ts) q∧Holds1 m H "due" (.lst (toSs ts))∧bad=.none)∨∃ qb,res=.bad qb∧bad=badV (tk qb).wd qb)
mutual
theorem toS_nc:∀ t:Tree,(toS t).noC
 | .name s=>⟨trivial,trivial,trivial⟩
 | .num n=>⟨trivial,⟨⟨trivial,trivial,trivial⟩,trivial⟩,trivial⟩
 | .call ts=>⟨trivial,noCs_iff (toSs_nc ts),noCs_iff fun x hx=>by rw [List.eq_of_mem_replicate hx];trivial,trivial⟩
 | .fn ns b=>⟨trivial,⟨⟨trivial,trivial,trivial⟩,⟨trivial,noCs_iff fun x hx=>by rw [List.eq_of_mem_replicate hx];exact ⟨trivial,trivial⟩,noCs_iff fun x hx=>by
   obtain ⟨y,_,rfl⟩:=List.mem_map.mp hx;trivial,trivial⟩,toS_nc b,⟨trivial,trivial⟩,trivial⟩,(⟨trivial,trivial,trivial,trivial,trivial⟩:V.noCs [V.none,V.none,V.none,V.none]),trivial⟩
theorem toSs_nc:∀ ts:List Tree,∀ x ∈ toSs ts,x.noC
 | [],x,h=>nomatch h
 | t::ts,x,h=>by
  rcases List.mem_cons.mp h with rfl | h
  ·exact toS_nc t
  ·exact toSs_nc ts x h
end
theorem SimF.more {e:Mc} {F:Fx} {m:LM} {H:AH} {G G':List (Str × LV)} {r:List Root} (S:SimF e F ⟨G,r⟩ m H) (h:∀ x lv,glook x G'=some lv→glook x G=some lv):SimF e F ⟨G',r⟩ m H:=⟨fun x lv hx=>S.loc x lv (h x lv hx),fun x y l l' v a b=>S.own x y l l' v (h _ _ a) (h _ _ b),S.roots⟩
section
variable {w:World} {b:Heap} {mg mb:Str→Option Value} {os:OsState} {F:Fx} {g:Nat} {pl:Addr} {m:LM} {H:AH} {tk:Nat→Tk} {n:Nat}
theorem due_seg {w:Wo} {r:List Root}:Internal.W (GoodP w.e g) XF (lwSegT tabs w 9 1 ⟨[("world",.v (.cell 0)),("tokens",.v (tokL tk n)),("due",.un)],r⟩) (fun p=>p=(.next,lawSt tk n [] r)):=Internal.W.r (by kernel_rfl) rfl
theorem badV_nc {x:Wd} {q:Nat}:(badV x q).noC:=⟨trivial,trivial,trivial⟩
theorem nc4 {mk:Nat→Bool} {p:Nat}:∀ y ∈ [tokL tk n,mkL mk n,.int p,V.none],y.noC:=fun y hy=>by
 rcases List.mem_cons.mp hy with rfl | hy
 ·exact tokL_nc
 rcases List.mem_cons.mp hy with rfl | hy
 ·exact mkL_nc
 rcases List.mem_cons.mp hy with rfl | hy
 ·trivial
 ·rw [List.mem_singleton.mp hy];trivial
theorem nm4:(([("tokens",Value.none),("marks",Value.none),("at",Value.none),("bad",Value.none)]:List (Str × Value)).map (·.1)).Nodup:=by decide +kernel
theorem wd_root {e:Mc} {wd:Addr} {H:AH} {mk:Nat→Bool} {p:Nat} {bad:V} (hb:bad.noC) (h:RootRep e H 0 (.dict [("tokens",tokL tk n),("marks",mkL mk n),("at",.int p),("bad",bad)])):∃ es bv,H (e.ad 0)=some (.dict 4 es)∧valueAt es "bad" = some bv∧Rep (fun _=>0) H bad bv:=by
 obtain ⟨es,h1,h2,_,h3⟩:=h
 obtain ⟨v,q1,q2⟩:=h3.dlook (fs:=[("tokens",tokL tk n),("marks",mkL mk n),("at",.int p),("bad",bad)]) h2 (a:="bad") (x:=bad) (by kernel_rfl)
 exact ⟨es,v,h1,q1,q2.swap _ hb⟩
theorem law_due (L:LwF w b mg mb os F g pl) (hn:n≤900) (h0:0<n) (heof:∀ p,p<n→(tk p).wd≠.eof→p+1<n) {f:Nat} {res:Res} (hP:P tk f (.prog 0 [])=some res) (hg:Wt tk n 0+17≤g) {wd:Addr} (hw:look m "world" = some (.ref wd)) (ht:Holds1 m H "tokens" (tokL tk n))
  (hd:∃ a b c d,H wd=some (.dict 4 (wdL a b c d))∧Reps (fun _=>0) H [tokL tk n,mkL (mks tk) n,.int (0:Nat),.none] [a,b,c,d]) {R':Flow→LM→AH→Prop}
  (k:∀ m' H',LwOut tk n res m' H'→PS (cfg w b mg mb os) F m' H' (execs ((bodyOf (cfg w b mg mb os).K 678).drop 13) F.env) R') :
  PS (cfg w b mg mb os) F m H (execs ((bodyOf (cfg w b mg mb os).K 678).drop 9) F.env) R':=PS.own fun ow=>by
 obtain ⟨va,vb,vc,vd,q1,q2⟩:=hd
 have b0:=base_ne L.cok ow q1
 have O:=wAt_ok L.cok (l:=[wd]) (l':=[120]) rfl (by simp [b0])
 have X:Sk (wAt w b mg mb os [wd] [120]) tk (mks tk) n:=⟨O,heof,by lia,fun p hp=>rfl⟩
 have S:SimF (wAt w b mg mb os [wd] [120]).e F ⟨[("world",.v (.cell 0)),("tokens",.v (tokL tk n)),("due",.un)],wdS tk (mks tk) n 0 .none⟩ m H:=by
  rw [wAt_e]
  refine SimF.of (fun p hp=>?_) fun i x hx=>?_
  ·simp only [List.mem_cons,List.not_mem_nil,or_false] at hp
   rcases hp with rfl | rfl | rfl
   ·exact ⟨_,hw,rfl⟩
   ·exact ht.imp fun v h=>⟨h.1,Rep.swap _ tokL_nc h.2⟩
   ·trivial
  ·match i with
   | 0=>exact Option.some.inj (show some (Root.dict _)=some x from hx)▸⟨(by decide:0<1),_,q1,rfl,nm4,q2.swap nc4⟩
   | n+1=>exact by injection hx
 rw [← wAt_g (l:=[wd]) (l':=[120])]
 refine q_seg (i:=9) (k:=1) (L.fr0 O) S due_seg (fun p q=>by rw [q]) fun s1 m1 H1 S1 _ e=>?_
 cases e
 refine q_seg (i:=10) (k:=1) (L.fr0 O) S1 (law_loop X h0 hg hP) (fun p q=>q.1) fun s2 m2 H2 S2 _ q=>?_
 have fin:∀ (l:List V) (p:Nat) (bad:V),bad.noC→SimF (wAt w b mg mb os [wd] [120]).e F (lawSt tk n l (wdS tk (mks tk) n p bad)) m2 H2→((∃ ts q,res=.ok (.call ts) q∧l=toSs ts∧bad=.none)∨∃ qb,res=.bad qb∧bad=badV (tk qb).wd qb) →
   PS (wAt w b mg mb os [wd] [120]).e.g F m2 H2 (execs ((bodyOf (wAt w b mg mb os [wd] [120]).e.g.K 678).drop 11) F.env) R':=fun l p bad hb S2 hr=>by
  have S3:SimF (wAt w b mg mb os [wd] [120]).e F (rwSt tk n l .un .un .un .un .un (wdS tk (mks tk) n p bad)) m2 H2:=S2.more fun x lv h=>by
   refine ifs (show (if x = "world" then (LV.v (.cell 0)).vis else _)=some lv from h) (fun q h=>(if_pos q).trans h) fun q1 h=>?_
   refine ifs (show (if x = "tokens" then (LV.v (tokL tk n)).vis else _)=some lv from h) (fun q h=>(if_neg q1).trans ((if_pos q).trans h)) fun q2 h=>?_
   refine ifs (show (if x = "due" then (LV.own l).vis else _)=some lv from h) (fun q h=>(if_neg q1).trans ((if_neg q2).trans ((if_pos q).trans h))) fun q3 h=>?_
   obtain ⟨p,hp,hv⟩:=glook_mem (G:=[("row",.un),("step",.un),("kind",.un),("value",.un),("newline",.un)]) h
   simp only [List.mem_cons,List.not_mem_nil,or_false] at hp
   rcases hp with rfl | rfl | rfl | rfl | rfl<;>exact noneE hv
  refine q_seg (i:=11) (k:=2) (L.fr0 O) S3 (row_ok O (by lia) hn) (fun p q=>by obtain ⟨_,_,_,_,rfl⟩:=q;rfl) fun s4 m4 H4 S4 _ q=>?_
  obtain ⟨x1,x2,x3,x4,e⟩:=q
  cases e
  obtain ⟨v1,l1,a1,us1,rfl,h1,r1,z1⟩:=S4.loc "due" (.own l) rfl
  obtain ⟨v2,l2,a2,us2,rfl,h2,r2,z2⟩:=S4.loc "row" (.own (rowV tk n)) rfl
  obtain ⟨v3,l3,e3⟩:=S4.loc "world" (.v (.cell 0)) rfl
  obtain ⟨es,bv,d1,d2,d3⟩:=wd_root (wd:=wd) hb (S4.roots 0 _ rfl).2
  replace e3:v3=.ref ((wAt w b mg mb os [wd] [120]).e.ad 0):=e3
  have ne:a2≠a1:=fun z=>absurd (S4.own "due" "row" _ _ _ rfl rfl l1 (z▸l2)) (by decide +kernel)
  rw [wAt_g]
  rw [wAt_e] at e3 d1 r1 r2
  replace d1:H4 wd=some (.dict 4 es):=d1
  have f1:Fz H4 (H4.set a1 (.list 0 us1)):=.set1 h1 (by exact (by decide:(5:Nat)≠0))
  have h2':(H4.set a1 (.list 0 us1)) a2=some (.list 5 us2):=(AH.set_ne ne).trans h2
  have f2:Fz H4 ((H4.set a1 (.list 0 us1)).set a2 (.list 0 us2)):=f1.trans (.set1 h2' (by exact (by decide:(5:Nat)≠0)))
  have w1:wd≠a1:=fun z=>by rw [z,h1] at d1;cases d1
  have w2:wd≠a2:=fun z=>by rw [z,h2] at d1;cases d1
  refine PS.re L.ok (ao':=.list 0 us1) h1 (.inr z1) id (fun _ o=>o) (PS.re L.ok (ao':=.list 0 us2) h2' (.inr z2) id (fun _ o=>o) (k m4 _ ⟨bad,wd,es,bv,e3▸l3,(AH.set_ne w2).trans ((AH.set_ne w1).trans d1),d2,Rep.fz f2 _ d3,⟨_,l2,.lst AH.set_self ((r2.swap rowV_nc).fz f2)⟩,hr.imp (fun h=>?_) id⟩))
  obtain ⟨ts,q',z1,rfl,z3⟩:=h
  exact ⟨ts,q',z1,⟨_,l1,.lst ((AH.set_ne ne.symm).trans AH.set_self) ((r1.swap (toSs_nc ts)).fz f2)⟩,z3⟩
 rcases q.2 with ⟨ts,q',hr,e⟩ | ⟨qb,l,p',hr,e⟩
 ·obtain rfl:s2=lawSt tk n (toSs ts) (wdS tk (mks tk) n q' .none):=e
  exact fin _ _ _ (show V.noC .none from trivial) S2 (.inl ⟨ts,q',hr,rfl,rfl⟩)
 ·obtain rfl:s2=lawSt tk n l (wdS tk (mks tk) n p' (badV (tk qb).wd qb)):=e
  exact fin _ _ _ badV_nc S2 (.inr ⟨qb,hr,rfl⟩)
end
end
end Internal
end
section
namespace Internal
open PySem PySem.W PyProof.Rows
section
noncomputable def V.dep (x:V):Option Nat:=@V.rec (fun _=>Option Nat) (fun _=>Option Nat) (some 0) (fun _=>some 0) (fun _=>some 0) (fun _=>some 0) (fun _=>Option.none) (fun _=>Option.none) (fun _ d=>d.map Nat.succ) (fun _ d=>d.map Nat.succ) (fun _ _ _=>Option.none) (fun _ _ _ _ _=>Option.none) (fun _ _=>Option.none) (some 0) (fun _ _ a b=>a.bind fun a=>b.map fun b=>max a b) x
noncomputable def V.deps (l:List V):Option Nat:=@V.rec_1 (fun _=>Option Nat) (fun _=>Option Nat) (some 0) (fun _=>some 0) (fun _=>some 0) (fun _=>some 0) (fun _=>Option.none) (fun _=>Option.none) (fun _ d=>d.map Nat.succ) (fun _ d=>d.map Nat.succ) (fun _ _ _=>Option.none) (fun _ _ _ _ _=>Option.none) (fun _ _=>Option.none) (some 0) (fun _ _ a b=>a.bind fun a=>b.map fun b=>max a b) l
open PySem.SeqAt in
theorem eqV {c:Cfg} {F:Fx} {m:LM} {H:AH} {s:Shared} (st:St c F m H s) {ad:Nat→Addr} (x:V):∀ {n:Nat},x.dep=some n→∀ (A:Around) (v w:Value),A.units+n<cLine→Rep ad H x v→Rep ad H x w→EqAt A s v w true:=
 @V.rec (fun x=>∀ {n:Nat},x.dep=some n→∀ (A:Around) (v w:Value),A.units+n<cLine→Rep ad H x v→Rep ad H x w→EqAt A s v w true)
  (fun l=>∀ {n:Nat},V.deps l=some n→∀ (A:Around) (vs ws:List Value),A.units+n<cLine→Reps ad H l vs→Reps ad H l ws→∀ j (h1:j<vs.length) (h2:j<ws.length),EqAt A s vs[j] ws[j] true)
  (fun _ A v w _ h1 h2=>by cases (show v=.none from h1);cases (show w=.none from h2);exact EqAt.same _)
  (fun b _ _ A v w _ h1 h2=>by cases (show v=.bool b from h1);cases (show w=.bool b from h2);exact EqAt.same _)
  (fun i _ _ A v w _ ⟨t,h1⟩ ⟨u,h2⟩=>by subst h1 h2;have:=EqAt.int_int (A:=A) (s:=s) i t i u;rwa [beq_self_eq_true] at this)
  (fun i _ _ A v w _ ⟨t,h1⟩ ⟨u,h2⟩=>by subst h1 h2;have:=EqAt.str_str (A:=A) (s:=s) i t i u;rwa [beq_self_eq_true] at this)
  (fun _ _ h=>noneE h) (fun _ _ h=>noneE h)
  (fun l ih n hn A v w hu h1 h2=>by
   obtain ⟨k,hk,rfl⟩:=Option.map_eq_some_iff.mp hn
   obtain ⟨a,vs,rfl,ha,hv⟩:=h1.tupE
   obtain ⟨b,ws,rfl,hb,hw⟩:=h2.tupE
   by_cases e:a=b
   ·rw [e];exact EqAt.same _
   ·have z:=RcAt.tuples (A:=A) (e:=fun _=>true) (st.tup ha) (st.tup hb) (by lia) fun j q1 q2=>ih hk A.in1 vs ws (by show A.units+1+k<cLine;lia) hv hw j (by simpa using q1) (by simpa using q2)
    have:((List.range (min vs.toArray.size ws.toArray.size)).all (fun _=>true)&&vs.toArray.size==ws.toArray.size)=true:=by
     rw [List.size_toArray,List.size_toArray,hv.len,hw.len];simp
    rw [this] at z
    exact EqAt.of_refs e z)
  (fun l ih n hn A v w hu h1 h2=>by
   obtain ⟨k,hk,rfl⟩:=Option.map_eq_some_iff.mp hn
   obtain ⟨a,vs,rfl,ha,hv⟩:=h1.lstE
   obtain ⟨b,ws,rfl,hb,hw⟩:=h2.lstE
   by_cases e:a=b
   ·rw [e];exact EqAt.same _
   ·have z:=RcAt.lists (A:=A) (e:=fun _=>true) (st.list ha).isList (st.list hb).isList (by rw [List.size_toArray,List.size_toArray,hv.len,hw.len]) (by lia) fun j q1 q2=>ih hk A.in1 vs ws (by show A.units+1+k<cLine;lia) hv hw j (by simpa using q1) (by simpa using q2)
    have:(List.range vs.toArray.size).all (fun _=>true)=true:=by simp
    rw [this] at z
    exact EqAt.of_refs e z)
  (fun _ _ _ _ h=>noneE h) (fun _ _ _ _ _ _ h=>noneE h) (fun _ _ _ h=>noneE h)
  (fun _ A vs ws _ h1 h2 j q=>by cases (show vs=[] from h1);exact absurd q (Nat.not_lt_zero _))
  (fun x l i1 i2 n hn A vs ws hu h1 h2 j q1 q2=>by
   obtain ⟨a,ha,hb⟩:=Option.bind_eq_some_iff.mp hn
   obtain ⟨b,hb2,rfl⟩:=Option.map_eq_some_iff.mp hb
   obtain ⟨v,vs',rfl,r1,r2⟩:=h1
   obtain ⟨w,ws',rfl,r3,r4⟩:=h2
   cases j with
   | zero=>exact i1 ha A v w (by lia) r1 r3
   | succ j=>exact i2 hb2 A vs' ws' (by lia) r2 r4 j (Nat.lt_of_succ_lt_succ q1) (Nat.lt_of_succ_lt_succ q2)) x
noncomputable def Dp (n:Nat) (x:V):Prop:=∃ d,x.dep=some d∧d≤n
noncomputable def Dps (n:Nat) (l:List V):Prop:=∃ d,V.deps l=some d∧d≤n
theorem Dps.of {n:Nat} {l:List V} (h:∀ x ∈ l,Dp n x):Dps n l:=by
 induction l with
 | nil=>exact ⟨0,rfl,Nat.zero_le _⟩
 | cons x l ih=>
  obtain ⟨a,ha,hl⟩:=h x (.head _)
  obtain ⟨b,hb,hl'⟩:=ih fun y hy=>h y (.tail _ hy)
  refine ⟨max a b,?_,Nat.max_le.mpr ⟨hl,hl'⟩⟩
  show ((x.dep).bind fun a=>(V.deps l).map fun b=>max a b)=_
  rw [ha,hb];rfl
theorem Dp.lst {n:Nat} {l:List V} (h:Dps n l):Dp (n+1) (.lst l):=h.elim fun d h=>⟨d+1,congrArg (Option.map Nat.succ) h.1,Nat.succ_le_succ h.2⟩
theorem Dp.tup {n:Nat} {l:List V} (h:Dps n l):Dp (n+1) (.tup l):=h.elim fun d h=>⟨d+1,congrArg (Option.map Nat.succ) h.1,Nat.succ_le_succ h.2⟩
theorem Dp.str {n:Nat} {x:Str}:Dp n (.str x):=⟨0,rfl,Nat.zero_le _⟩
theorem Dp.up {n k:Nat} {x:V} (h:Dp n x) (hk:n≤k):Dp k x:=h.imp fun d h=>⟨h.1,Nat.le_trans h.2 hk⟩
theorem Dps.nil {n:Nat}:Dps n []:=.of fun x h=>nomatch h
theorem Dps.cons {n:Nat} {x:V} {l:List V} (h:Dp n x) (k:Dps n l):Dps n (x::l):=by
 obtain ⟨a,ha,hl⟩:=h
 obtain ⟨b,hb,hl'⟩:=k
 refine ⟨max a b,?_,Nat.max_le.mpr ⟨hl,hl'⟩⟩
 show ((x.dep).bind fun a=>(V.deps l).map fun b=>max a b)=_
 rw [ha,hb];rfl
theorem Dps.rep {n k:Nat} {x:V} (h:Dp n x):Dps n (List.replicate k x):=.of fun y hy=>List.eq_of_mem_replicate hy▸h
mutual
theorem toS_dp:∀ (h:Nat) (t:Tree),fits h t→Dp (3*h) (toS t)
 | h+1,.name s,_=>(Dp.tup (n:=0) (.cons .str (.cons .str .nil))).up (by lia)
 | h+1,.num n,_=>(Dp.tup (n:=2) (.cons .str (.cons (.lst (.cons (.tup (.cons ⟨0,rfl,Nat.le_refl _⟩ (.cons ⟨0,rfl,Nat.le_refl _⟩ .nil))) .nil)) .nil))).up (by lia)
 | h+1,.call ts,⟨_,h2⟩=>(Dp.tup (n:=3*h+1) (.cons .str (.cons (.lst (toSs_dp h ts h2)) (.cons (.lst (.rep ⟨0,rfl,Nat.zero_le _⟩)) .nil)))).up (by lia)
 | h+1,.fn ns b,⟨_,_,h3⟩=>by
  have hb:=toS_dp h b h3
  have h1:1≤h:=by
   cases h with
   | zero=>exact h3.elim
   | succ h=>lia
  refine (Dp.tup (n:=3*h+1) (.cons .str (.cons (.lst (.cons ?_ (.cons ?_ (.cons hb (.cons ?_ .nil))))) (.cons (.lst (.rep ⟨0,rfl,Nat.zero_le _⟩)) .nil)))).up (by lia)
  ·exact (Dp.tup (n:=0) (.cons .str (.cons .str .nil))).up (by lia)
  ·exact (Dp.tup (n:=2) (.cons .str (.cons (.lst (.rep (.tup (.cons .str .nil)))) (.cons (.lst (.of fun x hx=>by
    obtain ⟨y,_,rfl⟩:=List.mem_map.mp hx;exact .str)) .nil)))).up (by lia)
  ·exact (Dp.tup (n:=0) (.cons .str .nil)).up (by lia)
theorem toSs_dp:∀ (h:Nat) (ts:List Tree),(∀ t ∈ ts,fits h t)→Dps (3*h) (toSs ts)
 | h,[],_=>.nil
 | h,t::ts,k=>.cons (toS_dp h t (k t (.head _))) (toSs_dp h ts fun t ht=>k t (.tail _ ht))
end
end
end Internal
end
section
namespace Internal
open PySem PySem.W PyProof.Rows
section
section
variable {w:World} {b:Heap} {mg mb:Str→Option Value} {os:OsState} {F:Fx} {g:Nat} {pl:Addr} {m:LM} {H:AH} {tk:Nat→Tk} {n:Nat}
theorem body_14 {C:Prop} (k:∀ a1 a2 a3 a4 a5 a6 a7 a8 a9 b1 b2 b3,(bodyOf (cfg w b mg mb os).K 678).drop 14=[.Return (some (.BoolOp .And [.Compare (.Subscript (.Name "world" a1) (.Constant (.str "bad") a2 a3) a4) [.Is] [.Constant .none a5 a6] a7,.Compare (.Name "told" a8) [.Eq] [.Name "due" a9] b1] b2)) b3]→C):C:=k _ _ _ _ _ _ _ _ _ _ _ _ rfl
theorem ns_14:((fdOf (cfg w b mg mb os).K 678).scope.names.lookup ("world" : Str)==some NameKind.local&&((fdOf (cfg w b mg mb os).K 678).scope.names.lookup ("told" : Str)==some NameKind.local&&(fdOf (cfg w b mg mb os).K 678).scope.names.lookup ("due" : Str)==some NameKind.local))=true:=by kernel_rfl
theorem deps_mem {l:List V} {x:V}:∀ {d:Nat},V.deps l=some d→x ∈ l→∃ n,x.dep=some n∧n≤d:=by
 induction l with
 | nil=>exact fun _ h=>nomatch h
 | cons y l ih=>
  intro d h hx
  obtain ⟨a,ha,h⟩:=Option.bind_eq_some_iff.mp (show ((y.dep).bind fun a=>(V.deps l).map fun b=>max a b)=some d from h)
  obtain ⟨b,hb,rfl⟩:=Option.map_eq_some_iff.mp h
  rcases List.mem_cons.mp hx with rfl | hx
  ·exact ⟨a,ha,Nat.le_max_left _ _⟩
  ·exact (ih hb hx).imp fun n h=>⟨h.1,Nat.le_trans h.2 (Nat.le_max_right _ _)⟩
theorem p_eqLst (ok:F.Ok) {c:Cfg} {ad:Nat→Addr} {l:List V} {N:Nat} {v u:Value} {Q:Value→AH→Prop} (hd:Dps N l) (hr:N+1≤9*F.r) (hv:Rep ad H (.lst l) v) (hu:Rep ad H (.lst l) u) (h:Q (.bool true) H):PW c F m H (compareOp .Eq v u) Q:=fun s st=>by
 obtain ⟨d,h1,h2⟩:=hd
 have hroom:=ok.room.units
 obtain ⟨a,vs,rfl,ha,r1⟩:=hv.lstE
 obtain ⟨b,ws,rfl,hb,r2⟩:=hu.lstE
 have dps:=h1
 refine PySem.SeqAt.eq_listAt (e:=fun _=>true) (st.list ha).isList (st.list hb).isList (by rw [List.size_toArray,List.size_toArray,r1.len,r2.len]) (by lia) (fun j q1 q2=>?_) ⟨H,st,by rw [show (List.range vs.toArray.size).all (fun _=>true)=true by simp];exact h⟩
 obtain ⟨x,e1,e2⟩:=r1.get' (i:=j) (List.getElem?_eq_getElem (by simpa using q1))
 obtain ⟨y,e3,e4⟩:=r2.get' (i:=j) (List.getElem?_eq_getElem (by simpa using q2))
 (injection (e1.symm.trans e3) with e1;subst e1)
 obtain ⟨n',z1,z2⟩:=deps_mem dps (List.mem_of_getElem? e1)
 have hj1:j<vs.length:=by simpa using q1
 exact eqV st x z1 _ _ _ (by show F.A.units+1+n'<cLine;lia) e2 e4
theorem law_end (L:LwF w b mg mb os F g pl) {wd:Addr} {es:List (Str × Value)} {l:List V} {N:Nat} (hd:Dps N l) (hN:N+1≤9*g) {tw:Nat} (h1:look m "world" = some (.ref wd)) (h2:H wd=some (.dict tw es)) (h3:valueAt es "bad" = some .none) (h4:Holds1 m H "told" (.lst l)) (h5:Holds1 m H "due" (.lst l)) :
  PS (cfg w b mg mb os) F m H (execs ((bodyOf (cfg w b mg mb os).K 678).drop 14) F.env) fun fl _ _=>retOf fl=.bool true:=by
 refine body_14 (w:=w) (b:=b) (mg:=mg) (mb:=mb) (os:=os) fun a1 a2 a3 a4 a5 a6 a7 a8 a9 b1 b2 b3 hb=>?_
 have bq:=Bool.and_eq_true_iff.mp (ns_14 (w:=w) (b:=b) (mg:=mg) (mb:=mb) (os:=os))
 have n1:=bq.1
 have z:=bq.2
 have bq:=Bool.and_eq_true_iff.mp z
 have n2:=bq.1
 have n3:=bq.2
 have ok:=L.ok
 have sc:=L.sc
 obtain ⟨tv,t1,t2⟩:=h4
 obtain ⟨dv,d1,d2⟩:=h5
 rw [hb]
 refine q_ret (p_BoolOp (p_bool_and (p_Compare (p_Sub (p_nl ok sc h1 (beq_iff_eq.mp n1) (PW.const_str fun t=>p_tailDict h2 (p_getDict h2 h3 (PW.const_none (p_is rfl (p_truthy_bool ?_)))) rfl))))))
 exact p_bool_one (p_Compare (p_nl ok sc t1 (beq_iff_eq.mp n2) (p_nl ok sc d1 (beq_iff_eq.mp n3) (p_eqLst ok hd (by rw [L.r];exact hN) t2 d2 rfl))))
end
end
end Internal
end
section
namespace Internal
open PySem PySem.W PyProof.Rows
section
noncomputable def RowF (ad:Nat→Addr) (H:AH) (l:V) (es:List (Str × Value)):Prop:=∃ t tv,es=([("tokens",tv),("place",.int 0 t)]:List (Str × Value))∧Rep ad H l tv
theorem rowFs {ad:Nat→Addr} {H:AH} {l:V} {es:List (Str × Value)} (k1:es.map (·.1)=(["tokens","place"]:List Str)) (k2:Reps ad H [l,.int 0] (es.map (·.2))):RowF ad H l es:=by
 refine Reps.fld (f:=("tokens",l)) (fs:=[("place",.int 0)]) (C:=fun es=>RowF ad H l es) k2 k1 fun v1 es a1 k2 k1=>?_
 refine Reps.fld (f:=("place",.int 0)) (fs:=[]) (C:=fun es=>RowF ad H l (("tokens",v1)::es)) k2 k1 fun v2 es a2 k2 k1=>?_
 have e0:es=[]:=List.map_eq_nil_iff.mp k1
 obtain ⟨t1,rfl⟩:=a2
 exact ⟨t1,v1,by rw [e0],a1⟩
theorem mk_row {w:Wo} (O:w.Ok) {l:V} {H:AH} {ws:List Value} (hw:Reps w.e.ad H [l] ws) :
  CC w.e.g 3 4 (.ref 567) ws H (fun v H'=>∃ x dx t tv,v=.ref x∧H dx=none∧Ext H H'∧x≠dx∧H' x=some (.inst 567 dx)∧H' dx=some (.dict 4 [("tokens",tv),("place",.int 0 t)])∧Rep w.e.ad H' l tv) fun _ _ _=>False:=
 make_sound (fl:=([("tokens",l),("place",.int 0)]:List (Str × V))) (fI:=557) (xs:=["tokens"]) (as:=[l]) (ds:=[]) (dv:=[]) O.E (by decide) (by kernel_rfl) (by kernel_rfl) (by kernel_rfl) (.o2 fun a b=>by kernel_rfl) (fun _=>.nil) (by kernel_rfl) hw
  fun x dx H' es h0 hext hx hne hdx k1 k2=>by
   obtain ⟨t,tv,rfl,a1⟩:=rowFs k1 k2
   exact ⟨.dict 4 [("tokens",tv),("place",.int 0 t)],fun o q=>q,x,dx,t,tv,rfl,h0,make_ext hext h0,hne,(AH.set_ne hne).trans hx,AH.set_self,Rep.fz (.set1 hdx (by exact (by decide:(99:Nat)≠0))) _ a1⟩
section
variable {w:World} {b:Heap} {mg mb:Str→Option Value} {os:OsState}
theorem body_312 {C:Prop} (k:∀ a1 a2 a3 a4 b1 b2 b3 b4 c1 c2 c3 c4 c5 c6,bodyOf (cfg w b mg mb os).K 312=[.Assign [.Attribute (.Name "self" a1) "source" a2] (.Name "source" a3) a4,.Assign [.Attribute (.Name "self" b1) "ahead" b2] (.List [] b3) b4,.Assign [.Attribute (.Name "self" c1) "contexts" c2] (.List [.Constant (.str "top") c3 c4] c5) c6]→C):C:=k _ _ _ _ _ _ _ _ _ _ _ _ _ _ rfl
theorem par_312 {a c:Value}:((parOf (cfg w b mg mb os).K 312).zip ([a,c]++[])).reverse=([("source",c),("self",a)]:List (Str × Value)):=by kernel_rfl
theorem ns_312:((fdOf (cfg w b mg mb os).K 312).scope.names.lookup ("self" : Str)==some NameKind.local&&(fdOf (cfg w b mg mb os).K 312).scope.names.lookup ("source" : Str)==some NameKind.local)=true:=by kernel_rfl
theorem chk_312:(fnChk (cfg w b mg mb os).K 312&&(makesIn (cfg w b mg mb os).K 520&&(isRef 312 (findIn (cfg w b mg mb os).K (.ref 520) "__init__")&&isTy "function" (typeIn (cfg w b mg mb os).K (.ref 312)))))=true:=by kernel_rfl
theorem tk_520:(isNo (takerIn (cfg w b mg mb os).K 520 "source")&&isNo (takerIn (cfg w b mg mb os).K 520 "contexts"))=true:=by kernel_rfl
theorem bind_312:BindOk (cfg w b mg mb os).K 312 2:=.o2 fun a b=>by kernel_rfl
end
theorem st_src {v:Value}:stored [] ("source" : Str) v=([("source",v)]:List (Str × Value)):=by kernel_rfl
theorem st_ah {v u:Value}:stored ([("source",v)]:List (Str × Value)) "ahead" u=([("source",v),("ahead",u)]:List (Str × Value)):=by kernel_rfl
theorem st_cx {v u t:Value}:stored ([("source",v),("ahead",u)]:List (Str × Value)) "contexts" t=([("source",v),("ahead",u),("contexts",t)]:List (Str × Value)):=by kernel_rfl
theorem mk_reader {w:Wo} (O:w.Ok) {src:Value} {H:AH}:CC w.e.g 3 4 (.ref 520) [src] H (fun v H'=>∃ x dx al cl t,v=.ref x∧H dx=none∧H al=none∧H cl=none∧Ext H H'∧x≠dx∧al≠cl∧H' x=some (.inst 520 dx)∧H' dx=some (.dict 4 [("source",src),("ahead",.ref al),("contexts",.ref cl)])∧H' al=some (.list 4 [])∧H' cl=some (.list 4 [.str "top" t])) fun _ _ _=>False:=by
 refine body_312 (w:=w.w) (b:=w.b) (mg:=w.mg) (mb:=w.mb) (os:=w.os) fun a1 a2 a3 a4 b1 b2 b3 b4 c1 c2 c3 c4 c5 c6 hb=>?_
 have bq:=Bool.and_eq_true_iff.mp (ns_312 (w:=w.w) (b:=w.b) (mg:=w.mg) (mb:=w.mb) (os:=w.os))
 have n1:=bq.1
 have n2:=bq.2
 have bq:=Bool.and_eq_true_iff.mp (chk_312 (w:=w.w) (b:=w.b) (mg:=w.mg) (mb:=w.mb) (os:=w.os))
 have f1:=bq.1
 have q:=bq.2
 have bq:=Bool.and_eq_true_iff.mp q
 have f2:=bq.1
 have q:=bq.2
 have bq:=Bool.and_eq_true_iff.mp q
 have f3:=bq.1
 have f4:=bq.2
 obtain ⟨z1,z2,z3⟩:=setChk_spec (set_520 (w:=w.w) (b:=w.b) (mg:=w.mg) (mb:=w.mb) (os:=w.os))
 have bq:=Bool.and_eq_true_iff.mp (tk_520 (w:=w.w) (b:=w.b) (mg:=w.mg) (mb:=w.mb) (os:=w.os))
 have k1:=bq.1
 have k2:=bq.2
 have k3:=isNo_spec (tak_520 (w:=w.w) (b:=w.b) (mg:=w.mg) (mb:=w.mb) (os:=w.os))
 replace n1:=beq_iff_eq.mp n1
 replace n2:=beq_iff_eq.mp n2
 replace k1:=isNo_spec k1
 replace k2:=isNo_spec k2
 have hbi:=bind_312 (w:=w.w) (b:=w.b) (mg:=w.mg) (mb:=w.mb) (os:=w.os)
 have pr:=fun a c=>par_312 (w:=w.w) (b:=w.b) (mg:=w.mg) (mb:=w.mb) (os:=w.os) (a:=a) (c:=c)
 have cok:=O.E.cok
 rw [← Wo.eg] at hb f1 f2 f3 f4 n1 n2 z1 z2 z3 k1 k2 k3 hbi pr
 obtain ⟨f0,f5⟩:=fnChk_spec f1
 refine CC.make (r:=1) cok f2 (isRef_spec f3) (isTy_spec f4) (by decide) ?_
 intro x dx H1 hx0 hdx0 hne hext h1x h1d
 refine CC.enter cok f5 f0.dbg (hbi [.ref x,src] rfl) (fun y hy=>f0.par y.1 (List.of_mem_zip hy).1) (by decide) (pr _ _) ?_
 intro F H2 ok hT hr sc _ hX hH0 hext2 hke
 have g1:=hext2 _ _ h1x
 have g2:=hext2 _ _ h1d
 rw [hb]
 have mine:∀ {o:AObj},o.tag=99→Mine F dx o:=fun h=>.inl (h.trans hT.symm)
 refine q_assign1 (p_nl ok sc rfl n2 (q_asAttr (p_nl ok sc rfl n1 (p_setField cok ok g1 g2 (.inl hT.symm) ?_ z1 z2 k1 z3 (by decide:0≤1000))))) (exec_asg rfl rfl rfl)
 rw [st_src]
 have e3:(H2.set dx (.dict 99 [("source",src)])) x=some (.inst 520 dx):=(AH.set_ne hne).trans g1
 refine q_assign1 (p_List (p_args_nil (p_newListF 4 (fun al hal _=>?_) (Nat.zero_le _)))) (exec_asg rfl rfl rfl)
 have x1:Ext (H2.set dx (.dict 99 [("source",src)])) ((H2.set dx (.dict 99 [("source",src)])).set al (.list 4 [])):=.set hal
 refine q_asAttr (p_nl ok sc rfl n1 (p_setField cok ok (x1 _ _ e3) (x1 _ _ AH.set_self) (.inl hT.symm) ?_ z1 z2 k3 z3 (by decide:1≤1000)))
 rw [st_ah]
 have q1:∀ {y o},(H2.set dx (.dict 99 [("source",src)])) y=some o→y≠al:=fun h z=>by rw [z,hal] at h;exact noneE h
 have dal:dx≠al:=q1 AH.set_self
 have xal:x≠al:=q1 e3
 have g3:(((H2.set dx (.dict 99 [("source",src)])).set al (.list 4 [])).set dx (.dict 99 [("source",src),("ahead",.ref al)])) x=some (.inst 520 dx):=(AH.set_ne hne).trans ((AH.set_ne xal).trans e3)
 have g4:(((H2.set dx (.dict 99 [("source",src)])).set al (.list 4 [])).set dx (.dict 99 [("source",src),("ahead",.ref al)])) al=some (.list 4 []):=(AH.set_ne dal.symm).trans AH.set_self
 refine q_assign1 (p_List (p_args_cons (PW.const_str fun t=>p_args_nil (p_newListF 4 (fun cl hcl _=>?_) (le1000 (by decide:1≤1000)))))) (exec_asg rfl rfl rfl)
 have x2:∀ {y o},(((H2.set dx (.dict 99 [("source",src)])).set al (.list 4 [])).set dx (.dict 99 [("source",src),("ahead",.ref al)])) y=some o→y≠cl:=fun h z=>by rw [z,hcl] at h;exact noneE h
 have dcl:=x2 AH.set_self
 have xcl:=x2 g3
 have acl:=x2 g4
 refine q_asAttr (p_nl ok sc rfl n1 (p_setField cok ok ((AH.set_ne xcl).trans g3) ((AH.set_ne dcl).trans AH.set_self) (.inl hT.symm) ?_ z1 z2 k2 z3 (by decide:2≤1000)))
 rw [st_cx]
 have hal2:H2 al=none:=(AH.set_ne dal.symm).symm.trans hal
 have hcl2:H2 cl=none:=(AH.set_ne dcl.symm).symm.trans ((AH.set_ne acl.symm).symm.trans ((AH.set_ne dcl.symm).symm.trans hcl))
 have up:∀ {y},H2 y=none→H y=none:=fun {y} h=>by
  cases q:H y with
  | none=>rfl
  | some o=>exact noneE (h.symm.trans (hext2 _ _ (hext _ _ q)))
 refine q_nil ⟨rfl,fun y o h hy=>?_,_,.dict 4 [("source",src),("ahead",.ref al),("contexts",.ref cl)],AH.set_self,fun o q=>q,x,dx,al,cl,t,rfl,hdx0,up hal2,up hcl2,fun y o h=>?_,hne,acl,?_,AH.set_self,?_,?_⟩
 ·have:=hext2 _ _ h
  have a1:y≠al:=fun z=>by rw [z,hal2] at this;exact noneE this
  have a2:y≠cl:=fun z=>by rw [z,hcl2] at this;exact noneE this
  exact (AH.set_ne hy).trans ((AH.set_ne a2).trans ((AH.set_ne hy).trans ((AH.set_ne a1).trans ((AH.set_ne hy).trans this))))
 ·have hy:y≠dx:=fun z=>by rw [z,hdx0] at h;exact noneE h
  have:=hext2 _ _ (hext _ _ h)
  have a1:y≠al:=fun z=>by rw [z,hal2] at this;exact noneE this
  have a2:y≠cl:=fun z=>by rw [z,hcl2] at this;exact noneE this
  exact (AH.set_ne hy).trans ((AH.set_ne hy).trans ((AH.set_ne a2).trans ((AH.set_ne hy).trans ((AH.set_ne a1).trans ((AH.set_ne hy).trans this)))))
 ·exact (AH.set_ne hne).trans ((AH.set_ne hne).trans ((AH.set_ne xcl).trans g3))
 ·exact (AH.set_ne dal.symm).trans ((AH.set_ne dal.symm).trans ((AH.set_ne acl).trans g4))
 ·exact (AH.set_ne dcl.symm).trans ((AH.set_ne dcl.symm).trans AH.set_self)
end
end Internal
end
section
namespace Internal
open PySem PySem.W PyProof.Rows
section
section
variable {w:World} {b:Heap} {mg mb:Str→Option Value} {os:OsState} {F:Fx} {g:Nat} {pl:Addr} {m:LM} {H:AH} {tk:Nat→Tk} {n:Nat}
theorem ns_13:((fdOf (cfg w b mg mb os).K 678).scope.names.lookup ("row" : Str)==some NameKind.local&&((fdOf (cfg w b mg mb os).K 678).scope.names.lookup ("Reader" : Str)==some NameKind.globalImplicit&&(fdOf (cfg w b mg mb os).K 678).scope.names.lookup ("TokenRow" : Str)==some NameKind.globalImplicit))=true:=by kernel_rfl
theorem g_13:(isRef 520 (nsIn (cfg w b mg mb os).K mainGlobals "Reader")&&(isRef 567 (nsIn (cfg w b mg mb os).K mainGlobals "TokenRow")&&(keepIn (cfg w b mg mb os).K (.ref 520)&&(keepIn (cfg w b mg mb os).K (.ref 567)&&metChk (cfg w b mg mb os).K 520 "program" 517))))=true:=by kernel_rfl
mutual
theorem toR_nc:∀ t:Tree,(toR t).noC
 | .name s=>⟨trivial,trivial,trivial,trivial⟩
 | .num n=>⟨⟨⟨trivial,trivial,trivial⟩,trivial⟩,trivial⟩
 | .call ts=>⟨trivial,noCs_iff (toRs_nc ts),noCs_iff fun x hx=>by rw [List.eq_of_mem_replicate hx];trivial,trivial,trivial,trivial⟩
 | .fn ns b=>⟨trivial,⟨⟨trivial,trivial,trivial,trivial⟩,⟨noCs_iff fun x hx=>by rw [List.eq_of_mem_replicate hx];exact ⟨trivial,trivial,trivial⟩,noCs_iff fun x hx=>by
   obtain ⟨y,_,rfl⟩:=List.mem_map.mp hx;trivial,trivial⟩,toR_nc b,⟨trivial,trivial,trivial⟩,trivial⟩,(⟨trivial,trivial,trivial,trivial,trivial⟩:V.noCs [V.none,V.none,V.none,V.none]),trivial,trivial,trivial⟩
theorem toRs_nc:∀ ts:List Tree,∀ x ∈ toRs ts,x.noC
 | [],x,h=>nomatch h
 | t::ts,x,h=>by
  rcases List.mem_cons.mp h with rfl | h
  ·exact toR_nc t
  ·exact toRs_nc ts x h
end
theorem PW.own {c:Cfg} {α:Type} {t:Sem α} {Q:α→AH→Prop} (h:(∀ a o,H a=some o→c.b.get? a=none)→PW c F m H t Q):PW c F m H t Q:=fun s st=>h (fun a o q=>(st.inv.obj a o q).1) s st
theorem va_prog {a b c:Value}:valueAt ([("source",a),("ahead",b),("contexts",c)]:List (Str × Value)) "program" = none:=by kernel_rfl
theorem p_prog (L:LwF w b mg mb os F g pl) (hrow:Holds1 m H "row" (.lst (rowV tk n))) (hn:n≤1000) (h0:0<n) (heof:∀ p,p<n→(tk p).wd≠.eof→p+1<n) {f:Nat} {res:Res} (hP:P tk f (.prog 0 [])=some res) (hg:Wt tk n 0+25≤g)
  {a1 a2 a3 a4 a5 a6 a7:Pos} (hpos:(a6.endLine==a7.line)=true) (isCall:∀ t q,res=.ok t q→∃ ts,t=.call ts) {Q:Value→AH→Prop} (ok:∀ v H' ts q,res=.ok (.call ts) q→Fz H H'→Rep (fun _=>0) H' (.lst (toRs ts)) v→Q v H') (bad:∀ q H',res=.bad q→Fz H H'→F.X (badK (tk q).wd) (10*q:Nat) m H') :
  PW (cfg w b mg mb os) F m H (eval (.Call (.Attribute (.Call (.Name "Reader" a1) [.Call (.Name "TokenRow" a2) [.Name "row" a3] [] a4] [] a5) "program" a6) [] [] a7) F.env) Q:=by
 have bq:=Bool.and_eq_true_iff.mp (ns_13 (w:=w) (b:=b) (mg:=mg) (mb:=mb) (os:=os))
 have n1:=bq.1
 have z:=bq.2
 have bq:=Bool.and_eq_true_iff.mp z
 have n2:=bq.1
 have n3:=bq.2
 have bq:=Bool.and_eq_true_iff.mp (g_13 (w:=w) (b:=b) (mg:=mg) (mb:=mb) (os:=os))
 have g1:=bq.1
 have z:=bq.2
 have bq:=Bool.and_eq_true_iff.mp z
 have g2:=bq.1
 have z:=bq.2
 have bq:=Bool.and_eq_true_iff.mp z
 have g3:=bq.1
 have z:=bq.2
 have bq:=Bool.and_eq_true_iff.mp z
 have g4:=bq.1
 have g5:=bq.2
 have mo:=metChk_spec g5
 have O:=wAt_ok L.cok (l:=[]) (l':=[]) rfl List.nodup_nil
 have cok:=L.cok
 have fok:=L.ok
 have sc:=L.sc
 obtain ⟨rv,r1,r2⟩:=hrow
 refine p_MethodCall (p_CallN (p_ng cok fok sc (isRef_spec g1) (beq_iff_eq.mp n2) (p_callWith_K cok g3 rfl (p_args_cons (p_CallN (p_ng cok fok sc (isRef_spec g2) (beq_iff_eq.mp n3) (p_callWith_K cok g4 rfl (p_args_cons (p_nl fok sc r1 (beq_iff_eq.mp n1) (p_args_nil ?_)))))))))) (eval_MCall rfl rfl (by decide) hpos)
 have c1:=mk_row O (l:=.lst (rowV tk n)) (H:=H) (ws:=[rv]) (.one (Rep.swap _ (noCs_iff rowV_nc) r2))
 rw [wAt_g] at c1
 refine p_call fok c1 (by rw [L.r];lia) (by decide) (.inl L.T.symm) (fun sv H1 _ q=>?_) fun _ _ _ _ q=>q.elim
 obtain ⟨src,ds,t,tv,rfl,hds,ex1,ne1,s1,s2,s3⟩:=q
 refine p_args_nil ?_
 have c2:=mk_reader O (src:=.ref src) (H:=H1)
 rw [wAt_g] at c2
 refine p_call fok c2 (by rw [L.r];lia) (by decide) (.inl L.T.symm) (fun xv H2 _ q=>?_) fun _ _ _ _ q=>q.elim
 obtain ⟨x,d,al,cl,t2,rfl,hd,hal,hcl,ex2,ne2,ne3,x1,x2,x3,x4⟩:=q
 refine p_getMethod cok x1 x2 va_prog ?_ mo.get mo.find mo.fn
 refine p_callWith_K cok mo.keep rfl (p_args_nil ?_)
 refine PW.own fun ow=>?_
 obtain ⟨tl,tvs,rfl,y1,y2⟩:=s3.lstE
 have src2:=ex2 _ _ s1
 have ds2:=ex2 _ _ s2
 have b1:=base_ne cok ow x1
 have b2:=base_ne cok ow x4
 have nex:∀ {y o},H1 y=some o→∀ {z},H1 z=none→y≠z:=fun h z k e=>by rw [e,k] at h;exact noneE h
 have xcl:x≠cl:=fun e=>by rw [e,x4] at x1;exact nomatch x1
 have dcl:d≠cl:=fun e=>by rw [e,x4] at x2;exact nomatch x2
 have nd:([x,cl]++[120,51]:List Addr).Nodup:=by simp [xcl,b1,b2]
 have X:Rk (wOut w b mg mb os x cl (rowV tk n)) tk n:=reader_rk cok nd hn heof
 have A:HidA x cl (rowV tk n) 0 H2 d src ds al tl 0:=⟨x1,x2,src2,⟨t,ds2⟩,⟨tvs,ex2 _ _ y1,(y2.swap rowV_nc).fz (.ofExt ex2)⟩,⟨[],x3,.nil⟩,ne3,fun y hy=>by
  have hd2:=base_ne cok ow x2
  have hs2:=base_ne cok ow ds2
  have ha2:=base_ne cok ow x3
  rcases hy with rfl | rfl | rfl
  ·exact ⟨ne2.symm,dcl,hd2.1,hd2.2.1⟩
  ·exact ⟨(fun e=>by rw [e,x1] at ds2;exact nomatch ds2),nex s2 hcl,hs2.1,hs2.2.1⟩
  ·exact ⟨(fun e=>by rw [e,x1] at x3;exact nomatch x3),ne3,ha2.1,ha2.2.1⟩,Nat.zero_le _⟩
 have hr:RootsRep (wOut w b mg mb os x cl (rowV tk n)).e (rdS 0 [.top]) H2:=hid_close (ctxL_nc [.top]) A ⟨_,x4,.one .str⟩
 have cc:=prog_ok X f h0 hg hP H2 [.ref x] hr (.one (by rw [wOut_e];exact rfl))
 rw [eg_out] at cc
 have f02:Fz H H2:=.ofExt (ex1.trans ex2)
 refine p_call fok cc (by rw [L.r];exact Nat.le_refl _) (by decide) (.inl L.T.symm) (fun v H3 kp q=>?_) fun k' n' H3 kp q=>?_
 ·obtain ⟨u,r',q1,q2,_⟩:=q
  rw [wOut_e] at q2
  cases res with
  | bad q'=>exact by injection q1
  | ok t' q'=>
   have a:=isCall t' q' rfl
   obtain ⟨ts,rfl⟩:=a
   (injection q1 with e1;subst e1)
   exact ok v H3 ts q' rfl (f02.trans (.ofKeeps kp (by decide))) (Rep.swap _ (noCs_iff (toRs_nc ts)) q2)
 ·cases res with
  | bad q'=>cases q;exact bad q' H3 rfl (f02.trans (.ofKeeps kp (by decide)))
  | ok t' q'=>cases t'<;>exact by injection q
end
end
end Internal
end
section
namespace Internal
open PySem PySem.W PyProof.Rows
section
variable {c:Cfg} {F:Fx} {m:LM} {H:AH}
theorem p_CompUse (ok:F.Ok) {x:Str} {xp:Pos} (hx:F.env.kindOf x=some .local) {elt target iter:Expr} {scope:Scope} {pos:Pos} {Q:Value→AH→Prop}
  (hkind:scope.kind=.function) (hnames:∀ x ∈ scope.names,x.2=.local→scope.names.lookup x.1=some .local) (hcell:∀ x ∈ scope.names,x.2≠.cell) (hfree:∀ x ∈ scope.names,x.2=.free→∃ a,F.env.cells.lookup x.1=some a)
  (hs:∀ x,foldedSetIterable iter F.env x=pure x) (hT:F.T≠98)
  (h:PW c F m H (eval iter F.env) fun v H1=>∃ l t vs,v=.ref l∧H1 l=some (.list t vs)∧vs.length≤sizeLine∧∃ P:Nat→List Value→AH→Prop,(∀ i ys H H',P i ys H→Pub98 H H'→P i ys H')∧(∀ i ys H,P i ys H→∃ t,H l=some (.list t vs))∧P 0 [] H1 ∧
   (∀ (F':Fx) i x ys m0 H,F'.Ok→F'.env.scope=relabel scope F.env→(∀ x ∈ scope.names,x.2=.free→F'.env.cells.lookup x.1=F.env.cells.lookup x.1)→F'.T=F.T→F'.r=F.r→vs[i]?=some x→P i ys H →
    PS c F' m0 H (assign target F'.env x) fun _ m1 H1=>PW c F' m1 H1 (eval elt F'.env) fun y H'=>P (i+1) (ys++[y]) H') ∧
   (∀ D ys H',P vs.length ys H'→H' D=some (.list 0 ys)→H1 D=none→Q (.ref D) H')) :
  PS c F m H (evalThenUse (.ListComp elt [⟨target,iter,[],0⟩] scope pos) F.env (assign (.Name x xp) F.env)) (fun _ m' H'=>∃ D,m'=setL x (.ref D) m∧Q (.ref D) H'):=fun s st=>by
 rw [arm_evalThenUse_ListComp]
 refine wpAny_bind (comp_core ok hkind hnames hcell hfree hs hT h (fun D LC ys H' s' X q=>?_) st)
 show wpAny _ _ (assign (.Name x xp) F.env (.ref D)) _ _ s'
 refine wpAny_bind (wpAny_standAt (wpAny_bindName (wpAny_storeName_local hx (by rw [ok.loc];exact X.st.loc) (fun h2 hn2 hs2=>?_) (by rw [ok.kind];rfl))))
 rw [ok.loc] at hn2 hs2
 exact X.ns.elim fun mc z=>z.elim fun o z=>z.elim fun es z=>z.elim fun ep z=>z.elim fun ho r=>⟨look mc,⟨o,es,ep,(hs2.2 LC X.lL).trans ho,r⟩,fun h' hsb'=>wpAny_pure ⟨_,_,X.out ok (St.store ok X.st hn2 hs2 (s'.toks+1)) hsb' _,D,rfl,q⟩⟩
end
end Internal
end
section
namespace Internal
open PySem PySem.W PyProof.Rows
section
theorem lm_of {h:Heap} {a:Addr} {m:Str→Option Value} (n:h.Ns a m):∃ l:LM,h.Ns a (look l):=by
 obtain ⟨o,es,ep,h1,h2,h3,h4⟩:=n
 refine ⟨es.toList.map fun e=>((match e.key with | .str n _=>n | _=> ""),e.val),o,es,ep,h1,h2,h3,fun name=>?_⟩
 unfold nsFind findBy
 rw [← Array.find?_toList]
 have:∀ e ∈ es.toList,∃ n t,e.key=.str n t:=fun e he=>h3 e (Array.mem_toList_iff.mp he)
 revert this
 generalize es.toList=l
 intro hl
 induction l with
 | nil=>rfl
 | cons e l ih=>
  obtain ⟨n,t,hk⟩:=hl e (.head _)
  rw [List.find?_cons,List.map_cons]
  show _=if name=(match e.key with | .str n _=>n | _=> "") then some e.val else look (l.map _) name
  rw [hk]
  show (match n==name with | true=>some e | false=>_).map _=_
  by_cases q:n=name
  ·rw [beq_iff_eq.mpr q,if_pos q.symm];rfl
  ·rw [beq_eq_false_iff_ne.mpr q,if_neg fun z=>q z.symm]
   exact ih fun x hx=>hl x (.tail _ hx)
structure Fx.Top (F:Fx):Prop where
 its:F.its=[]
 frame:F.env.frame=some F.L
 frames:∃ outer,F.A.frames=some (F.env::outer)∧OuterOk F.H0 outer
noncomputable def Fx.withX (F:Fx) (X:Str→Int→LM→AH→Prop):Fx:={ F with X:=X }
theorem Fx.Ok.withX {F:Fx} (ok:F.Ok) (top:F.Top) (X:Str→Int→LM→AH→Prop):(F.withX X).Ok:=⟨ok.T0,ok.loc,ok.glb,ok.blt,ok.kind,.inl ⟨top.frame,top.frames⟩,ok.hd,ok.gd,ok.room,ok.fresh⟩
section
variable {c:Cfg} {F:Fx} {m:LM} {H:AH} {R:Flow→LM→AH→Prop}
theorem St.withX {s:Shared} {X:Str→Int→LM→AH→Prop} (st:St c F m H s):St c (F.withX X) m H s:=⟨st.inv,st.loc,st.own,st.keep,st.nsk,st.its⟩
theorem St.offX {s:Shared} {X:Str→Int→LM→AH→Prop} (st:St c (F.withX X) m H s):St c F m H s:=⟨st.inv,st.loc,st.own,st.keep,st.nsk,st.its⟩
theorem q_try (ok:F.Ok) (top:F.Top) {body:List Stmt} {h0:ExceptHandler} {hs:List ExceptHandler} {pos:Pos} {rest:List Stmt} (X:Str→Int→LM→AH→Prop)
  (hb:PS c (F.withX X) m H (execs body F.env) (fun f m' H'=>f=.next∧PS c F m' H' (execs rest F.env) R))
  (hx:∀ e s,XEg c (F.withX X) FreeFl e s→wpAny (model c.prog c.w) F.A (handleBy e F.env (h0::hs)) (fun f s'=>∃ m' H',St c F m' H' s'∧NX c F rest R f m' H') (XE c F) s):PS c F m H (execs (.Try body (h0::hs) [] [] pos::rest) F.env) R:=by
 refine q_cons fun s st=>wpAny_Try_except (wpAny_mono (hb s st.withX) ?_ ?_)
 ·rintro f s1 ⟨m1,H1,st1,rfl,h1⟩
  exact wpAny_pure ⟨m1,H1,st1.offX,h1⟩
 ·intro e s1 x
  have ok':=ok.withX top X
  exact xe_noteFrame ok' (fun _ p=>p) x fun s2 x2=>xe_setFlight ok' (fr:=none) (fun q=>by injection q) x2 fun s3 x3=>hx e s3 x3
end
end
end Internal
end
section
namespace Internal
open PySem PySem.W PyProof.Rows
section
theorem w_spl_cons {M:Model} {A:Around} {E:Value→Shared→Prop} {s:Shared} {x:Sem Value} {rest:List (Bool × Sem Value)} {Q:List Value→Shared→Prop} (h:wpAny M A x (fun v s1=>wpAny M A (spliced rest) (fun vs s2=>Q (v::vs) s2) E s1) E s):wpAny M A (spliced ((false,x)::rest)) Q E s:=by
 show wpAny M A (x >>= fun v=>(Pure.pure [v]:Sem (List Value)) >>= fun here=>holding here (spliced rest) >>= fun r=>Pure.pure (here++r)) Q E s
 exact wpAny_bind (wpAny_mono h (fun v s1 h1=>wpAny_bind (wpAny_pure (wpAny_bind (wpAny_holding (wpAny_mono h1 (fun vs s2 h2=>wpAny_pure h2) fun _ _ e=>e))))) fun _ _ e=>e)
section
variable {w:World} {b:Heap} {mg mb:Str→Option Value} {os:OsState}
theorem x_dict:hasDictIn (cfg w b mg mb os).K 51=true:=by kernel_rfl
theorem w_excAttr {A:Around} {E:Value→Shared→Prop} {s:Shared} {Q:Value→Shared→Prop} {env:Env} {name:Str} {p1 p2:Pos} {a:Addr} {mm:Str→Option Value} {ox od:Obj} {es:List (Str × Value)} {v:Value}
  (hk:env.scope.kind=.function) (hl:env.kindOf "error" = some .local) (hn:s.heap.Ns env.locals mm) (hm:mm "error" = some (.ref a)) (X:(cfg w b mg mb os).K.In s.heap) (I:PySem.W.InstAt s.heap a ox 51 (some od))
  (hD:od.IsDictOf (PySem.strKind (cfg w b mg mb os).prog (cfg w b mg mb os).w) es) (hv:valueAt es name=some v) (hf:findIn (cfg w b mg mb os).K (.ref 51) name=some none) (hh:handedIn v=true) (h:Q v { s with toks:=s.toks+1 }) :
  wpAny (model (cfg w b mg mb os).prog (cfg w b mg mb os).w) A (eval (.Attribute (.Name "error" p1) name p2) env) Q E s:=by
 have he:eval (.Attribute (.Name "error" p1) name p2) env=(do let o ← eval (.Name "error" p1) env;standAt p2.atName;let r ← holding [o] (getAttr o name true);letTemporaryGo (.Name "error" p1) o r;pure r):=rfl
 rw [he]
 refine wpAny_bind (wpAny_Name (wpAny_loadName_local hk hl hn hm (wpAny_bind (wpAny_standAt (wpAny_bind (wpAny_holding ?_))))) (by decide))
 exact exc_get X x_base x_getattr x_noget I (findObj_own x_dict hf rfl (by rw [lookIn_of hD,hv])) hh (wpAny_bind (wpAny_letTemporaryGo (wpAny_pure h)))
variable {F:Fx} {g:Nat} {pl:Addr} {m:LM} {H:AH}
theorem p_eqTupV {c:Cfg} {ad:Nat→Addr} {l:List V} {N:Nat} {v u:Value} {Q:Value→AH→Prop} (hd:Dps N l) (hr:F.A.units+1+N<cLine) (hv:Rep ad H (.tup l) v) (hu:Rep ad H (.tup l) u) (h:Q (.bool true) H):PW c F m H (compareOp .Eq v u) Q:=fun s st=>by
 obtain ⟨d,h1,h2⟩:=hd
 obtain ⟨a,vs,rfl,ha,r1⟩:=hv.tupE
 obtain ⟨b,ws,rfl,hb,r2⟩:=hu.tupE
 refine PySem.SeqAt.eq_tupleAt (e:=fun _=>true) (st.tup ha) (st.tup hb) (by lia) (fun j q1 q2=>?_) ⟨H,st,?_⟩
 ·obtain ⟨x,e1,e2⟩:=r1.get' (i:=j) (List.getElem?_eq_getElem (by simpa using q1))
  obtain ⟨y,e3,e4⟩:=r2.get' (i:=j) (List.getElem?_eq_getElem (by simpa using q2))
  (injection (e1.symm.trans e3) with e1;subst e1)
  obtain ⟨n',z1,z2⟩:=deps_mem h1 (List.mem_of_getElem? e1)
  exact eqV st x z1 _ _ _ (by show F.A.units+1+n'<cLine;lia) e2 e4
 ·have:((List.range (min vs.toArray.size ws.toArray.size)).all (fun _=>true)&&vs.toArray.size==ws.toArray.size)=true:=by
   rw [List.size_toArray,List.size_toArray,r1.len,r2.len];simp
  rw [this];exact h
noncomputable def Fx.marked (F:Fx) (e:Value):Fx:={ F with A:=F.A.mark (some e),X:=fun _ _ _ _=>False }
theorem St.marked {c:Cfg} {s:Shared} {e:Value} (st:St c F m H s):St c (F.marked e) m H s:=⟨st.inv,st.loc,st.own,st.keep,st.nsk,st.its⟩
theorem St.offM {c:Cfg} {s:Shared} {e:Value} (st:St c (F.marked e) m H s):St c F m H s:=⟨st.inv,st.loc,st.own,st.keep,st.nsk,st.its⟩
theorem bad_dep {x:Wd} {q:Nat}:Dps 0 (badL x q):=⟨0,rfl,Nat.le_refl _⟩
theorem w_caught (L:LwF w b mg mb os F g pl) {a dx wd:Addr} {tg tw:Nat} {x:Wd} {q:Nat} {t1 t2:Tok} {es:List (Str × Value)} {bv:Value} {ox:Obj} {vs:Array Value} {s:Shared} {E:Value→Shared→Prop} {Q:Value→Shared→Prop}
  {p1 p2 p3 p4 p5 p6 p7 p8 p9:Pos} {k1 k2:Nat}
  (n1:F.env.kindOf "error" = some .local) (n2:F.env.kindOf "world" = some .local)
  (st:St (cfg w b mg mb os) F m H s) (he:look m "error" = some (.ref a)) (hw:look m "world" = some (.ref wd)) (hx:s.heap.get? a=some ox) (hc:ox.cls=.ref 51) (hdx:ox.dict=some dx) (hda:ox.data=.fields vs)
  (hd:H dx=some (.dict tg [("kind",.str (badK x) t1),("at",.int (10*q:Nat) t2)])) (h2:H wd=some (.dict tw es)) (h3:valueAt es "bad" = some bv) (h4:Rep (fun _=>0) H (badV x q) bv)
  (h:∀ s',(∃ H',St (cfg w b mg mb os) F m H' s')→Q (.bool true) s') :
  wpAny (model (cfg w b mg mb os).prog (cfg w b mg mb os).w) (F.A.mark (some (.ref a))) (eval (.Compare (.Tuple [.Attribute (.Name "error" p1) "kind" p2,.Attribute (.Name "error" p3) "at" p4] k1 p5) [.Eq] [.Subscript (.Name "world" p6) (.Constant (.str "bad") k2 p7) p8] p9) F.env) Q E s:=by
 have cok:=L.cok
 have ok:=L.ok
 obtain ⟨od,o1,o2⟩:∃ od,s.heap.get? dx=some od∧od.IsDictOf (PySem.strKind (cfg w b mg mb os).prog (cfg w b mg mb os).w) [("kind",.str (badK x) t1),("at",.int (10*q:Nat) t2)]:=(st.inv.obj dx _ hd).2
 obtain ⟨oc,odi,oda,osl⟩:=ox
 dsimp only at hc hdx hda
 subst hc hdx hda
 have I:PySem.W.InstAt s.heap a ⟨.ref 51,some dx,.fields vs,osl⟩ 51 (some od):=⟨hx,rfl,rfl,o1⟩
 have hL:s.heap.Ns F.env.locals (look m):=by rw [ok.loc];exact st.loc
 have hK:(cfg w b mg mb os).K.In s.heap:=st.K cok
 rw [eval_Compare1,markedBehindIn_of_false rfl,show eval (.Tuple [.Attribute (.Name "error" p1) "kind" p2,.Attribute (.Name "error" p3) "at" p4] k1 p5) F.env=(standAt p5 >>= fun _=>spliced (backTo p5 (starEach [.Attribute (.Name "error" p1) "kind" p2,.Attribute (.Name "error" p3) "at" p4] F.env)) >>= fun vs=>newTuple vs) from rfl]
 simp only [bind_assoc]
 refine wpAny_bind (wpAny_standAt (wpAny_bind ?_))
 show wpAny _ _ (spliced [(false,eval (.Attribute (.Name "error" p1) "kind" p2) F.env),(false,eval (.Attribute (.Name "error" p3) "at" p4) F.env)]) _ _ _
 refine w_spl_cons (w_excAttr ok.kind n1 hL he hK I o2 rfl x_nokind rfl (w_spl_cons (w_excAttr (s:={ s with toks:=s.toks+1 }) ok.kind n1 hL he hK I o2 rfl x_noat rfl (wpAny_pure ?_))))
 have st':St (cfg w b mg mb os) (F.marked (.ref a)) m H { s with toks:=s.toks+1+1 }:=(st.toks _).marked
 have fin:PW (cfg w b mg mb os) (F.marked (.ref a)) m H (newTuple [.str (badK x) t1,.int (10*q:Nat) t2] >>= fun v=>holding [v] (eval (.Subscript (.Name "world" p6) (.Constant (.str "bad") k2 p7) p8) F.env) >>= fun u=>standAt p9 >>= fun _=>operate [v,u] (compareOp .Eq v u)) fun v _=>v=.bool true:=by
  refine PW.bind (p_newTuple (fun y hy=>PW.bind (PW.holding (p_Sub (F:=F.marked (.ref a)) ?_))) (Nat.le_of_ble_eq_true rfl))
  have fz:Fz H (H.set y (.tup [.str (badK x) t1,.int (10*q:Nat) t2])):=.ofExt (.set hy)
  refine fun s st=>wpAny_Name (wpAny_loadName_local ok.kind n2 (by show s.heap.Ns F.env.locals _;rw [ok.loc];exact st.loc) hw ?_) (by decide)
  refine ⟨_,st,PW.const_str fun t=>p_tailDict ((AH.set_ne fun z=>by rw [z,hy] at h2;exact noneE h2).trans h2) (p_getDict ((AH.set_ne fun z=>by rw [z,hy] at h2;exact noneE h2).trans h2) h3 (PW.bind (PW.standAt (PW.operate (p_eqTupV (ad:=fun _=>0) (l:=badL x q) bad_dep ?_ (.tup AH.set_self (.cons .str (.cons .int .nil))) (Rep.fz fz _ h4) rfl))))) rfl⟩
  show F.A.units+1+0<cLine
  have:=ok.room.units
  have:=L.r
  have:=L.g2
  lia
 refine wpAny_mono (fin _ st') ?_ ?_
 ·rintro v s' ⟨H',st2,rfl⟩
  exact h s' ⟨H',st2.offM⟩
 ·rintro e s' x
  exact x.no fun _ _ _ _ z=>z
end
end
end Internal
end
section
namespace Internal
open PySem PySem.W PyProof.Rows
section
section
variable {w:World} {b:Heap} {mg mb:Str→Option Value} {os:OsState} {F:Fx} {g:Nat} {pl:Addr} {m:LM} {H:AH} {tk:Nat→Tk} {n:Nat}
theorem body_13 {C:Prop} (k:∀ sc a1 a2 a3 a4 a5 a6 a7 b1 b2 b3 b4 b5 b6 b7 c1 c2 c3 c4 c5 c6 c7 c8 c9 k1 k2 d1 d2 d3 d4,(bodyOf (cfg w b mg mb os).K 678).drop 13 =
  .Try [.Assign [.Name "told" b1] (.ListComp (.Call (.Name "_law_plain" b2) [.Name "one" b3] [] b4) [⟨.Name "one" b5,.Call (.Attribute (.Call (.Name "Reader" a1) [.Call (.Name "TokenRow" a2) [.Name "row" a3] [] a4] [] a5) "program" a6) [] [] a7,[],0⟩] sc b6) b7]
   [.ExceptHandler (some (.Name "ReadError" c1)) (some "error") [.Return (some (.Compare (.Tuple [.Attribute (.Name "error" c2) "kind" c3,.Attribute (.Name "error" c4) "at" c5] k1 c6) [.Eq] [.Subscript (.Name "world" c7) (.Constant (.str "bad") k2 c8) c9] d1)) d2] d3] [] [] d4 ::
  (bodyOf (cfg w b mg mb os).K 678).drop 14→compOk tabs (fdOf (cfg w b mg mb os).K 678).scope.names sc=true→sc.names.lookup ("one" : Str)=some .local→sc.names.lookup ("_law_plain" : Str)=some .globalImplicit→(b1.line==b6.line&&!(sc.names.any fun (n,k)=>n==("told" : Str)&&(k==.local||k==.cell)))=true→(a6.endLine==a7.line)=true→C):C:=by
 refine k _ _ _ _ _ _ _ _ _ _ _ _ _ _ _ _ _ _ _ _ _ _ _ _ _ _ _ _ _ _ rfl ?_ ?_ ?_ ?_ ?_<;>kernel_rfl
theorem ns_13b:((fdOf (cfg w b mg mb os).K 678).scope.names.lookup ("told" : Str)==some NameKind.local&&((fdOf (cfg w b mg mb os).K 678).scope.names.lookup ("world" : Str)==some NameKind.local&&((fdOf (cfg w b mg mb os).K 678).scope.names.lookup ("error" : Str)==some NameKind.local&&(fdOf (cfg w b mg mb os).K 678).scope.names.lookup ("ReadError" : Str)==some NameKind.globalImplicit)))=true:=by kernel_rfl
theorem g_plain:(isRef 590 (nsIn (cfg w b mg mb os).K mainGlobals "_law_plain")&&keepIn (cfg w b mg mb os).K (.ref 590))=true:=by kernel_rfl
theorem p_told (L:LwF w b mg mb os F g pl) {sc:Scope} {elt iter:PySem.Expr} {b1 b2 b3 b4 b5 b6:Pos} {Z:Prop} {ts:List Tree} {h:Nat} (hts:∀ t ∈ ts,fits h t) (hl:ts.length≤1000) (hg:3+h≤g) (K:compOk tabs (fdOf (cfg w b mg mb os).K 678).scope.names sc=true) (n1:sc.names.lookup ("one" : Str)=some .local) (n2:sc.names.lookup ("_law_plain" : Str)=some .globalImplicit) (hs:∀ x,foldedSetIterable iter F.env x=pure x)
  (he:elt=.Call (.Name "_law_plain" b2) [.Name "one" b3] [] b4) (hi:PW (cfg w b mg mb os) F m H (eval iter F.env) fun v H1=>Z∧Fz H H1∧Rep (fun _=>0) H1 (.lst (toRs ts)) v) :
  PS (cfg w b mg mb os) F m H (evalThenUse (.ListComp elt [⟨.Name "one" b5,iter,[],0⟩] sc b6) F.env (assign (.Name "told" b1) F.env)) fun _ m' H'=>Z∧∃ D,m'=setL "told" (.ref D) m∧Fz H H'∧Rep (fun _=>0) H' (.lst (toSs ts)) (.ref D):=by
 have bq:=Bool.and_eq_true_iff.mp (ns_13b (w:=w) (b:=b) (mg:=mg) (mb:=mb) (os:=os))
 have z1:=bq.1
 have bq:=Bool.and_eq_true_iff.mp (g_plain (w:=w) (b:=b) (mg:=mg) (mb:=mb) (os:=os))
 have g1:=bq.1
 have g2:=bq.2
 have K':=compOk_spec K
 have O:=wAt_ok L.cok (l:=[]) (l':=[]) rfl List.nodup_nil
 subst he
 refine PS.mono (p_CompUse L.ok (L.sc.kl (beq_iff_eq.mp z1)) (Q:=fun v H'=>Z∧Fz H H'∧Rep (fun _=>0) H' (.lst (toSs ts)) v) K'.kind K'.loc K'.cell (fun x hx hf=>?_) hs (by rw [L.T];decide) (hi.mono fun v H1 q=>?_)) fun _ m' H' ⟨D,e,z,q⟩=>⟨z,D,e,q⟩
 ·exact ftE (K'.free x hx hf).1
 obtain ⟨hz,q⟩:=q
 obtain ⟨a,ws,rfl,q1,q2⟩:=q.2.lstE
 have hlen:ws.length=ts.length:=q2.len.trans (toRs_len ts)
 refine ⟨a,0,ws,rfl,q1,hlen▸le1000 hl,fun i us H'=>Fz H1 H'∧Reps (fun _=>0) H' ((toSs ts).take i) us,?_,?_,⟨.refl _,.nil⟩,?_,?_⟩
 ·rintro i us Ha Hb ⟨p1,p3⟩ k
  have kz:Fz Ha Hb:=fun a o h1 h2 h3=>k a o h1 h3 (by rw [h2];decide)
  exact ⟨p1.trans kz,p3.fz kz⟩
 ·rintro i us H' ⟨p1,_⟩
  exact ⟨0,p1 _ _ q1 rfl id⟩
 ·rintro F' i x us m0 H2 ok' hsc hcl hT hr hx ⟨p1,p3⟩
  have fr':=(L.fr0 O).toFrOk.inner (by rw [wAt_g];exact K') ok' hsc hcl hT hr
  have sc':=fr'.sc
  obtain ⟨xv,e1,e2⟩:=q2.get' hx
  obtain ⟨t,e3,rfl⟩:=toRs_at e1
  have e4:(toSs ts)[i]?=some (toS t):=by
   have hi:i<(toSs ts).length:=by rw [toSs_len];exact (List.getElem?_eq_some_iff.mp e3).1
   obtain ⟨t',e5,e6⟩:=toSs_at (List.getElem?_eq_getElem hi)
   (injection (e3.symm.trans e5) with e1;subst e1)
   rw [List.getElem?_eq_getElem hi,e6]
  show PS _ F' m0 H2 (standAt b5 >>= fun _=>bindName F'.env "one" x) _
  refine PS.bindW (PW.standAt (PS.bindName ok' ?_ (sc'.kl n1)))
  refine p_CallN (p_ng L.cok ok' sc' (isRef_spec g1) n2 (p_callWith_K L.cok g2 rfl (p_args_cons (p_nl ok' sc' lk_self n1 (p_args_nil ?_)))))
  have cc:=GoodC.ext O (g:=3+h) (fun O'=>plain_ok O' h t (hts t (List.mem_of_getElem? e3)) (3+h) (Nat.le_refl _)) (fun y hy=>List.mem_singleton.mp hy▸toR_nc t) (toS_nc t) (H:=H2) (ws:=[x]) (.one (Rep.swap _ (toR_nc t) (Rep.fz p1 _ e2)))
  rw [wAt_g] at cc
  refine p_call ok' cc (by rw [hr,L.r];exact hg) (by decide) (.inl (hT.trans L.T).symm) (fun u H' k z=>?_) fun _ _ _ _ z=>z.elim
  have kz:Fz H2 H':=.ofExt z.2
  refine ⟨p1.trans kz,?_⟩
  rw [List.take_add_one,e4]
  exact (p3.fz kz).snoc (Rep.swap _ (toS_nc t) z.1)
 ·rintro D us H' ⟨p1,p3⟩ hD hD1
  rw [hlen,← toSs_len ts,List.take_length] at p3
  exact ⟨hz,q.1.trans p1,.lst hD p3⟩
end
end
end Internal
end
section
namespace Internal
open PySem PySem.W PyProof.Rows
section
section
variable {w:World} {b:Heap} {mg mb:Str→Option Value} {os:OsState} {F:Fx} {g:Nat} {pl:Addr} {m:LM} {H:AH} {tk:Nat→Tk} {n:Nat}
theorem q_asComp {c:Cfg} (ok:F.Ok) {x:Str} {p pos b6:Pos} {elt:PySem.Expr} {gens:List Comprehension} {sc:Scope} {R:Flow→LM→AH→Prop} (hl:F.env.kindOf x=some .local) (hp:(p.line==b6.line&&!(sc.names.any fun (n,k)=>n==x&&(k==.local||k==.cell)))=true)
  (h:PS c F m H (evalThenUse (.ListComp elt gens sc b6) F.env (assign (.Name x p) F.env)) fun _ m' H'=>R .next m' H'):PS c F m H (execs [.Assign [.Name x p] (.ListComp elt gens sc b6) pos] F.env) R:=by
 refine q_one ?_
 have bk:F.env.blockKind=.function:=by
  unfold Env.blockKind
  rw [ok.kind];rfl
 have hs:swapsWith (.ListComp elt gens sc b6) (some (.Name x p)) pos.line F.env=pure true:=by
  show (pure (F.env.blockKind==.function&&F.env.kindOf x==some .local&&p.line==b6.line&&!(sc.names.any fun (n,k)=>n==x&&(k==.local||k==.cell))):Sem Bool)=pure true
  rw [Bool.and_assoc,hp,bk,hl];rfl
 rw [exec_Assign_Name_used _ _ _ _ hs]
 exact PS.bindW (PW.standAt (PS.bind (h.mono fun _ m' H' q=>PS.pure q)))
theorem LwF.withX (L:LwF w b mg mb os F g pl) (top:F.Top) (X:Str→Int→LM→AH→Prop):LwF w b mg mb os (F.withX X) g pl:=⟨L.cok,L.ok.withX top X,⟨L.sc.eq,L.sc.dbg⟩,L.T,L.r,L.g2,L.cel⟩
theorem w_handler (L:LwF w b mg mb os F g pl) (top:F.Top) {X:Str→Int→LM→AH→Prop} {wd:Addr} {qb:Nat} {es:List (Str × Value)} {bv:Value} {e:Value} {s:Shared} {rest:List Stmt} {R:Flow→LM→AH→Prop}
  {c1 c2 c3 c4 c5 c6 c7 c8 c9 d1 d2 d3:Pos} {k1 k2:Nat} (hw:look m "world" = some (.ref wd)) (h2:H wd=some (.dict 0 es)) (h3:valueAt es "bad" = some bv) (h4:Rep (fun _=>0) H (badV (tk qb).wd qb) bv)
  (hX:∀ k n m' H',X k n m' H'→m'=m∧Fz H H'∧k=badK (tk qb).wd∧n=(10*qb:Nat)) (x:XEg (cfg w b mg mb os) (F.withX X) FreeFl e s) (hR:∀ m' H',R (.ret (.bool true)) m' H') :
  wpAny (model (cfg w b mg mb os).prog (cfg w b mg mb os).w) F.A (handleBy e F.env [.ExceptHandler (some (.Name "ReadError" c1)) (some "error") [.Return (some (.Compare (.Tuple [.Attribute (.Name "error" c2) "kind" c3,.Attribute (.Name "error" c4) "at" c5] k1 c6) [.Eq] [.Subscript (.Name "world" c7) (.Constant (.str "bad") k2 c8) c9] d1)) d2] d3])
   (fun f s'=>∃ m' H',St (cfg w b mg mb os) F m' H' s'∧NX (cfg w b mg mb os) F rest R f m' H') (XE (cfg w b mg mb os) F) s:=by
 have bq:=Bool.and_eq_true_iff.mp (ns_13b (w:=w) (b:=b) (mg:=mg) (mb:=mb) (os:=os))
 have z:=bq.2
 have bq:=Bool.and_eq_true_iff.mp z
 have z2:=bq.1
 have z:=bq.2
 have bq:=Bool.and_eq_true_iff.mp z
 have z3:=bq.1
 have z4:=bq.2
 have n1:=L.sc.kl (beq_iff_eq.mp z3)
 have n2:=L.sc.kl (beq_iff_eq.mp z2)
 have n3:=L.sc.kg (beq_iff_eq.mp z4)
 have cok:=L.cok
 have ok:=L.ok
 refine x.un fun a dx C H1 k at_ tk1 tk2 tg ml ea I own kp nk ex hC hd hm hx=>?_
 refine ex.un fun oe vs hen he hcls _ _ _=>?_
 subst ea
 cases g_ReadError.symm.trans hC
 clear ex hd hm hx
 refine wpAny_handleBy_cons (codeAny_handlers_test ?_) (by intro q;injection q)
 refine Calls.Name_function_global ok.kind n3 (Calls.loadGlobal_global (mg:=(cfg w b mg mb os).mg) (by rw [ok.glb];exact cok.g.keeps I.stays) (mg_of cok.X cok.g g_ReadError) ?_) (by decide)
 have hK:(cfg w b mg mb os).K.In s.heap:=cok.X.keeps I.stays
 have hc51:=hK _ _ x_cls
 clear I own kp nk hen hK
 obtain ⟨hp,gn,dr,tt,oo⟩:=s
 refine wpAny_excMatches_sub_self hc51 he hcls (by decide) ?_
 show codeAny _ _ _ _ _
 refine codeAny_handlers_suite_as (xe_setFlight (ok.withX top X) (fr:=none) (fun q=>by injection q) x fun s1 x1=>?_)
 refine x1.un fun a' dx C H1 k at_ tk1 tk2 tg ml ea I own kp nk ex hC hd hns hx=>?_
 refine ex.un fun oe vs hen he hcls hdx hda _=>?_
 clear ex
 (injection ea with e1;subst e1)
 cases g_ReadError.symm.trans hC
 obtain ⟨rfl,fz,rfl,rfl⟩:=hX _ _ _ _ hx
 have st:St (cfg w b mg mb os) F ml H1 s1:=⟨I,hns,own,kp,nk,by rw [top.its];exact fun p hp=>nomatch hp⟩
 refine wpAny_storeName_local n1 (by rw [ok.loc];exact st.loc) (fun h' hn hs=>?_) (by rw [ok.kind];rfl)
 rw [ok.loc] at hn hs
 have st2:=St.store ok st hn hs (s1.toks+1)
 have ne:a≠F.L:=fun z=>by
  obtain ⟨_,co,q1,q2⟩:=I.obj _ _ own
  rw [z] at he
  exact q2 vs (by rw [← Option.some.inj (he.symm.trans q1)];exact hda)
 rw [execs_cons,exec_Return_some]
 refine wpAny_bind (wpAny_bind (wpAny_standAt (wpAny_bind ?_)))
 refine w_caught L n1 n2 st2 lk_self (lk_ne (by decide +kernel) hw) ((hs.2 a ne).trans he) hcls hdx hda hd (fz _ _ h2 rfl id) h3 (Rep.fz fz _ h4) fun s2 ⟨H2,st3⟩=>?_
 refine wpAny_pure (wpAny_pure ?_)
 refine wpAny_nameGoes_keeps n1 (by rw [ok.loc];exact st3.loc) (by rw [ok.kind];rfl) fun h3 v hn3 hs3=>?_
 rw [ok.loc] at hn3 hs3
 obtain ⟨l,hl⟩:=lm_of hn3
 exact ⟨l,H2,st3.names ok hl hs3 _,hR _ _⟩
end
end
end Internal
end
section
namespace Internal
open PySem PySem.W PyProof.Rows
section
section
variable {w:World} {b:Heap} {mg mb:Str→Option Value} {os:OsState} {F:Fx} {g:Nat} {pl:Addr} {m:LM} {H:AH} {tk:Nat→Tk} {n:Nat}
theorem law_try (L:LwF w b mg mb os F g pl) (top:F.Top) (hn:n≤900) (h0:0<n) (heof:∀ p,p<n→(tk p).wd≠.eof→p+1<n) {f:Nat} {res:Res} (hP:P tk f (.prog 0 [])=some res) (hg:Wt tk n 0+25≤g) (hg2:3+n≤g) (o:LwOut tk n res m H) :
  PS (cfg w b mg mb os) F m H (execs ((bodyOf (cfg w b mg mb os).K 678).drop 13) F.env) fun fl _ _=>retOf fl=.bool true:=by
 obtain ⟨bad,wd,es,bv,hw,h2,h3,h4,hrow,hr⟩:=o
 refine body_13 (w:=w) (b:=b) (mg:=mg) (mb:=mb) (os:=os) fun sc a1 a2 a3 a4 a5 a6 a7 b1 b2 b3 b4 b5 b6 b7 c1 c2 c3 c4 c5 c6 c7 c8 c9 k1 k2 d1 d2 d3 d4 hb e1 e2 e3 e4 e5=>?_
 have bq:=Bool.and_eq_true_iff.mp (ns_13b (w:=w) (b:=b) (mg:=mg) (mb:=mb) (os:=os))
 have z1:=bq.1
 refine PS.re L.ok (ao':=.dict 0 es) h2 (.inl L.T.symm) id (fun _ o=>o) ?_
 have fz:Fz H (H.set wd (.dict 0 es)):=.set1 h2 (by exact (by decide:(4:Nat)≠0))
 have h2':(H.set wd (.dict 0 es)) wd=some (.dict 0 es):=AH.set_self
 replace hrow:Holds1 m (H.set wd (.dict 0 es)) "row" (.lst (rowV tk n)):=hrow.imp fun v h=>⟨h.1,Rep.fz fz _ h.2⟩
 replace h4:=Rep.fz fz _ h4
 rw [hb]
 rcases hr with ⟨ts,q,rfl,hdue,rfl⟩ | ⟨qb,rfl,rfl⟩
 ·replace hdue:Holds1 m (H.set wd (.dict 0 es)) "due" (.lst (toSs ts)):=hdue.imp fun v h=>⟨h.1,Rep.fz fz _ h.2⟩
  clear h2 fz
  revert h2' hrow h4 hdue
  generalize H.set wd (.dict 0 es)=H1
  intro h2' hrow h4 hdue
  obtain ⟨ts',et,hl,hf⟩:=prog_fits hn heof h0 hP
  (injection et with e1;subst e1)
  cases (show bv=.none from h4)
  refine q_try L.ok top (fun _ _ _ _=>False) (q_asComp (L.ok.withX top _) (L.sc.kl (beq_iff_eq.mp z1)) e4 ((p_told (L.withX top _) (Z:=True) hf (by lia) (by lia) e1 e2 e3 (fun _=>rfl) rfl (p_prog (L.withX top _) hrow (by lia) h0 heof hP hg e5 (fun t q' e=>by (injection e with e1;subst e1);exact ⟨_,rfl⟩) (fun v H' ts' q' e k r=>by cases e;exact ⟨trivial,k,r⟩) fun q' H' e=>by injection e)).mono fun _ m' H' z=>⟨rfl,?_⟩)) fun e s x=>?_
  ·obtain ⟨_,D,rfl,k,r⟩:=z
   exact law_end L (N:=3*n) (toSs_dp n ts hf) (by lia) (lk_ne (by decide +kernel) hw) (k _ _ h2' rfl id) h3 ⟨_,lk_self,r⟩ (hdue.imp fun v h=>⟨lk_ne (by decide +kernel) h.1,Rep.fz k _ h.2⟩)
  ·exact x.no fun _ _ _ _ z=>z
 ·clear h2 fz
  revert h2' hrow h4
  generalize H.set wd (.dict 0 es)=H1
  intro h2' hrow h4
  refine q_try L.ok top (fun k n' m' H'=>m'=m∧Fz H1 H'∧k=badK (tk qb).wd∧n'=(10*qb:Nat)) (q_asComp (L.ok.withX top _) (L.sc.kl (beq_iff_eq.mp z1)) e4 ((p_told (L.withX top _) (Z:=False) (ts:=[]) (h:=n) (fun t ht=>nomatch ht) (Nat.zero_le _) (by lia) e1 e2 e3 (fun _=>rfl) rfl (p_prog (L.withX top _) hrow (by lia) h0 heof hP hg e5 (fun t q' e=>by injection e) (fun v H' ts' q' e k r=>by injection e) fun q' H' e k=>by (injection e with e1;subst e1);exact ⟨rfl,k,rfl,rfl⟩)).mono fun _ m' H' z=>z.1.elim)) fun e s x=>?_
  exact w_handler L top hw h2' h3 h4 (fun _ _ _ _ h=>h) x fun _ _=>rfl
end
end
end Internal
end
section
namespace Internal
open PySem PySem.W PyProof.Rows
section
theorem Wsum_tk {tk:Nat→Tk}:∀ (ws:List Wd) (p:Nat),(∀ i,(tk (p+i)).wd=ws.getD i .eof)→Wsum tk (ws.length+1) p=wtL ws
 | [],p,h=>by
  show wt (tk p).wd+0=0
  rw [show (tk p).wd=.eof from h 0];rfl
 | x::ws,p,h=>by
  show wt (tk p).wd+Wsum tk (ws.length+1) (p+1)=wt x+wtL ws
  rw [show (tk p).wd=x from h 0,Wsum_tk ws (p+1) fun i=>by
   have:=h (i+1)
   rwa [show p+(i+1)=p+1+i by lia] at this]
theorem tk_end {ws:List Wd} {ns:List Bool} {p:Nat} (hp:p<ws.length+1) (h:(tkOf ws ns p).wd≠.eof):p+1<ws.length+1:=by
 by_cases q:p<ws.length
 ·lia
 ·exact absurd (show (tkOf ws ns p).wd=.eof by show ws.getD p .eof=_;rw [List.getD_eq_getElem?_getD,List.getElem?_eq_none (by lia)];rfl) h
section
variable {w:World} {b:Heap} {mg mb:Str→Option Value} {os:OsState} {F:Fx} {pl:Addr} {m:LM} {H:AH} {fs:List Int}
theorem law_from1 (L:LwF w b mg mb os F 640 pl) (top:F.Top) (hf:fs.length≤460) {P:List V} (hP:PoolI fs P) {pv:List Value} (hpl:H pl=some (.list 4 pv)) (hpv:Reps (fun _=>0) H P pv) :
  PS (cfg w b mg mb os) F m H (execs ((bodyOf (cfg w b mg mb os).K 678).drop 1) F.env) fun fl _ _=>retOf fl=.bool true:=by
 refine law_words L (by decide) (by lia) hP hpl hpv fun m' H' P' ws way spot hp hP' h1 h2 h3 hw hs v1 v2 v3=>?_
 refine law_toks L (by decide) (by lia) hp hP' h1 h2 h3 hw hs v1 v2 v3 fun m2 H2 ws' ns hW hns ht=>?_
 have hl:=hW.len
 have hn:ws'.length+1≤900:=by lia
 have h0:0<ws'.length+1:=by lia
 have hWt:Wt (tkOf ws' ns) (ws'.length+1) 0=wtL ws':=Wsum_tk ws' 0 fun i=>by rw [Nat.zero_add];rfl
 have hWt2:=hW.wt
 obtain ⟨f,res,hP⟩:=P_tot (tk:=tkOf ws' ns) (n:=ws'.length+1) (fun p a b=>tk_end a b) (ws'.length+1) 0 (by lia) (.prog 0 []) rfl h0
 refine law_world L (by decide) hn ht fun m3 H3 wd hw ht hd=>?_
 refine law_due L hn h0 (fun p a b=>tk_end a b) hP (by show Wt (tkOf ws' ns) _ 0+17≤640;lia) hw ht hd fun m4 H4 o=>?_
 exact law_try L top hn h0 (fun p a b=>tk_end a b) hP (by show Wt (tkOf ws' ns) _ 0+25≤640;lia) (by lia) o
end
end
end Internal
end
section
namespace Internal
open PySem PySem.W PyProof.Rows
section
noncomputable def bse (h:Heap) (o:Obj):Heap:=(h.push ⟨.none,none,.freed,#[]⟩).push o
theorem bse_of {h:Heap} {o x:Obj} {a:Addr} (e:h.get? a=some x):(bse h o).get? a=some x:=Heap.get?_push_of_some _ (Heap.get?_push_of_some _ e)
theorem bse_at {h:Heap} {o x:Obj} {a:Addr} (e:(bse h o).get? a=some x):(a=h.objs.size+1∧x=o)∨h.get? a=some x:=by
 rcases Heap.get?_push_cases e with ⟨e1,e2⟩ | e
 ·exact .inl ⟨by rw [e1,Heap.size_push],e2⟩
 ·rcases Heap.get?_push_cases e with ⟨e1,e2⟩ | e
  ·rw [e2] at e;exact ftE (Heap.get?_some_iff.mp e).2.symm
  ·exact .inr e
theorem bse_cell {h:Heap} {o:Obj} (ho:o.isFreed=false):(bse h o).get? (h.objs.size+1)=some o:=by
 have:=Heap.get?_push_size (h.push ⟨.none,none,.freed,#[]⟩) ho
 rwa [Heap.size_push] at this
theorem bse_ok {w:World} {h:Heap} {mg mb:Str→Option Value} {os:OsState} (cok:(cfg w h mg mb os).Ok) (o:Obj):(cfg w (bse h o) mg mb os).Ok:=
 ⟨cok.X.keeps fun _ _ e=>bse_of e,cok.g.keeps fun _ _ e=>bse_of e,cok.bl.keeps fun _ _ e=>bse_of e,cok.nolimit.keeps fun _ _ e=>bse_of e,cok.builtins⟩
section
variable {w:World} {b:Heap} {mg mb:Str→Option Value} {os:OsState} {F:Fx} {m:LM} {H:AH}
theorem body_0 {C:Prop} (k:∀ a1 a2 a3 a4 a5,bodyOf (cfg w b mg mb os).K 678=.Assign [.Name "pool" a1] (.Call (.Name "_law_pool" a2) [.Name "script" a3] [] a4) a5::(bodyOf (cfg w b mg mb os).K 678).drop 1→C):C:=k _ _ _ _ _ rfl
theorem g_pool:(isRef 578 (nsIn (cfg w b mg mb os).K mainGlobals "_law_pool")&&keepIn (cfg w b mg mb os).K (.ref 578))=true:=by kernel_rfl
theorem ns_0:((fdOf (cfg w b mg mb os).K 678).scope.names.lookup ("script" : Str)==some NameKind.local&&((fdOf (cfg w b mg mb os).K 678).scope.names.lookup ("_law_pool" : Str)==some NameKind.globalImplicit&&(fdOf (cfg w b mg mb os).K 678).scope.names.lookup ("pool" : Str)==some NameKind.cell))=true:=by kernel_rfl
theorem p_pool (cok:(cfg w b mg mb os).Ok) (ok:F.Ok) (sc:Sc F (fdOf (cfg w b mg mb os).K 678).scope.names) (hT:F.T=4) (hr:4≤F.r) {sa:Addr} {vs:List Value} {l:List Int} (hm:look m "script" = some (.ref sa)) (hs:b.IsList sa vs.toArray) (hi:IntsAre vs l) (hl:l.length≤1000)
  {a2 a3 a4:Pos} {Q:Value→AH→Prop} (h:∀ pl H' fs P pv,H' pl=some (.list 0 pv)→fs.length≤460→PoolI fs P→Reps (fun _=>0) H' P pv→Q (.ref pl) H'):PW (cfg w b mg mb os) F m H (eval (.Call (.Name "_law_pool" a2) [.Name "script" a3] [] a4) F.env) Q:=by
 have bq:=Bool.and_eq_true_iff.mp (ns_0 (w:=w) (b:=b) (mg:=mg) (mb:=mb) (os:=os))
 have z1:=bq.1
 have z:=bq.2
 have bq:=Bool.and_eq_true_iff.mp z
 have z2:=bq.1
 have bq:=Bool.and_eq_true_iff.mp (g_pool (w:=w) (b:=b) (mg:=mg) (mb:=mb) (os:=os))
 have g1:=bq.1
 have g2:=bq.2
 have O:=wAt_ok cok (l:=[]) (l':=[]) rfl List.nodup_nil
 refine p_CallN (p_ng cok ok sc (isRef_spec g1) (beq_iff_eq.mp z2) (p_callWith_K cok g2 rfl (p_args_cons (p_nl ok sc hm (beq_iff_eq.mp z1) (p_args_nil ?_)))))
 have cc:=pool_ok O (sa:=sa) (l:=l) ⟨vs,by rw [wAt_g];exact hs,hi⟩ hl H [.ref sa] (fun i x q=>by injection q) (.one .fn)
 rw [wAt_g] at cc
 refine p_call ok cc hr (by decide) (.inl hT.symm) (fun v H' _ q=>?_) fun _ _ _ _ q=>?_
 ·obtain ⟨x,r',⟨fs,mix,hf,e⟩,q2,_⟩:=q
  (injection e with e1;subst e1)
  obtain ⟨pl,pv,rfl,q3,q4⟩:=q2.lstE
  exact h pl H' fs _ pv q3 hf ⟨0,mix,Nat.zero_le _,rfl⟩ (q4.swap poolV_nc)
 ·obtain ⟨_,_,_,e⟩:=q
  exact by injection e
end
end
end Internal
end
section
namespace Internal
open PySem PySem.W PyProof.Rows
section
section
variable {w:World} {b:Heap} {mg mb:Str→Option Value} {os:OsState}
theorem reps_ints {ad:Nat→Addr} {H H':AH}:∀ {fs:List Int} {ws:List Value},Reps ad H (fs.map .int) ws→Reps ad H' (fs.map .int) ws
 | [],_,h=>h
 | x::fs,ws,h=>h.un (C:=fun ws=>Reps ad H' ((x::fs).map .int) ws) fun w ws a b=>.cons (show Rep ad H' (.int x) w from a) (reps_ints b)
theorem pool_re {H:AH} {pl:Addr} {pv:List Value} {fs:List Int} {P:List V} (h:H pl=some (.list 0 pv)) (hP:PoolI fs P) (r:Reps (fun _=>0) H P pv):Reps (fun _=>0) (H.set pl (.list 4 pv)) P pv:=by
 obtain ⟨i,mix,_,rfl⟩:=hP
 obtain ⟨v,ws,rfl,r1,r2⟩:=r
 obtain ⟨a,us,rfl,h1,h2⟩:=Rep.lstE r1
 have ne:a≠pl:=fun e=>by
  rw [e,h] at h1
  cases h1
  cases fs with
  | nil=>exact nomatch (show Value.ref a::ws=[] from h2)
  | cons x fs=>
   obtain ⟨_,_,e,⟨t,z⟩,_⟩:=h2
   (injection e with e1;subst e1)
   exact by injection z
 obtain ⟨v2,ws2,rfl,r3,v3,ws3,rfl,r4,r5⟩:=r2
 exact .cons (.lst ((AH.set_ne ne).trans h1) (reps_ints h2)) (.cons r3 (.cons r4 r5))
theorem chk_678:(isFunc (cfg w b mg mb os).K 678&&fdChk (cfg w b mg mb os).K (fdOf (cfg w b mg mb os).K 678))=true:=by kernel_rfl
theorem bind_678 {v:Value}:bindArgs (fdOf (cfg w b mg mb os).K 678) ⟨[v],[]⟩=pure ([("script",v)]:List (Str × Value)):=by kernel_rfl
theorem clo_678:(fdOf (cfg w b mg mb os).K 678).closure=[]:=by kernel_rfl
theorem cel_678 {n:Nat}:cellsFrom n (fdOf (cfg w b mg mb os).K 678).scope.names []=([("pool",n)]:List (Str × Addr)):=by kernel_rfl
noncomputable def lwFx (c:Cfg) (h:Heap):Fx:=⟨callerA.deeper (callEnvC (fdOf c.K 678) h.objs.size 678),callEnvC (fdOf c.K 678) h.objs.size 678,h.objs.size,4,640,fun _=>none,h,fun _ _ _ _=>False,[]⟩
theorem lw_top {c:Cfg} {h:Heap}:(lwFx c h).Top:=⟨rfl,rfl,[],Around.frames_deeper rfl,fun env he=>nomatch he⟩
theorem lw_ok {h:Heap}:(lwFx (cfg w b mg mb os) h).Ok:=by
 have bq:=Bool.and_eq_true_iff.mp (chk_678 (w:=w) (b:=b) (mg:=mg) (mb:=mb) (os:=os))
 have q1:=bq.1
 have q2:=bq.2
 have D:=fdChk_spec q1 q2
 exact ⟨by exact (by decide:(4:Nat)≠0),rfl,D.glb,D.blt,D.kind,.inl ⟨rfl,[],Around.frames_deeper rfl,fun env he=>nomatch he⟩,rfl,rfl,⟨Nat.le_of_ble_eq_true rfl,Nat.le_of_ble_eq_true rfl⟩,rfl⟩
theorem lw_sc {h:Heap}:Sc (lwFx (cfg w b mg mb os) h) (fdOf (cfg w b mg mb os).K 678).scope.names:=by
 have bq:=Bool.and_eq_true_iff.mp (chk_678 (w:=w) (b:=b) (mg:=mg) (mb:=mb) (os:=os))
 have q1:=bq.1
 have q2:=bq.2
 have D:=fdChk_spec q1 q2
 exact ⟨fun x k h _=>h,D.dbg⟩
theorem law_call {s:Shared} (cok:(cfg w s.heap mg mb s.os).Ok) (hg:s.gens=#[]) {sa:Addr} {vs:List Value} {l:List Int} (hs:s.heap.IsList sa vs.toArray) (hi:IntsAre vs l) (hl:l.length≤1000) {E:Value→Shared→Prop} {Q:Value→Shared→Prop}
  (hq:∀ s':Shared,s.heap.StaysIn s'.heap→s'.os=s.os→s'.gens=#[]→Q (.bool true) s'):wpAny (model (cfg w s.heap mg mb s.os).prog (cfg w s.heap mg mb s.os).w) callerA (PySem.call (.ref 678) [.ref sa]) Q E s:=by
 have bq:=Bool.and_eq_true_iff.mp (chk_678 (w:=w) (b:=s.heap) (mg:=mg) (mb:=mb) (os:=s.os))
 have q1:=bq.1
 have q2:=bq.2
 have D:=fdChk_spec q1 q2
 obtain ⟨cls,od,sl,hat⟩:=D.at_
 have bq:=Bool.and_eq_true_iff.mp (ns_0 (w:=w) (b:=s.heap) (mg:=mg) (mb:=mb) (os:=s.os))
 have z1:=bq.1
 have z:=bq.2
 have bq:=Bool.and_eq_true_iff.mp z
 have z3:=bq.2
 replace z1:=beq_iff_eq.mp z1
 replace z3:=beq_iff_eq.mp z3
 refine wpAny_call (codeAny_call_cells (by decide) (cok.X _ _ hat) rfl cok.nolimit (codeRec_of cok.X D.code) D.body bind_678 clo_678 (fun x hx=>.inl (by rw [List.mem_singleton.mp hx];exact z1)) (fun s2 x=>?_) D.co D.gen D.kind)
 have ok:=lw_ok (w:=w) (b:=s.heap) (mg:=mg) (mb:=mb) (os:=s.os) (h:=s.heap)
 have sc:=lw_sc (w:=w) (b:=s.heap) (mg:=mg) (mb:=mb) (os:=s.os) (h:=s.heap)
 have hcl:(callEnvC (fdOf (cfg w s.heap mg mb s.os).K 678) s.heap.objs.size 678).cells.lookup ("pool" : Str)=some (s.heap.objs.size+1):=by
  show (cellsFrom _ _ _).lookup _=_
  rw [cel_678];rfl
 have ek:(callEnvC (fdOf (cfg w s.heap mg mb s.os).K 678) s.heap.objs.size 678).kindOf ("script" : Str)=some .local:=z1
 have hcell:=x.cell _ _ hcl
 have hns:=x.toInCall.ns
 unfold bindC at hcell
 unfold bindL at hns
 rw [if_pos ek] at hcell hns
 replace hcell:s2.heap.IsCell (s.heap.objs.size+1) none:=hcell
 have kp:=x.toInCall.keep
 obtain ⟨h2,t2,rfl⟩:=x.toInCall.same
 clear x
 obtain ⟨o1,c1,c2⟩:=hcell
 have f1:=(Heap.get?_some_iff.mp c1).2
 have hL:s.heap.get? s.heap.objs.size=none:=Heap.get?_none_of_le (Nat.le_refl _)
 have bL:∀ o,(bse s.heap o).get? s.heap.objs.size=none:=fun o=>by
  cases e:(bse s.heap o).get? s.heap.objs.size with
  | none=>rfl
  | some y=>exact (bse_at e).elim (fun z=>absurd z.1 (Nat.ne_of_lt (Nat.lt_succ_self _))) fun z=>noneE (hL.symm.trans z)
 have st:St (cfg w (bse s.heap o1) mg mb s.os) (lwFx (cfg w s.heap mg mb s.os) s.heap) ([("script",.ref sa)]:List (Str × Value)) (fun a=>if a=s.heap.objs.size then some .ns else none) { s with heap:=h2,toks:=t2 }:=by
  refine ⟨⟨fun a o e=>?_,fun a o e=>?_,hg,rfl⟩,?_,if_pos rfl,fun a o e=>noneE e,fun a o e=>noneE e,fun p hp=>nomatch hp⟩
  ·rcases bse_at e with ⟨rfl,rfl⟩ | e
   ·exact c1
   ·exact kp _ _ e
  ·refine ifs e (fun ea e=>?_) fun _ e=>noneE e
   rw [ea]
   obtain ⟨oo,es,ep,ho,hd,_⟩:=hns
   refine ⟨bL _,oo,ho,?_⟩
   rw [← Option.some.inj e]
   exact fun vs q=>by rw [hd] at q;injection q
  ·have:look ([("script",.ref sa)]:List (Str × Value))=fun y=>if y=("script" : Str) then some (Value.ref sa) else none:=rfl
   rw [this];exact hns
 have cok1:=bse_ok cok o1
 refine body_0 (w:=w) (b:=s.heap) (mg:=mg) (mb:=mb) (os:=s.os) fun a1 a2 a3 a4 a5 hb=>?_
 rw [hb,execs_cons,exec_Assign_Name _ _ _ _ _ (swaps_no rfl _ _ _)]
 refine wpAny_bind (wpAny_bind (wpAny_standAt (wpAny_bind ?_)))
 refine wpAny_mono (p_pool (Q:=fun v H'=>∃ pl fs P pv,v=.ref pl∧H' pl=some (.list 0 pv)∧fs.length≤460∧PoolI fs P∧Reps (fun _=>0) H' P pv) cok1 ok sc rfl (by exact (by decide:4≤640)) (show look ([("script",.ref sa)]:List (Str × Value)) "script" = some (.ref sa) from if_pos rfl) (hs.at fun _ e=>bse_of e) hi hl (fun pl H' fs P pv h1 h2 h3 h4=>⟨pl,fs,P,pv,rfl,h1,h2,h3,h4⟩) _ st) ?_ ?_
 ·rintro v s3 ⟨H3,st3,pl,fs,P,pv,rfl,g1,g2,g3,g4⟩
  have c3:=st3.inv.stays _ _ (bse_cell f1)
  refine wpAny_bind (wpAny_standAt (wpAny_bind (wpAny_bindName (wpAny_storeName_cell D.kind z3 hcl ⟨o1,c3,c2⟩ fun h4 hc4 hs4=>?_))))
  refine wpAny_pure ?_
  obtain ⟨o2,c4,c5⟩:=hc4
  have f2:=(Heap.get?_some_iff.mp c4).2
  have own:∀ {a:Addr} {o:AObj},H3 a=some o→a≠s.heap.objs.size+1:=fun h e=>by
   have:=(st3.inv.obj _ _ h).1
   rw [e,show (cfg w (bse s.heap o1) mg mb s.os).b=bse s.heap o1 from rfl,bse_cell f1] at this
   exact noneE this.symm
  have st4:St (cfg w (bse s.heap o2) mg mb s.os) (lwFx (cfg w s.heap mg mb s.os) s.heap) ([("script",.ref sa)]:List (Str × Value)) H3 { s3 with heap:=h4 }:=by
   refine ⟨⟨fun a o e=>?_,fun a o e=>?_,st3.inv.gens,st3.inv.os⟩,?_,st3.own,fun a o e=>noneE e,fun a o e=>noneE e,fun p hp=>nomatch hp⟩
   ·rcases bse_at e with ⟨rfl,rfl⟩ | e
    ·exact c4
    ·refine (hs4.2 a fun z=>?_).trans (st3.inv.stays _ _ (bse_of e))
     rw [z,Heap.get?_none_of_le (Nat.le_succ _)] at e;exact noneE e
   ·obtain ⟨r1,co,r2,r3⟩:=st3.inv.obj a o e
    refine ⟨?_,co,(hs4.2 a (own e)).trans r2,r3⟩
    cases q:(cfg w (bse s.heap o2) mg mb s.os).b.get? a with
    | none=>rfl
    | some y=>exact (bse_at q).elim (fun z=>absurd z.1 (own e)) fun z=>noneE (r1.symm.trans (bse_of z))
   ·exact st3.loc.sameBut hs4 (own st3.own)
  have cok2:=bse_ok cok o2
  have L:LwF w (bse s.heap o2) mg mb s.os (lwFx (cfg w s.heap mg mb s.os) s.heap) 640 pl:=⟨cok2,ok,sc,rfl,rfl,by decide,s.heap.objs.size+1,⟨o2,bse_cell f2,c5⟩,hcl,z3⟩
  have run:=PS.re (m:=([("script",.ref sa)]:List (Str × Value))) L.ok (ao':=.list 4 pv) g1 (.inr rfl) id (fun _ o=>o) (law_from1 L lw_top g2 g3 AH.set_self (pool_re g1 g3 g4))
  refine wpAny_mono (run _ st4) ?_ ?_
  ·rintro fl s5 ⟨m5,H5,st5,e⟩
   show Q (retOf fl) s5
   rw [e]
   exact hq s5 (fun a o e=>st5.inv.stays a o (bse_of e)) st5.inv.os st5.inv.gens
  ·rintro e s5 x
   exact x.no fun _ _ _ _ z=>z
 ·rintro e s5 x
  exact x.no fun _ _ _ _ z=>z
end
end
end Internal
end
section
namespace Internal
open PySem PySem.W PyProof.Rows
noncomputable def topT (tb:String→Option Builtin) (p:Program) (w:World) (n₀:Nat) (ann:Option Value):Nat→SharedT→Thread→Option SharedT
 | 0,_,_=>none
 | n+1,s,t=>match through t with
  | true=>some s
  | false=>match stepOk n₀ ann t with
   | false=>none
   | true=>match PySem.W.stepT (denote tb) p w s t with
    | some (s',t')=>topT tb p w n₀ ann n s' t'
    | none=>none
theorem topT_of {tb:String→Option Builtin} {p:Program} {w:World} {n₀:Nat} {ann:Option Value}:∀ {n:Nat} {s s':SharedT} {t:Thread},topT tb p w n₀ ann n s t=some s'→topRun tb p w n₀ ann n s.abs t=some s'.abs
 | 0,_,_,_,h=>by injection h
 | n+1,s,s',t,h=>by
  unfold topT at h
  unfold topRun
  cases he:through t with
  | true=>rw [he] at h;(injection h with e1;subst e1);rfl
  | false=>
   rw [he] at h
   cases hk:stepOk n₀ ann t with
   | false=>rw [hk] at h;injection h
   | true=>
    rw [hk] at h
    cases hs:PySem.W.stepT (denote tb) p w s t with
    | none=>rw [hs] at h;injection h
    | some r=>obtain ⟨s₂,t₂⟩:=r;rw [hs] at h;dsimp only;rw [stepT_spec hs];exact topT_of h
end Internal
end
section
namespace Internal
open PySem PySem.W PyProof.Rows
noncomputable def t0 (P:Params):BT:=.node (boot_o_0 P) (.node (boot_o_1 P) (.node (boot_o_3 P) (.node (boot_o_7 P) .nil .nil) .nil) (.node (boot_o_5 P) (.node (boot_o_9 P) .nil .nil) .nil)) (.node (boot_o_2 P) (.node (boot_o_4 P) (.node (boot_o_8 P) .nil .nil) .nil) (.node (boot_o_6 P) (.node (boot_o_10 P) .nil .nil) .nil))
noncomputable def s0 (P:Params) (os:OsState):SharedT:=⟨t0 P,11,(boot_heap P).life,#[],boot_drawn,boot_toks,os⟩
noncomputable def vw:Program:=view pgm [55]
noncomputable def lsL:List Str:=(["_wall","CoveError","ReadError","Null","Missing","Vector","Symbol","Call","null","missing","logical","integer","double","character","named","pairlist_of","flag","text","symbol","call_of","share","STATEMENT","ARGUMENT","COMPARISON","binary_level","prefix_level","right_level","constant_of","is_pipe_target","joined","ExprReader","Reader","Token","TokenRow","_law_pool","_law_pick","_law_plain","_law_operand","_law_words","_law_marks","_law_fail","_law_is","_law_want","_law_call","_law_head","_law_primary","_law_function","_law_side","_law_expression"]:List String).map Str.ofString
theorem s0_abs:∀ P os,(s0 P os).abs=⟨boot_heap P,#[],boot_drawn,boot_toks,os⟩:=fun P os=>by kernel_rfl
theorem bt_ann:∀ P,(boot_heap P).nsMap mainGlobals "__annotations__" = some (.ref 6):=fun P=>by kernel_rfl
end Internal
end
section
namespace Internal
open PySem PySem.W PyProof.Rows
theorem chkA:∀ (w:World) (os:OsState),(topT treeTable pgm w 11 (some (.ref 6)) 4700 (s0 w.params os) (topStub pgm)).map (fun s=>(staticsOk (importedModules pgm.main.body) (boot_heap w.params) s.abs.heap&&namesBound pgm s.abs.heap&&gensDone s.abs&&laidKept (boot_heap w.params) s.abs.heap,openSeen vw lsL (importedModules pgm.main.body) (fun _=>true) true s.abs))=some (true,openGood vw lsL):=fun w os=>by kernel_rfl
end Internal
end
section
namespace Internal
open PySem PySem.W PyProof.Rows
theorem chkB:∀ (w:World) (os:OsState),(topT treeTable pgm w 11 (some (.ref 6)) 4700 (s0 w.params os) (topStub pgm)).map (fun s=>(K0 w.params).map fun p=>(Nat.blt p.1 s.n,(s.tree.get p.1).bind alive))=some ((K0 w.params).map fun p=>(true,some p.2)):=fun w os=>by kernel_rfl
end Internal
end
section
namespace Internal
open PySem PySem.W PyProof.Rows
theorem opn_a:opening pgm=plainProg pgm.main.scope.names:=by kernel_rfl
theorem opn_b:∀ s,fenceModules? pgm s=some s:=fun s=>by kernel_rfl
theorem bt_ok:∀ P,((boot_heap P).isNs mainGlobals&&(#[]:Array GenState).size==0)=true:=fun P=>by kernel_rfl
theorem bt_size:∀ P,(boot_heap P).objs.size=11:=fun P=>by kernel_rfl
noncomputable def kA:List Addr:=[2,3,20,21,30,31,47,48,50,51,66,67,69,70,87,88,90,91,103,109,110,116,117,119,120,137,138,140,141,153,159,160,162,163,173,174,180,181,187,188,194,195,201,202,208,209,215,216,220,221,227,228,234,235,241,242,248,249,255,256,262,263,269,270,276,277,283,284,290,291,297,298,311,312,313,319,320,326,327,333,334,340,341,347,348,354,355,361,362,363,369,370,376,377,383,384,390,391,397,398,404,405,411,412,418,419,425,426,432,433,439,440,446,447,449,450,467,468,474,475,481,482,488,489,495,496,502,503,509,510,516,517,519,520,535,536,538,539,556,557,563,564,566,567,577,578,584,585,589,590,596,597,603,604,610,611,617,618,619,625,626,632,633,639,640,646,647,653,654,658,659,665,666,672,673,677,678]
theorem kA_eq:∀ P,kA=(K0 P).map (·.1):=fun P=>by kernel_rfl
theorem seen_K {s:SharedT}:∀ {l:Frag},l.map (fun p=>(Nat.blt p.1 s.n,(s.tree.get p.1).bind alive))=l.map (fun p=>(true,some p.2))→l.map (fun p=>s.abs.heap.get? p.1)=l.map fun p=>some p.2
 | [],_=>rfl
 | p::l,h=>by
  obtain ⟨h1,h2⟩:=List.cons.inj h
  obtain ⟨h3,h4⟩:=Prod.mk.inj h1
  obtain ⟨o,h5,h6⟩:=Option.bind_eq_some_iff.mp h4
  have h7:=abs_get (life:=s.life) (Nat.le_of_ble_eq_true h3) h5
  rw [List.map_cons,List.map_cons,show s.abs.heap.get? p.1=some p.2 from h7.trans h6,seen_K h2]
noncomputable def hk:Hook:=kHook K0 kA kA_eq
theorem topFrom_of {tb:String→Option Builtin} {p:Program} {w:World} {N:Nat} {s₀ s₁:Shared} (h1:(s₀.heap.isNs mainGlobals&&s₀.gens.size==0)=true) (h2:topRun tb p w s₀.heap.objs.size (s₀.heap.nsMap mainGlobals "__annotations__") N s₀ (topStub p)=some s₁)
  (h3:(staticsOk (importedModules p.main.body) s₀.heap s₁.heap&&namesBound p s₁.heap&&gensDone s₁&&laidKept s₀.heap s₁.heap)=true):topFrom tb p w N s₀=some s₁:=by
 unfold topFrom
 rw [h1,h2]
 dsimp only [Option.bind]
 rw [h3]
theorem map_pair {α β γ:Type} {f:α→β} {g:α→γ} {o:Option α} {x:α} {b:β} {c:γ} (h:o=some x) (hb:f x=b) (hc:g x=c):o.map (fun s=>(f s,g s))=some (b,c):=by rw [h,← hb,← hc];rfl
theorem bind_of {α β:Type} {o:Option α} {f:α→Option β} {x:α} {y:β} (h:o=some x) (k:f x=some y):o.bind f=some y:=by rw [h];exact k
theorem open_of {w:World}:∃ os,fencedOpening treeTable pgm w 4700=some ⟨boot_heap w.params,#[],boot_drawn,boot_toks,os⟩:=by
 obtain ⟨s,h1,h2⟩:=Option.map_eq_some_iff.mp (boot_open (N:=4700) opn_a (by decide +kernel) opn_b w)
 obtain ⟨hp,gn,dr,tt,os⟩:=s
 obtain ⟨rfl,h2⟩:=Prod.mk.inj h2
 obtain ⟨rfl,h2⟩:=Prod.mk.inj h2
 obtain ⟨rfl,rfl⟩:=Prod.mk.inj h2
 exact ⟨os,h1⟩
theorem run_of {w:World} {os:OsState} {s1:SharedT} (a1:topT treeTable pgm w 11 (some (.ref 6)) 4700 (s0 w.params os) (topStub pgm)=some s1) (a3:(staticsOk (importedModules pgm.main.body) (boot_heap w.params) s1.abs.heap&&namesBound pgm s1.abs.heap&&gensDone s1.abs&&laidKept (boot_heap w.params) s1.abs.heap)=true) :
  topFrom treeTable pgm w 4700 ⟨boot_heap w.params,#[],boot_drawn,boot_toks,os⟩=some s1.abs:=by
 have run:=topT_of a1
 rw [s0_abs] at run
 refine topFrom_of (bt_ok _) ?_ a3
 show topRun treeTable pgm w (boot_heap w.params).objs.size ((boot_heap w.params).nsMap mainGlobals "__annotations__") 4700 _ _=_
 rw [bt_size,bt_ann]
 exact run
theorem left:LeftO pgm vw lsL (fun _=>true) hk.obs hk.val 4700:=fun w=>by
 obtain ⟨os,h1⟩:=open_of (w:=w)
 obtain ⟨s1,a1,a2⟩:=Option.map_eq_some_iff.mp (chkA w os)
 obtain ⟨s2,b1,b2⟩:=Option.map_eq_some_iff.mp (chkB w os)
 cases a1.symm.trans b1
 obtain ⟨a3,a4⟩:=Prod.mk.inj a2
 refine map_pair (bind_of h1 (run_of a1 a3)) a4 ?_
 show kA.map s1.abs.heap.get?=(K0 w.params).map fun p=>some p.2
 rw [kA_eq w.params,List.map_map]
 exact seen_K b2
end Internal
end
section
namespace Internal
open PySem PySem.W PyProof.Rows
theorem sd2:namesResolve PySem.Challenge.rw_nz0500_01.prog=true:=by kernel_rfl
theorem sd4:noRoadLSs { strict:=!(importedModules PySem.Challenge.rw_nz0500_01.prog.main.body).all cThrough.contains,foot:=none,bare:=(["vars","dir","locals"]:List Str).filter (readsOut PySem.Challenge.rw_nz0500_01.prog PySem.Challenge.rw_nz0500_01.prog.main.body) } PySem.Challenge.rw_nz0500_01.prog.main.body=true:=by kernel_rfl
theorem sd5:(namesMeet PySem.Challenge.rw_nz0500_01.prog PySem.Challenge.rw_nz0500_01.prog.main.body fun _ n=>attrL n)=true:=by kernel_rfl
theorem looks:looksOpen PySem.Challenge.rw_nz0500_01.row.prog=true:=by
 show looksOpen PySem.Challenge.rw_nz0500_01.prog=true
 unfold looksOpen
 exact look_both (look_both (look_both (look_both (by kernel_rfl) sd2) (by kernel_rfl)) sd4) sd5
theorem said:PySem.Challenge.rw_nz0500_01.wellSaid=true:=by
 unfold OpenLaw.wellSaid OpenRow.wellSaid OpenRow.partSaid
 rw [looks]
 kernel_rfl
end Internal
end
section
namespace Internal
open PySem PySem.W PyProof.Rows
noncomputable def dLaw:DefRec × List (Str × PySem.Expr):=(defOf vw PySem.Challenge.rw_nz0500_01.row.name).get (by kernel_rfl)
theorem g_law {w:World} {b:Heap} {mg mb:Str→Option Value} {os:OsState}:nsIn (cfg w b mg mb os).K mainGlobals "law" = some (some (.ref 678)):=by kernel_rfl
theorem law_post {args ds:List WData}:PySem.Challenge.rw_nz0500_01.row.claim.post args (.bool true) ds=true:=postC_of (X:=(true==true)) (by rfl) (w_eq_bool (w_res rfl) w_lit) rfl
theorem yy:PySem.Challenge.rw_nz0500_01.Holds:=by
 w_on
 refine holds_law said fun said=>?_
 refine holds_open (q:=vw) (loose:=lsL) (Xt:=fun _=>true) (XP:=fun _ _=>True) (Yf:=hk.obs) (Ya:=hk.val) (YP:=hk.says) (N:=4700) (d:=dLaw.1) (kwd:=dLaw.2) left hk.of hk.keeps (fun _ _=>trivial) (fun _ _ _ _ _=>trivial) (by kernel_rfl) (by kernel_rfl) (by kernel_rfl) (fun s _=>recFacts_nil rfl) (by rfl) said (by decide +kernel) ⟨rfl,rfl,rfl,rfl,rfl,by decide +kernel⟩ ?hw ?hc
 case hw=>w_witness2
 case hc=>
  intro w s₀ s₁ mg mb G Y fa o pm cd doc dV kV ho hd hcd hD hmg hg args vals as hpre hlay hrd hwl hlo
  clear hd ho hD hcd
  wrow_args hpre hlay hrd hwl hlo
  rename_i xs _ _ _ _ _ _ _ sa vs _ hL _ _ _ hI _ hc _
  have cok:(cfg w s₁.heap mg mb s₁.os).Ok:=⟨kIn_of Y,G.T.g,G.T.b,G.T.nolimit,G.T.builtins⟩
  have e:fa=678:=by
   have e1:=mg_of cok.X cok.g g_law
   have e2:mg "law" = some (.ref fa):=hmg
   exact Value.ref.inj (Option.some.inj (e2.symm.trans e1))
  subst e
  exact law_call cok hg hL hI (by lia) fun s' k1 k2 k3=>GoodW.toG ⟨.inl ⟨.bool true,.bool true,[],rfl,fun _=>rfl,.bool _,law_post,fun _=>⟨.nil,fun a h=>nomatch h⟩⟩,k1,k2,k3⟩
end Internal
end
theorem PySem.Challenge.cw_nz0500_01_holds : PySem.Challenge.rw_nz0500_01.Holds := by
  exact Internal.yy
