import PyProof.Rows.All
import Wide.All
import OpenK.AllK
import Wide.FinOn
import HandS.Head0
import HandS.Head1
import HandS.Head2
import HandS.HeadHook1
import HandS.HeadHook2
import HandS.HeadHook3
import HandS.Words
import HandS.Wide
import HandS.ForMost
import HandS.ForExc
import KE.KSortTupG
import HandS.Sort
import HandS.ForSpec
import HandS.RaiseMore
import HandS.IsInst
import HandS.ExcIs
import HandS.TryMany
import HandS.Rev
import HandS.RevTup
import HandS.Iter
import HandS.Dict
import HandS.Defaults
import HandS.TupLe
import HandS.Deep
import HandS.SuiteRaise
import HandS.RaiseFrom
import HandS.Text
import HandS.FStr
import PyProof.StrOps2
import HandS.MapObj
import HandS.Style
import HandS.More
import PyProof.ReprRoads
import HandS.Ends
import PyProof.Rows.Digits
import KE.KIntText
import PyProof.Rows.StrOr
import KE.GoesZip
import KE.GoesMore
import HandS.Zip
import HandS.TupAny
import HandS.Star
import HandS.Conv
import HandS.Exc
import HandS.TryElse
import HandS.ReplaceLit
import PyProof.DictDisplay
import PyProof.MeetsSeq2
import PyProof.FactsAll.dict_1
import HandS.DictComp
import HandS.HotCalls
import KE.GoesEnum
import HandS.TupSets
import PyProof.WalksS
import HandS.Small
import HandS.SortInts
import HandS.DictEq
import KE.IntTextText
import PySem.Challenge.RW_kerbmark_k60_events_in_force
set_option Elab.async false
set_option linter.all false
set_option maxRecDepth 100000
set_option maxHeartbeats 40000000
set_option synthInstance.maxSize 4000
def ig:=@L2.pa_cons
def jD:=@List.mem_singleton
def jQ:=@of_decide_eq_true
def kE:=@List.mem_cons_self
def lQ:=@List.mem_cons_of_mem
def nA:=@List.getElem?_eq_getElem
def je:=@L2.pss_cons
def k_:=@decide_eq_true
def iH:=@L2.pa_nil
def iK:=@L2.pe_int
def j5:=@Option.some.inj
def lC:=@List.length_cons
def iZ:=@Ne.symm
def i_:=@L2.pss_one
def lA:=@List.mem_cons
def jP:=@PySem.wpAny_bind
def mU:=@List.length_map
def o_:=@List.length_append
def lD:=@Nat.le_refl
def kW:=@L2.ne_of_none
def uF:=@List.getElem?_eq_some_iff
def jy:=@L2.pe_call
def nM:=@PySem.boot_len
def oJ:=@decide_eq_false
def qC:=@Nat.le_of_succ_le
def qX:=@Bool.false_ne_true
def lN:=@PySem.wpAny_pure
def tH:=@List.mem_of_getElem?
def vp:=@PySem.F.plainAttrs_list
def j8:=@L2.upd_same
def jN:=@L2.pt_cmpR
def jw:=@L2.nomark
def v7:=@PySem.F.slot_list_append
def v8:=@PySem.F.type_list_append
def uG:=@Array.length_toList
def qY:=@Bool.eq_iff_iff
def uH:=@List.pairwise_cons
def uI:=@PySem.W.mg_none_of
def jF:=@L2.ps_set
def jH:=@L2.upd_ne
def jJ:=@L2.ps_ret
def tK:=@List.mem_append
def uJ:=@List.all_eq_true
def jj:=@L2.pass0
theorem jc {p:Prop} (h:p:=by decide +kernel):p:=h
theorem iW {p:Prop} (h:p:=by decide):p:=h
theorem iJ {p:Prop} (h:p:=by omega):p:=h
theorem j6 {p:Prop} (h:p:=by simp):p:=h
theorem jf {p:Prop} (h:p:=by rfl):p:=h
theorem lK {n m:Nat} (h:Nat.ble n m=true:=by exact rfl):n≤m:=Nat.le_of_ble_eq_true h
abbrev jO:Type:=PySem.Str
abbrev iV:Type:=PySem.W.Frag
namespace Kb
open PySem PySem.Spec L2 PyProof.Rows
structure v9 where
 at_:Str×Option Str
 name:Str
 qual:Str
 params:Arguments
 body:List Stmt
 scope:Scope
 dfl:Option Int
abbrev v9.txt (d:v9):He.FnW:=some (d.name,d.qual,d.params,.stmts d.body,d.scope,mainGlobals,[],builtinsNs)
def Q8 (K:iV) (v:Value):Option Int→Bool
 | none=>(match v with
  | .none=>true
  | _=>false)
 | some i=>(match v with
  | .ref D=>(match K.lookup D with
   | some ⟨_,_,.seq ⟨[.int j _]⟩ _,_⟩=>decide (j=i)
   | _=>false)
  | _=>false)
def Tq (K:iV) (d:v9):Bool:=match K.lookup (He.fAd K d.at_) with
 | some ⟨_,_,.func fd,_⟩=>PySem.W.codeIn K fd.code d.qual&&Q8 K fd.defaults d.dfl
 | _=>false
def Q9 (K:iV) (d:v9):Bool:=Tq K d&&(PySem.W.keepIn K (.ref (He.fAd K d.at_))&&(match d.at_ with
 | (x,none)=>decide (PySem.W.nsIn K mainGlobals x=some (some (.ref (He.fAd K d.at_))))
 | (C,some x)=>decide (PySem.W.findIn K (.ref (He.ga K C)) x=some (some (.ref (He.fAd K d.at_))))&&PySem.W.isFn K (.ref (He.fAd K d.at_))))
def YJ (e:DictEntry):Option (PySem.Str×PySem.Str):=match e.key,e.val with
 | .str k _,.str v _=>some (k,v)
 | _,_=>none
def Q_ (K:iV) (x:Str):Tok:=match PySem.W.nsIn K mainGlobals x with
 | some (some (.str _ t))=>t
 | some (some (.int _ t))=>t
 | _=>0
def Wm (K:iV) (x:Str):Option (List (Option (Str×Int)))×List (Option (Str×Str)):=(He.dicW K (He.ga K x),match K.lookup (He.ga K x) with
 | some ⟨_,_,.dict es _,_⟩=>es.toList.map YJ
 | _=>[])
abbrev Qt:Type:=Bool×(Bool×List He.FnW)×List (Option (List (Option (Str×Int)))×List (Option (Str×Str)))
abbrev JG:Type:=List (List (iV→Bool))
def wg (fn:List v9) (ds:List (Str×List (Str×Str))) (K:iV):(Bool×List He.FnW)×List (Option (List (Option (Str×Int)))×List (Option (Str×Str))) :=
 ((fn.all (fun d=>Q9 K d),fn.map fun d=>He.fnW K d.at_),ds.map fun p=>Wm K p.1)
def xr (fn:List v9) (ds:List (Str×List (Str×Str))) (w:World):(Bool×List He.FnW)×List (Option (List (Option (Str×Int)))×List (Option (Str×Str))) :=
 ((true,fn.map v9.txt),ds.map fun p=>(some (He.keysIn w.params (p.2.map (·.1))),p.2.map some))
def TJ (fa:JG) (fn:List v9) (ds:List (Str×List (Str×Str))) (K:iV):Qt:=(fa.all fun l=>l.all fun f=>f K,wg fn ds K)
def Ra (fn:List v9) (ds:List (Str×List (Str×Str))) (w:World):Qt:=(true,xr fn ds w)
def Qu (g:Addr→Option Obj):List Addr→iV
 | []=>[]
 | n::r=>match g n with
  | some o=>(n,o)::Qu g r
  | none=>Qu g r
def Aa {α:Type} (g:Addr→Option Obj):List Addr→(iV→α)→α
 | [],k=>k []
 | n::r,k=>match g n with
  | some o=>Aa g r fun K=>k ((n,o)::K)
  | none=>Aa g r k
end Kb
namespace Kb
open PySem L2
abbrev Cl:=Addr→Option Addr
def setC (c:Cl) (p:Addr) (o:Option Addr):Cl:=fun a=>if a=p then o else c a
theorem m7 {c:Cl} {p:Addr} {o:Option Addr}:setC c p o p=o:=by unfold setC; rw [if_pos rfl]
theorem I_ {c:Cl} {p a:Addr} {o:Option Addr} (h:a≠p):setC c p o a=c a:=by unfold setC; rw [if_neg h]
def tupO:HO→Bool
 | .tup _=>true
 | _=>false
def Wf (c:Cl) (H:Hp):Prop:=∀ a o r,H a=some o→c a=some r→(∃ u,H r=some u)∧tupO o=false
theorem Wf.tup {c:Cl} {H:Hp} (w:Wf c H) {a:Addr} {us:List V} (h:H a=some (.tup us)):c a=none:=by
 cases e:c a with
 | none=>rfl
 | some r=>exact absurd (w a _ r h e).2 (fun z=>nomatch (show true=false from z))
def rH:HO→HO
 | .frz _ (.dK kvs)=>.dK kvs
 | .frz _ (.dT kvs)=>.dT kvs
 | u=>u
def Ku (o:HO):Bool:=match rH o with
 | .dK _=>false
 | .dT _=>false
 | _=>true
theorem qZ (u:HO):rH u=u∨(∃ d kvs,u=.frz d (.dK kvs))∨∃ d kvs,u=.frz d (.dT kvs):=by
 unfold rH
 split
 ·exact .inr (.inl ⟨_,_,rfl⟩)
 ·exact .inr (.inr ⟨_,_,rfl⟩)
 exact .inl rfl
theorem uR {u o:HO} (h:rH u=rH o) (n:Ku o=true):u=o:=by
 rcases qZ o with e | ⟨d,kvs,rfl⟩ | ⟨d,kvs,rfl⟩
 ·rcases qZ u with e2 | ⟨d,kvs,rfl⟩ | ⟨d,kvs,rfl⟩
  ·rw [← e2,h,e]
  ·have e3:rH o=.dK kvs:=h.symm
   unfold Ku at n
   rw [e3] at n
   cases n
  have e3:rH o=.dT kvs:=h.symm
  unfold Ku at n
  rw [e3] at n
  cases n
 ·cases n
 cases n
structure Up (c:Cl) (H:Hp) (c':Cl) (H':Hp):Prop where
 obj':∀ a o,H a=some o→c a=none→∃ u,H' a=some u∧rH u=rH o
 col:∀ a o,H a=some o→c a=none→c' a=none
theorem Up.obj {c H c' H'} (g:Up c H c' H') (a:Addr) (o:HO) (h:H a=some o) (k:c a=none) (n:Ku o=true:=by rfl):H' a=some o:=by
 obtain ⟨u,e,b⟩:=g.obj' a o h k
 rw [e,uR b n]
theorem Up.refl (c:Cl) (H:Hp):Up c H c H:=⟨fun _ o h _=>⟨o,h,rfl⟩,fun _ _ _ h=>h⟩
theorem Up.trans {c H c1 H1 c2 H2} (a:Up c H c1 H1) (b:Up c1 H1 c2 H2):Up c H c2 H2 :=
 ⟨fun x o h k=>by
  obtain ⟨u,e,q⟩:=a.obj' x o h k
  obtain ⟨v,e2,q2⟩:=b.obj' x u e (a.col x o h k)
  exact ⟨v,e2,q2.trans q⟩,fun x o h k=>by
  obtain ⟨u,e,q⟩:=a.obj' x o h k
  exact b.col x u e (a.col x o h k)⟩
structure Step (S:List Addr) (c:Cl) (H:Hp) (c':Cl) (H':Hp):Prop where
 keep':∀ a o,H a=some o→(∀ r,c a=some r→r∉S)→∃ u,H' a=some u∧rH u=rH o
 tL:∀ a d o,H a=some (.frz d o)→(∀ r,c a=some r→r∉S)→H' a=some (.frz d o)
 mJ:∀ a o r,H a=some o→c a=some r→r∉S→H' a=some o
 col:∀ a o,H a=some o→c' a=c a
 live:∀ a o,H a=some o→∃ u,H' a=some u
 wf:Wf c' H'
 Fe:Wf c H
theorem Step.keep {S c H c' H'} (g:Step S c H c' H') (a:Addr) (o:HO) (h:H a=some o) (k:∀ r,c a=some r→r∉S) (n:Ku o=true:=by rfl):H' a=some o:=by
 obtain ⟨u,e,b⟩:=g.keep' a o h k
 rw [e,uR b n]
theorem Step.refl {S:List Addr} {c:Cl} {H:Hp} (w:Wf c H):Step S c H c H:=⟨fun _ o h _=>⟨o,h,rfl⟩,fun _ _ _ h _=>h,fun _ _ _ h _ _=>h,fun _ _ _=>rfl,fun _ o h=>⟨o,h⟩,w,w⟩
theorem Step.up {S c H c' H'} (g:Step S c H c' H'):Up c H c' H' :=
 ⟨fun a o h k=>g.keep' a o h (fun r e=>by rw [k] at e; cases e),fun a o h k=>(g.col a o h).trans k⟩
theorem Step.fresh {S c H c' H'} (g:Step S c H c' H') {p:Addr} (h:H' p=none):H p=none:=by
 cases e:H p with
 | none=>rfl
 | some o=>obtain ⟨u,q⟩:=g.live p o e; rw [h] at q; cases q
theorem Step.trans {S T:List Addr} {c H c1 H1 c2 H2} (a:Step S c H c1 H1) (b:Step T c1 H1 c2 H2) (t:∀ r∈T,r∈S∨H r=none):Step S c H c2 H2 where
 keep' x o h k:=by
  obtain ⟨u,e1,b1⟩:=a.keep' x o h k
  obtain ⟨v,e2,b2⟩:=b.keep' x u e1 fun r e hr=>by
   rw [a.col x o h] at e
   rcases t r hr with q | q
   ·exact k r e q
   obtain ⟨⟨u,z⟩,_⟩:=a.Fe x o r h e; rw [q] at z; cases z
  exact ⟨v,e2,b2.trans b1⟩
 tL x d o h k:=by
  refine b.tL x d o (a.tL x d o h k) fun r e hr=>?_
  rw [a.col x _ h] at e
  rcases t r hr with q | q
  ·exact k r e q
  obtain ⟨⟨u,z⟩,_⟩:=a.Fe x _ r h e; rw [q] at z; cases z
 mJ x o r h e n:=by
  refine b.mJ x o r (a.mJ x o r h e n) ((a.col x o h).trans e) fun hr=>?_
  rcases t r hr with q | q
  ·exact n q
  obtain ⟨⟨u,z⟩,_⟩:=a.Fe x _ r h e; rw [q] at z; cases z
 col x o h:=by
  obtain ⟨u,q⟩:=a.live x o h
  rw [b.col x u q,a.col x o h]
 live x o h:=by
  obtain ⟨u,q⟩:=a.live x o h
  exact b.live x u q
 wf:=b.wf
 Fe:=a.Fe
theorem Step.pB {S:List Addr} {c H c1 H1 c2 H2} (a:Step S c H c1 H1) (b:Step [] c1 H1 c2 H2):Step S c H c2 H2:=a.trans b fun _ h=>by cases h
theorem Step.tr1 {S:List Addr} {p:Addr} {c H c1 H1 c2 H2} (a:Step S c H c1 H1) (b:Step [p] c1 H1 c2 H2) (n:p∈S∨H p=none):Step S c H c2 H2:=a.trans b fun r h=>by
 rcases jD.mp h with rfl
 exact n
theorem Step.weak {S T:List Addr} {c H c1 H1} (a:Step S c H c1 H1) (h:∀ r∈S,r∈T):Step T c H c1 H1:=⟨fun x o e k=>a.keep' x o e fun r q z=>k r q (h r z),fun x d o e k=>a.tL x d o e fun r q z=>k r q (h r z),fun x o r e q n=>a.mJ x o r e q fun z=>n (h r z),a.col,a.live,a.wf,a.Fe⟩
theorem Step.new {c:Cl} {H:Hp} (w:Wf c H) {p:Addr} {u:HO} {o:Option Addr} (n:H p=none) (ho:∀ r,o=some r→r=p∨∃ v,H r=some v) (ht:o=none∨tupO u=false:=by first | exact .inl rfl | exact .inr rfl):Step [] c H (setC c p o) (upd H p u) where
 keep' a x h _:=⟨x,by rw [jH (kW h n)]; exact h,rfl⟩
 tL a d x h _:=by rw [jH (kW h n)]; exact h
 mJ a x r h _ _:=by rw [jH (kW h n)]; exact h
 col a x h:=I_ (kW h n)
 live a x h:=⟨x,by rw [jH (kW h n)]; exact h⟩
 wf:=by
  intro a x r h e
  by_cases ea:a=p
  ·subst ea
   rw [m7] at e
   have hx:tupO x=false:=by
    rw [j8] at h
    cases h
    rcases ht with z | z
    ·rw [z] at e; cases e
    exact z
   refine ⟨?_,hx⟩
   rcases ho r e with rfl | ⟨v,q⟩
   ·exact ⟨u,j8⟩
   exact ⟨v,by rw [jH (kW q n)]; exact q⟩
  rw [jH ea] at h
  rw [I_ ea] at e
  obtain ⟨⟨v,q⟩,ht⟩:=w a x r h e
  exact ⟨⟨v,by rw [jH (kW q n)]; exact q⟩,ht⟩
 Fe:=w
theorem Step.mut {c:Cl} {H:Hp} (w:Wf c H) {p r:Addr} {u v:HO} (h:H p=some u) (hc:c p=some r) (ht:tupO v=false:=by rfl):Step [r] c H c (upd H p v) where
 keep' a x e k:=by
  by_cases ea:a=p
  ·subst ea; exact absurd (jD.mpr rfl) (k r hc)
  exact ⟨x,by rw [jH ea]; exact e,rfl⟩
 tL a d x e k:=by
  by_cases ea:a=p
  ·subst ea; exact absurd (jD.mpr rfl) (k r hc)
  rw [jH ea]; exact e
 mJ a x s e q k:=by
  by_cases ea:a=p
  ·subst ea; rw [hc] at q; cases q; exact absurd (jD.mpr rfl) k
  rw [jH ea]; exact e
 col a x e:=rfl
 live a x e:=by
  by_cases ea:a=p
  ·subst ea; exact ⟨v,j8⟩
  exact ⟨x,by rw [jH ea]; exact e⟩
 wf:=by
  intro a x s e q
  have hx:tupO x=false:=by
   by_cases ea:a=p
   ·subst ea; rw [j8] at e; cases e; exact ht
   rw [jH ea] at e; exact (w a x s e q).2
  have:∃ x',H a=some x':=by
   by_cases ea:a=p
   ·subst ea; exact ⟨u,h⟩
   rw [jH ea] at e; exact ⟨x,e⟩
  obtain ⟨x',e'⟩:=this
  obtain ⟨⟨z,q'⟩,_⟩:=w a x' s e' q
  refine ⟨?_,hx⟩
  by_cases es:s=p
  ·subst es; exact ⟨v,j8⟩
  exact ⟨z,by rw [jH es]; exact q'⟩
 Fe:=w
def frz (c:Cl) (p:Addr):Cl:=fun a=>if c a=some p then none else c a
theorem Kv {c:Cl} {p a:Addr} (h:c a=none):frz c p a=none:=by unfold frz; split<;>simp_all
theorem uU {c:Cl} {p a:Addr} (h:c a=some p):frz c p a=none:=by unfold frz; rw [if_pos h]
theorem oK {c:Cl} {p a q:Addr} (h:c a=some q) (n:q≠p):frz c p a=some q:=by
 unfold frz
 rw [if_neg (by rw [h]; intro e; exact n (j5 e))]
 exact h
theorem Rb {c:Cl} {H:Hp} {p:Addr} (w:Wf c H):Wf (frz c p) H:=fun a o r h e=>by
 unfold frz at e
 split at e
 ·cases e
 exact w a o r h e
theorem qD {c:Cl} {H:Hp} {p:Addr}:Up c H (frz c p) H:=⟨fun _ o h _=>⟨o,h,rfl⟩,fun _ _ _ h=>Kv h⟩
theorem Step.frz {S c0 H0 c H} {p:Addr} (g:Step S c0 H0 c H) (n:H0 p=none):Step S c0 H0 (frz c p) H where
 keep':=g.keep'
 tL:=g.tL
 mJ:=g.mJ
 col a o h:=by
  have e:=g.col a o h
  unfold Kb.frz
  split
  ·rename_i q
   rw [e] at q
   obtain ⟨⟨u,z⟩,_⟩:=g.Fe a o p h q
   rw [n] at z; cases z
  exact e
 live:=g.live
 wf:=Rb g.wf
 Fe:=g.Fe
inductive Err where
 | ratio | ground | route | off | name | dup | unk | ZQ | gone | use | event | j7 | command
 deriving DecidableEq,Repr
inductive Res (α:Type) where
 | ok (x:α) | err (e:Err) | stk
 deriving DecidableEq,Repr
inductive Ja (σ ρ:Type) where
 | nx (s:σ) | ret (r:ρ)
 deriving DecidableEq,Repr
def Res.bind {α β:Type} (m:Res α) (f:α→Res β):Res β:=match m with
 | .ok x=>f x
 | .err e=>.err e
 | .stk=>.stk
@[simp] theorem ji {α β:Type} {x:α} {f:α→Res β}:(Res.ok x).bind f=f x:=rfl
@[simp] theorem tM {α β:Type} {e:Err} {f:α→Res β}:(Res.err e:Res α).bind f=.err e:=rfl
@[simp] theorem TQ {α β:Type} {f:α→Res β}:(Res.stk:Res α).bind f=.stk:=rfl
theorem bind_assoc {α β γ:Type} {m:Res α} {f:α→Res β} {g:β→Res γ}:(m.bind f).bind g=m.bind fun x=>(f x).bind g:=by cases m<;>rfl
def chk {α:Type} (b:Bool) (r:Res α):Res α:=if b=true then r else .stk
@[simp] theorem TV {α:Type} {r:Res α}:chk true r=r:=rfl
@[simp] theorem Tr {α:Type} {r:Res α}:chk false r=.stk:=rfl
theorem sJ {α:Type} {b:Bool} {r:Res α} (h:b=true):chk b r=r:=by rw [h]; rfl
def opt {α β:Type} (o:Option α) (f:α→Res β):Res β:=match o with
 | some x=>f x
 | none=>.stk
@[simp] theorem kY {α β:Type} {x:α} {f:α→Res β}:opt (some x) f=f x:=rfl
@[simp] theorem TX {α β:Type} {f:α→Res β}:opt (none:Option α) f=.stk:=rfl
def lt {α β:Type} (x:α) (f:α→β):β:=f x
@[simp] theorem lt_eq {α β:Type} {x:α} {f:α→β}:lt x f=f x:=rfl
def br {α:Type} (b:Bool) (x y:Res α):Res α:=if b=true then x else y
@[simp] theorem lV {α:Type} {x y:Res α}:br true x y=x:=rfl
@[simp] theorem wj {α:Type} {x y:Res α}:br false x y=y:=rfl
def qU {α σ:Type}:List α→σ→(σ→α→Res σ)→Res σ
 | [],s,_=>.ok s
 | x::xs,s,f=>(f s x).bind fun s'=>qU xs s' f
@[simp] theorem TY {α σ:Type} {s:σ} {f:σ→α→Res σ}:qU [] s f=.ok s:=rfl
@[simp] theorem pZ {α σ:Type} {x:α} {xs:List α} {s:σ} {f:σ→α→Res σ}:qU (x::xs) s f=(f s x).bind fun s'=>qU xs s' f:=rfl
def forR {α σ ρ:Type}:List α→σ→(σ→α→Res (Ja σ ρ))→Res (Ja σ ρ)
 | [],s,_=>.ok (.nx s)
 | x::xs,s,f=>(f s x).bind fun c=>match c with
  | .nx s'=>forR xs s' f
  | .ret r=>.ok (.ret r)
@[simp] theorem T5 {α σ ρ:Type} {s:σ} {f:σ→α→Res (Ja σ ρ)}:forR [] s f=.ok (.nx s):=rfl
theorem tD {α σ ρ:Type} {x:α} {xs:List α} {s:σ} {f:σ→α→Res (Ja σ ρ)}:forR (x::xs) s f=(f s x).bind fun c=>match c with
  | .nx s'=>forR xs s' f
  | .ret r=>.ok (.ret r):=rfl
def Qv {σ ρ β:Type} (c:Ja σ ρ) (f:σ→Res β) (g:ρ→Res β):Res β:=match c with
 | .nx s=>f s
 | .ret r=>g r
@[simp] theorem DG {σ ρ β:Type} {s:σ} {f:σ→Res β} {g:ρ→Res β}:Qv (.nx s) f g=f s:=rfl
@[simp] theorem V9 {σ ρ β:Type} {r:ρ} {f:σ→Res β} {g:ρ→Res β}:Qv (.ret r) f g=g r:=rfl
def Kw {σ:Type}:Nat→σ→(σ→Res Bool)→(σ→Res σ)→Res σ
 | 0,_,_,_=>.stk
 | n+1,s,t,f=>(t s).bind fun b=>br b ((f s).bind fun s'=>Kw n s' t f) (.ok s)
def nx {α:Type} (m:Res α):Res α:=match m with
 | .ok x=>.ok x
 | .err _=>.stk
 | .stk=>.stk
@[simp] theorem CP {α:Type} {x:α}:nx (.ok x)=.ok x:=rfl
def vN {α β:Type}:List α→(α→Res β)→Res (List β)
 | [],_=>.ok []
 | x::xs,f=>(nx (f x)).bind fun y=>(vN xs f).bind fun ys=>.ok (y::ys)
def vO {α β:Type}:List α→(α→Res (Option β))→Res (List β)
 | [],_=>.ok []
 | x::xs,f=>(nx (f x)).bind fun y=>(vO xs f).bind fun ys=>.ok (match y with | some z=>z::ys | none=>ys)
def T6 {α:Type} (m:Res α) (h:Err→Option (Res α)):Res α:=match m with
 | .ok x=>.ok x
 | .err e=>(h e).getD (.err e)
 | .stk=>.stk
@[simp] theorem V_ {α:Type} {x:α} {h:Err→Option (Res α)}:T6 (.ok x) h=.ok x:=rfl
@[simp] theorem T7 {α:Type} {e:Err} {h:Err→Option (Res α)}:T6 (.err e:Res α) h=(h e).getD (.err e):=rfl
def zW {τ γ:Type} (m:Res τ) (h:Err→Option (Res γ)) (f:τ→Res γ):Res γ:=match m with
 | .ok s=>f s
 | .err e=>(h e).getD (.err e)
 | .stk=>.stk
@[simp] theorem Jb {τ γ:Type} {s:τ} {h:Err→Option (Res γ)} {f:τ→Res γ}:zW (.ok s) h f=f s:=rfl
@[simp] theorem wk {τ γ:Type} {e:Err} {h:Err→Option (Res γ)} {f:τ→Res γ}:zW (.err e:Res τ) h f=(h e).getD (.err e):=rfl
def Kont {α:Type} (P:α→Cl→Hp→Prop) (PE:Err→Cl→Hp→Prop) (S:List Addr) (c0:Cl) (H0:Hp):Res α→Prop
 | .ok y=>∀ c H,Step S c0 H0 c H→P y c H
 | .err e=>∀ c H,Step S c0 H0 c H→PE e c H
 | .stk=>False
section
variable {α β:Type} {P:β→Cl→Hp→Prop} {PE:Err→Cl→Hp→Prop} {S:List Addr} {c0:Cl} {H0:Hp}
theorem Kont.chk {b:Bool} {r:Res β} (k:Kont P PE S c0 H0 (Kb.chk b r)):b=true∧Kont P PE S c0 H0 r:=by
 cases b with
 | true=>exact ⟨rfl,k⟩
 | false=>exact k.elim
theorem Kont.opt {o:Option α} {f:α→Res β} (k:Kont P PE S c0 H0 (Kb.opt o f)):∃ x,o=some x∧Kont P PE S c0 H0 (f x):=by
 cases o with
 | some x=>exact ⟨x,rfl,k⟩
 | none=>exact k.elim
theorem Kont.lt {x:α} {f:α→Res β} (k:Kont P PE S c0 H0 (Kb.lt x f)):Kont P PE S c0 H0 (f x):=k
theorem Kont.o8 {b:Bool} {x y:Res β} (k:Kont P PE S c0 H0 (Kb.br b x y)) (h:b=true):Kont P PE S c0 H0 x:=by subst h; exact k
theorem Kont.call {m:Res α} {f:α→Res β} {T:List Addr} {c:Cl} {H:Hp} (k:Kont P PE S c0 H0 (m.bind f)) (g:Step S c0 H0 c H) (t:∀ r∈T,r∈S∨H0 r=none) {Pc:α→Cl→Hp→Prop} {Yk:Err→Cl→Hp→Prop}
  (h:∀ y,m=.ok y→Kont P PE S c0 H0 (f y)→∀ c' H',Step T c H c' H'→Step S c0 H0 c' H'→Pc y c' H') (he:∀ e,m=.err e→∀ c' H',Step T c H c' H'→Step S c0 H0 c' H'→PE e c' H'→Yk e c' H'):Kont Pc Yk T c H m:=by
 cases m with
 | ok x=>exact fun c' H' st=>h x rfl k c' H' st (g.trans st t)
 | err e=>exact fun c' H' st=>he e rfl c' H' st (g.trans st t) (k c' H' (g.trans st t))
 | stk=>exact k.elim
theorem Kont.nx {m:Res α} {P:α→Cl→Hp→Prop} (k:Kont P PE S c0 H0 (Kb.nx m)):Kont P (fun _ _ _=>False) S c0 H0 m:=by
 cases m with
 | ok x=>exact k
 | err e=>exact k.elim
 | stk=>exact k.elim
theorem Kont.Ax {m:Res α} {f:α→Res β} {T:List Addr} {c:Cl} {H:Hp} (k:Kont P PE S c0 H0 ((Kb.nx m).bind f)) (g:Step S c0 H0 c H) (t:∀ r∈T,r∈S∨H0 r=none) {Pc:α→Cl→Hp→Prop}
  (h:∀ y,m=.ok y→Kont P PE S c0 H0 (f y)→∀ c' H',Step T c H c' H'→Step S c0 H0 c' H'→Pc y c' H'):Kont Pc (fun _ _ _=>False) T c H m:=by
 cases m with
 | ok x=>exact fun c' H' st=>h x rfl k c' H' st (g.trans st t)
 | err e=>exact k.elim
 | stk=>exact k.elim
theorem Kont.zW {m:Res α} {h:Err→Option (Res β)} {f:α→Res β} (k:Kont P PE S c0 H0 (Kb.zW m h f)):Kont (fun s _ _=>Kont P PE S c0 H0 (f s)) (fun e _ _=>Kont P PE S c0 H0 ((h e).getD (.err e))) S c0 H0 m:=by
 cases m with
 | ok x=>exact fun _ _ _=>k
 | err e=>exact fun _ _ _=>k
 | stk=>exact k.elim
theorem Kont.imp {m:Res β} {P':β→Cl→Hp→Prop} {Yl:Err→Cl→Hp→Prop} (k:Kont P PE S c0 H0 m) (h:∀ y c H,Step S c0 H0 c H→P y c H→P' y c H) (he:∀ e c H,Step S c0 H0 c H→PE e c H→Yl e c H):Kont P' Yl S c0 H0 m:=by
 cases m with
 | ok x=>exact fun c H g=>h _ _ _ g (k c H g)
 | err e=>exact fun c H g=>he _ _ _ g (k c H g)
 | stk=>exact k.elim
theorem Kont.done {y:β} {c:Cl} {H:Hp} (k:Kont P PE S c0 H0 (.ok y)) (g:Step S c0 H0 c H):P y c H:=k c H g
theorem Kont.fail {e:Err} {c:Cl} {H:Hp} (k:Kont P PE S c0 H0 (.err e:Res β)) (g:Step S c0 H0 c H):PE e c H:=k c H g
end
theorem N7 {H:Hp} {a:Addr} {o:HO} (h:Rd H a o):∃ u,H a=some u:=by
 rcases h with h | ⟨u,h⟩
 ·exact ⟨_,h⟩
 exact ⟨_,h⟩
theorem Ab {X:Option HO} {u o o':HO} (e:X=some u) (q:rH u=rH o') (h:o'=o∨∃ d,o'=.frz d o) (hb:rH o=o):X=some o∨∃ d,X=some (.frz d o):=by
 rcases qZ u with e2 | ⟨d,kvs,rfl⟩ | ⟨d,kvs,rfl⟩
 ·rw [e2] at q
  rcases h with rfl | ⟨d,rfl⟩
  ·rw [hb] at q; rw [q] at e; exact .inl e
  rcases qZ (.frz d o) with e3 | ⟨d2,kvs,e3⟩ | ⟨d2,kvs,e3⟩
  ·rw [e3] at q; rw [q] at e; exact .inr ⟨d,e⟩
  ·cases e3; exact .inl (e.trans (congrArg some q))
  cases e3; exact .inl (e.trans (congrArg some q))
 ·have q':HO.dK kvs=rH o':=q
  rcases h with rfl | ⟨d2,rfl⟩
  ·rw [hb] at q'; rw [← q']; exact .inr ⟨d,e⟩
  rcases qZ (.frz d2 o) with e3 | ⟨d3,G7,e3⟩ | ⟨d3,G7,e3⟩
  ·rw [e3] at q'; cases q'
  ·cases e3
   have:HO.dK kvs=.dK G7:=q'
   rw [← this]; exact .inr ⟨d,e⟩
  cases e3
  have:HO.dK kvs=.dT G7:=q'
  cases this
 have q':HO.dT kvs=rH o':=q
 rcases h with rfl | ⟨d2,rfl⟩
 ·rw [hb] at q'; rw [← q']; exact .inr ⟨d,e⟩
 rcases qZ (.frz d2 o) with e3 | ⟨d3,G7,e3⟩ | ⟨d3,G7,e3⟩
 ·rw [e3] at q'; cases q'
 ·cases e3
  have:HO.dT kvs=.dK G7:=q'
  cases this
 cases e3
 have:HO.dT kvs=.dT G7:=q'
 rw [← this]; exact .inr ⟨d,e⟩
theorem Up.rd {c H c' H'} (g:Up c H c' H') {a:Addr} {o:HO} (k:c a=none) (h:Rd H a o) (hb:rH o=o:=by rfl):Rd H' a o:=by
 rcases h with h | ⟨d,h⟩
 ·obtain ⟨u,e,q⟩:=g.obj' a _ h k
  exact Ab e q (.inl rfl) hb
 obtain ⟨u,e,q⟩:=g.obj' a _ h k
 exact Ab e q (.inr ⟨d,rfl⟩) hb
theorem Up.Ay {c H c' H'} (g:Up c H c' H') {a:Addr} {o:HO} (k:c a=none) (h:Rd H a o):c' a=none:=by
 obtain ⟨u,e⟩:=N7 h
 exact g.col a u e k
structure Ty (α:Type) [DecidableEq α] where
 r:Cl→Hp→V→α→Prop
 up:∀ {c H c' H' v x},Up c H c' H'→r c H v x→r c' H' v x
 enc:α→PyData
 /-- above 64: no data (objects,dicts) -/
 dep:Nat
 dp:dep≤64→∀ {K:iV} {c H v x},r c H v x→Dp K H v (enc x)
 lay:dep≤64→∀ {c H v x},r c H v x→(enc x).canLay0=true
 lJ:dep≤64→∀ x,(enc x).depth≤dep
 eqv:dep≤64→∀ x y,PyData.eqv (enc x) (enc y)=decide (x=y)
def jB:Ty Int where
 r _ _ v x:=v=.int x
 up _ h:=h
 enc x:=.int x
 dp _ {_} {_} {_} {_} {_} h:=by subst h; exact .int _
 lay _ {_} {_} {_} {_} _:=rfl
 dep:=0
 lJ _ _:=lD _
 eqv _ x y:=by simp only [PyData.eqv]; rw [qY]; simp
def tyB:Ty Bool where
 r _ _ v x:=v=.bl x
 up _ h:=h
 enc x:=.bool x
 dp _ {_} {_} {_} {_} {_} h:=by subst h; exact .bl _
 lay _ {_} {_} {_} {_} _:=rfl
 dep:=0
 lJ _ _:=lD _
 eqv _ x y:=by simp only [PyData.eqv]; rw [qY]; simp
def jV:Ty Str where
 r _ _ v x:=v=.str x∧PyData.strOk x=true
 up _ h:=h
 enc x:=.str x
 dp _ {_} {_} {_} {_} {_} h:=by obtain ⟨h,_⟩:=h; subst h; exact .str _
 lay _ {_} {_} {_} {_} h:=h.2
 dep:=0
 lJ _ _:=lD _
 eqv _ x y:=by simp only [PyData.eqv]; rw [qY]; simp
def YK:Ty Unit where
 r _ _ v _:=v=.non
 up _ h:=h
 enc _:=.none
 dp _ {_} {_} {_} {_} {_} h:=by subst h; exact .non
 lay _ {_} {_} {_} {_} _:=rfl
 dep:=0
 lJ _ _:=lD _
 eqv _ x y:=by simp only [PyData.eqv]; simp
def tyO {α:Type} [DecidableEq α] (A:Ty α) (hn:A.dep≤64→∀ x,PyData.eqv (A.enc x) .none=false∧PyData.eqv .none (A.enc x)=false) (hv:∀ c H x,¬ A.r c H .non x):Ty (Option α) where
 r c H v x:=match x with
  | none=>v=.non
  | some y=>A.r c H v y
 up {c H c' H' v x} g h:=by
  cases x with
  | none=>exact h
  | some y=>exact A.up g h
 enc x:=match x with
  | none=>.none
  | some y=>A.enc y
 dep:=A.dep
 dp hd {K c H v x} h:=by
  cases x with
  | none=>have e:v=.non:=h; subst e; exact .non
  | some y=>exact A.dp hd h
 lay hd {c H v x} h:=by
  cases x with
  | none=>rfl
  | some y=>exact A.lay hd h
 lJ hd x:=by
  cases x with
  | none=>exact Nat.zero_le _
  | some y=>exact A.lJ hd y
 eqv hd x y:=by
  cases x with
  | none =>
   cases y with
   | none=>simp [PyData.eqv]
   | some y=>simp [(hn hd y).2]
  | some x =>
   cases y with
   | none=>simp [(hn hd x).1]
   | some y=>simp [A.eqv hd]
def Rs {α:Type} [DecidableEq α] (A:Ty α) (c:Cl) (H:Hp):List V→List α→Prop
 | [],[]=>True
 | u::us,x::xs=>A.r c H u x∧Rs A c H us xs
 | _,_=>False
section
variable {α:Type} [DecidableEq α] {A:Ty α} {c c':Cl} {H H':Hp}
theorem Rs.len:∀ {us:List V} {xs:List α},Rs A c H us xs→us.length=xs.length
 | [],[],_=>rfl
 | _::us,_::xs,h=>by rw [lC,lC,Rs.len h.2]
 | [],_::_,h=>h.elim
 | _::_,[],h=>h.elim
theorem Rs.up (g:Up c H c' H'):∀ {us:List V} {xs:List α},Rs A c H us xs→Rs A c' H' us xs
 | [],[],_=>trivial
 | _::_,_::_,h=>⟨A.up g h.1,Rs.up g h.2⟩
 | [],_::_,h=>h.elim
 | _::_,[],h=>h.elim
theorem Rs.app:∀ {us vs:List V} {xs ys:List α},Rs A c H us xs→Rs A c H vs ys→Rs A c H (us++vs) (xs++ys)
 | [],_,[],_,_,h=>h
 | _::_,_,_::_,_,h,k=>⟨h.1,Rs.app h.2 k⟩
 | [],_,_::_,_,h,_=>h.elim
 | _::_,_,[],_,h,_=>h.elim
theorem Rs.get:∀ {us:List V} {xs:List α} {i:Nat} {u:V},Rs A c H us xs→us[i]?=some u→∃ x,xs[i]?=some x∧A.r c H u x
 | [],[],_,_,_,e=>by simp at e
 | u::us,x::xs,0,v,h,e=>by
  have e':u=v:=by simpa using e
  subst e'
  exact ⟨x,rfl,h.1⟩
 | u::us,x::xs,i+1,v,h,e=>by
  obtain ⟨y,e1,r⟩:=Rs.get (i:=i) (u:=v) h.2 (by simpa using e)
  exact ⟨y,by simpa using e1,r⟩
 | [],_::_,_,_,h,_=>h.elim
 | _::_,[],_,_,h,_=>h.elim
theorem Rs.Ky:∀ {us:List V} {xs:List α} {i:Nat} {x:α},Rs A c H us xs→xs[i]?=some x→∃ u,us[i]?=some u∧A.r c H u x
 | [],[],_,_,_,e=>by simp at e
 | u::us,x::xs,0,y,h,e=>by
  have e':x=y:=by simpa using e
  subst e'
  exact ⟨u,rfl,h.1⟩
 | u::us,x::xs,i+1,y,h,e=>by
  obtain ⟨v,e1,r⟩:=Rs.Ky (i:=i) (x:=y) h.2 (by simpa using e)
  exact ⟨v,by simpa using e1,r⟩
 | [],_::_,_,_,h,_=>h.elim
 | _::_,[],_,_,h,_=>h.elim
theorem Rs.set {u:V} {x:α} (r:A.r c H u x):∀ {us:List V} {xs:List α} (i:Nat),Rs A c H us xs→Rs A c H (us.set i u) (xs.set i x)
 | [],[],_,_=>trivial
 | _::_,_::_,0,h=>⟨r,h.2⟩
 | _::_,_::_,i+1,h=>⟨h.1,Rs.set r i h.2⟩
 | [],_::_,_,h=>h.elim
 | _::_,[],_,h=>h.elim
theorem Rs.drop:∀ {us:List V} {xs:List α} (n:Nat),Rs A c H us xs→Rs A c H (us.drop n) (xs.drop n)
 | _,_,0,h=>h
 | [],[],_+1,_=>trivial
 | _::_,_::_,n+1,h=>Rs.drop n h.2
 | [],_::_,_,h=>h.elim
 | _::_,[],_,h=>h.elim
theorem Rs.take:∀ {us:List V} {xs:List α} (n:Nat),Rs A c H us xs→Rs A c H (us.take n) (xs.take n)
 | _,_,0,h=>by simp [Rs]
 | [],[],_+1,_=>trivial
 | _::_,_::_,n+1,h=>⟨h.1,Rs.take n h.2⟩
 | [],_::_,_,h=>h.elim
 | _::_,[],_,h=>h.elim
theorem Rs.dp {K:iV} (hd:A.dep≤64):∀ {us:List V} {xs:List α},Rs A c H us xs→DpAll K H us (xs.map A.enc)
 | [],[],_=>.nil
 | _::_,_::_,h=>.cons (A.dp hd h.1) (Rs.dp hd h.2)
 | [],_::_,h=>h.elim
 | _::_,[],h=>h.elim
theorem Rs.lay (hd:A.dep≤64):∀ {us:List V} {xs:List α},Rs A c H us xs→PyData.canLayAll0 (xs.map A.enc)=true
 | [],[],_=>rfl
 | _::_,x::xs,h=>by
  show (PyData.canLay0 (A.enc x)&&PyData.canLayAll0 (xs.map A.enc))=true
  rw [A.lay hd h.1,Rs.lay hd h.2]; rfl
 | [],_::_,h=>h.elim
 | _::_,[],h=>h.elim
theorem DK (A:Ty α) (hd:A.dep≤64):∀ xs:List α,PyData.depthAll (xs.map A.enc)≤A.dep
 | []=>Nat.zero_le _
 | x::xs=>Nat.max_le.mpr ⟨A.lJ hd x,DK A hd xs⟩
theorem eqvAll (A:Ty α) (hd:A.dep≤64):∀ xs ys:List α,PyData.eqvAll (xs.map A.enc) (ys.map A.enc)=decide (xs=ys)
 | [],[]=>rfl
 | [],_::_=>rfl
 | _::_,[]=>rfl
 | x::xs,y::ys=>by
  show (PyData.eqv (A.enc x) (A.enc y)&&PyData.eqvAll (xs.map A.enc) (ys.map A.enc))=decide (x::xs=y::ys)
  rw [A.eqv hd,eqvAll A hd xs ys,qY]
  simp
end
def uK {α:Type} [DecidableEq α] (A:Ty α):Ty (List α) where
 r c H v xs:=∃ (a:Addr) (us:List V),v=.ref a∧c a=none∧H a=some (.lst us)∧Rs A c H us xs
 up:=fun g ⟨a,us,e,k,q,h⟩=>⟨a,us,e,g.col a _ q k,g.obj a _ q k,h.up g⟩
 enc xs:=.list (xs.map A.enc)
 dep:=A.dep+1
 dp:=fun hd _ _ _ _ _ ⟨a,us,e,k,q,h⟩=>by subst e; exact .lst (.inl (.inl q)) (h.dp (qC hd))
 lay:=fun hd _ _ _ _ ⟨a,us,e,k,q,h⟩=>h.lay (qC hd)
 lJ hd xs:=Nat.succ_le_succ (DK A (qC hd) xs)
 eqv hd x y:=by simp only [PyData.eqv]; exact eqvAll A (qC hd) x y
def wu {α0:Type} [DecidableEq α0] {α1:Type} [DecidableEq α1] (A0:Ty α0) (A1:Ty α1):Ty (α0×α1) where
 r c H v x:=∃ (a:Addr) (u0 u1:V),v=.ref a∧c a=none∧H a=some (.tup [u0,u1])∧A0.r c H u0 x.1∧A1.r c H u1 x.2
 up:=fun g ⟨a,u0,u1,e,k,q,h0,h1⟩=>⟨a,u0,u1,e,g.col a _ q k,g.obj a _ q k,A0.up g h0,A1.up g h1⟩
 enc x:=.tuple [A0.enc x.1,A1.enc x.2]
 dep:=A0.dep+A1.dep+1
 dp:=fun hd _ _ _ _ _ ⟨a,u0,u1,e,k,q,h0,h1⟩=>by subst e; exact .tup (.inl (.inl q)) (.cons (A0.dp iJ h0) (.cons (A1.dp iJ h1) (.nil)))
 lay:=fun hd _ _ _ _ ⟨a,u0,u1,e,k,q,h0,h1⟩=>by simp [PyData.canLay0,PyData.canLayAll0,A0.lay iJ h0,A1.lay iJ h1]
 lJ hd x:=by
  have h0:=A0.lJ iJ x.1
  have h1:=A1.lJ iJ x.2
  simp only [PyData.depth,PyData.depthAll]; omega
 eqv hd x y:=by
  have e0:=A0.eqv iJ
  have e1:=A1.eqv iJ
  simp only [PyData.eqv,PyData.eqvAll,Bool.and_true,e0,e1]
  rw [qY]; simp only [Bool.and_eq_true,decide_eq_true_eq,Prod.ext_iff]
def mV {α0:Type} [DecidableEq α0] {α1:Type} [DecidableEq α1] {α2:Type} [DecidableEq α2] (A0:Ty α0) (A1:Ty α1) (A2:Ty α2):Ty (α0×α1×α2) where
 r c H v x:=∃ (a:Addr) (u0 u1 u2:V),v=.ref a∧c a=none∧Rd H a (.tup [u0,u1,u2])∧A0.r c H u0 x.1∧A1.r c H u1 x.2.1∧A2.r c H u2 x.2.2
 up:=fun g ⟨a,u0,u1,u2,e,k,q,h0,h1,h2⟩=>⟨a,u0,u1,u2,e,g.Ay k q,g.rd k q,A0.up g h0,A1.up g h1,A2.up g h2⟩
 enc x:=.tuple [A0.enc x.1,A1.enc x.2.1,A2.enc x.2.2]
 dep:=A0.dep+A1.dep+A2.dep+1
 dp:=fun hd _ _ _ _ _ ⟨a,u0,u1,u2,e,k,q,h0,h1,h2⟩=>by subst e; exact .tup (.inl q) (.cons (A0.dp iJ h0) (.cons (A1.dp iJ h1) (.cons (A2.dp iJ h2) (.nil))))
 lay:=fun hd _ _ _ _ ⟨a,u0,u1,u2,e,k,q,h0,h1,h2⟩=>by simp [PyData.canLay0,PyData.canLayAll0,A0.lay iJ h0,A1.lay iJ h1,A2.lay iJ h2]
 lJ hd x:=by
  have h0:=A0.lJ iJ x.1
  have h1:=A1.lJ iJ x.2.1
  have h2:=A2.lJ iJ x.2.2
  simp only [PyData.depth,PyData.depthAll]; omega
 eqv hd x y:=by
  have e0:=A0.eqv iJ
  have e1:=A1.eqv iJ
  have e2:=A2.eqv iJ
  simp only [PyData.eqv,PyData.eqvAll,Bool.and_true,e0,e1,e2]
  rw [qY]; simp only [Bool.and_eq_true,decide_eq_true_eq,Prod.ext_iff]
def wz {α0:Type} [DecidableEq α0] {α1:Type} [DecidableEq α1] {α2:Type} [DecidableEq α2] {α3:Type} [DecidableEq α3] (A0:Ty α0) (A1:Ty α1) (A2:Ty α2) (A3:Ty α3):Ty (α0×α1×α2×α3) where
 r c H v x:=∃ (a:Addr) (u0 u1 u2 u3:V),v=.ref a∧c a=none∧Rd H a (.tup [u0,u1,u2,u3])∧A0.r c H u0 x.1∧A1.r c H u1 x.2.1∧A2.r c H u2 x.2.2.1∧A3.r c H u3 x.2.2.2
 up:=fun g ⟨a,u0,u1,u2,u3,e,k,q,h0,h1,h2,h3⟩=>⟨a,u0,u1,u2,u3,e,g.Ay k q,g.rd k q,A0.up g h0,A1.up g h1,A2.up g h2,A3.up g h3⟩
 enc x:=.tuple [A0.enc x.1,A1.enc x.2.1,A2.enc x.2.2.1,A3.enc x.2.2.2]
 dep:=A0.dep+A1.dep+A2.dep+A3.dep+1
 dp:=fun hd _ _ _ _ _ ⟨a,u0,u1,u2,u3,e,k,q,h0,h1,h2,h3⟩=>by subst e; exact .tup (.inl q) (.cons (A0.dp iJ h0) (.cons (A1.dp iJ h1) (.cons (A2.dp iJ h2) (.cons (A3.dp iJ h3) (.nil)))))
 lay:=fun hd _ _ _ _ ⟨a,u0,u1,u2,u3,e,k,q,h0,h1,h2,h3⟩=>by simp [PyData.canLay0,PyData.canLayAll0,A0.lay iJ h0,A1.lay iJ h1,A2.lay iJ h2,A3.lay iJ h3]
 lJ hd x:=by
  have h0:=A0.lJ iJ x.1
  have h1:=A1.lJ iJ x.2.1
  have h2:=A2.lJ iJ x.2.2.1
  have h3:=A3.lJ iJ x.2.2.2
  simp only [PyData.depth,PyData.depthAll]; omega
 eqv hd x y:=by
  have e0:=A0.eqv iJ
  have e1:=A1.eqv iJ
  have e2:=A2.eqv iJ
  have e3:=A3.eqv iJ
  simp only [PyData.eqv,PyData.eqvAll,Bool.and_true,e0,e1,e2,e3]
  rw [qY]; simp only [Bool.and_eq_true,decide_eq_true_eq,Prod.ext_iff]
def T8 {α0:Type} [DecidableEq α0] {α1:Type} [DecidableEq α1] {α2:Type} [DecidableEq α2] {α3:Type} [DecidableEq α3] {α4:Type} [DecidableEq α4] (A0:Ty α0) (A1:Ty α1) (A2:Ty α2) (A3:Ty α3) (A4:Ty α4):Ty (α0×α1×α2×α3×α4) where
 r c H v x:=∃ (a:Addr) (u0 u1 u2 u3 u4:V),v=.ref a∧c a=none∧Rd H a (.tup [u0,u1,u2,u3,u4])∧A0.r c H u0 x.1∧A1.r c H u1 x.2.1∧A2.r c H u2 x.2.2.1∧A3.r c H u3 x.2.2.2.1∧A4.r c H u4 x.2.2.2.2
 up:=fun g ⟨a,u0,u1,u2,u3,u4,e,k,q,h0,h1,h2,h3,h4⟩=>⟨a,u0,u1,u2,u3,u4,e,g.Ay k q,g.rd k q,A0.up g h0,A1.up g h1,A2.up g h2,A3.up g h3,A4.up g h4⟩
 enc x:=.tuple [A0.enc x.1,A1.enc x.2.1,A2.enc x.2.2.1,A3.enc x.2.2.2.1,A4.enc x.2.2.2.2]
 dep:=A0.dep+A1.dep+A2.dep+A3.dep+A4.dep+1
 dp:=fun hd _ _ _ _ _ ⟨a,u0,u1,u2,u3,u4,e,k,q,h0,h1,h2,h3,h4⟩=>by subst e; exact .tup (.inl q) (.cons (A0.dp iJ h0) (.cons (A1.dp iJ h1) (.cons (A2.dp iJ h2) (.cons (A3.dp iJ h3) (.cons (A4.dp iJ h4) (.nil))))))
 lay:=fun hd _ _ _ _ ⟨a,u0,u1,u2,u3,u4,e,k,q,h0,h1,h2,h3,h4⟩=>by simp [PyData.canLay0,PyData.canLayAll0,A0.lay iJ h0,A1.lay iJ h1,A2.lay iJ h2,A3.lay iJ h3,A4.lay iJ h4]
 lJ hd x:=by
  have h0:=A0.lJ iJ x.1
  have h1:=A1.lJ iJ x.2.1
  have h2:=A2.lJ iJ x.2.2.1
  have h3:=A3.lJ iJ x.2.2.2.1
  have h4:=A4.lJ iJ x.2.2.2.2
  simp only [PyData.depth,PyData.depthAll]; omega
 eqv hd x y:=by
  have e0:=A0.eqv iJ
  have e1:=A1.eqv iJ
  have e2:=A2.eqv iJ
  have e3:=A3.eqv iJ
  have e4:=A4.eqv iJ
  simp only [PyData.eqv,PyData.eqvAll,Bool.and_true,e0,e1,e2,e3,e4]
  rw [qY]; simp only [Bool.and_eq_true,decide_eq_true_eq,Prod.ext_iff]
def yh {α0:Type} [DecidableEq α0] {α1:Type} [DecidableEq α1] {α2:Type} [DecidableEq α2] {α3:Type} [DecidableEq α3] {α4:Type} [DecidableEq α4] {α5:Type} [DecidableEq α5] {α6:Type} [DecidableEq α6] (A0:Ty α0) (A1:Ty α1) (A2:Ty α2) (A3:Ty α3) (A4:Ty α4) (A5:Ty α5) (A6:Ty α6):Ty (α0×α1×α2×α3×α4×α5×α6) where
 r c H v x:=∃ (a:Addr) (u0 u1 u2 u3 u4 u5 u6:V),v=.ref a∧c a=none∧Rd H a (.tup [u0,u1,u2,u3,u4,u5,u6])∧A0.r c H u0 x.1∧A1.r c H u1 x.2.1∧A2.r c H u2 x.2.2.1∧A3.r c H u3 x.2.2.2.1∧A4.r c H u4 x.2.2.2.2.1∧A5.r c H u5 x.2.2.2.2.2.1∧A6.r c H u6 x.2.2.2.2.2.2
 up:=fun g ⟨a,u0,u1,u2,u3,u4,u5,u6,e,k,q,h0,h1,h2,h3,h4,h5,h6⟩=>⟨a,u0,u1,u2,u3,u4,u5,u6,e,g.Ay k q,g.rd k q,A0.up g h0,A1.up g h1,A2.up g h2,A3.up g h3,A4.up g h4,A5.up g h5,A6.up g h6⟩
 enc x:=.tuple [A0.enc x.1,A1.enc x.2.1,A2.enc x.2.2.1,A3.enc x.2.2.2.1,A4.enc x.2.2.2.2.1,A5.enc x.2.2.2.2.2.1,A6.enc x.2.2.2.2.2.2]
 dep:=A0.dep+A1.dep+A2.dep+A3.dep+A4.dep+A5.dep+A6.dep+1
 dp:=fun hd _ _ _ _ _ ⟨a,u0,u1,u2,u3,u4,u5,u6,e,k,q,h0,h1,h2,h3,h4,h5,h6⟩=>by subst e; exact .tup (.inl q) (.cons (A0.dp iJ h0) (.cons (A1.dp iJ h1) (.cons (A2.dp iJ h2) (.cons (A3.dp iJ h3) (.cons (A4.dp iJ h4) (.cons (A5.dp iJ h5) (.cons (A6.dp iJ h6) (.nil))))))))
 lay:=fun hd _ _ _ _ ⟨a,u0,u1,u2,u3,u4,u5,u6,e,k,q,h0,h1,h2,h3,h4,h5,h6⟩=>by simp [PyData.canLay0,PyData.canLayAll0,A0.lay iJ h0,A1.lay iJ h1,A2.lay iJ h2,A3.lay iJ h3,A4.lay iJ h4,A5.lay iJ h5,A6.lay iJ h6]
 lJ hd x:=by
  have h0:=A0.lJ iJ x.1
  have h1:=A1.lJ iJ x.2.1
  have h2:=A2.lJ iJ x.2.2.1
  have h3:=A3.lJ iJ x.2.2.2.1
  have h4:=A4.lJ iJ x.2.2.2.2.1
  have h5:=A5.lJ iJ x.2.2.2.2.2.1
  have h6:=A6.lJ iJ x.2.2.2.2.2.2
  simp only [PyData.depth,PyData.depthAll]; omega
 eqv hd x y:=by
  have e0:=A0.eqv iJ
  have e1:=A1.eqv iJ
  have e2:=A2.eqv iJ
  have e3:=A3.eqv iJ
  have e4:=A4.eqv iJ
  have e5:=A5.eqv iJ
  have e6:=A6.eqv iJ
  simp only [PyData.eqv,PyData.eqvAll,Bool.and_true,e0,e1,e2,e3,e4,e5,e6]
  rw [qY]; simp only [Bool.and_eq_true,decide_eq_true_eq,Prod.ext_iff]
def rB {α:Type} [DecidableEq α] (K:iV) (A:Ty α) (c:Cl) (H:Hp) (v:V) (xs:List α):Prop:=∃ (a:Addr) (us:List V),v=.ref a∧SqL K H a us∧Rs A c H us xs
def rP {α:Type} [DecidableEq α] (A:Ty α) (c:Cl) (H:Hp) (v:V) (xs:List α):Prop:=∃ (a:Addr) (us:List V),v=.ref a∧H a=some (.lst us)∧Rs A c H us xs
structure Own {α:Type} [DecidableEq α] (A:Ty α) (H0:Hp) (c:Cl) (H:Hp) (p:Addr) (us:List V) (xs:List α):Prop where
 col:c p=some p
 obj:H p=some (.lst us)
 rs:Rs A c H us xs
 new:H0 p=none
def rO {α:Type} [DecidableEq α] (A:Ty α) (H0:Hp) (c:Cl) (H:Hp) (v:V) (xs:List α):Prop:=∃ (p:Addr) (us:List V),v=.ref p∧Own A H0 c H p us xs
section
variable {K:iV} {α:Type} [DecidableEq α] {A:Ty α} {c c' c0:Cl} {H H' H0:Hp} {S T:List Addr} {p:Addr} {us:List V} {xs:List α}
theorem Az {v:V} (h:(uK A).r c H v xs):rB K A c H v xs:=let ⟨a,us,e,_,q,r⟩:=h; ⟨a,us,e,.inl (.inl q),r⟩
theorem rP.b {v:V} (h:rP A c H v xs):rB K A c H v xs:=let ⟨a,us,e,q,r⟩:=h; ⟨a,us,e,.inl (.inl q),r⟩
theorem Qw {v:V} (h:(uK A).r c H v xs):rP A c H v xs:=let ⟨a,us,e,_,q,r⟩:=h; ⟨a,us,e,q,r⟩
theorem Own.pl (h:Own A H0 c H p us xs):rP A c H (.ref p) xs:=⟨p,us,rfl,h.obj,h.rs⟩
theorem Step.YL {v:V} (g:Step [] c0 H0 c H) (h:rP A c0 H0 v xs):rP A c H v xs:=by
 obtain ⟨a,us,e,q,r⟩:=h
 exact ⟨a,us,e,g.keep a _ q (fun _ _ z=>by cases z),r.up g.up⟩
theorem Own.b (h:Own A H0 c H p us xs):rB K A c H (.ref p) xs:=⟨p,us,rfl,.inl (.inl h.obj),h.rs⟩
theorem Own.step (h:Own A H0 c H p us xs) (g:Step T c H c' H') (n:p∉T):Own A H0 c' H' p us xs :=
 ⟨(g.col p _ h.obj).trans h.col,g.keep p _ h.obj (fun r e=>by rw [h.col] at e; cases e; exact n),h.rs.up g.up,h.new⟩
theorem Own.step0 (h:Own A H0 c H p us xs) (g:Step [] c H c' H'):Own A H0 c' H' p us xs:=h.step g (fun z=>by cases z)
theorem Own.step1 {q:Addr} (h:Own A H0 c H p us xs) (g:Step [q] c H c' H') (n:p≠q):Own A H0 c' H' p us xs:=h.step g (fun z=>n (jD.mp z))
theorem Own.frz (h:Own A H0 c H p us xs):(uK A).r (frz c p) H (.ref p) xs:=⟨p,us,rfl,uU h.col,h.obj,h.rs.up qD⟩
theorem Own.other {q:Addr} (h:Own A H0 c H p us xs) (n:p≠q):Own A H0 (Kb.frz c q) H p us xs:=⟨oK h.col n,h.obj,h.rs.up qD,h.new⟩
theorem Step.Ym {a:Addr} (g:Step [] c0 H0 c H) (h:SqL K H0 a us):SqL K H a us:=by
 rcases h with (q | ⟨o,q⟩) | q
 ·exact .inl (.inl (g.keep a _ q fun _ _ z=>by cases z))
 ·exact .inl (.inr ⟨o,g.keep a _ q fun _ _ z=>by cases z⟩)
 exact .inr q
theorem Step.b0 {v:V} (g:Step [] c0 H0 c H) (h:rB K A c0 H0 v xs):rB K A c H v xs:=by
 obtain ⟨a,us,e,q,r⟩:=h
 exact ⟨a,us,e,g.Ym q,r.up g.up⟩
end
def Pv (t:TE) (σ:L2.St) (H:Hp) (v:V):Prop:=∀ Q:VK,Q v H→t σ H Q
def oG (t:TT) (σ:L2.St) (H:Hp) (b:Bool):Prop:=∀ Q:Bool→Hp→Prop,Q b H→t σ H Q
def lM (t:TA) (σ:L2.St) (H:Hp) (vs:List V):Prop:=∀ Q:List V→Hp→Prop,Q vs H→t σ H Q
def Qx (t:TO) (σ:L2.St) (H:Hp) (o:Option Int):Prop:=∀ Q:Option Int→Hp→Prop,Q o H→t σ H Q
def Rv (r:R2) (x y:V) (H:Hp) (z:V):Prop:=∀ Q:VK,Q z H→r x y H Q
def Rc (r:List V→Hp→VK→Prop) (vs:List V) (H:Hp) (z:V):Prop:=∀ Q:VK,Q z H→r vs H Q
section
variable {t ta tb tc:TE} {σ:L2.St} {H:Hp} {v x y z:V} {r r':R2}
theorem Pv.go (h:Pv t σ H v) {Q:VK} (q:Q v H):t σ H Q:=h Q q
theorem oG.go {t:TT} {b:Bool} (h:oG t σ H b) {Q:Bool→Hp→Prop} (q:Q b H):t σ H Q:=h Q q
theorem lM.go {t:TA} {vs:List V} (h:lM t σ H vs) {Q:List V→Hp→Prop} (q:Q vs H):t σ H Q:=h Q q
theorem Pv.is {w:V} (h:Pv t σ H v) (e:v=w):Pv t σ H w:=e▸h
theorem oG.is {t:TT} {a b:Bool} (h:oG t σ H a) (e:a=b):oG t σ H b:=e▸h
theorem iw {i:Nat} (h:σ[i]?=some (some v)):Pv (tVar i) σ H v:=fun _ q=>⟨v,h,q⟩
theorem iT:Pv (tC v) σ H v:=fun _ q=>q
theorem jt (ha:Pv ta σ H x) (hb:Pv tb σ H y) (hr:Rv r x y H z):Pv (tOp r ta tb) σ H z:=fun Q q=>ha _ (hb _ (hr Q q))
theorem Wn {r:V→Hp→VK→Prop} (ha:Pv ta σ H x) (hr:∀ Q:VK,Q z H→r x H Q):Pv (tUn r ta) σ H z:=fun Q q=>ha _ (hr Q q)
theorem uV {r:List V→Hp→VK→Prop} {ta:TA} {vs:List V} (ha:lM ta σ H vs) (hr:Rc r vs H z):Pv (tCB r ta) σ H z:=fun Q q=>ha _ (hr Q q)
theorem jm:lM tNil σ H []:=fun _ q=>q
theorem iQ {tr:TA} {vs:List V} (ha:Pv ta σ H x) (hr:lM tr σ H vs):lM (tCons ta tr) σ H (x::vs):=fun _ q=>ha _ (hr _ q)
theorem Fg {a b:Bool} (ha:Pv ta σ H x) (hb:Pv tb σ H y) (hr:Rv r x y H (.bl a)) (hc:a=true→Pv tc σ H z) (hr':a=true→Rv r' y z H (.bl b)):Pv (tChain r r' ta tb tc) σ H (.bl (a&&b)):=fun Q q=>ha _ (hb _ (hr _ ⟨a,rfl,by
 cases a with
 | true=>exact iteT (hc rfl _ (hr' rfl _ q))
 | false=>exact iteF q⟩))
theorem wZ {a b:Bool} (h1:Pv ta σ H (.bl a)) (h2:a=true→Pv tb σ H (.bl b)):Pv (tAndV ta tb) σ H (.bl (a&&b)):=fun Q q=>h1 _ ⟨a,rfl,by
 cases a with
 | true=>exact iteT (h2 rfl Q q)
 | false=>exact iteF q⟩
theorem Rf {a b:Bool} (h1:Pv ta σ H (.bl a)) (h2:a=false→Pv tb σ H (.bl b)):Pv (tOrV ta tb) σ H (.bl (a||b)):=fun Q q=>h1 _ ⟨a,rfl,by
 cases a with
 | true=>exact iteT q
 | false=>exact iteF (h2 rfl Q q)⟩
theorem Ac {a:Bool} (h1:Pv ta σ H (.bl a)):Pv (tNotV ta) σ H (.bl (!a)):=fun Q q=>h1 _ ⟨a,rfl,q⟩
theorem oH {b:Bool} (h:Pv t σ H (.bl b)):oG (tTest t) σ H b:=fun _ q=>h _ ⟨b,rfl,q⟩
theorem T9 {b:Bool} (h:Pv t σ H (.bl b)):oG (tB t) σ H b:=fun _ q=>h _ ⟨b,rfl,q⟩
theorem Rg {t u:TT} {a b:Bool} (h1:oG t σ H a) (h2:a=true→oG u σ H b):oG (tAnd t u) σ H (a&&b):=fun Q q=>h1 _ (by
 cases a with
 | true=>exact iteT (h2 rfl Q q)
 | false=>exact iteF q)
theorem Qy {t u:TT} {a b:Bool} (h1:oG t σ H a) (h2:a=false→oG u σ H b):oG (tOr t u) σ H (a||b):=fun Q q=>h1 _ (by
 cases a with
 | true=>exact iteT q
 | false=>exact iteF (h2 rfl Q q))
theorem pt_not {t:TT} {a:Bool} (h1:oG t σ H a):oG (tNot t) σ H (!a):=fun _ q=>h1 _ q
theorem Rh:Qx tNoPart σ H none:=fun _ q=>q
theorem Ri {i:Int} (h:Pv t σ H (.int i)):Qx (tPart t) σ H (some i):=fun _ q=>h _ ⟨i,rfl,q⟩
theorem jW {g:Int→Int→V} {i j:Int}:Rv (rI0 g) (.int i) (.int j) H (g i j):=fun _ q=>⟨i,j,rfl,rfl,q⟩
theorem Fj {C:Int→Int→Prop} {g:Int→Int→V} {i j:Int} (hc:C i j):Rv (rI C g) (.int i) (.int j) H (g i j):=fun _ q=>⟨i,j,rfl,rfl,hc,q⟩
theorem xU {i j:Int}:Rv rEq (.int i) (.int j) H (.bl (decide (i=j))):=fun _ q=>⟨rfl,by rw [dec_int]; rw [show (decide (i=j))=(i==j) from by rw [qY]; simp] at q; exact q⟩
theorem Kz {i j:Int}:Rv rNe (.int i) (.int j) H (.bl (!decide (i=j))):=fun _ q=>⟨rfl,by rw [dec_int]; rw [show (decide (i=j))=(i==j) from by rw [qY]; simp] at q; exact q⟩
theorem Rj {i j:Str}:Rv rEq (.str i) (.str j) H (.bl (decide (i=j))):=fun _ q=>⟨rfl,by rw [dec_str]; rw [show (decide (i=j))=(i==j) from by rw [qY]; simp] at q; exact q⟩
theorem rB.shape {α:Type} [DecidableEq α] {A:Ty α} {K:iV} {c:Cl} {v:V} {xs:List α} (h:rB K A c H v xs) (hd:A.dep+1≤64):Dp K H v ((uK A).enc xs)∧SeqAt.shaped ((uK A).enc xs)=true:=by
 obtain ⟨a,us,rfl,q,r⟩:=h
 refine ⟨.lst q (r.dp (qC hd)),?_⟩
 unfold SeqAt.shaped
 rw [show ((uK A).enc xs).canLay0=true from r.lay (qC hd),k_ (Nat.le_trans ((uK A).lJ hd xs) hd)]
 rfl
theorem G8 {α:Type} [DecidableEq α] {A:Ty α} {K:iV} {c:Cl} {a b:List α} (h1:rB K A c H x a) (h2:rB K A c H y b) (hd:A.dep+1≤64):Rv (rEqD K) x y H (.bl (decide (a=b))):=fun Q q =>
 ⟨_,_,(h1.shape (K:=K) hd).1,(h2.shape (K:=K) hd).1,(h1.shape (K:=K) hd).2,(h2.shape (K:=K) hd).2,by rw [(uK A).eqv hd]; exact q⟩
theorem A_ {α:Type} [DecidableEq α] {A:Ty α} {K:iV} {c:Cl} {a b:List α} (h1:rB K A c H x a) (h2:rB K A c H y b) (hd:A.dep+1≤64):Rv (rNeD K) x y H (.bl (!decide (a=b))):=fun Q q =>
 ⟨_,_,(h1.shape (K:=K) hd).1,(h2.shape (K:=K) hd).1,(h1.shape (K:=K) hd).2,(h2.shape (K:=K) hd).2,by rw [(uK A).eqv hd]; exact q⟩
theorem N8 {i j:Str} (h:i.length+j.length≤sizeLine):Rv (fun x y H Q=>∃ i j,x=.str i∧y=.str j∧i.length+j.length≤sizeLine∧Q (.str (i++j)) H) (.str i) (.str j) H (.str (i++j)):=fun _ q=>⟨i,j,rfl,rfl,h,q⟩
theorem Rs.at {α:Type} [DecidableEq α] {A:Ty α} {c:Cl} {us:List V} {xs:List α} {i:Int} {a:α} (h:Rs A c H us xs) (e:atI xs i=some a):∃ u,atI us i=some u∧A.r c H u a:=by
 unfold atI at e ⊢
 rw [h.len]
 cases q:ixN xs.length i with
 | none=>rw [q] at e; cases e
 | some j =>
  rw [q] at e
  exact h.Ky e
theorem G9 {K:iV} {a:Addr} {us:List V} {i:Int} (h:Rd H a (.tup us)) (e:atI us i=some v):Rv (rIxT K) (.ref a) (.int i) H v:=fun _ q=>⟨a,us,i,v,rfl,rfl,.inl h,e,q⟩
theorem KC {s:Str} {i:Int} {n:Nat} (h:s.length≤sizeLine) (e:atI s.cps.toList i=some n):Rv rIxS (.str s) (.int i) H (.str ⟨#[n]⟩):=fun _ q=>⟨s,i,n,rfl,rfl,h,e,q⟩
theorem DN {i:Int}:Rc (fun xs H Q=>(∃ i,xs=[.int i]∧Q (.int i) H)∨∃ k,xs=[.bl k]∧Q (.int (if k then 1 else 0)) H) [.int i] H (.int i):=fun _ q=>.inl ⟨i,rfl,q⟩
theorem N_ {α:Type} [DecidableEq α] {A:Ty α} {K:iV} {c:Cl} {xs:List α} (h:rB K A c H v xs):Rc (fun xs H Q=>∃ p ys,xs=[.ref p]∧(SqL K H p ys∨SqT K H p ys)∧Q (.int ys.length) H) [v] H (.int xs.length):=fun Q q=>by
 obtain ⟨a,us,rfl,h1,r⟩:=h
 exact ⟨a,us,rfl,.inl h1,by rw [r.len]; exact q⟩
theorem DP {s:Str} (h:s.length≤sizeLine):Rc (fun xs H Q=>∃ z,xs=[.str z]∧z.length≤sizeLine∧Q (.int z.length) H) [.str s] H (.int s.length):=fun _ q=>⟨s,rfl,h,q⟩
end
theorem Jc {α β:Type} {o:Option α} {f:α→Res β} {y:β} (h:opt o f=.ok y):∃ x,o=some x∧f x=.ok y:=by
 cases o with
 | some x=>exact ⟨x,rfl,h⟩
 | none=>cases h
def Oa (a b:Res Bool):Res Bool:=a.bind fun x=>br x b (.ok false)
def Wb (a b:Res Bool):Res Bool:=a.bind fun x=>br x (.ok true) b
theorem Oc {t u:TT} {σ:L2.St} {H:Hp} {m n:Res Bool} {b:Bool} (h:Oa m n=.ok b) (h1:∀ a,m=.ok a→oG t σ H a) (h2:∀ a,n=.ok a→oG u σ H a):oG (tAnd t u) σ H b:=by
 cases m with
 | ok x =>
  cases x with
  | true=>exact fun Q q=>h1 true rfl _ (iteT (h2 b h Q q))
  | false =>
   have e:false=b:=Res.ok.inj h
   subst e
   exact fun Q q=>h1 false rfl _ (iteF q)
 | err e=>cases h
 | stk=>cases h
theorem KD {t u:TT} {σ:L2.St} {H:Hp} {m n:Res Bool} {b:Bool} (h:Wb m n=.ok b) (h1:∀ a,m=.ok a→oG t σ H a) (h2:∀ a,n=.ok a→oG u σ H a):oG (tOr t u) σ H b:=by
 cases m with
 | ok x =>
  cases x with
  | true =>
   have e:true=b:=Res.ok.inj h
   subst e
   exact fun Q q=>h1 true rfl _ (iteT q)
  | false=>exact fun Q q=>h1 false rfl _ (iteF (h2 b h Q q))
 | err e=>cases h
 | stk=>cases h
theorem Kont.Qz {α β:Type} {P:β→Cl→Hp→Prop} {PE:Err→Cl→Hp→Prop} {S:List Addr} {c0:Cl} {H0:Hp} {m:Res α} {f:α→Res β} (k:Kont P PE S c0 H0 (m.bind f)) (hm:∀ e,m≠.err e):∃ x,m=.ok x∧Kont P PE S c0 H0 (f x):=by
 cases m with
 | ok x=>exact ⟨x,rfl,k⟩
 | err e=>exact absurd rfl (hm e)
 | stk=>exact k.elim
theorem Fl {α:Type} {x:α} (e:Err):(Res.ok x)≠Res.err e:=fun h=>by cases h
theorem KH {α β:Type} {o:Option α} {f:α→Res β} (h:∀ x e,f x≠.err e) (e:Err):opt o f≠.err e:=by
 cases o with
 | some x=>exact h x e
 | none=>exact fun z=>by cases z
theorem Od {m n:Res Bool} (h1:∀ e,m≠.err e) (h2:∀ e,n≠.err e) (e:Err):Oa m n≠.err e:=by
 cases m with
 | ok x =>
  cases x with
  | true=>exact h2 e
  | false=>exact fun z=>by cases z
 | err x=>exact absurd rfl (h1 x)
 | stk=>exact fun z=>by cases z
theorem KJ {m n:Res Bool} (h1:∀ e,m≠.err e) (h2:∀ e,n≠.err e) (e:Err):Wb m n≠.err e:=by
 cases m with
 | ok x =>
  cases x with
  | true=>exact fun z=>by cases z
  | false=>exact h2 e
 | err x=>exact absurd rfl (h1 x)
 | stk=>exact fun z=>by cases z
section
variable {t ta tb:TE} {σ:L2.St} {c c0:Cl} {H H0:Hp} {v x y z:V} {S:List Addr}
theorem mZ {r:R2} {Q:VK} (h:ta σ H fun x H1=>tb σ H1 fun y H2=>r x y H2 Q):tOp r ta tb σ H Q:=h
theorem jg {tr:TA} {Q:List V→Hp→Prop} (h:ta σ H fun x H1=>tr σ H1 fun xs H2=>Q (x::xs) H2):tCons ta tr σ H Q:=h
theorem lg {Q:List V→Hp→Prop} (h:Q [] H):tNil σ H Q:=h
def Yn (Q:VK) (xs:List V) (H1:Hp):Prop:=xs.length≤sizeLine∧∀ p,H1 p=none→Q (.ref p) (upd H1 p (.tup xs))
def Yo (Q:VK) (xs:List V) (H1:Hp):Prop:=xs.length≤sizeLine∧∀ p,H1 p=none→Q (.ref p) (upd H1 p (.lst xs))
theorem tO {ta:TA} {Q:VK} (h:ta σ H (Yn Q)):tTup ta σ H Q:=h
theorem pC {ta:TA} {Q:VK} (h:ta σ H (Yo Q)):tLst ta σ H Q:=h
theorem Ba {r:List V→Hp→VK→Prop} {ta:TA} {Q:VK} (h:ta σ H fun vs H1=>r vs H1 Q):tCB r ta σ H Q:=h
theorem jA {sp:Sp} {dvs:List V} {E:XK} {ta:TA} {Q:VK} (h:ta σ H fun vs H1=>sp (vs++dvs) H1 Q E):tCall sp dvs E ta σ H Q:=h
theorem sO {Q:Bool→Hp→Prop} (h:t σ H fun x H'=>∃ k,x=.bl k∧Q k H'):tTest t σ H Q:=h
theorem Bb {Q:Bool→Hp→Prop} (h:t σ H fun x H'=>∃ k,x=.bl k∧Q k H'):tB t σ H Q:=h
theorem uL {Q:VK} (h:ta σ H fun x H1=>∃ c,x=.bl c∧if c=true then tb σ H1 Q else Q (.bl false) H1):tAndV ta tb σ H Q:=h
theorem QC {Q:VK} (h:ta σ H fun x H1=>∃ c,x=.bl c∧if c=true then Q (.bl true) H1 else tb σ H1 Q):tOrV ta tb σ H Q:=h
theorem T_ {c:TT} {Q:VK} (h:c σ H fun b H1=>if b=true then ta σ H1 Q else tb σ H1 Q):tIf c ta tb σ H Q:=h
theorem jd {t u:TS} {D:Ends} (h:t { D with nx:=u D } σ H):tSeq t u D σ H:=h
theorem jX {D:Ends} (h:D.nx σ H):tNext D σ H:=h
theorem oM {D:Ends} (h:t σ H fun _ H1=>D.nx σ H1):tDrop t D σ H:=h
theorem jT {D:Ends} (h:t σ H D.rt):tRet t D σ H:=h
theorem qF {c:TT} {t u:TS} {D:Ends} (h:c σ H fun b H1=>if b=true then t D σ H1 else u D σ H1):tIfS c t u D σ H:=h
theorem jU {g:TG} {D:Ends} (h:t σ H fun x H1=>g x σ H1 D.nx):tAsg t g D σ H:=h
theorem yj {i:Nat} {Q:L2.St→Hp→Prop} (h:Q (σ.set i (some v)) H):gName i v σ H Q:=h
theorem KN {K:iV} {n:Nat} {t:TGs} {a:Addr} {us:List V} {Q:L2.St→Hp→Prop} (r:Rd H a (.tup us)) (hn:us.length=n) (h:t us σ H Q):gTup K n t (.ref a) σ H Q:=⟨a,us,rfl,.inl r,hn,h⟩
theorem qG {t:TG} {u:TGs} {vs:List V} {Q:L2.St→Hp→Prop} (h:t v σ H fun σ' H'=>u vs σ' H' Q):gCons t u (v::vs) σ H Q:=⟨v,vs,rfl,h⟩
theorem G_ {Q:L2.St→Hp→Prop} (h:Q σ H):gNil [] σ H Q:=⟨rfl,h⟩
theorem DQ {to ti:TE} {t:TSet} {Q:L2.St→Hp→Prop} (h:to σ H fun o H1=>ti σ H1 fun i H2=>t o i v H2 fun H3=>Q σ H3):gSub to ti t v σ H Q:=h
theorem xV {K:iV} {T:String} {r:V→List V→Hp→VK→Prop} {to:TE} {t:TA} {Q:VK} (h:to σ H fun x H1=>tyV K T x H1∧t σ H1 fun xs H2=>r x xs H2 Q):tBM K T r to t σ H Q:=h
theorem ty_list {K:iV} {p:Addr} {us:List V} (h:Rd H p (.lst us)):tyV K "list" (.ref p) H:=.inl ⟨rfl, us, .inl h⟩
theorem Wo {r:V→Option Int→Option Int→Hp→VK→Prop} {te:TE} {tl th:TO} {Q:VK} (h:te σ H fun x H1=>tl σ H1 fun l H2=>th σ H2 fun u H3=>r x l u H3 Q):tSl r te tl th σ H Q:=h
theorem Qx.go {t:TO} {o:Option Int} (h:Qx t σ H o) {Q:Option Int→Hp→Prop} (q:Q o H):t σ H Q:=h Q q
theorem nO {vs:List V} (hl:vs.length≤1000) (w:Wf c H) {Q:VK} (q:∀ p c' H',Step [] c H c' H'→c' p=none→H' p=some (.tup vs)→H p=none→Q (.ref p) H'):Yn Q vs H :=
 ⟨Nat.le_trans hl iW,fun p n=>q p (setC c p none) _ (Step.new w n fun r e=>by cases e) m7 j8 n⟩
theorem lW {vs:List V} (hl:vs.length≤1000) (w:Wf c H) {Q:VK} (q:∀ p c' H',Step [] c H c' H'→c' p=some p→H' p=some (.lst vs)→H p=none→Q (.ref p) H'):Yo Q vs H :=
 ⟨Nat.le_trans hl iW,fun p n=>q p (setC c p (some p)) _ (Step.new w n fun r e=>by cases e; exact .inl rfl) m7 j8 n⟩
theorem DR {vs:List V} (w:Wf c H) {Q:VK} (q:∀ p c' H',Step [] c H c' H'→c' p=some p→H' p=some (.lst vs)→H p=none→Q (.ref p) H'):∀ p,H p=none→Q (.ref p) (upd H p (.lst vs)) :=
 fun p n=>q p (setC c p (some p)) _ (Step.new w n fun r e=>by cases e; exact .inl rfl) m7 j8 n
section
variable {α:Type} [DecidableEq α] {A:Ty α} {p:Addr} {us:List V} {xs:List α} {a:α} {u:V}
theorem mW (o:Own A H0 c H p us xs) (w:Wf c H) (r:A.r c H u a) (hl:xs.length<sizeLine) {Q:VK} (q:∀ H',Step [p] c H c H'→Own A H0 c H' p (us++[u]) (xs++[a])→Q .non H'):rAppend (.ref p) [u] H Q:=by
 have st:Step [p] c H c (upd H p (.lst (us++[u]))):=Step.mut w o.obj o.col
 exact ⟨p,us,u,rfl,rfl,o.obj,by rw [o.rs.len]; exact hl,q _ st ⟨o.col,j8,(o.rs.up st.up).app ⟨A.up st.up r,trivial⟩,o.new⟩⟩
theorem Oe (o:Own A H0 c H p us xs) (w:Wf c H) (r:A.r c H u a) {i:Int} {j:Nat} (hi:ixN xs.length i=some j) {Q:Hp→Prop} (q:∀ H',Step [p] c H c H'→Own A H0 c H' p (us.set j u) (xs.set j a)→Q H'):rSetL (.ref p) (.int i) u H Q:=by
 have st:Step [p] c H c (upd H p (.lst (us.set j u))):=Step.mut w o.obj o.col
 exact ⟨p,us,i,j,rfl,rfl,o.obj,by rw [o.rs.len]; exact hi,q _ st ⟨o.col,j8,(o.rs.up st.up).set (A.up st.up r) j,o.new⟩⟩
theorem JH {K:iV} {lo hi:Option Int} (hx:rB K A c H v xs) (w:Wf c H) (n0:∀ p,H p=none→H0 p=none) {Q:VK}
  (q:∀ p us' c' H',H p=none→Step [] c H c' H'→Own A H0 c' H' p us' ((xs.drop (HT.sIx xs.length 0 lo)).take (HT.sIx xs.length xs.length hi - HT.sIx xs.length 0 lo))→Q (.ref p) H'):rSlL K v lo hi H Q:=by
 obtain ⟨a,us,rfl,h,r⟩:=hx
 refine ⟨a,us,rfl,h,DR w fun p c' H' st cp hp np=>q p _ c' H' np st ⟨cp,hp,?_,n0 p np⟩⟩
 unfold cutV
 rw [r.len]
 exact ((r.up st.up).drop _).take _
def Jd (K:iV):List V→Hp→VK→Prop:=fun xs H Q=>∃ p ys,xs=[V.ref p]∧(SqL K H p ys∨SqT K H p ys)∧∀ l,H l=none→Q (.ref l) (upd H l (.lst ys))
theorem Ae {X:Cx}:CallR X (.type "list") (Jd X.K):=call_list_of
theorem tQ {K:iV} (hx:rB K A c H v xs) (w:Wf c H) (n0:∀ p,H p=none→H0 p=none) {Q:VK} (q:∀ p us' c' H',H p=none→Step [] c H c' H'→Own A H0 c' H' p us' xs→Q (.ref p) H') :
  Jd K [v] H Q:=by
 obtain ⟨a,us,rfl,h,r⟩:=hx
 exact ⟨a,us,rfl,.inl h,DR w fun p c' H' st cp hp np=>q p _ c' H' np st ⟨cp,hp,r.up st.up,n0 p np⟩⟩
def yX {α:Type} (xs:List α) (lo hi:Option Int):List α:=(xs.drop (HT.sIx xs.length 0 lo)).take (HT.sIx xs.length xs.length hi - HT.sIx xs.length 0 lo)
theorem Og {ys:List α} {x y:V} {a b:Addr} {us vs:List V} (ex:x=.ref a) (ey:y=.ref b) (hx:H a=some (.lst us)) (rx:Rs A c H us xs) (hy:H b=some (.lst vs)) (ry:Rs A c H vs ys) (w:Wf c H) (n0:∀ p,H p=none→H0 p=none) (hl:xs.length+ys.length≤sizeLine) {Q:VK}
  (q:∀ p us' c' H',H p=none→Step [] c H c' H'→Own A H0 c' H' p us' (xs++ys)→Q (.ref p) H'):rCat x y H Q:=by
 subst ex ey
 exact ⟨a,b,us,vs,rfl,rfl,hx,hy,by rw [rx.len,ry.len]; exact hl,DR w fun p c' H' st cp hp np=>q p _ c' H' np st ⟨cp,hp,(rx.up st.up).app (ry.up st.up),n0 p np⟩⟩
end
end
section
variable {β τ α:Type} [DecidableEq α] {A:Ty α} {P:β→Cl→Hp→Prop} {PE:Err→Cl→Hp→Prop} {S:List Addr} {c0 c:Cl} {H0 H:Hp} {σ:L2.St} {g:TG} {tb:TS} {D:Ends} {K:iV} {a:Addr} {us:List V} {xs:List α} {s0:τ}
theorem Kont.turn {m:Res τ} {f:τ→Res β} (k:Kont P PE S c0 H0 (m.bind f)):Kont (fun s _ _=>Kont P PE S c0 H0 (f s)) PE S c0 H0 m:=by
 cases m with
 | ok x=>exact fun _ _ _=>k
 | err e=>exact k
 | stk=>exact k.elim
theorem drop_at {l:List α} {i:Nat} {x:α} (h:l[i]?=some x):l.drop i=x::l.drop (i+1):=by
 obtain ⟨hi,e⟩:=uF.mp h
 rw [List.drop_eq_getElem_cons hi,e]
theorem Ua {f:τ→α→Res τ} {rest:τ→Res β} (k:Kont P PE S c0 H0 ((qU xs s0 f).bind rest)) (I:τ→Cl→Hp→L2.St→Prop) (h0:I s0 c H σ) (hl:∀ s c H σ,I s c H σ→SqL K H a us∧Rs A c H us xs)
  (hb:∀ s x v c H σ (N:L2.St→Hp→Prop),I s c H σ→A.r c H v x→Kont (fun s' c' H'=>∀ σ',I s' c' H' σ'→N σ' H') PE S c0 H0 (f s x)→g v σ H fun σ2 H2=>tb { D with nx:=N,ct:=N,bk:=D.nx } σ2 H2)
  (hd:∀ s c H σ,I s c H σ→Kont P PE S c0 H0 (rest s)→D.nx σ H) :
  ∃ W:Nat→Nat→L2.St→Hp→Prop,(∃ m,W 0 m σ H)∧∀ i m σ H,W i m σ H →
   ((Itl K a).stop i H∧D.nx σ H)∨((Itl K a).go i H∧∃ N:L2.St→Hp→Prop,(∀ σ' H',N σ' H'→∃ m',m'<m∧W (i+1) m' σ' H')∧∀ x H',(Itl K a).yld i H x H'→g x σ H' fun σ2 H2=>tb { D with nx:=N,ct:=N,bk:=D.nx } σ2 H2):=by
 refine for_list (K:=K) (a:=a) (xs:=us) (fun i σ H=>∃ s c,I s c H σ∧Kont P PE S c0 H0 ((qU (xs.drop i) s f).bind rest)) ⟨s0,c,h0,k⟩ (fun i σ H _ ⟨s,c,h,_⟩=>(hl s c H σ h).1) ?_ ?_
 ·rintro i v σ1 H1 hi ⟨s,c1,h,k1⟩
  obtain ⟨_,r⟩:=hl s c1 H1 σ1 h
  obtain ⟨x,hx,rx⟩:=r.get hi
  rw [drop_at hx,pZ,bind_assoc] at k1
  refine hb s x v c1 H1 σ1 _ h rx (k1.turn.imp (fun s' c' H' st q σ' h'=>⟨s',c',h',q⟩) fun _ _ _ _ q=>q)
 ·rintro σ1 H1 ⟨s,c1,h,k1⟩
  obtain ⟨_,r⟩:=hl s c1 H1 σ1 h
  rw [List.drop_eq_nil_of_le (by rw [r.len]; exact lD _)] at k1
  exact hd s c1 H1 σ1 h k1
theorem Ub {ρ:Type} {f:τ→α→Res (Ja τ ρ)} {rest:Ja τ ρ→Res β} {Rr:Cl→Hp→V→ρ→Prop} (k:Kont P PE S c0 H0 ((forR xs s0 f).bind rest)) (I:τ→Cl→Hp→L2.St→Prop) (h0:I s0 c H σ) (hl:∀ s c H σ,I s c H σ→SqL K H a us∧Rs A c H us xs)
  (hb:∀ s x v c H σ (N:L2.St→Hp→Prop),I s c H σ→A.r c H v x→Kont (fun y c' H'=>match y with | .nx s'=>∀ σ',I s' c' H' σ'→N σ' H' | .ret r=>∀ v,Rr c' H' v r→D.rt v H') PE S c0 H0 (f s x)→g v σ H fun σ2 H2=>tb { D with nx:=N,ct:=N,bk:=D.nx } σ2 H2)
  (hr:∀ r,Kont P PE S c0 H0 (rest (.ret r))→∀ c H,Step S c0 H0 c H→∀ v,Rr c H v r→D.rt v H)
  (hd:∀ s c H σ,I s c H σ→Kont P PE S c0 H0 (rest (.nx s))→D.nx σ H) :
  ∃ W:Nat→Nat→L2.St→Hp→Prop,(∃ m,W 0 m σ H)∧∀ i m σ H,W i m σ H →
   ((Itl K a).stop i H∧D.nx σ H)∨((Itl K a).go i H∧∃ N:L2.St→Hp→Prop,(∀ σ' H',N σ' H'→∃ m',m'<m∧W (i+1) m' σ' H')∧∀ x H',(Itl K a).yld i H x H'→g x σ H' fun σ2 H2=>tb { D with nx:=N,ct:=N,bk:=D.nx } σ2 H2):=by
 refine for_list (K:=K) (a:=a) (xs:=us) (fun i σ H=>∃ s c,I s c H σ∧Kont P PE S c0 H0 ((forR (xs.drop i) s f).bind rest)) ⟨s0,c,h0,k⟩ (fun i σ H _ ⟨s,c,h,_⟩=>(hl s c H σ h).1) ?_ ?_
 ·rintro i v σ1 H1 hi ⟨s,c1,h,k1⟩
  obtain ⟨_,r⟩:=hl s c1 H1 σ1 h
  obtain ⟨x,hx,rx⟩:=r.get hi
  rw [drop_at hx,tD,bind_assoc] at k1
  refine hb s x v c1 H1 σ1 _ h rx (k1.turn.imp (fun y c' H' st q=>?_) fun _ _ _ _ q=>q)
  cases y with
  | nx s'=>exact fun σ' h'=>⟨s',c',h',q⟩
  | ret r'=>exact fun v hv=>hr r' q c' H' st v hv
 ·rintro σ1 H1 ⟨s,c1,h,k1⟩
  obtain ⟨_,r⟩:=hl s c1 H1 σ1 h
  rw [List.drop_eq_nil_of_le (by rw [r.len]; exact lD _)] at k1
  exact hd s c1 H1 σ1 h k1
def rng (lo:Int):Nat→List Int
 | 0=>[]
 | n+1=>lo::rng (lo+1) n
theorem oN:∀ (n:Nat) (lo:Int),(rng lo n).length=n
 | 0,_=>rfl
 | n+1,lo=>by show (rng (lo+1) n).length+1=n+1; rw [oN n]
theorem Af:∀ (n:Nat) (lo:Int) (i:Nat),i<n→(rng lo n)[i]?=some (lo+i)
 | 0,_,i,h=>absurd h (Nat.not_lt_zero _)
 | n+1,lo,0,_=>by show some lo=some (lo+((0:Nat):Int)); simp
 | n+1,lo,i+1,h=>by
  show (rng (lo+1) n)[i]?=some (lo+((i+1:Nat):Int))
  rw [Af n (lo+1) i (Nat.lt_of_succ_lt_succ h)]
  congr 1
  omega
theorem DW {lo:Int} {n:Nat} {f:τ→Int→Res τ} {rest:τ→Res β} (k:Kont P PE S c0 H0 ((qU (rng lo n) s0 f).bind rest)) (I:τ→Cl→Hp→L2.St→Prop) (h0:I s0 c H σ)
  (hb:∀ s x c H σ (N:L2.St→Hp→Prop),I s c H σ→Kont (fun s' c' H'=>∀ σ',I s' c' H' σ'→N σ' H') PE S c0 H0 (f s x)→g (.int x) σ H fun σ2 H2=>tb { D with nx:=N,ct:=N,bk:=D.nx } σ2 H2)
  (hd:∀ s c H σ,I s c H σ→Kont P PE S c0 H0 (rest s)→D.nx σ H) :
  ∃ W:Nat→Nat→L2.St→Hp→Prop,(∃ m,W 0 m σ H)∧∀ i m σ H,W i m σ H →
   ((Itr lo n).stop i H∧D.nx σ H)∨((Itr lo n).go i H∧∃ N:L2.St→Hp→Prop,(∀ σ' H',N σ' H'→∃ m',m'<m∧W (i+1) m' σ' H')∧∀ x H',(Itr lo n).yld i H x H'→g x σ H' fun σ2 H2=>tb { D with nx:=N,ct:=N,bk:=D.nx } σ2 H2):=by
 refine for_range (lo:=lo) (n:=n) (fun i σ H=>∃ s c,I s c H σ∧Kont P PE S c0 H0 ((qU ((rng lo n).drop i) s f).bind rest)) ⟨s0,c,h0,k⟩ ?_ ?_
 ·rintro i σ1 H1 hi ⟨s,c1,h,k1⟩
  rw [drop_at (Af n lo i hi),pZ,bind_assoc] at k1
  exact hb s _ c1 H1 σ1 _ h (k1.turn.imp (fun s' c' H' st q σ' h'=>⟨s',c',h',q⟩) fun _ _ _ _ q=>q)
 ·rintro σ1 H1 ⟨s,c1,h,k1⟩
  rw [List.drop_eq_nil_of_le (by rw [oN]; exact lD _)] at k1
  exact hd s c1 H1 σ1 h k1
theorem DY {ρ:Type} {lo:Int} {n:Nat} {f:τ→Int→Res (Ja τ ρ)} {rest:Ja τ ρ→Res β} {Rr:Cl→Hp→V→ρ→Prop} (k:Kont P PE S c0 H0 ((forR (rng lo n) s0 f).bind rest)) (I:τ→Cl→Hp→L2.St→Prop) (h0:I s0 c H σ)
  (hb:∀ s x c H σ (N:L2.St→Hp→Prop),I s c H σ→Kont (fun y c' H'=>match y with | .nx s'=>∀ σ',I s' c' H' σ'→N σ' H' | .ret r=>∀ v,Rr c' H' v r→D.rt v H') PE S c0 H0 (f s x)→g (.int x) σ H fun σ2 H2=>tb { D with nx:=N,ct:=N,bk:=D.nx } σ2 H2)
  (hr:∀ r,Kont P PE S c0 H0 (rest (.ret r))→∀ c H,Step S c0 H0 c H→∀ v,Rr c H v r→D.rt v H)
  (hd:∀ s c H σ,I s c H σ→Kont P PE S c0 H0 (rest (.nx s))→D.nx σ H) :
  ∃ W:Nat→Nat→L2.St→Hp→Prop,(∃ m,W 0 m σ H)∧∀ i m σ H,W i m σ H →
   ((Itr lo n).stop i H∧D.nx σ H)∨((Itr lo n).go i H∧∃ N:L2.St→Hp→Prop,(∀ σ' H',N σ' H'→∃ m',m'<m∧W (i+1) m' σ' H')∧∀ x H',(Itr lo n).yld i H x H'→g x σ H' fun σ2 H2=>tb { D with nx:=N,ct:=N,bk:=D.nx } σ2 H2):=by
 refine for_range (lo:=lo) (n:=n) (fun i σ H=>∃ s c,I s c H σ∧Kont P PE S c0 H0 ((forR ((rng lo n).drop i) s f).bind rest)) ⟨s0,c,h0,k⟩ ?_ ?_
 ·rintro i σ1 H1 hi ⟨s,c1,h,k1⟩
  rw [drop_at (Af n lo i hi),tD,bind_assoc] at k1
  refine hb s _ c1 H1 σ1 _ h (k1.turn.imp (fun y c' H' st q=>?_) fun _ _ _ _ q=>q)
  cases y with
  | nx s'=>exact fun σ' h'=>⟨s',c',h',q⟩
  | ret r'=>exact fun v hv=>hr r' q c' H' st v hv
 ·rintro σ1 H1 ⟨s,c1,h,k1⟩
  rw [List.drop_eq_nil_of_le (by rw [oN]; exact lD _)] at k1
  exact hd s c1 H1 σ1 h k1
end
section
variable {γ β α:Type} [DecidableEq α] [DecidableEq β] {A:Ty α} {B:Ty β} {P:γ→Cl→Hp→Prop} {PE:Err→Cl→Hp→Prop} {S:List Addr} {c0 c:Cl} {H0 H:Hp} {σ:L2.St} {g:TG} {te:TE} {K:iV} {a:Addr} {us:List V} {xs:List α}
theorem KQ {te:TE} {σ:L2.St} {H:Hp} {Q:VK} {Qn:Hp→Prop} (h:te σ H Q):tYes σ H fun b H3=>if b=true then te σ H3 Q else Qn H3:=by
 show (if true=true then te σ H Q else Qn H)
 rw [if_pos rfl]
 exact h
theorem Hf {x:α} {xs:List α} {f:α→Res β}:vN (x::xs) f=(nx (f x)).bind fun y=>(vN xs f).bind fun ys=>.ok (y::ys):=rfl
structure Acc (B:Ty β) (H0:Hp) (c:Cl) (H:Hp) (ci:Cl) (Hi:Hp) (d:Addr) (vs:List V) (ys:List β):Prop where
 st:Step [] c H ci Hi
 own:Own B H0 ci Hi d vs ys
theorem Acc.start (w:Wf c H) {d:Addr} (n:H d=none) (n0:H0 d=none):Acc B H0 c H (setC c d (some d)) (upd H d (.lst [])) d [] [] :=
 ⟨Step.new w n fun r e=>by cases e; exact .inl rfl,⟨m7,j8,trivial,n0⟩⟩
theorem Acc.push {ci Uc:Cl} {Hi Ud:Hp} {d:Addr} {vs:List V} {ys:List β} {u:V} {y:β} (h:Acc B H0 c H ci Hi d vs ys) (n:H d=none) (st:Step [] ci Hi Uc Ud) (r:B.r Uc Ud u y):Acc B H0 c H Uc (upd Ud d (.lst (vs++[u]))) d (vs++[u]) (ys++[y]):=by
 have o:=h.own.step0 st
 have m:Step [d] Uc Ud Uc (upd Ud d (.lst (vs++[u]))):=Step.mut st.wf o.obj o.col
 exact ⟨(h.st.pB st).tr1 m (.inr n),⟨o.col,j8,(o.rs.up m.up).app ⟨B.up m.up r,trivial⟩,o.new⟩⟩
end
end Kb
namespace Kb
open PySem L2 PyProof.Rows PyProof.Rows.G
abbrev SK:=List (Int ⊕ List Nat)
def Rk (a b:SK):Bool:=lexLt itemOrd a b
def yW (a b:SK):Bool:=!Rk b a
def itemV:V→Option (Int ⊕ List Nat)
 | .int i=>some (.inl i)
 | .str x=>some (.inr x.cps.toList)
 | _=>none
def Yp:V→Bool
 | .str _=>true
 | _=>false
def keyV:List V→Option SK
 | []=>some []
 | v::vs=>(itemV v).bind fun a=>(keyV vs).map (a::·)
section
variable {X:Cx}
theorem Je {h:Heap} {sh:Nat→Bool}:∀ {its:List Value},(∀ u∈its,∃ f,TupOf h sh u f)→∃ fs,TupsOf h sh its fs
 | [],_=>⟨[],.nil⟩
 | u::its,q=>by
  obtain ⟨f,t⟩:=q u kE
  obtain ⟨fs,r⟩:=Je fun v hv=>q v (lQ _ hv)
  exact ⟨f::fs,.cons t r⟩
end
structure Rm {α:Type} [DecidableEq α] (A:Ty α) (key:α→SK) (sh:Nat→Bool):Prop where
 ok:∀ {c H v x},A.r c H v x→∃ t ws,v=V.ref t∧Rd H t (.tup ws)∧ws≠[]∧keyV ws=some (key x)∧∀ j v,ws[j]?=some v→Yp v=sh j
 inj:∀ x y,key x=key y→x=y
def JK {α:Type} (key:α→SK) (x:α):List α→List α
 | []=>[x]
 | y::ys=>if yW (key x) (key y)=true then x::y::ys else y::JK key x ys
def wA {α:Type} (key:α→SK):List α→List α
 | []=>[]
 | x::xs=>JK key x (wA key xs)
theorem le_refl' (a:SK):yW a a=true:=by
 have z:lexLt itemOrd a a=false:=(listOrd itemOrd).irrefl a
 unfold yW Rk
 rw [z]; rfl
theorem le_trans' {a b c:SK} (h1:yW a b=true) (h2:yW b c=true):yW a c=true:=by
 have e:∀ {x y:SK},yW x y=true→(listOrd itemOrd).kle x y:=fun {x y} h=>by
  unfold yW Rk at h
  show lexLt itemOrd y x=false
  simpa using h
 have z:lexLt itemOrd c a=false:=KeyOrd.kle_trans (O:=listOrd itemOrd) (e h1) (e h2)
 unfold yW Rk
 rw [z]; rfl
theorem le_total' (a b:SK):yW a b=true∨yW b a=true:=by
 unfold yW Rk
 cases h:lexLt itemOrd b a with
 | false=>exact .inl rfl
 | true =>
  refine .inr ?_
  have z:(listOrd itemOrd).kle b a:=KeyOrd.kle_of_klt (O:=listOrd itemOrd) h
  have z':lexLt itemOrd a b=false:=z
  rw [z']; rfl
theorem KR {a b:SK} (h1:yW a b=true) (h2:yW b a=true):a=b:=by
 unfold yW Rk at h1 h2
 exact (listOrd itemOrd).total a b (by simpa using h2) (by simpa using h1)
theorem yZ {α:Type} {key:α→SK} {x:α}:∀ l:List α,(JK key x l).Perm (x::l)
 | []=>.refl _
 | y::ys=>by
  unfold JK
  split
  ·exact .refl _
  exact ((yZ ys).cons y).trans (.swap x y ys)
theorem vq {α:Type} {key:α→SK}:∀ l:List α,(wA key l).Perm l
 | []=>.refl _
 | x::xs=>(yZ _).trans ((vq xs).cons x)
theorem zJ {α:Type} {key:α→SK} {x:α}:∀ {l:List α},l.Pairwise (fun a b=>yW (key a) (key b)=true)→(JK key x l).Pairwise (fun a b=>yW (key a) (key b)=true)
 | [],_=>List.pairwise_singleton _ _
 | y::ys,h=>by
  obtain ⟨h1,h2⟩:=uH.mp h
  unfold JK
  split
  ·rename_i c
   refine uH.mpr ⟨fun z hz=>?_,h⟩
   rcases lA.mp hz with rfl | hz
   ·exact c
   exact le_trans' c (h1 z hz)
  rename_i c
  refine uH.mpr ⟨fun z hz=>?_,zJ h2⟩
  have hz':=(yZ ys).mem_iff.mp hz
  rcases lA.mp hz' with rfl | hz'
  ·exact (le_total' _ _).resolve_left c
  exact h1 z hz'
theorem yq {α:Type} {key:α→SK}:∀ l:List α,(wA key l).Pairwise (fun a b=>yW (key a) (key b)=true)
 | []=>.nil
 | x::xs=>zJ (yq xs)
theorem zK {α:Type} {key:α→SK} (inj:∀ x y,key x=key y→x=y):∀ {l m:List α},l.Pairwise (fun a b=>yW (key a) (key b)=true)→m.Pairwise (fun a b=>yW (key a) (key b)=true)→l.Perm m→l=m
 | [],m,_,_,p=>(List.Perm.nil_eq p)
 | x::l,[],_,_,p=>by have z:=p.length_eq; simp at z
 | x::l,y::m,h1,h2,p=>by
  obtain ⟨a1,a2⟩:=uH.mp h1
  obtain ⟨b1,b2⟩:=uH.mp h2
  have hx:yW (key x) (key y)=true:=by
   have hm:y∈x::l:=p.mem_iff.mpr kE
   rcases lA.mp hm with e | hm
   ·rw [e]; exact le_refl' _
   exact a1 y hm
  have hy:yW (key y) (key x)=true:=by
   have hm:x∈y::m:=p.mem_iff.mp kE
   rcases lA.mp hm with e | hm
   ·rw [e]; exact le_refl' _
   exact b1 x hm
  have e:x=y:=inj _ _ (KR hx hy)
  subst e
  rw [zK inj a2 b2 (List.Perm.cons_inv p)]
end Kb
namespace Kb
open PySem L2
def Ue (K:iV) (a:Addr) (cls:Value) (d:Option Addr):List V→Hp→VK→Prop:=fun xs H Q=>∃ (D:Addr) (c:V) (cv:Value) (b:Bool),cls=.ref D∧d=none∧ExcC K D∧xs=[.ref a,c]∧(∀ u,RelV c u→u=cv)∧PySem.W.kitOne K (.ref D) cv=some b∧Q (.bl b) H
theorem Fo {X:Cx} {a:Addr} {cls:Value} {d:Option Addr} {oe:Obj} {pn:List (Addr×Obj)} (hz:Zc cls d oe) (hf:∃ vs, oe.data=.fields vs):CallR (X.suite a ((a, oe)::pn)) (.builtin "isinstance") (Ue X.K a cls d):=by
 intro pins s σ H xs us Q I r h
 obtain ⟨D,c,cv,b,rfl,rfl,C,e1,h1,h2,q⟩:=h
 exact call_isE C hz hf pins s σ H xs us Q I r ⟨c,cv,b,e1,h1,h2,q⟩
theorem D_ {K:iV} {a:Addr} {D:Addr} {H:Hp} {c:V} {cv:Value} {b:Bool} (C:ExcC K D) (hk:PySem.W.kitOne K (.ref D) cv=some b) (hc:∀ u,RelV c u→u=cv:=by intro u h; exact h):Rc (Ue K a (.ref D) none) [.ref a,c] H (.bl b):=fun _ q=>⟨D,c,cv,b,rfl,rfl,C,rfl,hc,hk,q⟩
structure KY (K:iV) (mg:Str→Option Value) (x:Str) (C:Addr) (tail:List Value):Prop where
 g:mg x=some (.ref C)
 ex:PySem.W.excIn K C tail "ValueError.__new__" = true
 kp:PySem.W.keepIn K (.ref C)=true
 sub:PySem.W.subIn K (.ref C) (.type "BaseException")=some true
 ty:PySem.W.typeIn K (.ref C)=some (.type "type")
 ec:ExcC K C
theorem KY.raises {X:Cx} {x:Str} {C:Addr} {tail:List Value} (e:KY X.K X.mg x C tail):Raises X (.ref C):=raises_own e.sub e.ty
structure Df (K:iV) (mg:Str→Option Value) (x:Str) (st:Stmt) (f:Addr) (fd:FuncData) (ps:List Str):Prop where
 F:Fun K x x st f fd
 g:mg x=some (.ref f)
 b:Binds K fd ps []
theorem lift {α:Type} [DecidableEq α] {A:Ty α} {c c':Cl} {H H':Hp} {T:List Addr} {v:V} {x:α} (h:A.r c H v x) (st:Step T c H c' H'):A.r c' H' v x:=A.up st.up h
theorem KZ {α:Type} [DecidableEq α] {A:Ty α} {c:Cl} {H:Hp} {p:Addr} {v:V} {x:α} (h:A.r c H v x):A.r (frz c p) H v x:=A.up qD h
structure K6 {α:Type} [DecidableEq α] (A:Ty α) (c:Cl) (H:Hp) (a:Addr) (us:List V) (xs:List α):Prop where
 col:c a=none
 obj:H a=some (.lst us)
 rs:Rs A c H us xs
section
variable {α:Type} [DecidableEq α] {A:Ty α} {c c' c0:Cl} {H H' H0:Hp} {S T:List Addr} {p a:Addr} {us:List V} {xs:List α} {v x y:V} {σ:L2.St} {t ta tb:TE}
theorem K6.lift (h:K6 A c H a us xs) (st:Step T c H c' H'):K6 A c' H' a us xs:=⟨st.up.col a _ h.obj h.col,st.up.obj a _ h.obj h.col,h.rs.up st.up⟩
theorem K6.rd {K:iV} (h:K6 A c H a us xs):SqL K H a us:=.inl (.inl h.obj)
theorem K6.b {K:iV} (h:K6 A c H a us xs):rB K A c H (.ref a) xs:=⟨a,us,rfl,.inl (.inl h.obj),h.rs⟩
theorem K6.pl (h:K6 A c H a us xs):rP A c H (.ref a) xs:=⟨a,us,rfl,h.obj,h.rs⟩
theorem K6.ty (h:K6 A c H a us xs):(uK A).r c H (.ref a) xs:=⟨a,us,rfl,h.col,h.obj,h.rs⟩
structure Bl (K:iV) (A:Ty α) (c0:Cl) (H0:Hp) (a:Addr) (us:List V) (xs:List α):Prop where
 rd:SqL K H0 a us
 rs:Rs A c0 H0 us xs
theorem Bl.b {K:iV} (h:Bl K A c H a us xs):rB K A c H (.ref a) xs:=⟨a,us,rfl,h.rd,h.rs⟩
theorem Bl.at {K:iV} (h:Bl K A c0 H0 a us xs) (g:Step [] c0 H0 c H):Bl K A c H a us xs:=by
 exact ⟨g.Ym h.rd,h.rs.up g.up⟩
theorem tR {K:iV} {i:Int} {z:α} (h:rB K A c H v xs) (e:atI xs i=some z):∃ u,A.r c H u z∧Rv (rIxL K) v (.int i) H u:=by
 obtain ⟨a,us,rfl,q,r⟩:=h
 obtain ⟨u,e1,ru⟩:=r.at e
 exact ⟨u,ru,fun _ z=>⟨a,us,i,u,rfl,rfl,q,e1,z⟩⟩
theorem Ug {K:iV} (h:rB K A c H v xs) (hv:Pv t σ H v):Pv (tCB (fun xs H Q=>∃ p ys,xs=[.ref p]∧(SqL K H p ys∨SqT K H p ys)∧Q (.int ys.length) H) (tCons t tNil)) σ H (.int xs.length):=uV (iQ hv jm) (N_ h)
theorem iY {a:L2.St→Hp→Prop} {b:VK} {cc d:L2.St→Hp→Prop} (h:a σ H):Ends.nx ⟨a,b,cc,d⟩ σ H:=h
theorem wB {wi:TI} {g:TG} {tb:TS} {D:Ends} (h:wi σ H fun J H1=>∃ W:Nat→Nat→L2.St→Hp→Prop,(∃ m,W 0 m σ H1)∧∀ i m σ H,W i m σ H →
 (J.stop i H∧D.nx σ H)∨(J.go i H∧∃ N:L2.St→Hp→Prop,(∀ σ' H',N σ' H'→∃ m',m'<m∧W (i+1) m' σ' H')∧∀ x H',J.yld i H x H'→g x σ H' fun σ2 H2=>tb { D with nx:=N,ct:=N,bk:=D.nx } σ2 H2)):tFor wi g tb D σ H:=h
def Yq (K:iV) (R:It→Hp→Prop) (x:V) (H1:Hp):Prop:=∃ a,x=.ref a∧(∃ xs,SqL K H1 a xs)∧R (Itl K a) H1
theorem yr {K:iV} {tl:TE} {R:It→Hp→Prop} (h:tl σ H (Yq K R)):iList K tl σ H R:=h
theorem yt {K:iV} {R:It→Hp→Prop} (hr:SqL K H a us) (q:R (Itl K a) H):Yq K R (V.ref a) H:=⟨a,rfl,⟨us,hr⟩,q⟩
def Uh (R:It→Hp→Prop) (vs:List V) (H1:Hp):Prop:=∃ j:Int,vs=[.int j] ∧ -(2^62)≤j∧j<2^62∧R (Itr 0 j.toNat) H1
theorem vA {ta:TA} {R:It→Hp→Prop} (h:ta σ H (Uh R)):iRng1 ta σ H R:=h
def Ui (R:It→Hp→Prop) (vs:List V) (H1:Hp):Prop:=∃ i j:Int,vs=[.int i,.int j]∧(-(2^62)≤i∧i<2^62 ∧ -(2^62)≤j∧j<2^62)∧R (Itr i (j - i).toNat) H1
theorem Oh {ta:TA} {R:It→Hp→Prop} (h:ta σ H (Ui R)):iRng2 ta σ H R:=h
@[irreducible] def sS (i:Int):Bool:=decide (-(2^62)≤i)&&decide (i<2^62)
theorem tE {i:Int} (h:sS i=true) : -(2^62)≤i∧i<2^62:=by
 unfold sS at h
 rw [Bool.and_eq_true] at h
 exact ⟨jQ h.1,jQ h.2⟩
theorem vB {R:It→Hp→Prop} {j:Int} (h:sS j=true) (q:R (Itr 0 j.toNat) H):Uh R [V.int j] H:=⟨j,rfl,(tE h).1,(tE h).2,q⟩
theorem Oi {R:It→Hp→Prop} {i j:Int} (h:sS i=true) (h':sS j=true) (q:R (Itr i (j - i).toNat) H):Ui R [V.int i,V.int j] H:=⟨i,j,rfl,⟨(tE h).1,(tE h).2,(tE h').1,(tE h').2⟩,q⟩
@[irreducible] def xH (a b:Int):Bool:=decide (a.natAbs.log2+b.natAbs.log2<1000000)
theorem Hg {i j:Int} (h:xH i j=true):Rv (rI CMulW fun i j=>.int (i*j)) (.int i) (.int j) H (.int (i*j)):=Fj (C:=CMulW) (g:=fun i j=>.int (i*j)) (show i.natAbs.log2+j.natAbs.log2<1000000 by unfold xH at h; exact jQ h)
@[irreducible] def CQ (b:Int):Bool:=decide (0<b)&&decide (b.natAbs.log2<9000)
theorem Ro {i j:Int} (h:CQ j=true):Rv (rI CDivW fun i j=>.int (i/j)) (.int i) (.int j) H (.int (i/j)):=Fj (C:=CDivW) (g:=fun i j=>.int (i/j)) (by
 unfold CQ at h
 rw [Bool.and_eq_true] at h
 exact ⟨jQ h.1,jQ h.2⟩)
theorem Rp {i j:Int} (h:decide (0<j)=true):Rv (rI (fun _ j=>0<j) fun i j=>.int (i%j)) (.int i) (.int j) H (.int (i%j)):=Fj (C:=fun _ j=>0<j) (g:=fun i j=>.int (i%j)) (jQ h)
theorem Jf {i j:Int} (h:0<j):Rv (rI (fun _ j=>0<j) fun i j=>.int (i%j)) (.int i) (.int j) H (.int (i%j)):=Fj (C:=fun _ j=>0<j) (g:=fun i j=>.int (i%j)) h
theorem za {i j:Int} (h:CPow i j):Rv (rI CPow fun i j=>.int (i^j.toNat)) (.int i) (.int j) H (.int (i^j.toNat)):=Fj (C:=CPow) (g:=fun i j=>.int (i^j.toNat)) h
theorem wC {i:Int} (h:Pv t σ H (.int i)):Pv (tUn (rU fun i=>.int (-i)) t) σ H (.int (-i)):=Wn h fun _ q=>⟨i,rfl,q⟩
theorem Oj {K:iV} (h:rB K A c H v xs) (hv:Pv t σ H v):oG (fun σ H Q=>t σ H fun x H'=>∃ k,TruV K x H' k∧Q k H') σ H (!xs.isEmpty):=by
 obtain ⟨a,us,rfl,q,r⟩:=h
 refine fun Q q1=>hv _ ⟨!xs.isEmpty,.inl ⟨us,q,?_⟩,q1⟩
 have e:=r.len
 cases us<;>cases xs<;>simp_all
theorem wD {β τ:Type} {P:β→Cl→Hp→Prop} {PE:Err→Cl→Hp→Prop} {m:Res τ} {rest:τ→Res β} {cc:TT} {t u:TS} {D:Ends} (k:Kont P PE S c0 H0 (m.bind rest)) (I:τ→Cl→Hp→L2.St→Prop) (kk:∀ s c H σ,I s c H σ→Kont P PE S c0 H0 (rest s)→D.nx σ H)
  (h:Kont (fun s c' H'=>∀ σ',I s c' H' σ'→D.nx σ' H') PE S c0 H0 m→tIfS cc t u D σ H):tIfS cc t u D σ H:=h (k.turn.imp (fun s c H _ q σ i=>kk s c H σ i q) fun _ _ _ _ q=>q)
theorem Own.base {c1:Cl} {H1:Hp} (h:Own A H1 c H p us xs) (g:Step S c0 H0 c1 H1):Own A H0 c H p us xs:=⟨h.col,h.obj,h.rs,g.fresh h.new⟩
theorem oG.K7 {cc:TT} {t u:TS} {D:Ends} {b:Bool} (h:oG cc σ H b) (ht:b=true→t D σ H) (hf:b=false→u D σ H):tIfS cc t u D σ H:=h _ (by
 cases b with
 | true=>exact iteT (ht rfl)
 | false=>exact iteF (hf rfl))
theorem jM {b:Bool} {A B:Prop} (ht:b=true→A) (hf:b=false→B):if b=true then A else B:=by
 cases b with
 | true=>exact iteT (ht rfl)
 | false=>exact iteF (hf rfl)
theorem vP {t:TT} {A B:Hp→Prop} (h:t σ H fun c H1=>if c=true then B H1 else A H1):tNot t σ H fun b H1=>if b=true then A H1 else B H1:=by
 show t σ H fun c H1=>if (!c)=true then A H1 else B H1
 have e:(fun (c:Bool) (H1:Hp)=>if (!c)=true then A H1 else B H1)=fun c H1=>if c=true then B H1 else A H1:=by
  funext c H1
  cases c<;>rfl
 rw [e]
 exact h
theorem yu {t u:TT} {A B:Hp→Prop} (h:t σ H fun c H1=>if c=true then (u σ H1 fun b H2=>if b=true then A H2 else B H2) else B H1):tAnd t u σ H fun b H1=>if b=true then A H1 else B H1:=by
 show t σ H fun c H1=>if c=true then (u σ H1 fun b H2=>if b=true then A H2 else B H2) else (if false=true then A H1 else B H1)
 have e:(fun (c:Bool) (H1:Hp)=>if c=true then (u σ H1 fun b H2=>if b=true then A H2 else B H2) else (if false=true then A H1 else B H1))=fun c H1=>if c=true then (u σ H1 fun b H2=>if b=true then A H2 else B H2) else B H1:=by
  funext c H1
  cases c<;>rfl
 rw [e]
 exact h
theorem zf {t u:TT} {A B:Hp→Prop} (h:t σ H fun c H1=>if c=true then A H1 else (u σ H1 fun b H2=>if b=true then A H2 else B H2)):tOr t u σ H fun b H1=>if b=true then A H1 else B H1:=by
 show t σ H fun c H1=>if c=true then (if true=true then A H1 else B H1) else (u σ H1 fun b H2=>if b=true then A H2 else B H2)
 have e:(fun (c:Bool) (H1:Hp)=>if c=true then (if true=true then A H1 else B H1) else (u σ H1 fun b H2=>if b=true then A H2 else B H2))=fun c H1=>if c=true then A H1 else (u σ H1 fun b H2=>if b=true then A H2 else B H2):=by
  funext c H1
  cases c<;>rfl
 rw [e]
 exact h
theorem Uj {ys:List α} (hx:rP A c H v xs) (hy:rP A c H x ys) (w:Wf c H) (n0:∀ p,H p=none→H0 p=none) (hl:xs.length+ys.length≤sizeLine) {Q:VK}
  (q:∀ p us' c' H',H p=none→Step [] c H c' H'→Own A H0 c' H' p us' (xs++ys)→Q (.ref p) H'):rCat v x H Q:=by
 obtain ⟨a,us,rfl,h1,r1⟩:=hx
 obtain ⟨b,vs,rfl,h2,r2⟩:=hy
 exact Og rfl rfl h1 r1 h2 r2 w n0 hl q
theorem Hh {x y:Str} (h1:PyData.strOk x=true) (h2:PyData.strOk y=true):PyData.strOk (x++y)=true:=by
 unfold PyData.strOk at *
 show (x.cps++y.cps).all _=true
 rw [Array.all_append,h1,h2]; rfl
theorem QD {x:Str} {i:Int} {n:Nat} (h:PyData.strOk x=true) (e:atI x.cps.toList i=some n):PyData.strOk ⟨#[n]⟩=true:=by
 unfold PyData.strOk at *
 rw [Array.all_eq_true] at h
 unfold atI at e
 cases q:ixN x.cps.toList.length i with
 | none=>rw [q] at e; cases e
 | some j =>
  rw [q] at e
  have e':x.cps.toList[j]?=some n:=e
  obtain ⟨hj,ej⟩:=uF.mp e'
  have hj':j<x.cps.size:=by rw [← uG]; exact hj
  have z:=h j hj'
  rw [← Array.getElem_toList] at z
  rw [ej] at z
  simpa using z
end
theorem K8 {α0:Type} [DecidableEq α0] {A0:Ty α0} {α1:Type} [DecidableEq α1] {A1:Ty α1} {c:Cl} {H:Hp} {v:V} {x:α0×α1} (h:(wu A0 A1).r c H v x):∃ (a:Addr) (u0 u1:V),v=.ref a∧Rd H a (.tup [u0,u1])∧A0.r c H u0 (x.1)∧A1.r c H u1 (x.2):=by
 obtain ⟨a,u0,u1,e,_,q,h0,h1⟩:=h
 exact ⟨a,u0,u1,e,.inl q,h0,h1⟩
theorem Uk {α0:Type} [DecidableEq α0] {A0:Ty α0} {α1:Type} [DecidableEq α1] {A1:Ty α1} {α2:Type} [DecidableEq α2] {A2:Ty α2} {c:Cl} {H:Hp} {v:V} {x:α0×α1×α2} (h:(mV A0 A1 A2).r c H v x):∃ u,A0.r c H u (x.1)∧∀ {K:iV},Rv (rIxT K) v (.int 0) H u:=by
 obtain ⟨a,u0,u1,u2,rfl,_,q,h0,h1,h2⟩:=h
 exact ⟨u0,h0,G9 q rfl⟩
theorem Ul {α0:Type} [DecidableEq α0] {A0:Ty α0} {α1:Type} [DecidableEq α1] {A1:Ty α1} {α2:Type} [DecidableEq α2] {A2:Ty α2} {c:Cl} {H:Hp} {v:V} {x:α0×α1×α2} (h:(mV A0 A1 A2).r c H v x):∃ u,A1.r c H u (x.2.1)∧∀ {K:iV},Rv (rIxT K) v (.int 1) H u:=by
 obtain ⟨a,u0,u1,u2,rfl,_,q,h0,h1,h2⟩:=h
 exact ⟨u1,h1,G9 q rfl⟩
theorem Um {α0:Type} [DecidableEq α0] {A0:Ty α0} {α1:Type} [DecidableEq α1] {A1:Ty α1} {α2:Type} [DecidableEq α2] {A2:Ty α2} {c:Cl} {H:Hp} {v:V} {x:α0×α1×α2} (h:(mV A0 A1 A2).r c H v x):∃ u,A2.r c H u (x.2.2)∧∀ {K:iV},Rv (rIxT K) v (.int 2) H u:=by
 obtain ⟨a,u0,u1,u2,rfl,_,q,h0,h1,h2⟩:=h
 exact ⟨u2,h2,G9 q rfl⟩
theorem Uo {α0:Type} [DecidableEq α0] {A0:Ty α0} {α1:Type} [DecidableEq α1] {A1:Ty α1} {α2:Type} [DecidableEq α2] {A2:Ty α2} {α3:Type} [DecidableEq α3] {A3:Ty α3} {α4:Type} [DecidableEq α4] {A4:Ty α4} {c:Cl} {H:Hp} {v:V} {x:α0×α1×α2×α3×α4} (h:(T8 A0 A1 A2 A3 A4).r c H v x):∃ (a:Addr) (u0 u1 u2 u3 u4:V),v=.ref a∧Rd H a (.tup [u0,u1,u2,u3,u4])∧A0.r c H u0 (x.1)∧A1.r c H u1 (x.2.1)∧A2.r c H u2 (x.2.2.1)∧A3.r c H u3 (x.2.2.2.1)∧A4.r c H u4 (x.2.2.2.2):=by
 obtain ⟨a,u0,u1,u2,u3,u4,e,_,q,h0,h1,h2,h3,h4⟩:=h
 exact ⟨a,u0,u1,u2,u3,u4,e,q,h0,h1,h2,h3,h4⟩
end Kb
namespace Kb
open PySem L2 PySem.W
section
variable {K:iV} {mg:Str→Option Value} {h:Heap}
theorem Uq {x:Str} {st:Stmt} {ps:List Str} {f:Addr} {oc:Value} {od an:Option Addr} {sl:Array (Option Value)} {kV dc pm cd ct:Value} (X:K.In h) (G:h.Ns mainGlobals mg) (a:nsIn K mainGlobals x=some (some (.ref f)))
  (l:K.lookup f=some ⟨oc,od,.func (fnOf x x (defArgs st) (defBody st) (defScope st) .none kV dc pm an cd ct),sl⟩) (c:codeIn K cd x=true) (k:keepIn K (.ref f)=true)
  (hb:∀ (kV doc pm:Value) (an:Option Addr) (cdv ct:Value) (us:List Value),us.length=ps.length→bindArgs (fnOf x x (defArgs st) (defBody st) (defScope st) .none kV doc pm an cdv ct) ⟨us,[]⟩=pure (ps.zip us)) :
  Df K mg x st f (fnOf x x (defArgs st) (defBody st) (defScope st) .none kV dc pm an cd ct) ps :=
 ⟨fun_mk l c k,mg_of X G a,(fun_mk (st:=st) l c k).binds hb⟩
theorem K9 {x:Str} {C:Addr} {tail:List Value} (X:K.In h) (G:h.Ns mainGlobals mg) (a:nsIn K mainGlobals x=some (some (.ref C))) (ex:excIn K C tail "ValueError.__new__" = true) (kp:keepIn K (.ref C)=true) (sb:subIn K (.ref C) (.type "BaseException")=some true) (ty:typeIn K (.ref C)=some (.type "type"))
  (hg:findIn K (.ref C) "__getattribute__" = some (some (.builtin "BaseException.__getattribute__"))) (hk:findIn K (.ref C) "__getattr__" = some none) (hd:hasDictIn K C=true) (ha:findIn K (.ref C) "__class__" = some (some (.builtin "object.__class__"))) (hm:mroIn K C (.type "object")=some true)
  (hn:specialIn K (.builtin "object.__class__") "__get__" = some (some (.builtin "getset_descriptor.__get__"))) (ht:takesIn K (.builtin "object.__class__")=some true):KY K mg x C tail :=
 ⟨mg_of X G a,ex,kp,sb,ty,⟨hg,hk,sb,hd,ha,hn,ht,hm⟩⟩
theorem Ag {t:Value} {C:Addr} {b:Bool} (h1:isClsIn K C=true) (h2:typeIn K (.ref C)=some (.type "type")) (h3:subIn K t (.ref C)=some b) (hs:subIn K (.ref C) (.ref C)=some true):kitOne K t (.ref C)=some b:=by
 have e2:((clsIn K C).isSome&&typeIn K (.ref C)==some (.type "type"))=true:=by
  have h1':(clsIn K C).isSome=true:=h1
  rw [h1',h2]<;>rfl
 unfold kitOne
 split
 ·rename_i e
  have e':t=.ref C:=by simpa using e
  rw [e',hs] at h3
  exact h3
 show (if ((clsIn K C).isSome&&typeIn K (.ref C)==some (.type "type"))=true then subIn K t (.ref C) else none)=some b
 rw [if_pos e2]
 exact h3
theorem Jg {c:Cl} {H:Hp}:∀ ns:List Int,Rs jB c H (ns.map V.int) ns
 | []=>trivial
 | _::ns=>⟨rfl,Jg ns⟩
theorem rA {H:Hp} {a:Addr} {ns:List Int} {m:List Int→Res Bool} (hm:m ns=.ok true) (hS:SqL K H a (ns.map V.int)) :
  ∃ (c:Cl) (v:V) (x:List Int),[V.ref a]=[v]∧Wf c H∧rB K jB c H v x∧Kont (fun y c' H'=>∀ v,tyB.r c' H' v y→(fun (v:V) (_:Hp)=>v=.bl true) v H') (fun _ _ _=>False) [] c H (m x):=by
 refine ⟨fun _=>none,.ref a,ns,rfl,(fun _ _ _ _ e=>by cases e),⟨a,_,rfl,hS,Jg ns⟩,?_⟩
 rw [hm]
 exact fun c H' st v hv=>hv
end
end Kb
namespace Kb
open PySem L2
structure NT {α:Type} [DecidableEq α] (J:It) (A:Ty α) (xs:List α) (c:Cl) (H:Hp):Prop where
 go:∀ i,i<xs.length→J.go i H
 stop:J.stop xs.length H
 item:∀ i x v H',xs[i]?=some x→J.yld i H v H'→H'=H∧A.r c H v x
section
variable {α:Type} [DecidableEq α] {A:Ty α} {c:Cl} {H:Hp} {a:Addr} {us:List V} {xs:List α} {K:iV}
theorem QF (h:SqL K H a us) (r:Rs A c H us xs):NT (Itl K a) A xs c H where
 go i hi:=by
  have hu:i<us.length:=by rw [r.len]; exact hi
  exact ⟨us,us[i],h,nA hu⟩
 stop:=⟨us,h,by rw [r.len]; exact lD _⟩
 item i x v H' hx hy:=by
  obtain ⟨e,q⟩:=hy
  refine ⟨e,?_⟩
  obtain ⟨u,eu,ru⟩:=r.Ky hx
  have z:=q us h
  rw [eu] at z
  rw [← j5 z]
  exact ru
theorem QG {lo:Int} {n:Nat}:NT (Itr lo n) jB (rng lo n) c H where
 go i hi:=by rw [oN] at hi; exact hi
 stop:=by rw [oN]; exact lD _
 item i x v H' hx hy:=by
  obtain ⟨e,e2⟩:=hy
  refine ⟨e,?_⟩
  have hl:i<n:=by
   have z:=(uF.mp hx).1
   rw [oN] at z
   exact z
  rw [Af n lo i hl] at hx
  rw [e2,← j5 hx]
  rfl
def signs (s:Str):List Str:=s.cps.toList.map fun n=>⟨#[n]⟩
theorem QH {s:Str} (ok:PyData.strOk s=true):NT (Its s) jV (signs s) c H where
 go i hi:=by
  unfold signs at hi
  rw [mU,uG] at hi
  exact hi
 stop:=by
  unfold signs
  rw [mU,uG]
  exact lD _
 item i x v H' hx hy:=by
  obtain ⟨e,n,hn,e2⟩:=hy
  refine ⟨e,?_⟩
  unfold signs at hx
  rw [List.getElem?_map,Array.getElem?_toList,hn] at hx
  have ex:(⟨#[n]⟩:Str)=x:=j5 hx
  rw [e2,ex]
  refine ⟨rfl,?_⟩
  rw [← ex]
  unfold PyData.strOk at *
  rw [Array.all_eq_true] at ok
  obtain ⟨hi,ei⟩:=Array.getElem?_eq_some_iff.mp hn
  have z:=ok i hi
  rw [ei] at z
  simpa using z
end
section
variable {β τ α:Type} [DecidableEq α] {A:Ty α} {P:β→Cl→Hp→Prop} {PE:Err→Cl→Hp→Prop} {S:List Addr} {c0 c:Cl} {H0 H:Hp} {σ:L2.St} {g:TG} {tb:TS} {D:Ends} {xs:List α} {s0:τ} {J:It}
theorem Rq {ρ:Type} {f:τ→α→Res (Ja τ ρ)} {rest:Ja τ ρ→Res β} {Rr:Cl→Hp→V→ρ→Prop} (k:Kont P PE S c0 H0 ((forR xs s0 f).bind rest)) (I:τ→Cl→Hp→L2.St→Prop) (h0:I s0 c H σ) (hl:∀ s c H σ,I s c H σ→NT J A xs c H)
  (hb:∀ s x v c H σ (N:L2.St→Hp→Prop),I s c H σ→A.r c H v x→Kont (fun y c' H'=>match y with | .nx s'=>∀ σ',I s' c' H' σ'→N σ' H' | .ret r=>∀ v,Rr c' H' v r→D.rt v H') PE S c0 H0 (f s x)→g v σ H fun σ2 H2=>tb { D with nx:=N,ct:=N,bk:=D.nx } σ2 H2)
  (hr:∀ r,Kont P PE S c0 H0 (rest (.ret r))→∀ c H,Step S c0 H0 c H→∀ v,Rr c H v r→D.rt v H)
  (hd:∀ s c H σ,I s c H σ→Kont P PE S c0 H0 (rest (.nx s))→D.nx σ H) :
  ∃ W:Nat→Nat→L2.St→Hp→Prop,(∃ m,W 0 m σ H)∧∀ i m σ H,W i m σ H →
   (J.stop i H∧D.nx σ H)∨(J.go i H∧∃ N:L2.St→Hp→Prop,(∀ σ' H',N σ' H'→∃ m',m'<m∧W (i+1) m' σ' H')∧∀ x H',J.yld i H x H'→g x σ H' fun σ2 H2=>tb { D with nx:=N,ct:=N,bk:=D.nx } σ2 H2):=by
 refine ⟨fun i m σ H=>m=xs.length - i∧i≤xs.length∧∃ s c,I s c H σ∧Kont P PE S c0 H0 ((forR (xs.drop i) s f).bind rest),⟨xs.length,by simp,Nat.zero_le _,s0,c,h0,k⟩,?_⟩
 rintro i m σ1 H1 ⟨rfl,hi,s,c1,h,k1⟩
 have p:=hl s c1 H1 σ1 h
 by_cases hlt:i<xs.length
 ·have hx:xs[i]?=some xs[i]:=nA hlt
  rw [drop_at hx,tD,bind_assoc] at k1
  refine .inr ⟨p.go i hlt,fun σ' H'=>∃ s c,I s c H' σ'∧Kont P PE S c0 H0 ((forR (xs.drop (i+1)) s f).bind rest),fun σ' H' q=>⟨xs.length - (i+1),iJ,rfl,hlt,q⟩,fun v H' hy=>?_⟩
  obtain ⟨e,r⟩:=p.item i _ v H' hx hy
  subst e
  refine hb s _ v c1 _ σ1 _ h r (k1.turn.imp (fun y c' H' st q=>?_) fun _ _ _ _ q=>q)
  cases y with
  | nx s'=>exact fun σ' h'=>⟨s',c',h',q⟩
  | ret r'=>exact fun v hv=>hr r' q c' H' st v hv
 ·have e:i=xs.length:=by omega
  subst e
  rw [List.drop_length] at k1
  exact .inl ⟨p.stop,hd s c1 H1 σ1 h k1⟩
end
section
variable {γ β α:Type} [DecidableEq α] [DecidableEq β] {A:Ty α} {B:Ty β} {P:γ→Cl→Hp→Prop} {PE:Err→Cl→Hp→Prop} {S:List Addr} {c0 c:Cl} {H0 H:Hp} {σ:L2.St} {g:TG} {tt:TT} {te:TE} {xs:List α} {J:It}
def Ru (g:TG) (tt:TT) (te:TE) (vs:List Nat) (σ:L2.St) (Q:VK):It→Hp→Prop:=fun J H1=>∀ D,H1 D=none→∃ W:Nat→Nat→Hp→Prop,(∃ m,W 0 m (upd H1 D (.lst [])))∧∀ i m H,W i m H →
 (J.stop i H∧Q (.ref D) H)∨(J.go i H∧∃ Nx:Hp→Prop,(∀ H',Nx H'→∃ m',m'<m∧W (i+1) m' H')∧∀ x H',J.yld i H x H'→g x (wipe σ vs) H' fun σ2 H2=>wipe σ2 vs=wipe σ vs∧tt σ2 H2 fun b H3 =>
  if b=true then te σ2 H3 fun y H4=>∃ acc,H4 D=some (.lst acc)∧acc.length<sizeLine∧Nx (upd H4 D (.lst (acc++[y]))) else Nx H3)
theorem K_ {wi:TI} {vs:List Nat} {Q:VK} (h:wi σ H (Ru g tt te vs σ Q)):tLc wi g tt te vs σ H Q:=h
theorem Rx {f:α→Res β} {rest:List β→Res γ} {vs:List Nat} {Q:VK} (k:Kont P PE S c0 H0 ((vN xs f).bind rest)) (gs:Step S c0 H0 c H) (hl:xs.length≤sizeLine)
  (hp:∀ ci Hi,Step [] c H ci Hi→NT J A xs ci Hi)
  (hb:∀ x v ci Hi (Qe:VK) (Qn:Hp→Prop),Step [] c H ci Hi→Step S c0 H0 ci Hi→A.r ci Hi v x→Kont (fun y c' H'=>Step [] ci Hi c' H'→∀ u,B.r c' H' u y→Qe u H') (fun _ _ _=>False) S c0 H0 (f x)→g v (wipe σ vs) Hi fun σ2 H2=>wipe σ2 vs=wipe σ vs∧tYes σ2 H2 fun b H3=>if b=true then te σ2 H3 Qe else Qn H3)
  (hd:∀ ys p us' c' H',H p=none→Step [] c H c' H'→Own B H0 c' H' p us' ys→Kont P PE S c0 H0 (rest ys)→Q (.ref p) H'):Ru g tYes te vs σ Q J H:=by
 intro d nd
 have n0:H0 d=none:=gs.fresh nd
 refine ⟨fun i m Hi=>m=xs.length - i∧i≤xs.length∧∃ ci zs ys,Acc B H0 c H ci Hi d zs ys∧ys.length=i∧Kont P PE S c0 H0 ((vN (xs.drop i) f).bind fun r=>rest (ys++r)),⟨xs.length,by simp,Nat.zero_le _,_,[],[],Acc.start gs.wf nd n0,rfl,k⟩,?_⟩
 rintro i m Hi ⟨rfl,hi,ci,zs,ys,ac,el,k1⟩
 have p:=hp ci Hi ac.st
 by_cases hlt:i<xs.length
 ·have hx:xs[i]?=some xs[i]:=nA hlt
  rw [drop_at hx,Hf,bind_assoc] at k1
  refine .inr ⟨p.go i hlt,fun Hi=>∃ ci zs ys,Acc B H0 c H ci Hi d zs ys∧ys.length=i+1∧Kont P PE S c0 H0 ((vN (xs.drop (i+1)) f).bind fun r=>rest (ys++r)),fun H' q=>⟨xs.length - (i+1),iJ,rfl,hlt,q⟩,fun v H' hy=>?_⟩
  obtain ⟨e,rx⟩:=p.item i _ v H' hx hy
  subst e
  refine hb _ v ci _ _ _ ac.st (gs.pB ac.st) rx (k1.turn.nx.imp (fun y c' H' _ q st u ru=>?_) fun e cc HH _ q=>q)
  have Wq:=ac.push nd st ru
  refine ⟨zs,(ac.own.step0 st).obj,by rw [ac.own.rs.len]; omega,c',_,_,Wq,by rw [o_,el]; rfl,?_⟩
  rw [bind_assoc] at q
  rw [show (fun r=>rest (ys++[y]++r))=fun r=>rest (ys++(y::r)) from by funext r; rw [List.append_assoc]; rfl]
  exact q
 ·have e:i=xs.length:=by omega
  subst e
  rw [List.drop_length] at k1
  have k2:Kont P PE S c0 H0 (rest (ys++[])):=k1
  rw [List.append_nil] at k2
  exact .inl ⟨p.stop,hd ys d zs ci Hi nd ac.st ac.own k2⟩
theorem Hj {x:α} {xs:List α} {f:α→Res (Option β)}:vO (x::xs) f=(nx (f x)).bind fun y=>(vO xs f).bind fun ys=>.ok (match y with | some z=>z::ys | none=>ys):=rfl
theorem Ry {f:α→Res (Option β)} {rest:List β→Res γ} {vs:List Nat} {Q:VK} (k:Kont P PE S c0 H0 ((vO xs f).bind rest)) (gs:Step S c0 H0 c H) (hl:xs.length≤sizeLine)
  (hp:∀ ci Hi,Step [] c H ci Hi→NT J A xs ci Hi)
  (hb:∀ x v ci Hi (Qe:VK) (Qn:Hp→Prop),Step [] c H ci Hi→Step S c0 H0 ci Hi→A.r ci Hi v x→Kont (fun y c' H'=>match y with | some y=>Step [] ci Hi c' H'→∀ u,B.r c' H' u y→Qe u H' | none=>Step [] ci Hi c' H'→Qn H') (fun _ _ _=>False) S c0 H0 (f x)→g v (wipe σ vs) Hi fun σ2 H2=>wipe σ2 vs=wipe σ vs∧tt σ2 H2 fun b H3=>if b=true then te σ2 H3 Qe else Qn H3)
  (hd:∀ ys p us' c' H',H p=none→Step [] c H c' H'→Own B H0 c' H' p us' ys→Kont P PE S c0 H0 (rest ys)→Q (.ref p) H'):Ru g tt te vs σ Q J H:=by
 intro d nd
 have n0:H0 d=none:=gs.fresh nd
 refine ⟨fun i m Hi=>m=xs.length - i∧i≤xs.length∧∃ ci zs ys,Acc B H0 c H ci Hi d zs ys∧ys.length≤i∧Kont P PE S c0 H0 ((vO (xs.drop i) f).bind fun r=>rest (ys++r)),⟨xs.length,by simp,Nat.zero_le _,_,[],[],Acc.start gs.wf nd n0,lD _,k⟩,?_⟩
 rintro i m Hi ⟨rfl,hi,ci,zs,ys,ac,el,k1⟩
 have p:=hp ci Hi ac.st
 by_cases hlt:i<xs.length
 ·have hx:xs[i]?=some xs[i]:=nA hlt
  rw [drop_at hx,Hj,bind_assoc] at k1
  refine .inr ⟨p.go i hlt,fun Hi=>∃ ci zs ys,Acc B H0 c H ci Hi d zs ys∧ys.length≤i+1∧Kont P PE S c0 H0 ((vO (xs.drop (i+1)) f).bind fun r=>rest (ys++r)),fun H' q=>⟨xs.length - (i+1),iJ,rfl,hlt,q⟩,fun v H' hy=>?_⟩
  obtain ⟨e,rx⟩:=p.item i _ v H' hx hy
  subst e
  refine hb _ v ci _ _ _ ac.st (gs.pB ac.st) rx (k1.turn.nx.imp (fun y c' H' _ q=>?_) fun e cc HH _ q=>q)
  rw [bind_assoc] at q
  cases y with
  | some y =>
   refine fun st u ru=>?_
   have Wq:=ac.push nd st ru
   refine ⟨zs,(ac.own.step0 st).obj,by rw [ac.own.rs.len]; omega,c',_,_,Wq,by rw [o_,List.length_singleton]; omega,?_⟩
   rw [show (fun r=>rest (ys++[y]++r))=fun r=>rest (ys++(y::r)) from by funext r; rw [List.append_assoc]; rfl]
   exact q
  | none =>
   exact fun st=>⟨c',zs,ys,⟨ac.st.pB st,ac.own.step0 st⟩,iJ,q⟩
 ·have e:i=xs.length:=by omega
  subst e
  rw [List.drop_length] at k1
  have k2:Kont P PE S c0 H0 (rest (ys++[])):=k1
  rw [List.append_nil] at k2
  exact .inl ⟨p.stop,hd ys d zs ci Hi nd ac.st ac.own k2⟩
end
section
variable {σ:L2.St} {H:Hp} {a:Addr} {us:List V} {K:iV} {R:It→Hp→Prop}
def Yr (R:It→Hp→Prop) (v:V) (H1:Hp):Prop:=∃ x,v=.str x∧R (Its x) H1
theorem La {te:TE} (h:te σ H (Yr R)):iStr te σ H R:=h
theorem Ld {s:Str} (q:R (Its s) H):Yr R (.str s) H:=⟨s,rfl,q⟩
end
section
variable {σ:L2.St} {H:Hp} {c:Cl} {K:iV} {v:V} {ns:List Int}
theorem ints_of:∀ {us:List V} {ns:List Int},Rs jB c H us ns→us=ns.map V.int
 | [],[],_=>rfl
 | u::us,n::ns,h=>by
  have e:u=V.int n:=h.1
  rw [e,ints_of h.2]
  rfl
 | [],_::_,h=>h.elim
 | _::_,[],h=>h.elim
theorem Ur {te:TE} {tl th:TO} {s:Str} {lo hi:Option Int} (h:Pv te σ H (.str s)) (h1:Qx tl σ H lo) (h2:Qx th σ H hi) (hs:s.length≤sizeLine):Pv (tSl rSlS te tl th) σ H (.str (cutS s lo hi)):=fun _ q=>h _ (h1 _ (h2 _ ⟨s,rfl,hs,q⟩))
theorem Le {s:Str} {lo hi:Option Int} (h:PyData.strOk s=true):PyData.strOk (cutS s lo hi)=true:=by
 unfold PyData.strOk cutS at *
 rw [Array.all_eq_true] at *
 intro i hi
 simp only [List.size_toArray,List.length_take,List.length_drop,Array.length_toList] at hi
 simp only [List.getElem_toArray,List.getElem_take,List.getElem_drop,Array.getElem_toList]
 exact h _ _
end
section
variable {β:Type} {P:β→Cl→Hp→Prop} {PE:Err→Cl→Hp→Prop} {S:List Addr} {c0:Cl} {H0:Hp}
theorem Kont.rebase {m:Res β} {ci:Cl} {Hi:Hp} (k:Kont P PE S c0 H0 m) (g:Step S c0 H0 ci Hi):Kont P PE [] ci Hi m:=by
 cases m with
 | ok y=>exact fun c H st=>k c H (g.pB st)
 | err e=>exact fun c H st=>k c H (g.pB st)
 | stk=>exact k.elim
end
section
variable {γ β α:Type} [DecidableEq α] [DecidableEq β] {A:Ty α} {B:Ty β} {P:γ→Cl→Hp→Prop} {PE:Err→Cl→Hp→Prop} {S:List Addr} {c0 c:Cl} {H0 H:Hp} {σ:L2.St} {g:TG} {tt:TT} {te:TE} {xs:List α} {J:It}
theorem Jh {f:α→Res β} {rest:List β→Res γ} {vs:List Nat} {Q:VK} (k:Kont P PE S c0 H0 ((vN xs f).bind rest)) (gs:Step S c0 H0 c H) (hl:decide (xs.length≤sizeLine)=true)
  (hp:∀ ci Hi,Step [] c H ci Hi→NT J A xs ci Hi)
  (hb:∀ x v ci Hi (Qe:VK) (Qn:Hp→Prop),Step [] c H ci Hi→Step S c0 H0 ci Hi→A.r ci Hi v x→Kont (fun y c' H'=>∀ u,B.r c' H' u y→Qe u H') (fun _ _ _=>False) [] ci Hi (f x)→g v (wipe σ vs) Hi fun σ2 H2=>wipe σ2 vs=wipe σ vs∧tYes σ2 H2 fun b H3=>if b=true then te σ2 H3 Qe else Qn H3)
  (hd:∀ ys p us' c' H',H p=none→Step [] c H c' H'→Own B H0 c' H' p us' ys→Kont P PE S c0 H0 (rest ys)→Q (.ref p) H'):Ru g tYes te vs σ Q J H :=
 Rx k gs (jQ hl) hp (fun x v ci Hi Qe Qn st gi r k=>hb x v ci Hi Qe Qn st gi r ((k.rebase gi).imp (fun y c' H' s q=>q s) fun _ _ _ _ q=>q)) hd
theorem Ji {f:α→Res (Option β)} {rest:List β→Res γ} {vs:List Nat} {Q:VK} (k:Kont P PE S c0 H0 ((vO xs f).bind rest)) (gs:Step S c0 H0 c H) (hl:decide (xs.length≤sizeLine)=true)
  (hp:∀ ci Hi,Step [] c H ci Hi→NT J A xs ci Hi)
  (hb:∀ x v ci Hi (Qe:VK) (Qn:Hp→Prop),Step [] c H ci Hi→Step S c0 H0 ci Hi→A.r ci Hi v x→Kont (fun y c' H'=>(match y with | some y=>∀ u,B.r c' H' u y→Qe u H' | none=>Qn H')) (fun _ _ _=>False) [] ci Hi (f x)→g v (wipe σ vs) Hi fun σ2 H2=>wipe σ2 vs=wipe σ vs∧tt σ2 H2 fun b H3=>if b=true then te σ2 H3 Qe else Qn H3)
  (hd:∀ ys p us' c' H',H p=none→Step [] c H c' H'→Own B H0 c' H' p us' ys→Kont P PE S c0 H0 (rest ys)→Q (.ref p) H'):Ru g tt te vs σ Q J H :=
 Ry k gs (jQ hl) hp (fun x v ci Hi Qe Qn st gi r k=>hb x v ci Hi Qe Qn st gi r ((k.rebase gi).imp (fun y c' H' s q=>by
  cases y with
  | some y=>exact q s
  | none=>exact q s) fun _ _ _ _ q=>q)) hd
end
section
variable {α:Type} [DecidableEq α] {A:Ty α} {c:Cl} {H H0:Hp} {v:V} {xs:List α} {σ:L2.St} {K:iV}
theorem wF {β:Type} {P:β→Cl→Hp→Prop} {PE:Err→Cl→Hp→Prop} {S:List Addr} {c0:Cl} {te:TE} {Q:VK} {m:Res Bool} {rest:Bool→Res β} (k:Kont P PE S c0 H0 (m.bind rest)) (I:Unit→Cl→Hp→L2.St→Prop) (hd:∀ b c H,I () c H σ→Kont P PE S c0 H0 (rest b)→Q (.bl b) H) (hb:Kont (fun b c H=>I () c H σ→Q (.bl b) H) PE S c0 H0 m→te σ H Q):te σ H Q :=
 hb ((k.turn).imp (fun b c H _ q i=>hd b c H i q) (fun _ _ _ _ q=>q))
end
theorem jh {α:Type} {b:Bool} {x y:Res α} (h:b=false):br b x y=y:=by subst h; rfl
section
variable {X:Cx} {K:iV}
theorem Bc (e:X.K=K):IxR X (rIxL K):=e▸ix_list
theorem Ol (e:X.K=K) (hu:X.A.units+64<cLine):OpR X (compareOp .Eq) (rEqD K):=e▸op_eqD hu
theorem rC (e:X.K=K):CallR X (.builtin "len") (fun xs H Q=>∃ p ys, xs=[.ref p]∧(SqL K H p ys∨SqT K H p ys)∧Q (.int ys.length) H):=e▸call_len_seq
end
inductive Om | i (n:Int) | b (x:Bool) | o
 deriving DecidableEq
def Wr (u:HO):Prop:=(∃ xs,u=.lst xs)∨(∃ xs,u=.tup xs)∨(∃ kvs,u=.dK kvs)∨(∃ o xs,u=.frz o (.tup xs))∨∃ o kvs,u=.frz o (.dK kvs)
def rD (c:Cl) (H:Hp) (v:V):Om→Prop
 | .i n=>v=.int n
 | .b x=>v=.bl x
 | .o=>v=.non∨(∃ s,v=.str s)∨∃ a u,v=.ref a∧c a=none∧H a=some u∧Wr u
section
variable {c c':Cl} {H H' H0:Hp} {v:V} {x:Om} {T:List Addr} {p:Addr} {σ:L2.St} {K:iV}
theorem YM (g:Up c H c' H') (h:rD c H v x):rD c' H' v x:=by
 cases x with
 | i n=>exact h
 | b n=>exact h
 | o =>
  rcases h with h | h | ⟨a,u,e,k,q,t⟩
  ·exact .inl h
  ·exact .inr (.inl h)
  obtain ⟨u2,e2,b⟩:=g.obj' a _ q k
  refine .inr (.inr ⟨a,u2,e,g.col a _ q k,e2,?_⟩)
  rcases t with ⟨xs,rfl⟩ | ⟨xs,rfl⟩ | ⟨kvs,rfl⟩ | ⟨o,xs,rfl⟩ | ⟨o,kvs,rfl⟩
  ·exact .inl ⟨xs,uR b rfl⟩
  ·exact .inr (.inl ⟨xs,uR b rfl⟩)
  ·rcases Ab (X:=some u2) (o:=.dK kvs) rfl b (.inl rfl) rfl with z | ⟨d,z⟩
   ·exact .inr (.inr (.inl ⟨kvs,j5 z⟩))
   exact .inr (.inr (.inr (.inr ⟨d,kvs,j5 z⟩)))
  ·exact .inr (.inr (.inr (.inl ⟨o,xs,uR b rfl⟩)))
  rcases Ab (X:=some u2) (o:=.dK kvs) rfl b (.inr ⟨o,rfl⟩) rfl with z | ⟨d,z⟩
  ·exact .inr (.inr (.inl ⟨kvs,j5 z⟩))
  exact .inr (.inr (.inr (.inr ⟨d,kvs,j5 z⟩)))
def Ko (c:Cl) (H:Hp):List V→List Om→Prop
 | [],[]=>True
 | v::vs,x::xs=>rD c H v x∧Ko c H vs xs
 | _,_=>False
theorem Ko.up (g:Up c H c' H'):∀ {vs:List V} {xs:List Om},Ko c H vs xs→Ko c' H' vs xs
 | [],[],_=>trivial
 | v::vs,x::xs,h=>⟨YM g h.1,Ko.up g h.2⟩
 | [],_::_,h=>h.elim
 | _::_,[],h=>h.elim
theorem Ko.len:∀ {vs:List V} {xs:List Om},Ko c H vs xs→vs.length=xs.length
 | [],[],_=>rfl
 | v::vs,x::xs,h=>by rw [lC,lC,Ko.len h.2]
 | [],_::_,h=>h.elim
 | _::_,[],h=>h.elim
theorem Ko.Ky:∀ {vs:List V} {xs:List Om} {i:Nat} {x:Om},Ko c H vs xs→xs[i]?=some x→∃ u,vs[i]?=some u∧rD c H u x
 | [],[],_,_,_,e=>by cases e
 | v::vs,y::xs,0,x,h,e=>⟨v,rfl,by rw [← j5 e]; exact h.1⟩
 | v::vs,y::xs,i+1,x,h,e=>Ko.Ky (i:=i) h.2 (by simpa using e)
 | [],_::_,_,_,h,_=>h.elim
 | _::_,[],_,_,h,_=>h.elim
structure DTup (c:Cl) (H:Hp) (a:Addr) (us:List V) (xs:List Om):Prop where
 col:c a=none
 rd:Rd H a (.tup us)
 rs:Ko c H us xs
theorem DTup.lift {a:Addr} {us:List V} {xs:List Om} (h:DTup c H a us xs) (st:Step T c H c' H'):DTup c' H' a us xs:=⟨st.up.Ay h.col h.rd,st.up.rd h.col h.rd,h.rs.up st.up⟩
structure ZR {α:Type} (J:It) (R:Cl→Hp→V→α→Prop) (xs:List α) (c:Cl) (H:Hp):Prop where
 go:∀ i,i<xs.length→J.go i H
 stop:J.stop xs.length H
 item:∀ i x v H',xs[i]?=some x→J.yld i H v H'→H'=H∧R c H v x
end
end Kb
namespace Kb
open PySem L2 PySem.W
structure ZS (K:iV) (mg:Str→Option Value) (x:Str) (st:Stmt) (f:Addr) (fd:FuncData) (ps:List Str) (i:Int):Prop where
 F:FunD K x x (defArgs st) (defBody st) (defScope st) [V.int i] [] f fd
 kp:PySem.W.keepIn K (.ref f)=true
 g:mg x=some (.ref f)
 b:Binds K fd ps []
 d1:∃ ds,Vals [V.int i] ds∧Binds K fd ps ds
end Kb
namespace Kb
open PySem L2 PySem.Spec PyProof.Rows
def Rz (x y:Str×Int):Bool:=if x.1=y.1 then decide (x.2<y.2) else decide (x.1.cps.toList<y.1.cps.toList)
end Kb
namespace Kb
open PySem L2
section
variable {β α:Type} [DecidableEq α] {A:Ty α} {P:β→Cl→Hp→Prop} {PE:Err→Cl→Hp→Prop} {S:List Addr} {c0 c:Cl} {H0 H:Hp} {σ:L2.St} {g:TG} {tb:TS} {D:Ends} {K:iV} {t:Addr}
def Fp (A:Ty α) (H0:Hp) (c:Cl) (H:Hp):List Addr→List (List α)→Prop
 | [],[]=>True
 | p::ps,x::xs=>(∃ us,Own A H0 c H p us x)∧Fp A H0 c H ps xs
 | _,_=>False
theorem Fp.len:∀ {ps:List Addr} {xs:List (List α)},Fp A H0 c H ps xs→ps.length=xs.length
 | [],[],_=>rfl
 | p::ps,x::xs,h=>by rw [lC,lC,Fp.len h.2]
 | [],_::_,h=>h.elim
 | _::_,[],h=>h.elim
theorem Fp.step {c':Cl} {H':Hp} {p:Addr} (st:Step [p] c H c' H'):∀ {ps:List Addr} {xs:List (List α)},p∉ps→Fp A H0 c H ps xs→Fp A H0 c' H' ps xs
 | [],[],_,_=>trivial
 | q::ps,x::xs,n,h=>by
  obtain ⟨⟨us,o⟩,h2⟩:=h
  exact ⟨⟨us,o.step1 st fun e=>n (e▸kE)⟩,Fp.step st (fun m=>n (lQ _ m)) h2⟩
 | [],_::_,_,h=>h.elim
 | _::_,[],_,h=>h.elim
end
structure Ws (c:Cl) (H:Hp) (a:Addr) (us:List V):Prop where
 col:c a=none
 rd:Rd H a (.tup us)
theorem Ws.lift {c c':Cl} {H H':Hp} {T:List Addr} {a:Addr} {us:List V} (h:Ws c H a us) (st:Step T c H c' H'):Ws c' H' a us:=⟨st.up.Ay h.col h.rd,st.up.rd h.col h.rd⟩
def jC:Ty (Option Int):=tyO jB (fun _ x=>⟨rfl,rfl⟩) (fun c H x h=>by cases (show V.non=V.int x from h))
section
variable {α:Type} [DecidableEq α] {A:Ty α} {hn:A.dep≤64→∀ x,PyData.eqv (A.enc x) .none=false∧PyData.eqv .none (A.enc x)=false} {hv:∀ c H x,¬ A.r c H .non x} {c:Cl} {H:Hp} {v:V} {x:Option α}
theorem Lf (h:(tyO A hn hv).r c H v x):decide (v=.non)=x.isNone:=by
 cases x with
 | none=>have e:v=.non:=h; rw [e]; rfl
 | some y =>
  refine oJ fun e=>?_
  have z:A.r c H v y:=h
  rw [e] at z
  exact hv _ _ _ z
theorem Bg (h:(tyO A hn hv).r c H v x):Rv (fun x y H Q=>y=V.non∧Q (.bl (decide (x=.non))) H) v .non H (.bl x.isNone):=fun Q q=>⟨rfl,by rw [Lf h]; exact q⟩
theorem vC (h:(tyO A hn hv).r c H v x):Rv (fun x y H Q=>y=V.non∧Q (.bl (!decide (x=.non))) H) v .non H (.bl (!x.isNone)):=fun Q q=>⟨rfl,by rw [Lf h]; exact q⟩
theorem some_of {y:α} (h:(tyO A hn hv).r c H v x) (e:x=some y):A.r c H v y:=by subst e; exact h
end
theorem look_none {m:Str}:∀ {ns:List Str} {us:List V},ns.all (fun f=>!(m==f))=true→(ns.zip us).lookup m=none
 | [],_,_=>rfl
 | _::_,[],_=>rfl
 | n::ns,u::us,h=>by
  simp only [List.all_cons,Bool.and_eq_true,Bool.not_eq_true'] at h
  show List.lookup m ((n,u)::ns.zip us)=none
  rw [List.lookup_cons,h.1]
  exact look_none h.2
theorem pN {m:Str}:∀ {ns:List Str} {us:List V} {i:Nat},ns.findIdx (fun f=>m==f)=i→i<ns.length→us.length=ns.length→(ns.zip us).lookup m=us[i]?
 | [],_,_,_,h,_=>by cases h
 | _::_,[],_,_,_,l=>by cases l
 | n::ns,u::us,i,e,h,l=>by
  show List.lookup m ((n,u)::ns.zip us)=_
  rw [List.lookup_cons]
  rw [List.findIdx_cons] at e
  cases q:(m==n) with
  | true=>rw [q] at e; simp at e; subst e; rfl
  | false =>
   rw [q] at e
   simp at e
   subst e
   simp only [List.getElem?_cons_succ]
   exact pN rfl (by simpa using h) (by simpa using l)
structure pU (C:Addr) (c:Cl) (H:Hp) (p dx:Addr) (fs:List (Str×V)):Prop where
 col:c p=some p
 obj:H p=some (.ins C dx fs)
section
variable {K:iV} {C:Addr} {c c' c0:Cl} {H H' H0:Hp} {S T:List Addr} {p q dx:Addr} {fs:List (Str×V)} {σ:L2.St}
theorem pU.step (h:pU C c H p dx fs) (g:Step T c H c' H') (n:p∉T):pU C c' H' p dx fs :=
 ⟨(g.col p _ h.obj).trans h.col,g.keep p _ h.obj (fun r e=>by rw [h.col] at e; cases e; exact n)⟩
theorem pU.step0 (h:pU C c H p dx fs) (g:Step [] c H c' H'):pU C c' H' p dx fs:=h.step g (fun z=>by cases z)
theorem pU.step1 (h:pU C c H p dx fs) (g:Step [q] c H c' H') (n:p≠q):pU C c' H' p dx fs:=h.step g (fun z=>n (jD.mp z))
theorem pU.other (h:pU C c H p dx fs) (n:p≠q):pU C (Kb.frz c q) H p dx fs:=⟨oK h.col n,h.obj⟩
def Wt (K:iV) (f:Str) (x:V) (H1:Hp) (Q:VK):Prop:=∃ a C dx fs v,x=.ref a∧H1 a=some (.ins C dx fs)∧Cls K C∧NoAttr K C f∧fs.lookup f=some v∧Q v H1
def Fv (K:iV) (f:Str) (v:V) (H:Hp) (u:V):Prop:=∀ Q:VK,Q u H→Wt K f v H Q
theorem pD {ta:TE} {f:Str} {x u:V} (ha:Pv ta σ H x) (hf:Fv K f x H u):Pv (tFld K ta f) σ H u:=fun Q q=>ha _ (hf Q q)
theorem pq {C:Addr} {m:Str} {sp:Sp} {dvs:List V} {E:Value→Option Addr→Hp→Prop} {ta:TE} {t:TA} {Q:VK} (h:ta σ H fun x H1=>∃ a dx fs,x=.ref a∧H1 a=some (.ins C dx fs)∧fs.lookup m=none∧t σ H1 fun vs H2=>sp (x::(vs++dvs)) H2 Q E):tMeth C m sp dvs E ta t σ H Q:=h
def QJ (C:Addr) (sp:Sp) (dvs:List V) (E:Value→Option Addr→Hp→Prop) (Q:VK) (vs:List V) (H1:Hp):Prop:=∀ x dx,H1 x=none→H1 dx=none→dx≠x→sp (.ref x::(vs++dvs)) (upd (upd H1 dx (.own x)) x (.ins C dx [])) (fun v H2=>v=.non∧Q (.ref x) H2) E
theorem Hl {C:Addr} {sp:Sp} {dvs:List V} {E:Value→Option Addr→Hp→Prop} {t:TA} {Q:VK} (h:t σ H (QJ C sp dvs E Q)):tMake C sp dvs E t σ H Q:=h
theorem Ho {sp:Sp} {dvs:List V} {E:Value→Option Addr→Hp→Prop} {Q:VK} {vs:List V} (w:Wf c H)
  (h:∀ x dx c1 H1,H x=none→Step [] c H c1 H1→pU C c1 H1 x dx []→sp (.ref x::(vs++dvs)) H1 (fun v H2=>v=.non∧Q (.ref x) H2) E):QJ C sp dvs E Q vs H:=by
 intro x dx nx nd ne
 have s1:Step [] c H (setC c dx none) (upd H dx (.own x)):=Step.new w nd fun r e=>by cases e
 have nx1:upd H dx (.own x) x=none:=by rw [jH ne.symm]; exact nx
 have s2:=Step.new (u:=.ins C dx []) (o:=some x) s1.wf nx1 fun r e=>by cases e; exact .inl rfl
 exact h x dx _ _ nx (s1.pB s2) ⟨m7,j8⟩
theorem Step.made {c1:Cl} {H1:Hp} (g:Step [] c H c1 H1) (g2:Step [p] c1 H1 c' H') (n:H p=none):Step [] c H (Kb.frz c' p) H':=(g.tr1 g2 (.inr n)).frz n
def Lg (K:iV) (f:Str) (D:Ends) (σ:L2.St) (v:V) (x:V) (H1:Hp):Prop:=∃ a C dx fs,x=.ref a∧H1 a=some (.ins C dx fs)∧Cls K C∧NoAttr K C f∧fs.length<1000∧D.nx σ (upd H1 a (.ins C dx (putF f v fs)))
theorem uM {ta tv:TE} {f:Str} {D:Ends} (h:tv σ H fun v H1=>ta σ H1 (Lg K f D σ v)):sFld K ta tv f D σ H:=h
theorem qH {f:Str} {D:Ends} {v:V} (h:pU C c H p dx fs) (w:Wf c H) (cl:Cls K C) (na:NoAttr K C f) (l:fs.length<1000)
  (q:∀ H',Step [p] c H c H'→pU C c H' p dx (putF f v fs)→D.nx σ H'):Lg K f D σ v (.ref p) H :=
 ⟨p,C,dx,fs,rfl,h.obj,cl,na,l,q _ (Step.mut w h.obj h.col) ⟨h.col,j8⟩⟩
end
theorem rJ {f:Str} {v:V}:∀ {ns:List Str} {us:List V},ns.all (fun g=>!decide (g=f))=true→us.length=ns.length→putF f v (ns.zip us)=(ns++[f]).zip (us++[v])
 | [],[],_,_=>rfl
 | n::ns,u::us,h,l=>by
  simp only [List.all_cons,Bool.and_eq_true,Bool.not_eq_true',decide_eq_false_iff_not] at h
  have ih:=rJ (v:=v) h.2 (show us.length=ns.length by simpa using l)
  simp only [List.zip_cons_cons,putF,if_neg h.1,ih,List.cons_append]
 | [],_::_,_,l=>by cases l
 | _::_,[],_,l=>by cases l
end Kb
namespace Kb
open PySem PySem.Spec PyProof.Rows L2
theorem Wc {P:Program} {w:World} {K:iV} {mg:Str→Option Value} {base:Heap} {k:Nat} {f:Addr} {fd:FuncData} {ps:List Str} {sp:Sp} (F:FnOk P w K mg base (L2N.CX P w) k f fd ps sp):FnOk P w K mg base (L2.CX P w) k f fd ps sp :=
 ⟨F.len,fun A outer s H args us vs Q E hr he hb hv hs=>codeAny_mono (F.run A outer s H args us vs Q E hr he hb hv hs) fun r s' hq=>by
  cases r with
  | error e =>
   obtain ⟨a,B,H',cls,d,rfl,fl,hok,ub,na,os,ag,hE⟩:=hq
   exact ⟨a,B,H',cls,d,rfl,L2H.flyingZ_imp (fun _ z=>z.zc) fl,hok,ub,na,os,ag,hE⟩
  | ok fl=>cases fl<;>exact hq⟩
section
variable {P:Program} {w:World} {K:iV} {mg:Str→Option Value} {base:Heap}
theorem okN {x qual:Str} {st:Stmt} {f:Addr} {fd:FuncData} {N ps:List Str} {k:Nat} {sp:Sp} (F:Fun K x qual st f fd) (S:FnScope N ps (defScope st)) (len:∀ vs H Q E,sp vs H Q E→vs.length=ps.length)
  (hbody:∀ (cdv:Value) (A:Around) (outer:List Env) (s:Shared) (H:Hp) (vs:List V) (Q:VK) (E:XK),Room k (A.deeper (envOfC qual (defScope st) s.heap.objs.size f cdv))→sp vs H Q E →
   ∃ t,PSs (cxOf (L2N.CX P w) P w K mg base N qual (defScope st) f cdv A outer s H E) (defBody st) t∧t { nx:=fun _ H'=>Q .non H',rt:=Q } (start N vs) H):FnOk P w K mg base (L2N.CX P w) (k+1) f fd ps sp:=by
 obtain ⟨oc,od,kV,doc,pm,an,cdv,ct,osl,rfl,lk,hcd⟩:=F.ex
 exact fn_of lk hcd S len fun A outer s H vs Q E hr hsp=>hbody cdv A outer s H vs Q E hr hsp
end
theorem w6 {X:Cx}:L2N.Takes X (fun _ _ _ _=>False):=fun _ _ x=>by
 obtain ⟨_,_,_,_,_,_,_,_,_,_,_,_,_,_,_,_,z⟩:=x
 exact z.elim
end Kb
namespace Kb
open PySem L2 PySem.W
structure Mt (K:iV) (C:Addr) (x qual:Str) (st:Stmt) (f:Addr) (fd:FuncData) (ps:List Str):Prop where
 F:Fun K x qual st f fd
 m:Meth K C x f
 b:Binds K fd ps []
theorem Us {K:iV} {C:Addr} {x qual:Str} {st:Stmt} {ps:List Str} {f:Addr} {oc:Value} {od an:Option Addr} {sl:Array (Option Value)} {kV dc pm cd ct:Value} (a:findIn K (.ref C) x=some (some (.ref f))) (i:isFn K (.ref f)=true)
  (l:K.lookup f=some ⟨oc,od,.func (fnOf x qual (defArgs st) (defBody st) (defScope st) .none kV dc pm an cd ct),sl⟩) (c:codeIn K cd qual=true) (k:keepIn K (.ref f)=true)
  (hb:∀ (kV doc pm:Value) (an:Option Addr) (cdv ct:Value) (us:List Value),us.length=ps.length→bindArgs (fnOf x qual (defArgs st) (defBody st) (defScope st) .none kV doc pm an cdv ct) ⟨us,[]⟩=pure (ps.zip us)) :
  Mt K C x qual st f (fnOf x qual (defArgs st) (defBody st) (defScope st) .none kV dc pm an cd ct) ps :=
 ⟨fun_mk l c k,⟨a,i,k⟩,(fun_mk (st:=st) l c k).binds hb⟩
structure RB (K:iV) (mg:Str→Option Value) (x:Str) (C fI:Addr):Prop where
 g:mg x=some (.ref C)
 cl:Cls K C
 maker:Mk K C fI
theorem Lh {K:iV} {mg:Str→Option Value} {h:Heap} {x:Str} {C fI:Addr} (X:K.In h) (G:h.Ns mainGlobals mg) (a:nsIn K mainGlobals x=some (some (.ref C))) (pg:plainGet K C Str.empty=true) (hd:hasDictIn K C=true) (po:plainOver K C=true)
  (sa:findIn K (.ref C) "__setattr__" = some (some (.builtin "object.__setattr__"))) (mk:makesIn K C=true) (kc:keepIn K (.ref C)=true) (a1:findIn K (.ref C) "__init__" = some (some (.ref fI))) (i1:isFn K (.ref fI)=true):RB K mg x C fI :=
 ⟨mg_of X G a,⟨pg,hd,po,sa⟩,⟨mk,a1,i1,kc⟩⟩
end Kb
namespace Kb
open PySem L2
def lU (c:Cl) (q p:Addr):Cl:=fun a=>if c a=some q then some p else c a
section
variable {c c0 c':Cl} {H H0 H':Hp} {S T:List Addr} {p q r:Addr}
theorem Hq {a:Addr} (h:c a=none):lU c q p a=none:=by unfold lU; rw [if_neg (by rw [h]; intro e; cases e)]; exact h
theorem tU {a:Addr} (h:c a=some q):lU c q p a=some p:=by unfold lU; rw [if_pos h]
theorem jY {a:Addr} (h:c a=some r) (n:r≠q):lU c q p a=some r:=by
 unfold lU; rw [if_neg (by rw [h]; intro e; exact n (j5 e))]; exact h
theorem nZ:Up c H (lU c q p) H:=⟨fun _ o h _=>⟨o,h,rfl⟩,fun _ _ _ h=>Hq h⟩
theorem Step.lU (g:Step S c0 H0 c H) (n:H0 q=none) (hp:∃ u,H p=some u):Step S c0 H0 (Kb.lU c q p) H where
 keep':=g.keep'
 tL:=g.tL
 mJ:=g.mJ
 col a o h:=by
  have e:=g.col a o h
  unfold Kb.lU
  split
  ·rename_i z
   rw [e] at z
   obtain ⟨⟨u,y⟩,_⟩:=g.Fe a o q h z
   rw [n] at y; cases y
  exact e
 live:=g.live
 wf:=fun a o r h e=>by
  unfold Kb.lU at e
  split at e
  ·rename_i z; cases e; exact ⟨hp,(g.wf a o _ h z).2⟩
  exact g.wf a o r h e
 Fe:=g.Fe
end
section
variable {α:Type} [DecidableEq α] {A:Ty α} {c c' c0:Cl} {H H' H0:Hp} {S T:List Addr} {p q q2 a:Addr} {us vs:List V} {xs:List α} {xss:List (List α)} {v u:V} {x:α} {K:iV}
theorem QK (h:A.r c H v x):A.r (lU c q p) H v x:=A.up nZ h
theorem Own.xW (h:Own A H0 c H a us xs) (n:a≠q):Own A H0 (lU c q p) H a us xs:=⟨jY h.col n,h.obj,h.rs.up nZ,h.new⟩
theorem pU.xW {C dx:Addr} {fs:List (Str×V)} (h:pU C c H a dx fs) (n:a≠q):pU C (lU c q p) H a dx fs:=⟨jY h.col n,h.obj⟩
def lY {α:Type} [DecidableEq α] (A:Ty α) (c:Cl) (H:Hp) (p:Addr):List V→List (List α)→Prop
 | [],[]=>True
 | u::us,x::xs=>(∃ q vs,u=.ref q∧c q=some p∧q≠p∧H q=some (.lst vs)∧Rs A c H vs x)∧lY A c H p us xs
 | _,_=>False
structure vD {α:Type} [DecidableEq α] (A:Ty α) (H0:Hp) (c:Cl) (H:Hp) (p:Addr) (us:List V) (xss:List (List α)):Prop where
 col:c p=some p
 obj:H p=some (.lst us)
 el:lY A c H p us xss
 nd:us.Nodup
 new:H0 p=none
theorem lY.len:∀ {us:List V} {xss:List (List α)},lY A c H p us xss→us.length=xss.length
 | [],[],_=>rfl
 | _::_,_::_,h=>by rw [lC,lC,lY.len h.2]
 | [],_::_,h=>h.elim
 | _::_,[],h=>h.elim
theorem lY.step (g:Step T c H c' H') (n:p∉T):∀ {us:List V} {xss:List (List α)},lY A c H p us xss→lY A c' H' p us xss
 | [],[],_=>trivial
 | _::_,_::_,⟨⟨q,vs,e,k,z,o,r⟩,h⟩=>⟨⟨q,vs,e,(g.col q _ o).trans k,z,g.keep q _ o (fun s e=>by rw [k] at e; cases e; exact n),r.up g.up⟩,lY.step g n h⟩
 | [],_::_,h=>h.elim
 | _::_,[],h=>h.elim
theorem lY.get:∀ {us:List V} {xss:List (List α)} {j:Nat} {xs:List α},lY A c H p us xss→xss[j]?=some xs→∃ q vs,us[j]?=some (.ref q)∧c q=some p∧q≠p∧H q=some (.lst vs)∧Rs A c H vs xs
 | [],[],_,_,_,e=>by simp at e
 | u::us,x::xss,0,y,⟨⟨q,vs,e,k,z,o,r⟩,h⟩,e2=>by
  have:x=y:=by simpa using e2
  subst this
  exact ⟨q,vs,by rw [e]; rfl,k,z,o,r⟩
 | u::us,x::xss,j+1,y,h,e2=>by
  obtain ⟨q,vs,a,b⟩:=lY.get (j:=j) (xs:=y) h.2 (by simpa using e2)
  exact ⟨q,vs,by simpa using a,b⟩
 | [],_::_,_,_,h,_=>h.elim
 | _::_,[],_,_,h,_=>h.elim
theorem lY.lU (n:p≠q):∀ {us:List V} {xss:List (List α)},lY A c H p us xss→lY A (Kb.lU c q q2) H p us xss
 | [],[],_=>trivial
 | _::_,_::_,⟨⟨q',vs,e,k,z,o,r⟩,h⟩=>⟨⟨q',vs,e,jY k n,z,o,r.up nZ⟩,lY.lU n h⟩
 | [],_::_,h=>h.elim
 | _::_,[],h=>h.elim
theorem lY.frz (n:p≠q):∀ {us:List V} {xss:List (List α)},lY A c H p us xss→lY A (Kb.frz c q) H p us xss
 | [],[],_=>trivial
 | _::_,_::_,⟨⟨q',vs,e,k,z,o,r⟩,h⟩=>⟨⟨q',vs,e,oK k n,z,o,r.up qD⟩,lY.frz n h⟩
 | [],_::_,h=>h.elim
 | _::_,[],h=>h.elim
theorem lY.Ut:∀ {us:List V} {xss:List (List α)},lY A c H p us xss→Rs (uK A) (Kb.frz c p) H us xss
 | [],[],_=>trivial
 | _::_,_::_,⟨⟨q',vs,e,k,z,o,r⟩,h⟩=>⟨⟨q',vs,e,uU k,o,r.up qD⟩,lY.Ut h⟩
 | [],_::_,h=>h.elim
 | _::_,[],h=>h.elim
theorem lY.app:∀ {us:List V} {xss:List (List α)},lY A c H p us xss→lY A c H p [u] [xs]→lY A c H p (us++[u]) (xss++[xs])
 | [],[],_,k=>k
 | _::_,_::_,h,k=>⟨h.1,lY.app h.2 k⟩
 | [],_::_,h,_=>h.elim
 | _::_,[],h,_=>h.elim
theorem lY.mem:∀ {us:List V} {xss:List (List α)},lY A c H p us xss→V.ref q∈us→c q=some p
 | [],[],_,m=>by cases m
 | u::us,x::xss,⟨⟨q',vs,e,k,z,o,r⟩,h⟩,m=>by
  rcases lA.mp m with e2 | m
  ·rw [e] at e2; cases e2; exact k
  exact lY.mem h m
 | [],_::_,h,_=>h.elim
 | _::_,[],h,_=>h.elim
theorem lY.outer {o:HO}:∀ {us:List V} {xss:List (List α)},Up c H c (upd H p o)→lY A c H p us xss→lY A c (upd H p o) p us xss
 | [],[],_,_=>trivial
 | _::_,_::_,g,⟨⟨q',vs,e,k,z,ob,r⟩,h⟩=>⟨⟨q',vs,e,k,z,by rw [jH z]; exact ob,r.up g⟩,lY.outer g h⟩
 | [],_::_,_,h=>h.elim
 | _::_,[],_,h=>h.elim
theorem vD.step (h:vD A H0 c H p us xss) (g:Step T c H c' H') (n:p∉T):vD A H0 c' H' p us xss :=
 ⟨(g.col p _ h.obj).trans h.col,g.keep p _ h.obj (fun r e=>by rw [h.col] at e; cases e; exact n),h.el.step g n,h.nd,h.new⟩
theorem vD.step0 (h:vD A H0 c H p us xss) (g:Step [] c H c' H'):vD A H0 c' H' p us xss:=h.step g (fun z=>by cases z)
theorem vD.step1 (h:vD A H0 c H p us xss) (g:Step [q] c H c' H') (n:p≠q):vD A H0 c' H' p us xss:=h.step g (fun z=>n (jD.mp z))
theorem vD.other (h:vD A H0 c H p us xss) (n:p≠q):vD A H0 (Kb.frz c q) H p us xss:=⟨oK h.col n,h.obj,h.el.frz n,h.nd,h.new⟩
theorem vD.xW (h:vD A H0 c H p us xss) (n:p≠q):vD A H0 (lU c q q2) H p us xss:=⟨jY h.col n,h.obj,h.el.lU n,h.nd,h.new⟩
theorem vD.frz (h:vD A H0 c H p us xss):(uK (uK A)).r (Kb.frz c p) H (.ref p) xss:=⟨p,us,rfl,uU h.col,h.obj,h.el.Ut⟩
theorem vD.one (cp:c p=some p) (ob:H p=some (.lst [.ref q])) (o:Own A H0 c H q vs xs) (ne:q≠p) (new:H0 p=none):vD A H0 (lU c q p) H p [.ref q] [xs] :=
 ⟨jY cp ne.symm,ob,⟨⟨q,vs,rfl,tU o.col,ne,o.obj,o.rs.up nZ⟩,trivial⟩,by simp,new⟩
end
end Kb
namespace Kb
open PySem PySem.Spec PyProof.Rows L2
section
variable {X:Cx} {CX:CXT} {k:Nat} {f C:Addr} {fd:FuncData} {ps:List Str} {ds:List Value} {dvs:List V} {sp:Sp} {E:L2.St→XK} {x m:Str} {p pos apos:Pos} {e o:Expr} {es:List Expr} {ta:TE} {t:TA}
def Lj (C:Addr) (m:Str) (sp:Sp) (E:L2.St→XK) (ta:TE) (t:TA):TE:=fun σ H Q=>ta σ H fun x H1=>∃ a dx fs,x=.ref a∧H1 a=some (.ins C dx fs)∧fs.lookup m=none∧t σ H1 fun vs H2=>sp (x::vs) H2 Q (E σ)
theorem Ah {σ:L2.St} {H:Hp} {Q:VK} (h:ta σ H fun x H1=>∃ a dx fs,x=.ref a∧H1 a=some (.ins C dx fs)∧fs.lookup m=none∧t σ H1 fun vs H2=>sp (x::vs) H2 Q (E σ)):Lj C m sp E ta t σ H Q:=h
theorem yw {pl:Sem Bool} (he:PE X o ta) (c:Cls X.K C) (hm:Meth X.K C m f) (F:FnOk X.prog X.w X.K X.mg X.base CX k f fd ps sp) (hr:Room k X.A) (hb:Binds X.K fd ps []) (hx:∀ σ,PassesAt CX X σ (E σ)) (ha:PA X (e::es) t)
  (hst:starEach (e::es) X.env=(false,eval e X.env)::starEach es X.env:=by rfl) (hpl:(backTo pos (starEach es X.env)).any (·.1)=false:=by rfl)
  (ht:eval (.Call (.Attribute o m apos) (e::es) [] pos) X.env=(do
   let ov ← eval o X.env
   standAt apos.atName
   let (f,first) ← holding [ov] (getMethod ov m pl)
   callWith pos f first (backTo pos (starEach (e::es) X.env)) (backToKw pos (keywordEach [] X.env))):=by rfl) :
  PE X (.Call (.Attribute o m apos) (e::es) [] pos) (Lj C m sp E ta t):=by
 refine ⟨fun pins s σ H Q I h=>?_⟩
 refine PySem.W.methodCall_KW (pl:=pl) (thn (he.run pins s σ H _ I h) fun u s1 ⟨x,H1,I1,rx,a,dx,fs,ex,ea,l,q⟩=>?_) ht
 subst ex
 obtain rfl:u=Value.ref a:=rx
 refine getmeth_ok I1 ea c hm l ?_
 refine PySem.W.callWith_K (first:=[.ref a]) (h₀:=X.base) I.ok.mod.kin hm.kp (thn (ha.run pos pins s1 σ H1 _ I1 q) fun us s2 ⟨vs,H2,I2,r,q2⟩=>⟨I2.kIn,?_⟩) hst hpl
 exact run_fnS (us:=.ref a::us) (vs:=.ref a::vs) F hr hb (hx σ) I2 (.cons rfl r) q2
end
end Kb
namespace Kb
open PySem L2
structure RD {α:Type} [DecidableEq α] (J:It) (A:Ty α) (xs:List α) (c:Cl) (H:Hp):Prop where
 go:∀ i,i<xs.length→J.go i H
 stop:J.stop xs.length H
 item:∀ i x v H',xs[i]?=some x→J.yld i H v H'→∃ c',Step [] c H c' H'∧A.r c' H' v x
def xJ {α:Type}:Int→List α→List (Int×α)
 | _,[]=>[]
 | k,x::xs=>(k,x)::xJ (k+1) xs
section
variable {α:Type}
theorem zj:∀ (k:Int) (xs:List α),(xJ k xs).length=xs.length
 | _,[]=>rfl
 | k,x::xs=>congrArg (·+1) (zj (k+1) xs)
theorem CT:∀ (k:Int) (xs:List α) (i:Nat),(xJ k xs)[i]?=(xs[i]?).map fun x=>(k+(i:Int),x)
 | _,[],_=>rfl
 | k,x::xs,0=>by
  show some (k,x)=some (k+((0:Nat):Int),x)
  rw [show k+((0:Nat):Int)=k by omega]
 | k,x::xs,i+1=>by
  show (xJ (k+1) xs)[i]?=_
  rw [CT (k+1) xs i]
  show _=(xs[i]?).map fun x=>(k+((i+1:Nat):Int),x)
  rw [show k+1+(i:Int)=k+((i+1:Nat):Int) by omega]
end
def zL (x:Str×Int):SK:=[.inr x.1.cps.toList,.inl x.2]
def Wu:Nat→Bool:=fun i=>i==0
theorem Uu:Rm (wu jV jB) zL Wu where
 ok:=by
  intro c H v x h
  obtain ⟨a,u0,u1,e,_,q,⟨h0,_⟩,h1⟩:=h
  have h1':u1=V.int x.2:=h1
  subst h0 h1'
  refine ⟨a,_,e,.inl q,by simp,rfl,fun j v hj=>?_⟩
  match j,hj with
  | 0,hj=>cases hj; rfl
  | 1,hj=>cases hj; rfl
  | j+2,hj=>simp at hj
 inj:=by
  rintro ⟨⟨⟨a⟩⟩,b⟩ ⟨⟨⟨a'⟩⟩,b'⟩ h
  simp only [zL,List.cons.injEq,Sum.inr.injEq,Sum.inl.injEq,and_true] at h
  obtain ⟨h1,h2⟩:=h
  subst h2
  have h1':a=a':=h1
  subst h1'
  rfl
def Hr (i:Int):Str:=Str.ofString (toString i)
def CV:Ty Unit where
 r _ _ _ _:=True
 up _ _:=trivial
 enc _:=.none
 dep:=1000
 dp h:=absurd h iW
 lay h:=absurd h iW
 lJ h:=absurd h iW
 eqv h:=absurd h iW
theorem Lk {c:Cl} {H:Hp}:∀ us:List V,Rs CV c H us (us.map fun _=>())
 | []=>trivial
 | _::us=>⟨trivial,Lk us⟩
section
variable {α:Type} [DecidableEq α] {A:Ty α} {H0 H:Hp} {c:Cl} {p:Addr} {us:List V} {xs:List α}
theorem map_unit:∀ {us:List V} {xs:List α},Rs A c H us xs→(us.map fun _=>())=xs.map fun _=>()
 | [],[],_=>rfl
 | u::us,x::xs,h=>by rw [List.map_cons,List.map_cons,map_unit h.2]
 | [],_::_,h=>h.elim
 | _::_,[],h=>h.elim
theorem Own.any (o:Own A H0 c H p us xs):Own CV H0 c H p us (xs.map fun _=>()) :=
 ⟨o.col,o.obj,map_unit o.rs▸Lk us,o.new⟩
end
section
variable {α:Type} [DecidableEq α] {A:Ty α} {K:iV} {c:Cl} {H:Hp} {v w:V} {x:α} {xs:List α} {X:Cx}
theorem Fq (h:rB K A c H w xs):tyV K "list" w H:=by
 obtain ⟨p,us,ew,sq,rs⟩:=h
 subst ew
 exact .inl ⟨rfl,us,sq⟩
end
theorem Jj {K:iV} {H:Hp} {p:Addr} {us:List V} {i:Int} {u:V} (o:H p=some (.lst us)) (e:atI us i=some u):Rv (rIxL K) (.ref p) (.int i) H u :=
 fun _ z=>⟨p,us,i,u,rfl,rfl,.inl (.inl o),e,z⟩
structure Mu (α:Type) where
 r:Cl→Hp→Addr→α→Prop
 live:∀ {c H p x},r c H p x→∃ u,H p=some u
 keep:∀ {S c H c' H' p x},Step S c H c' H'→p∉S→r c H p x→r c' H' p x
 other:∀ {c H p x q s},r c H p x→p≠q→r (lU c q s) H p x
 pA:∀ {c H p x q},r c H p x→p≠q→r (frz c q) H p x
section
variable {α:Type} {M:Mu α} {c c':Cl} {H H':Hp} {p q:Addr} {x:α} {S:List Addr}
theorem Mu.iD (M:Mu α) (st:Step [] c H c' H') (h:M.r c H p x):M.r c' H' p x:=M.keep st j6 h
theorem Mu.jE (M:Mu α) (st:Step [q] c H c' H') (n:p≠q) (h:M.r c H p x):M.r c' H' p x:=M.keep st (fun m=>n (jD.mp m)) h
theorem Mu.ne (M:Mu α) (h:M.r c H p x) (n:H q=none):p≠q:=by
 obtain ⟨u,e⟩:=M.live h
 exact kW e n
end
abbrev mj:=List Int×Int
def iU:Mu mj where
 r c H p x:=c p=some p∧∃ q,q≠p∧c q=some p∧H p=some (.lst [.ref q,.int x.2])∧H q=some (.lst (x.1.map V.int))
 live h:=let ⟨_,_,_,_,e,_⟩:=h; ⟨_,e⟩
 keep g n h:=by
  obtain ⟨cp,q,nq,cq,hp,hq⟩:=h
  refine ⟨(g.col _ _ hp).trans cp,q,nq,(g.col _ _ hq).trans cq,g.keep _ _ hp fun r e=>?_,g.keep _ _ hq fun r e=>?_⟩
  ·rw [cp] at e; cases e; exact n
  rw [cq] at e; cases e; exact n
 other h n:=by
  obtain ⟨cp,q,nq,cq,hp,hq⟩:=h
  exact ⟨jY cp n,q,nq,jY cq n,hp,hq⟩
 pA h n:=by
  obtain ⟨cp,q,nq,cq,hp,hq⟩:=h
  exact ⟨oK cp n,q,nq,oK cq n,hp,hq⟩
section
variable {c c':Cl} {H H':Hp} {p:Addr} {x:mj} {K:iV}
theorem Ft {c:Cl} {H:Hp}:∀ ns:List Int,Rs jB c H (ns.map V.int) ns
 | []=>trivial
 | _::ns=>⟨rfl,Ft ns⟩
theorem Wv (h:iU.r c H p x):Rv (rIxL K) (.ref p) (.int 1) H (.int x.2):=by
 obtain ⟨_,q,_,_,hp,_⟩:=h
 exact Jj hp rfl
theorem Ea (h:iU.r c H p x):∃ q,(∀ {K:iV},Rv (rIxL K) (.ref p) (.int 0) H (.ref q))∧(∀ {K:iV},rB K jB c H (.ref q) x.1)∧H q=some (.lst (x.1.map V.int))∧(∃ u,H p=some (.lst [.ref q,u])):=by
 obtain ⟨_,q,_,_,hp,hq⟩:=h
 exact ⟨q,Jj hp rfl,⟨q,_,rfl,.inl (.inl hq),Ft _⟩,hq,_,hp⟩
theorem Oo {q:Addr} {n:Int} (h:iU.r c H p x) (w:Wf c H) (e0:∃ u,H p=some (.lst [.ref q,u])) (e:x.1.head?=some n) {Q:VK} (qq:∀ H',Step [p] c H c H'→iU.r c H' p (x.1.tail,x.2)→Q (.int n) H'):rPopAt (.ref q) [.int 0] H Q:=by
 obtain ⟨cp,q',nq,cq,hp,hq⟩:=h
 obtain ⟨u,e1⟩:=e0
 rw [hp] at e1
 have eq:q'=q:=by cases e1; rfl
 subst eq
 cases ex:x.1 with
 | nil=>rw [ex] at e; cases e
 | cons m ms =>
  rw [ex] at e hq
  have em:m=n:=j5 e
  subst em
  refine ⟨q',_,0,0,.int m,rfl,rfl,hq,iW,iW,by simp [seqIndex?],rfl,?_⟩
  have st:Step [p] c H c (upd H q' (.lst (ms.map V.int))):=Step.mut w hq cq
  refine qq _ st ⟨cp,q',nq,cq,?_,?_⟩
  ·rw [jH (iZ nq)]; exact hp
  rw [ex]; exact j8
theorem CW {n:Int} (h:iU.r c H p x) (w:Wf c H) {Q:Hp→Prop} (qq:∀ H',Step [p] c H c H'→iU.r c H' p (x.1,n)→Q H'):rSetL (.ref p) (.int 1) (.int n) H Q:=by
 obtain ⟨cp,q,nq,cq,hp,hq⟩:=h
 have st:Step [p] c H c (upd H p (.lst [.ref q,.int n])):=Step.mut w hp cp
 exact ⟨p,_,1,1,rfl,rfl,hp,rfl,qq _ st ⟨cp,q,nq,cq,j8,by rw [jH nq]; exact hq⟩⟩
theorem Ln {H0:Hp} {us:List V} {ns:List Int} (o:Own jB H0 c H p us ns):us=ns.map V.int:=ints_of o.rs
theorem Oq {H0:Hp} {q:Addr} {us:List V} {ns:List Int} {k:Int} (o:Own jB H0 c H q us ns) (cp:c p=some p) (hp:H p=some (.lst [.ref q,.int k])) (n:q≠p):iU.r (lU c q p) H p (ns,k) :=
 ⟨jY cp (iZ n),q,n,tU o.col,hp,by rw [o.obj,Ln o]⟩
end
def wG {α β τ:Type}:List α→τ→(τ→α→Res (β×τ))→Res (List β×τ)
 | [],s,_=>.ok ([],s)
 | x::xs,s,f=>(nx (f s x)).bind fun y=>(wG xs y.2 f).bind fun ys=>.ok (y.1::ys.1,ys.2)
section
variable {γ β α τ:Type} [DecidableEq α] [DecidableEq β] {A:Ty α} {B:Ty β} {P:γ→Cl→Hp→Prop} {PE:Err→Cl→Hp→Prop} {S T:List Addr} {c0 c:Cl} {H0 H:Hp} {σ:L2.St} {g:TG} {tt:TT} {te:TE} {xs:List α} {J:It}
theorem Own.stepT {c':Cl} {H':Hp} {p:Addr} {us:List V} {xs:List α} (o:Own A H0 c H p us xs) (st:Step T c H c' H') (n:p∉T):Own A H0 c' H' p us xs :=
 ⟨(st.col _ _ o.obj).trans o.col,st.keep _ _ o.obj fun r e=>(by rw [o.col] at e; cases e; exact n),o.rs.up st.up,o.new⟩
theorem Step.YQ {c1 c2:Cl} {H1 H2:Hp} (a:Step T c H c1 H1) (b:Step T c1 H1 c2 H2):Step T c H c2 H2:=a.trans b fun _ h=>.inl h
theorem Kont.Ot {m:Res γ} {ci:Cl} {Hi:Hp} (k:Kont P PE S c0 H0 m) (g:Step S c0 H0 ci Hi) (t:∀ r∈T,r∈S∨H0 r=none):Kont P PE T ci Hi m:=by
 cases m with
 | ok y=>exact fun c H st=>k c H (g.trans st t)
 | err e=>exact fun c H st=>k c H (g.trans st t)
 | stk=>exact k.elim
theorem Ou {s0:τ} {f:τ→α→Res (β×τ)} {rest:List β×τ→Res γ} {vs:List Nat} {Q:VK} (k:Kont P PE S c0 H0 ((wG xs s0 f).bind rest)) (gs:Step S c0 H0 c H) (hl0:decide (xs.length≤sizeLine)=true)
  (t:∀ r∈T,r∈S∨H0 r=none) (hT:∀ r∈T,∃ u,H r=some u) (I:τ→Cl→Hp→Prop) (hI:∀ {s c H c' H'},Step [] c H c' H'→I s c H→I s c' H') (hId:∀ {s c H p v},tupO v=false→Wf c H→H p=none→I s c H→I s (setC c p (some p)) (upd H p v)) (Ww:∀ {s c H p u v},tupO v=false→(∀ r∈T,r≠p)→Wf c H→H p=some u→c p=some p→I s c H→I s c (upd H p v)) (h0:I s0 c H)
  (hp:∀ ci Hi,Step T c H ci Hi→NT J A xs ci Hi)
  (hb:∀ s x v ci Hi (Qe:VK) (Qn:Hp→Prop),Step T c H ci Hi→Step S c0 H0 ci Hi→I s ci Hi→A.r ci Hi v x→Kont (fun y c' H'=>∀ u,B.r c' H' u y.1→I y.2 c' H'→Qe u H') (fun _ _ _=>False) T ci Hi (f s x)→g v (wipe σ vs) Hi fun σ2 H2=>wipe σ2 vs=wipe σ vs∧tYes σ2 H2 fun b H3=>if b=true then te σ2 H3 Qe else Qn H3)
  (hd:∀ (z:List β×τ) p us' c' H',H p=none→Step T c H c' H'→Own B H0 c' H' p us' z.1→I z.2 c' H'→Kont P PE S c0 H0 (rest z)→Q (.ref p) H'):Ru g tYes te vs σ Q J H:=by
 have hl:=jQ hl0
 intro d nd
 have n0:H0 d=none:=gs.fresh nd
 have dT:∀ r∈T,r≠d:=fun r m=>by
  obtain ⟨u,e⟩:=hT r m
  exact kW e nd
 have YS:d∉T:=fun m=>dT d m rfl
 refine ⟨fun i m Hi=>m=xs.length - i∧i≤xs.length∧∃ ci zs ys s,Step T c H ci Hi∧Own B H0 ci Hi d zs ys∧I s ci Hi∧ys.length=i∧Kont P PE S c0 H0 ((wG (xs.drop i) s f).bind fun r=>rest (ys++r.1,r.2)),⟨xs.length,by simp,Nat.zero_le _,_,[],[],s0,(Step.new gs.wf nd fun r e=>by cases e; exact .inl rfl:Step [] c H (setC c d (some d)) (upd H d (.lst []))).weak (fun r m=>by cases m),⟨m7,j8,trivial,n0⟩,hId rfl gs.wf nd h0,rfl,k⟩,?_⟩
 rintro i m Hi ⟨rfl,hi,ci,zs,ys,s,ac,ow,is,el,k1⟩
 have p:=hp ci Hi ac
 by_cases hlt:i<xs.length
 ·have hx:xs[i]?=some xs[i]:=nA hlt
  rw [drop_at hx] at k1
  have k2:Kont P PE S c0 H0 ((nx (f s xs[i])).bind fun y=>(wG (xs.drop (i+1)) y.2 f).bind fun r=>rest (ys++(y.1::r.1),r.2)):=by
   have e:((wG (xs[i]::xs.drop (i+1)) s f).bind fun r=>rest (ys++r.1,r.2))=((nx (f s xs[i])).bind fun y=>(wG (xs.drop (i+1)) y.2 f).bind fun r=>rest (ys++(y.1::r.1),r.2)):=by
    show (((nx (f s xs[i])).bind fun y=>(wG (xs.drop (i+1)) y.2 f).bind fun ys=>.ok (y.1::ys.1,ys.2)).bind fun r=>rest (ys++r.1,r.2))=_
    rw [bind_assoc]
    congr 1
    funext y
    rw [bind_assoc]
    rfl
   rw [← e]
   exact k1
  refine .inr ⟨p.go i hlt,fun Hi=>∃ ci zs ys s,Step T c H ci Hi∧Own B H0 ci Hi d zs ys∧I s ci Hi∧ys.length=i+1∧Kont P PE S c0 H0 ((wG (xs.drop (i+1)) s f).bind fun r=>rest (ys++r.1,r.2)),fun H' q=>⟨xs.length - (i+1),iJ,rfl,hlt,q⟩,fun v H' hy=>?_⟩
  obtain ⟨e,rx⟩:=p.item i _ v H' hx hy
  subst e
  have gi:=gs.trans ac t
  refine hb s _ v ci _ _ _ ac gi is rx (((k2.turn.nx.Ot gi t).imp (fun y c' H' st q=>?_) fun e cc HH _ q=>q))
  intro u ru iy
  have o:=ow.stepT st YS
  have m:Step [d] c' H' c' (upd H' d (.lst (zs++[u]))):=Step.mut st.wf o.obj o.col
  have st2:Step T c H c' (upd H' d (.lst (zs++[u]))):=(ac.YQ st).tr1 m (.inr nd)
  refine ⟨zs,o.obj,by rw [ow.rs.len]; omega,c',zs++[u],ys++[y.1],y.2,st2,⟨o.col,j8,(o.rs.up m.up).app ⟨B.up m.up ru,trivial⟩,o.new⟩,Ww rfl dT st.wf o.obj o.col iy,by rw [o_,el]; rfl,?_⟩
  rw [show (fun r:List β×τ=>rest (ys++[y.1]++r.1,r.2))=fun r=>rest (ys++(y.1::r.1),r.2) from by funext r; rw [List.append_assoc]; rfl]
  exact q
 ·have e:i=xs.length:=by omega
  subst e
  rw [List.drop_length] at k1
  have k2:Kont P PE S c0 H0 (rest (ys++[],s)):=k1
  rw [List.append_nil] at k2
  exact .inl ⟨p.stop,hd (ys,s) d zs ci Hi nd ac ow is k2⟩
theorem Ov (M:Mu τ) {p0:Addr} {s0:τ} {f:τ→α→Res (β×τ)} {rest:List β×τ→Res γ} {vs:List Nat} {Q:VK} (k:Kont P PE S c0 H0 ((wG xs s0 f).bind rest)) (gs:Step S c0 H0 c H) (hl0:decide (xs.length≤sizeLine)=true)
  (pin:p0∈S∨H0 p0=none) (h0:M.r c H p0 s0)
  (hp:∀ ci Hi,Step [p0] c H ci Hi→NT J A xs ci Hi)
  (hb:∀ s x v ci Hi (Qe:VK) (Qn:Hp→Prop),Step [p0] c H ci Hi→Step S c0 H0 ci Hi→M.r ci Hi p0 s→A.r ci Hi v x→Kont (fun y c' H'=>∀ u,B.r c' H' u y.1→M.r c' H' p0 y.2→Qe u H') (fun _ _ _=>False) [p0] ci Hi (f s x)→g v (wipe σ vs) Hi fun σ2 H2=>wipe σ2 vs=wipe σ vs∧tYes σ2 H2 fun b H3=>if b=true then te σ2 H3 Qe else Qn H3)
  (hd:∀ (z:List β×τ) p us' c' H',H p=none→Step [p0] c H c' H'→Own B H0 c' H' p us' z.1→M.r c' H' p0 z.2→Kont P PE S c0 H0 (rest z)→Q (.ref p) H'):Ru g tYes te vs σ Q J H :=
 Ou (T:=[p0]) k gs hl0 (fun r m=>by rcases jD.mp m with rfl; exact pin) (fun r m=>by rcases jD.mp m with rfl; exact M.live h0) (fun s c H=>M.r c H p0 s) (fun st h=>M.iD st h)
  (fun ht w n h=>M.iD (Step.new w n (fun r e=>by cases e; exact .inl rfl) (.inr ht)) h) (fun ht d w o hc h=>M.jE (Step.mut w o hc ht) (d _ kE) h) h0 hp hb hd
end
end Kb
namespace Kb
open PySem L2 TL
section
variable {X:Cx} {x:Str} {pos:Pos}
theorem QL {i:Int} (hg:Gl X x) (e:∃ t, X.mg x=some (.int i t)) (hd:(x==("__debug__" : Str))=false:=by decide):PE X (.Name x pos) (tC (.int i)) :=
 let ⟨t,h⟩:=e; pe_glob hg h ⟨t,rfl⟩ hd
theorem QM {z:Str} (hg:Gl X x) (e:∃ t, X.mg x=some (.str z t)) (hd:(x==("__debug__" : Str))=false:=by decide):PE X (.Name x pos) (tC (.str z)) :=
 let ⟨t,h⟩:=e; pe_glob hg h ⟨t,rfl⟩ hd
end
@[irreducible] def Fw (i j:Str):Bool:=!(Builtin.Str.occurrences j i 0 j.length 1).isEmpty
section
variable {i j:Str} {H:Hp}
theorem Eb:Rv (fun x y H Q=>∃ i j,x=V.str i∧y=V.str j∧Q (.bl (!(!(Builtin.Str.occurrences j i 0 j.length 1).isEmpty))) H) (.str i) (.str j) H (.bl (!Fw i j)):=fun Q q=>⟨i,j,rfl,rfl,by unfold Fw at q; exact q⟩
end
abbrev Uv (l:List Nat):Prop:=∀ c∈l,c<0x110000
theorem Ht {x:Str}:PyData.strOk x=true↔Uv (tl x):=by
 unfold PyData.strOk Uv tl
 rw [Array.all_eq_true]
 constructor
 ·intro h c m
  obtain ⟨i,hi,e⟩:=List.getElem_of_mem m
  rw [← e]
  exact jQ (h i (by simpa using hi))
 intro h i hi
 exact k_ (h _ j6)
theorem Fx {S:List Nat} (hS:Uv S):∀ {ps:List (List Nat)},(∀ p∈ps,Uv p)→Uv (joinL S ps)
 | [],_=>fun d m=>by cases m
 | [p],h=>h p kE
 | p::q::r,h=>fun d m=>by
  rcases tK.mp m with m | m
  ·exact h p kE d m
  rcases tK.mp m with m | m
  ·exact hS d m
  exact Fx hS (ps:=q::r) (fun z mz=>h z (lQ _ mz)) d m
@[irreducible] def oE (a:Str) (xs:List Str):Str:=Txt.join a xs
@[irreducible] def Lp (a:Str) (n:Int):Str:=⟨(List.replicate n.toNat (tl a)).flatten.toArray⟩
theorem Ai {a:Str} {xs:List Str} (h:PyData.strOk a=true) (hx:∀ x∈xs,PyData.strOk x=true):PyData.strOk (oE a xs)=true:=by
 unfold oE
 rw [Ht,join_eq,tl_join]
 refine Fx (Ht.mp h) fun p m=>?_
 obtain ⟨x,mx,rfl⟩:=List.mem_map.mp m
 exact Ht.mp (hx x mx)
section
variable {σ:L2.St} {H H0:Hp} {c:Cl} {a b:Str} {to te:TE} {K:iV}
theorem Ec:∀ {us:List V} {xs:List Str},Rs jV c H us xs→us=xs.map V.str∧∀ x∈xs,PyData.strOk x=true
 | [],[],_=>⟨rfl,fun x m=>by cases m⟩
 | u::us,x::xs,h=>by
  obtain ⟨⟨e,o⟩,h2⟩:=h
  obtain ⟨e2,o2⟩:=Ec h2
  refine ⟨by rw [e,e2]; rfl,fun y m=>?_⟩
  rcases lA.mp m with rfl | m
  ·exact o
  exact o2 y m
 | [],_::_,h=>h.elim
 | _::_,[],h=>h.elim
def rJoin (K:iV):V→List V→Hp→VK→Prop:=fun x xs H Q=>∃ a p,∃ ys:List Str,x=V.str a∧xs=[V.ref p]∧(SqL K H p (ys.map V.str)∨SqT K H p (ys.map V.str))∧(ys.map (·.length)).sum+ys.length*a.length≤16777216∧Q (.str (Txt.join a ys)) H
theorem Lq {xs:List Str} {v:V} (h:rB K jV c H v xs) (hz:(xs.map (·.length)).sum+xs.length*a.length≤16777216) {Q:VK} (q:Q (.str (oE a xs)) H) :
  rJoin K (.str a) [v] H Q:=by
 obtain ⟨p,us,rfl,sq,rs⟩:=h
 obtain ⟨e,_⟩:=Ec rs
 rw [e] at sq
 refine ⟨a,p,xs,rfl,rfl,.inl sq,hz,?_⟩
 unfold oE at q
 exact q
theorem Uw {xs:List Str} {v:V} (h:rB K jV c H v xs):∀ x∈xs,PyData.strOk x=true:=by
 obtain ⟨p,us,rfl,sq,rs⟩:=h
 exact (Ec rs).2
end
section
variable {σ:L2.St} {H H0:Hp} {c:Cl} {a b:Str} {to te:TE} {K:iV}
theorem Ux {r:V→List V→Hp→VK→Prop} {Q:VK} (h1:Pv to σ H (.str a)) (h:te σ H fun y H2=>r (.str a) [y] H2 Q):tM1 r to te σ H Q:=h1 _ ⟨⟨a,rfl⟩,h⟩
end
section
variable {X:Cx} {K:iV} {o e:Expr} {to te:TE}
theorem Lr (eK:X.K=K) {apos pos:Pos} (ho:PE X o to) (he:PE X e te) (hs:starEach [e] X.env=[(false, eval e X.env)]:=by rfl) (hbase:attributeBase o "join" X.env (eval o X.env)=eval o X.env:=by rfl) (hline:(apos.endLine==pos.line)=true:=by rfl) :
  PE X (.Call (.Attribute o "join" apos) [e] [] pos) (tM1 (rJoin K) to te) :=
 eK▸pe_join ho he hs hbase hline
end
end Kb
namespace Kb
open PySem L2
class Bh (κ:Type) where
 Uy:κ→Key
 ok:κ→Bool
 inj:∀ {a b:κ},Uy a=Uy b→a=b
instance Uz:Bh Str:=⟨Sum.inr,PyData.strOk,fun e=>Sum.inr.inj e⟩
instance UG:Bh Int:=⟨Sum.inl,fun _=>true,fun e=>Sum.inl.inj e⟩
def uW {κ α:Type} (kvs:List (κ×α)):List κ:=kvs.map fun p=>p.1
def CZ {κ α:Type} (kvs:List (κ×α)):List α:=kvs.map fun p=>p.2
def getD {κ α:Type} [DecidableEq κ] (kvs:List (κ×α)) (k:κ):Option α:=(kvs.find? fun p=>decide (p.1=k)).map (·.2)
section
variable {κ:Type} [Bh κ]
def UJ:List κ→List V→List (Key×V)
 | k::ks,u::us=>(Bh.Uy k,u)::UJ ks us
 | _,_=>[]
def UL {α:Type} [DecidableEq κ] [DecidableEq α] (A:Ty α):Ty (List (κ×α)) where
 r c H v kvs:=∃ (a:Addr) (us:List V),v=.ref a∧c a=none∧Rd H a (.dK (UJ (uW kvs) us))∧Rs A c H us (CZ kvs)∧∀ k∈uW kvs,Bh.ok k=true
 up:=fun g ⟨a,us,e,k,q,h,o⟩=>⟨a,us,e,g.Ay k q,g.rd k q,h.up g,o⟩
 enc _:=.none
 dep:=1000
 dp h:=absurd h iW
 lay h:=absurd h iW
 lJ h:=absurd h iW
 eqv h:=absurd h iW
end
end Kb
namespace Kb
open PySem PySem.Spec PyProof.Rows L2
section
variable {P:Program} {w:World} {K:iV} {mg:Str→Option Value} {base:Heap}
structure RG (P:Program) (w:World) (K:iV) (mg:Str→Option Value) (base:Heap) (k:Nat) (f:Addr) (fd:FuncData) (ps:List Str) (sp:Sp):Prop where
 num:∀ {vs H Q E},sp vs H Q E→vs.length=ps.length
 go:∀ {A:Around} {out:List Env} {s:Shared} {H:Hp} {args:Args} {us:List Value} {vs:List V} {Q:VK} {E:XK},
  A.guards=some []→Room k A→Env0 P w K mg base A out s H→BindsTo s fd args (ps.zip us)→Vals vs us→sp vs H Q E →
  codeAny (model P w) A (.call (.ref f) args) (CR CX0 out P w H s Q E) s
theorem RG.of {k:Nat} {f:Addr} {fd:FuncData} {ps:List Str} {sp:Sp} (F:FnOk P w K mg base CX0 k f fd ps sp):RG P w K mg base k f fd ps sp :=
 ⟨fun {vs H Q E} h=>F.len vs H Q E h,fun {A out s H args us vs Q E} _ r e b v p=>F.run A out s H args us vs Q E r e b v p⟩
structure Top (K:iV) (a:Addr) (h:Heap) (H:Hp) (o:Obj):Prop where
 Cq:h.get? a=some o
 noDict:∀ es n,o.data≠.dict es n
 one:∀ b,H b≠none→b=a
 out:H a≠none→K.lookup a=none
theorem Top.mod {a:Addr} {h:Heap} {H:Hp} {o:Obj} {mb:Str→Option Value} (T:Top K a h H o) (KX:K.In h) (hm:h.Ns mainGlobals mg) (hb:h.Ns builtinsNs mb) (hbb:∀ x:Str, x ≠ "__name__" → mb x=bootBuiltins x) (hl:h.NoLimit):Mod K mg (hidT h H):=by
 have free:∀ {b:Addr} {p:Obj},h.get? b=some p→(b=a→K.lookup a=none→p≠o)→(b=a→H a≠none→K.lookup a=none)→(b=a→K.lookup a=none→False)→(hidT h H).get? b=some p:=by
  intro b p e _ _ bad
  apply hidT_get e
  cases z:H b with
  | none=>rfl
  | some u =>
   have eb:=T.one b (by rw [z]; exact fun w=>nomatch w)
   exact (bad eb (T.out (by rw [← eb,z]; exact fun w=>nomatch w))).elim
 have dict:∀ {b:Addr} {m:Str→Option Value},h.Ns b m→(hidT h H).Ns b m:=by
  rintro b m ⟨p,es,n,e,d,r⟩
  refine ⟨p,es,n,hidT_get e ?_,d,r⟩
  cases z:H b with
  | none=>rfl
  | some u =>
   have eb:=T.one b (by rw [z]; exact fun w=>nomatch w)
   rw [eb,T.Cq] at e
   cases e
   exact (T.noDict _ _ d).elim
 obtain ⟨mc,l1,l2⟩:=hl
 refine ⟨fun b p z=>?_,dict hm,⟨mb,dict hb,hbb⟩,⟨mc,dict l1,l2⟩⟩
 refine free (KX b p z) (fun _ _=>?_) (fun _ w=>T.out w) (fun eb w=>?_)
 ·rintro rfl
  rename_i eb w
  rw [eb,w] at z; cases z
 rw [eb,w] at z; cases z
theorem Top.digits {a:Addr} {h:Heap} {H:Hp} {o:Obj} (T:Top K a h H o) (nd:h.NoDigits):(hidT h H).NoDigits:=by
 obtain ⟨mc,⟨p,es,n,e,d,r⟩,z⟩:=nd
 refine ⟨mc,⟨p,es,n,hidT_get e ?_,d,r⟩,z⟩
 cases z:H cStatics with
 | none=>rfl
 | some u =>
  have eb:=T.one cStatics (by rw [z]; exact fun w=>nomatch w)
  rw [eb,T.Cq] at e
  cases e
  exact (T.noDict _ _ d).elim
theorem Top.env {a:Addr} {s:Shared} {H:Hp} {o:Obj} {mb:Str→Option Value} (T:Top K a s.heap H o) (KX:K.In s.heap) (hm:s.heap.Ns mainGlobals mg) (hb:s.heap.Ns builtinsNs mb) (hbb:∀ x:Str, x ≠ "__name__" → mb x=bootBuiltins x) (hl:s.heap.NoLimit)
  (hok:HOk P w H s.heap) (hg:s.gens=#[]):Env0 P w K mg (hidT s.heap H) callerA [] s H where
 frames:=rfl
 mod:=T.mod KX hm hb hbb hl
 bs _ _ z:=of_hidT z
 bsz:=by rw [hidT_size]; exact lD _
 funs:=trivial
 frf b z:=by cases z
 hok:=hok
 bare:=.of_eq hg
theorem Ls {mb:Str→Option Value} {k:Nat} {fa a:Addr} {fd:FuncData} {x:Str} {sp:Sp} {s:Shared} {vals:List Value} {ns:List Int}
  (KX:K.In s.heap) (hm:s.heap.Ns mainGlobals mg) (hb:s.heap.Ns builtinsNs mb) (hbb:∀ x:Str, x ≠ "__name__" → mb x=bootBuiltins x) (hl:s.heap.NoLimit) (hg:s.gens=#[])
  (Cq:s.heap.get? a=some { cls:=.type "list", data:=.seq vals.toArray }) (isI:IntsAre vals ns) (short:ns.length≤sizeLine) (room:Room k callerA)
  (nd:s.heap.NoDigits) (F:∀ base:Heap,K.In base→base.Ns mainGlobals mg→base.NoDigits→RG P w K mg base k fa fd [x] sp) (bnd:∀ (s:Shared) (u:Value),BindsTo s fd ⟨[u],[]⟩ [(x,u)])
  (prom:∀ H:Hp,SqL K H a (ns.map V.int)→sp [.ref a] H (fun v _=>v=.bl true) fun _ _ _=>False) :
  codeAny (model P w) callerA (.call (.ref fa) ⟨[.ref a],[]⟩) (fun r s'=>r=.ok (.ret (.bool true))∧OldK s.heap s'.heap∧s'.os=s.os∧AllBare s'.gens) s:=by
 have rel:=vals_ints isI
 have size:=isI.length
 suffices main:∃ H:Hp, Top K a s.heap H { cls:=.type "list", data:=.seq vals.toArray }∧HOk P w H s.heap∧SqL K H a (ns.map V.int)∧(H a≠none→∃ o xs, H a=some (.frz o (.lst xs))) by
  obtain ⟨H,T,hok,sq,frz⟩:=main
  have en:=T.env (P:=P) (w:=w) (mg:=mg) KX hm hb hbb hl hok hg
  have run:=(F _ en.mod.kin en.mod.glob (T.digits nd)).go (args:=⟨[.ref a],[]⟩) (us:=[.ref a]) rfl room en (vs:=[V.ref a]) (bnd s (.ref a)) (.cons rfl .nil) (prom H sq)
  refine codeAny_mono run ?_
  intro r s2 z
  match r,z with
  | .ok (.ret u),⟨v,H2,os,bare,un,hok2,r2,q⟩ =>
   cases (show v=.bl true from q)
   cases (show u=Value.bool true from r2)
   refine ⟨rfl,.of_keep ?_,os,bare⟩
   intro b o e
   by_cases ht:H b=none
   ·exact un.keep b o e ht (fun z=>by cases z) (fun z=>by cases z)
   ·have eb:=T.one b ht
    subst eb
    obtain ⟨ob,xs,z⟩:=frz ht
    have e1:=(hok b _ z).1
    have e2:=(hok2 b _ (un.frzs b ob _ z)).1
    exact e2.trans (e1.symm.trans e)
 cases hk:K.lookup a with
 | none =>
  have self:∀ b u, (if b=a then some (HO.frz { cls:=.type "list", data:=.seq vals.toArray } (.lst (ns.map V.int))) else none)=some u→b=a∧u=HO.frz { cls:=.type "list", data:=.seq vals.toArray } (.lst (ns.map V.int)):=by
   intro b u z
   split at z
   ·exact ⟨by assumption,(j5 z).symm⟩
   ·cases z
  refine ⟨fun b=>if b=a then some (.frz { cls:=.type "list", data:=.seq vals.toArray } (.lst (ns.map V.int))) else none, ⟨Cq, fun _ _ z=>(nomatch z), fun b z=>?_, fun _=>hk⟩, fun b u z=>?_, .inl (.inr ⟨_, if_pos rfl⟩), fun _=>⟨_, _, if_pos rfl⟩⟩
  ·cases hz:(if b=a then some (HO.frz { cls:=.type "list", data:=.seq vals.toArray } (.lst (ns.map V.int))) else none) with
   | none=>exact (z hz).elim
   | some u=>exact (self b u hz).1
  ·obtain ⟨rfl,rfl⟩:=self b u z
   exact ⟨Cq,by rw [mU]; exact short,vals,_,rel,Cq⟩
 | some o =>
  have e:=KX a o hk
  rw [Cq] at e
  cases e
  exact ⟨fun _=>none,⟨Cq,fun _ _ z=>(nomatch z),fun b z=>(z rfl).elim,fun z=>(z rfl).elim⟩,fun b u z=>(nomatch z),.inr ⟨_,vals.toArray,_,hk,rfl,rfl,rfl,by rw [List.size_toArray,size]; exact short,by simpa using rel⟩,fun z=>(z rfl).elim⟩
end
end Kb
namespace Kb
open PySem PySem.Spec PyProof.Rows L2 PySem.NumText
structure YT (p:Prop):Prop where
 out:p
@[irreducible] def UW (i:Int):Bool:=decide (i.natAbs<10^4300)
end Kb
namespace Kb
open PySem L2
inductive YW
 | non
 | num (i:Int)
 | rat (q:Int×Int)
 | str (s:PySem.Str×Int×Int×Bool)
 | Ow (s:Int×Int×Int)
 | YX (g:List (PySem.Str×Int×Int))
 deriving DecidableEq
abbrev xX:=wz jV jB jB tyB
abbrev xY:=wu jB (wu jB jB)
inductive Told
 | read (d:YW)
 | ref (b:Bool)
 deriving DecidableEq
@[reducible] def Ys {α:Type} [DecidableEq α] (A:Ty α):Ty (Option (List α)):=tyO (uK A) (fun _ x=>by simp [uK,PyData.eqv]) (fun c H x ⟨a,us,e,_⟩=>by cases e)
def yx {α:Type}:List (Option α)→Option (List α)
 | []=>some []
 | none::_=>none
 | some x::r=>(yx r).map (x::·)
section
variable {α:Type} [DecidableEq α] {A:Ty α} {c:Cl} {H:Hp} {v:V} {hn:A.dep≤64→∀ x,PyData.eqv (A.enc x) .none=false∧PyData.eqv .none (A.enc x)=false} {hv:∀ c H x,¬ A.r c H .non x}
theorem Jk:∀ {us:List V} {xs:List (Option α)} {ys:List α},Rs (tyO A hn hv) c H us xs→yx xs=some ys→Rs A c H us ys
 | [],[],ys,_,e=>by cases e; trivial
 | u::us,none::xs,ys,_,e=>by cases e
 | u::us,some x::xs,ys,h,e=>by
  unfold yx at e
  cases e2:yx xs with
  | none=>rw [e2] at e; cases e
  | some zs =>
   rw [e2] at e
   cases e
   exact ⟨h.1,Jk h.2 e2⟩
 | [],_::_,_,h,_=>h.elim
 | _::_,[],_,h,_=>h.elim
theorem Own.some {H0:Hp} {p:Addr} {us:List V} {xs:List (Option α)} {ys:List α} (o:Own (tyO A hn hv) H0 c H p us xs) (e:yx xs=some ys):Own A H0 c H p us ys:=⟨o.col,o.obj,Jk o.rs e,o.new⟩
end
end Kb
namespace Kb
open PySem PySem.Spec PyProof.Rows L2
section
variable {P:Program} {w:World}
def QS (t:Bool) (K:iV) (H:Hp) (a:Addr) (xs:List V):Prop:=match t with
 | true=>SqT K H a xs
 | false=>SqL K H a xs
def Tt (t:Bool) (h:Heap) (i a:Addr) (k:Nat):Prop:=match t with
 | true=>h.IsTupleIter i a k
 | false=>h.IsListIter i a k
def Wx (t:Bool) (h:Heap) (a:Addr) (its:Array Value):Prop:=match t with
 | true=>h.IsTuple a its
 | false=>h.IsList a its
def Yt (t:Bool) (a:Addr):Obj:=match t with
 | true=>{ cls:=.type "tuple_iterator", data:=.fields #[.ref a, .int 0 0] }
 | false=>{ cls:=.type "list_iterator", data:=.fields #[.ref a, .int 0 0] }
theorem Jl {t:Bool} {h:Heap} {i a:Addr} {k:Nat} (x:Tt t h i a k):∃ o,h.get? i=some o∧∀ v,o.data≠.cell v:=by
 cases t<;>(obtain ⟨o,e,_,d⟩:=x; exact ⟨o,e,fun v q=>by rw [d] at q; cases q⟩)
theorem Ly {t:Bool} {h h':Heap} {i a:Addr} {k:Nat} (x:Tt t h i a k) (hk:∀ o,h.get? i=some o→h'.get? i=some o):Tt t h' i a k:=by
 cases t
 ·exact Heap.IsListIter.at x hk
 exact Heap.IsTupleIter.at x hk
theorem Ox {t:Bool} {h:Heap} {i a:Addr} (e:h.get? i=some (Yt t a)):Tt t h i a 0:=by
 cases t<;>exact ⟨_,e,rfl,rfl⟩
theorem Lz (t:Bool) (a:Addr) (its:Array Value):Begins (.ref a) (Yt t a) fun h=>Wx t h a its:=by
 cases t
 ·exact begins_list a its
 exact begins_tuple a its
theorem Jm {A:Around} (t:Bool) (hh:A.handled=none) (i a:Addr) (hne:a≠i) (its:Array Value):Draws P w A i [i,a] its.size (fun k v=>its[k]?=some v) (fun k h=>Tt t h i a k∧Wx t h a its):=by
 cases t
 ·exact .list hh i a hne its
 exact .tuple hh i a hne its
variable {X:Cx} {pins:List (Addr×Obj)} {σ:L2.St} {H:Hp} {s:Shared}
theorem Ed {t:Bool} {a:Addr} {xs:List V} (I:Inv X pins σ H s) (h:QS t X.K H a xs):∃ its:List Value,Vals xs its∧Wx t s.heap a its.toArray∧a<s.heap.objs.size:=by
 cases t
 ·obtain ⟨its,rv,p,_⟩:=I.list h
  exact ⟨its,rv,p.isList,p.lt⟩
 obtain ⟨its,rv,p,_⟩:=I.tuple h
 obtain ⟨o,ho,_⟩:=id p
 exact ⟨its,rv,p,Heap.lt_size ho⟩
theorem Oz {t:Bool} {a:Addr} {xs ys:List V} (I:Inv X pins σ H s) (h:QS t X.K H a xs) (h2:QS t X.K H a ys):xs=ys:=by
 cases t
 ·exact I.list_inj h h2
 exact I.tuple_inj h h2
end
section
variable {β τ α:Type} [DecidableEq α] {A:Ty α} {P:β→Cl→Hp→Prop} {PE:Err→Cl→Hp→Prop} {S:List Addr} {c0 c:Cl} {H0 H:Hp} {σ:L2.St} {g:TG} {tb:TS} {D:Ends} {xs:List α} {s0:τ} {J:It}
theorem RJ {f:τ→α→Res τ} {rest:τ→Res β} (k:Kont P PE S c0 H0 ((qU xs s0 f).bind rest)) (I:τ→Cl→Hp→L2.St→Prop) (h0:I s0 c H σ) (hl:∀ s c H σ,I s c H σ→RD J A xs c H)
  (hb:∀ s x v c H σ c1 H1 (N:L2.St→Hp→Prop),I s c H σ→Step [] c H c1 H1→A.r c1 H1 v x→Kont (fun s' c' H'=>∀ σ',I s' c' H' σ'→N σ' H') PE S c0 H0 (f s x)→g v σ H1 fun σ2 H2=>tb { D with nx:=N,ct:=N,bk:=D.nx } σ2 H2)
  (hd:∀ s c H σ,I s c H σ→Kont P PE S c0 H0 (rest s)→D.nx σ H) :
  ∃ W:Nat→Nat→L2.St→Hp→Prop,(∃ m,W 0 m σ H)∧∀ i m σ H,W i m σ H →
   (J.stop i H∧D.nx σ H)∨(J.go i H∧∃ N:L2.St→Hp→Prop,(∀ σ' H',N σ' H'→∃ m',m'<m∧W (i+1) m' σ' H')∧∀ x H',J.yld i H x H'→g x σ H' fun σ2 H2=>tb { D with nx:=N,ct:=N,bk:=D.nx } σ2 H2):=by
 refine ⟨fun i m σ H=>m=xs.length - i∧i≤xs.length∧∃ s c,I s c H σ∧Kont P PE S c0 H0 ((qU (xs.drop i) s f).bind rest),⟨xs.length,by simp,Nat.zero_le _,s0,c,h0,k⟩,?_⟩
 rintro i m σ1 H1 ⟨rfl,hi,s,c1,h,k1⟩
 have p:=hl s c1 H1 σ1 h
 by_cases hlt:i<xs.length
 ·have hx:xs[i]?=some xs[i]:=nA hlt
  rw [drop_at hx,pZ,bind_assoc] at k1
  refine .inr ⟨p.go i hlt,fun σ' H'=>∃ s c,I s c H' σ'∧Kont P PE S c0 H0 ((qU (xs.drop (i+1)) s f).bind rest),fun σ' H' q=>⟨xs.length - (i+1),iJ,rfl,hlt,q⟩,fun v H' hy=>?_⟩
  obtain ⟨c2,st,r⟩:=p.item i _ v H' hx hy
  exact hb s _ v c1 _ σ1 c2 _ _ h st r (k1.turn.imp (fun s' c' H' st q σ' h'=>⟨s',c',h',q⟩) fun _ _ _ _ q=>q)
 ·have e:i=xs.length:=by omega
  subst e
  rw [List.drop_length] at k1
  exact .inl ⟨p.stop,hd s c1 H1 σ1 h k1⟩
end
end Kb
namespace Kb
open PySem L2
def U0 {α:Type} [DecidableEq α] (A:Ty α):Ty (List α) where
 r c H v xs:=∃ (a:Addr) (us:List V),v=.ref a∧c a=none∧Rd H a (.tup us)∧Rs A c H us xs
 up:=fun g ⟨a,us,e,k,q,h⟩=>⟨a,us,e,g.Ay k q,g.rd k q,h.up g⟩
 enc xs:=.tuple (xs.map A.enc)
 dep:=A.dep+1
 dp:=fun hd _ _ _ _ _ ⟨a,us,e,k,q,h⟩=>by subst e; exact .tup (.inl q) (h.dp (qC hd))
 lay:=fun hd _ _ _ _ ⟨a,us,e,k,q,h⟩=>h.lay (qC hd)
 lJ hd xs:=Nat.succ_le_succ (DK A (qC hd) xs)
 eqv hd x y:=by simp only [PyData.eqv]; exact eqvAll A (qC hd) x y
inductive Yu
 | str (s:PySem.Str×Int×Int×Bool)
 | Ow (s:Int×Int×Int)
 deriving DecidableEq
def Bj:Ty Yu where
 r c H v x:=match x with
  | .str s=>xX.r c H v s
  | .Ow s=>xY.r c H v s
 up {c H c' H' v x} g h:=by
  cases x with
  | str s=>exact xX.up g h
  | Ow s=>exact xY.up g h
 enc x:=match x with
  | .str s=>xX.enc s
  | .Ow s=>xY.enc s
 dep:=4
 dp hd {K c H v x} h:=by
  cases x with
  | str s=>exact xX.dp iW h
  | Ow s=>exact xY.dp iW h
 lay hd {c H v x} h:=by
  cases x with
  | str s=>exact xX.lay iW h
  | Ow s=>exact xY.lay iW h
 lJ hd x:=by
  cases x with
  | str s=>exact Nat.le_trans (xX.lJ iW _) iW
  | Ow s=>exact Nat.le_trans (xY.lJ iW _) iW
 eqv hd x y:=by
  cases x<;>cases y
  case str.str a b=>exact (xX.eqv iW _ _).trans j6
  case Ow.Ow a b=>exact (xY.eqv iW _ _).trans j6
  all_goals simp [jB,tyB,jV,wu,wz,PyData.eqv,PyData.eqvAll]
inductive Part
 | txt (s:PySem.Str)
 | num (i:Int)
 | lst (l:List Yu)
 deriving DecidableEq
def LC:Ty Part where
 r c H v x:=match x with
  | .txt s=>jV.r c H v s
  | .num i=>jB.r c H v i
  | .lst l=>(uK Bj).r c H v l
 up {c H c' H' v x} g h:=by
  cases x with
  | txt s=>exact jV.up g h
  | num i=>exact jB.up g h
  | lst l=>exact (uK Bj).up g h
 enc x:=match x with
  | .txt s=>jV.enc s
  | .num i=>jB.enc i
  | .lst l=>(uK Bj).enc l
 dep:=6
 dp hd {K c H v x} h:=by
  cases x with
  | txt s=>exact jV.dp iW h
  | num i=>exact jB.dp iW h
  | lst l=>exact (uK Bj).dp iW h
 lay hd {c H v x} h:=by
  cases x with
  | txt s=>exact jV.lay iW h
  | num i=>exact jB.lay iW h
  | lst l=>exact (uK Bj).lay iW h
 lJ hd x:=by
  cases x with
  | txt s=>exact Nat.le_trans (jV.lJ iW _) iW
  | num i=>exact Nat.le_trans (jB.lJ iW _) iW
  | lst l=>exact Nat.le_trans ((uK Bj).lJ iW _) iW
 eqv hd x y:=by
  cases x<;>cases y
  case txt.txt a b=>exact (jV.eqv iW _ _).trans j6
  case num.num a b=>exact (jB.eqv iW _ _).trans j6
  case lst.lst a b=>exact ((uK Bj).eqv iW _ _).trans j6
  all_goals simp [jB,jV,uK,PyData.eqv,PyData.eqvAll]
end Kb
namespace Kb
open PySem PySem.Spec PyProof.Rows L2 TL
open Builtin Builtin.Str
@[reducible] def Wy {α:Type} [DecidableEq α] (A:Ty α):Ty (Option (List α)):=tyO (U0 A) (fun _ x=>by simp [U0,PyData.eqv]) (fun c H x ⟨a,us,e,_⟩=>by cases e)
@[reducible] def U3:Ty (Option Part):=tyO LC (fun _ x=>by cases x<;>simp [LC,jV,jB,uK,PyData.eqv]) (fun c H x h=>by
 cases x with
 | txt s=>exact absurd h.1 j6
 | num i=>cases h
 | lst l=>obtain ⟨a,us,e,_⟩:=h; cases e)
theorem Hu {K:iV} {ta:TE} {σ:L2.St} {H:Hp} {Q:VK} (h:ta σ H fun x H1=>kTup K x H1 Q):tThen ta (kTup K) σ H Q:=h
end Kb
namespace Kb
open PySem PySem.Spec L2 PyProof.Rows
structure U4 {κ:Type} [Bh κ] {α:Type} [DecidableEq α] (A:Ty α) (c:Cl) (H:Hp) (a:Addr) (o:Obj) (us:List V) (kvs:List (κ×α)):Prop where
 col:c a=none
 obj:H a=some (.frz o (.dK (UJ (uW kvs) us)))
 rs:Rs A c H us (CZ kvs)
 ok:∀ k∈uW kvs,Bh.ok k=true
section
variable {κ:Type} [Bh κ] [DecidableEq κ] {α:Type} [DecidableEq α] {A:Ty α} {c c' c0:Cl} {H H' H0:Hp} {S T:List Addr} {p q a:Addr} {o:Obj} {us:List V} {kvs:List (κ×α)} {v:V} {σ:L2.St}
theorem LK (st:Step T c H c' H') {d:Obj} {x:HO} (h:H a=some (.frz d x)) (k:c a=none):H' a=some (.frz d x):=st.tL a d x h fun r e=>by rw [k] at e; cases e
theorem U4.lift (h:U4 A c H a o us kvs) (st:Step T c H c' H'):U4 A c' H' a o us kvs:=⟨(st.col _ _ h.obj).trans h.col,LK st h.obj h.col,h.rs.up st.up,h.ok⟩
theorem U4.ty (h:U4 A c H a o us kvs):(UL A).r c H (.ref a) kvs:=⟨a,us,rfl,h.col,.inr ⟨o,h.obj⟩,h.rs,h.ok⟩
end
structure uN {κ:Type} [Bh κ] {α:Type} [DecidableEq α] (A:Ty α) (H0:Hp) (c:Cl) (H:Hp) (p:Addr) (us:List V) (kvs:List (κ×α)):Prop where
 col:c p=some p
 obj:H p=some (.dK (UJ (uW kvs) us))
 rs:Rs A c H us (CZ kvs)
 ok:∀ k∈uW kvs,Bh.ok k=true
 new:H0 p=none
section
variable {κ:Type} [Bh κ] [DecidableEq κ] {α:Type} [DecidableEq α] {A:Ty α} {c c' c0:Cl} {H H' H0:Hp} {S T:List Addr} {p q a:Addr} {us:List V} {kvs:List (κ×α)} {v:V} {x:α} {k:κ}
theorem uN.step (h:uN A H0 c H p us kvs) (g:Step T c H c' H') (n:p∉T):uN A H0 c' H' p us kvs:=⟨(g.col p _ h.obj).trans h.col,g.mJ p _ p h.obj h.col n,h.rs.up g.up,h.ok,h.new⟩
theorem uN.step0 (h:uN A H0 c H p us kvs) (g:Step [] c H c' H'):uN A H0 c' H' p us kvs:=h.step g (fun z=>by cases z)
theorem uN.step1 (h:uN A H0 c H p us kvs) (g:Step [q] c H c' H') (n:p≠q):uN A H0 c' H' p us kvs:=h.step g (fun z=>n (jD.mp z))
theorem uN.other (h:uN A H0 c H p us kvs) (n:p≠q):uN A H0 (Kb.frz c q) H p us kvs:=⟨oK h.col n,h.obj,h.rs.up qD,h.ok,h.new⟩
theorem uN.xW {r:Addr} (h:uN A H0 c H p us kvs) (n:p≠q):uN A H0 (lU c q r) H p us kvs:=⟨jY h.col n,h.obj,h.rs.up nZ,h.ok,h.new⟩
theorem uN.frz (h:uN A H0 c H p us kvs):(UL A).r (Kb.frz c p) H (.ref p) kvs:=⟨p,us,rfl,uU h.col,.inl h.obj,h.rs.up qD,h.ok⟩
theorem uN.base {H1:Hp} {c1:Cl} (h:uN A H1 c H p us kvs) (g:Step S c0 H0 c1 H1):uN A H0 c H p us kvs:=⟨h.col,h.obj,h.rs,h.ok,g.fresh h.new⟩
end
structure qI {α:Type} [DecidableEq α] (A:Ty α) (H0:Hp) (c:Cl) (H:Hp) (p s:Addr) (us:List V) (kvs:List (Str×α)):Prop where
 ow:uN A H0 c H p us kvs
 ne:s≠p
 OD:c s=some p
 OJ:H s=some (.dK [])
section
variable {α:Type} [DecidableEq α] {A:Ty α} {c c' c0:Cl} {H H' H0:Hp} {S T:List Addr} {p q a s:Addr} {us:List V} {kvs:List (Str×α)} {v:V} {x:α} {k:Str} {σ:L2.St}
theorem qI.obj (h:qI A H0 c H p s us kvs):H p=some (.dK (UJ (uW kvs) us)):=h.ow.obj
theorem qI.new (h:qI A H0 c H p s us kvs):H0 p=none:=h.ow.new
theorem qI.step (h:qI A H0 c H p s us kvs) (g:Step T c H c' H') (n:p∉T):qI A H0 c' H' p s us kvs:=⟨h.ow.step g n,h.ne,(g.col _ _ h.OJ).trans h.OD,g.mJ _ _ _ h.OJ h.OD n⟩
theorem qI.step0 (h:qI A H0 c H p s us kvs) (g:Step [] c H c' H'):qI A H0 c' H' p s us kvs:=h.step g (fun z=>by cases z)
theorem qI.step1 (h:qI A H0 c H p s us kvs) (g:Step [q] c H c' H') (n:p≠q):qI A H0 c' H' p s us kvs:=h.step g (fun z=>n (jD.mp z))
theorem qI.other (h:qI A H0 c H p s us kvs) (n:p≠q):qI A H0 (Kb.frz c q) H p s us kvs:=⟨h.ow.other n,h.ne,oK h.OD n,h.OJ⟩
theorem qI.xW {r:Addr} (h:qI A H0 c H p s us kvs) (n:p≠q):qI A H0 (lU c q r) H p s us kvs:=⟨h.ow.xW n,h.ne,jY h.OD n,h.OJ⟩
end
def un2 {α β:Type} (xs:List α) (f:α→α →  Res β):Res β:=match xs with
 | [x0,x1]=>f x0 x1
 | _=>.stk
@[simp] theorem Wz {α β:Type} {x0 x1:α} {f:α→α →  Res β}:un2 [x0,x1] f=f x0 x1:=rfl
def YZ {α β:Type} (xs:List α) (f:α→α→α →  Res β):Res β:=match xs with
 | [x0,x1,x2]=>f x0 x1 x2
 | _=>.stk
@[simp] theorem WD {α β:Type} {x0 x1 x2:α} {f:α→α→α →  Res β}:YZ [x0,x1,x2] f=f x0 x1 x2:=rfl
def Y0 {α β:Type} (xs:List α) (f:α→α→α→α →  Res β):Res β:=match xs with
 | [x0,x1,x2,x3]=>f x0 x1 x2 x3
 | _=>.stk
@[simp] theorem WK {α β:Type} {x0 x1 x2 x3:α} {f:α→α→α→α →  Res β}:Y0 [x0,x1,x2,x3] f=f x0 x1 x2 x3:=rfl
section
variable {P:Program} {w:World} {K:iV} {mg:Str→Option Value} {base:Heap}
structure ZV (P:Program) (w:World) (K:iV) (mg:Str→Option Value) (base:Heap) (k:Nat) (f:Addr) (fd:FuncData) (ps:List Str) (sp:Addr→Addr→Sp):Prop where
 num:∀ {a D vs H Q E},sp a D vs H Q E→vs.length=ps.length
 go:∀ {A:Around} {out:List Env} {s:Shared} {H:Hp} {args:Args} {us:List Value} {vs:List V} {Q:VK} {E:XK} {a D:Addr} {oe:Obj},
  L2H.RoomH k A→L2H.PinOk out H s (a,oe)→Zc (.ref D) none oe→(∃ vs,oe.data=.fields vs)→Env0 P w K mg base A out s H→BindsTo s fd args (ps.zip us)→Vals vs us→sp a D vs H Q E →
  codeAny (model P w) A (.call (.ref f) args) (CR CX0 out P w H s Q E) s
end
end Kb
namespace Kb
open PySem PySem.Spec PyProof.Rows L2
def ItE (K:iV) (a:Addr) (k:Int):It :=
 ⟨fun i H=>∃ (xs:List V) (v:V),QS false K H a xs∧xs[i]?=some v,
  fun i H v H'=>∃ T y,v=.ref T∧H T=none∧H'=upd H T (.tup [.int (k+(i:Int)),y])∧∀ xs,QS false K H a xs→xs[i]?=some y,
  fun i H=>∃ xs:List V,QS false K H a xs∧i=xs.length⟩
section
variable {P:Program} {w:World}
theorem Ef {K:iV} {elts:List Expr} {kk:Nat} {tpos:Pos} {a e it:Addr} {k:Int} (hai:a≠it) (hei:e≠it) (hea:e≠a) :
  Turn P w K (.Tuple elts kk tpos) (ItE K a k) [e,it] e (fun i h=>(∃ old,IsEnum h e it (k+(i:Int)) old)∧Tt false h it a i) where
 mem:=kE
 obj i h st b hb:=by
  obtain ⟨⟨old,he⟩,h1⟩:=st
  rcases lA.mp hb with q | q
  ·rw [q]; exact ⟨_,he,fun v z=>nomatch z⟩
  ·rw [jD.mp q]; exact Jl h1
 keep i h h' st f:=⟨let ⟨old,he⟩:=st.1; ⟨old,f e kE _ he⟩,Ly st.2 fun o q=>f it (lQ _ kE) o q⟩
 item:=by
  intro X hP hw hK hc i pins s σ H E I hf st hg
  cases hP; cases hw; cases hK
  obtain ⟨⟨old,he⟩,h1⟩:=st
  obtain ⟨xs,v,hq,hx⟩:=hg
  obtain ⟨its,rv,sq,_⟩:=Ed I hq
  obtain ⟨u,hu,ru⟩:=rv.get hx
  have le:e<s.heap.objs.size:=Heap.lt_size he
  have li:it<s.heap.objs.size:=let ⟨_,z,_⟩:=Jl h1; Heap.lt_size z
  have D:=Jm (P:=X.prog) (w:=X.w) (A:=X.A.in1) false (I.ok.hd hc) it a hai its.toArray
  have hlt:i<its.toArray.size:=by rw [List.size_toArray]; exact (uF.mp hu).1
  have hef:e∉[it,a]:=fun m=>by
   rcases lA.mp m with q | q
   ·exact hei q
   ·exact hea (jD.mp q)
  refine wpAny_pyNext_enum_itemC D he ⟨h1,sq⟩ hlt hei hef fun x h' tk px out st' ht _ rest=>?_
  have ex:x=u:=by
   have z:its[i]?=some x:=by simpa using px
   rw [hu] at z; exact (j5 z).symm
  subst ex
  refine ⟨_,rfl,wpAny_letOwnedTupleGo_enum (s:={ s with heap:=h',toks:=tk+1 }) out fun h2 he2 sb=>?_⟩
  have tup:h2.get? s.heap.objs.size=some { cls:=.type "tuple", data:=.seq #[.int (k+(i:Int)) tk, x] }:=(sb.2 _ (Nat.ne_of_gt le)).trans ht
  have new:ObjOk X.prog X.w (upd H s.heap.objs.size (.tup [.int (k+(i:Int)),v])) h2 s.heap.objs.size (.tup [.int (k+(i:Int)),v]) :=
   ⟨show 2≤sizeLine by decide,[_,x],.cons ⟨tk,rfl⟩ (.cons ru .nil),_,tup,rfl,_,rfl⟩
  have kept:∀ b o,b∉[e,it]→s.heap.get? b=some o→h2.get? b=some o:=fun b o nb q=>by
   have n1:b≠e:=fun z=>nb (z▸kE)
   have n2:b≠it:=fun z=>nb (z▸lQ _ kE)
   exact (sb.2 b n1).trans (rest b o n1 n2 q)
  have J:=I.turnedNew (t':=tk+1) kept hf (lD _) new
  refine ⟨.ref s.heap.objs.size,_,J,rfl,⟨_,v,rfl,I.hok.fresh (lD _),rfl,fun ys hy=>by rw [Oz I hy hq]; exact hx⟩,⟨⟨x,?_⟩,Ly st'.1 fun o q=>(sb.2 it (iZ hei)).trans q⟩,fun b hb=>?_⟩
  ·rw [show k+((i+1:Nat):Int)=k+(i:Int)+1 by omega]; exact he2
  ·have lb:b<s.heap.objs.size:=by
    rcases lA.mp hb with q | q
    ·rw [q]; exact le
    ·rw [jD.mp q]; exact li
   rw [jH (Nat.ne_of_lt lb)]
   exact (hf b hb).1
 done:=by
  intro X hP hw hK hc i pins s σ H E I hf st hg
  cases hP; cases hw; cases hK
  obtain ⟨⟨old,he⟩,h1⟩:=st
  obtain ⟨xs,hq,hx⟩:=hg
  obtain ⟨its,rv,sq,_⟩:=Ed I hq
  have D:=Jm (P:=X.prog) (w:=X.w) (A:=X.A.in1) false (I.ok.hd hc) it a hai its.toArray
  have hn:its.toArray.size=i:=by rw [List.size_toArray,← rv.length]; exact hx.symm
  obtain ⟨f0,f1,f2,f3,f4,f5⟩:=hf it (lQ _ kE)
  refine wpAny_pyNext_enum_endD D he (by rw [hn]; exact ⟨h1,sq⟩) fun h' eb=>⟨rfl,I.turned (t':=s.toks) (fun b o nb q=>eb b o nb q) f0 f1 f3 f4 f5⟩
 self A i s Q E st h:=let ⟨⟨_,he⟩,_⟩:=st; wpAny_pyIter_enum he h
def U5 (K:iV) (ta:TA):TI:=fun σ H R=>ta σ H fun vs H1=>∃ a k xs,vs=[.ref a,.int k]∧(-(2^63)≤k∧k<2^63)∧QS false K H1 a xs∧R (ItE K a k) H1
theorem Hv {X:Cx} {e e2:Expr} {ta:TA} {p pos tpos:Pos} {elts:List Expr} {kk:Nat} (hg:Gl X "enumerate") (hm:X.mg "enumerate" = none) (ha:PA X [e, e2] ta)
  (hs:starEach [e,e2] X.env=(false,eval e X.env)::starEach [e2] X.env:=by rfl) (hpl:(backTo pos (starEach [e2] X.env)).any (·.1)=false:=by rfl) :
  PI X (.Tuple elts kk tpos) (.Call (.Name "enumerate" p) [e, e2] [] pos) (U5 X.K ta):=by
 refine ⟨fun pins s σ H R I h=>?_⟩
 refine Call_ (ld_blt I hg hm boot_enumerate (PyProof.Rows.callWith_type1 (thn (ha.run pos pins s σ H _ I h) fun us s1 ⟨vs,H1,I1,rel,got⟩=>?_) hs hpl))
 obtain ⟨a,k,xs,ev,⟨k0,k1⟩,hq,go⟩:=got
 subst ev
 cases rel with
 | cons r0 rr =>
  cases rr with
  | cons r1 rr =>
   cases rr
   cases r0
   obtain ⟨tk,rfl⟩:=r1
   obtain ⟨its,rv,sq,la⟩:=Ed I1 hq
   refine enum_begins (Lz false a its.toArray) sq k0 k1 fun h' he hit _ rest=>wpAny_pyIter_enum he ?_
   have J:=I1.kept (t':=s1.toks) rest
   have n1:s1.heap.objs.size+1≠s1.heap.objs.size:=Nat.succ_ne_self _
   refine ⟨_,[s1.heap.objs.size+1,s1.heap.objs.size],_,_,H1,rfl,J,Ef (Nat.ne_of_lt la) n1 (Nat.ne_of_gt (Nat.lt_succ_of_lt la)),⟨⟨.none,?_⟩,Ox hit⟩,fun b hb=>?_,go⟩
   ·rw [show k+((0:Nat):Int)=k by omega]; exact he
   ·have hle:s1.heap.objs.size≤b:=by
     rcases lA.mp hb with q | q
     ·rw [q]; exact Nat.le_succ _
     ·rw [jD.mp q]; exact lD _
    exact I1.fpOk hle (I1.hok.fresh hle)
end
def Hw (us:List V):Ty Nat where
 r _ _ v j:=us[j]?=some v
 up _ h:=h
 enc _:=.none
 dep:=1000
 dp h:=absurd h iW
 lay h:=absurd h iW
 lJ h:=absurd h iW
 eqv h:=absurd h iW
section
variable {σ:L2.St} {c:Cl} {H:Hp} {a:Addr} {us:List V} {K:iV} {k:Int}
def Yv (K:iV) (R:It→Hp→Prop) (vs:List V) (H1:Hp):Prop:=∃ a k xs,vs=[.ref a,.int k]∧(-(2^63)≤k∧k<2^63)∧QS false K H1 a xs∧R (ItE K a k) H1
theorem RK {ta:TA} {R:It→Hp→Prop} (h:ta σ H (Yv K R)):U5 K ta σ H R:=h
theorem RL {R:It→Hp→Prop} (hk : -(2^63)≤k∧k<2^63) (h:H a=some (.lst us)) (q:R (ItE K a k) H):Yv K R [.ref a,.int k] H:=⟨a,k,us,rfl,hk,.inl (.inl h),q⟩
theorem RM (w:Wf c H) (h:H a=some (.lst us)):RD (ItE K a k) (wu jB (Hw us)) (xJ k (List.range us.length)) c H where
 go i hi:=by
  rw [zj,List.length_range] at hi
  exact ⟨us,us[i],.inl (.inl h),nA hi⟩
 stop:=⟨us,.inl (.inl h),by rw [zj,List.length_range]⟩
 item i x v H' hx hy:=by
  obtain ⟨T,y,rfl,n,rfl,q⟩:=hy
  rw [CT] at hx
  have z:=q us (.inl (.inl h))
  have hi:i<us.length:=(uF.mp z).1
  rw [List.getElem?_range hi] at hx
  have hx2:(k+(i:Int),i)=x:=j5 hx
  subst hx2
  have st:Step [] c H (setC c T none) (upd H T (.tup [.int (k+(i:Int)),y])):=Step.new w n fun r e=>by cases e
  exact ⟨_,st,T,_,_,rfl,m7,j8,rfl,z⟩
end
abbrev Row3:=Str×Int×Int
abbrev iI:=Str×Str×List Row3×Int×Option Int×Int×Option Int
abbrev v5:Ty (List Row3):=uK (mV jV jB jB)
def C_ (CE:Addr) (c:Cl) (H:Hp) (e:Addr) (x:iI):Prop:=∃ dx g l z, H e=some (.ins CE dx [("kind", .str x.1), ("value", .str x.2.1), ("ground", g), ("first", .int x.2.2.2.1), ("last", l), ("entry", .int x.2.2.2.2.2.1), ("ended", z)]) ∧
 PyData.strOk x.1=true∧PyData.strOk x.2.1=true∧v5.r c H g x.2.2.1∧jC.r c H l x.2.2.2.2.1∧jC.r c H z x.2.2.2.2.2.2
section
variable {CE C:Addr} {c c' c0:Cl} {H H' H0:Hp} {S T:List Addr} {e p q s:Addr} {x:iI} {v:V} {K:iV}
theorem C_.keep (g:Step S c H c' H') (hc:∀ r,c e=some r→r∉S) (h:C_ CE c H e x):C_ CE c' H' e x:=by
 obtain ⟨dx,gr,l,z,ob,k1,k2,hg,hl,hz⟩:=h
 exact ⟨dx,gr,l,z,g.keep _ _ ob hc,k1,k2,v5.up g.up hg,jC.up g.up hl,jC.up g.up hz⟩
theorem C_.col (u:Up c H c' H) (h:C_ CE c H e x):C_ CE c' H e x:=by
 obtain ⟨dx,gr,l,z,ob,k1,k2,hg,hl,hz⟩:=h
 exact ⟨dx,gr,l,z,ob,k1,k2,v5.up u hg,jC.up u hl,jC.up u hz⟩
def LQ (CE:Addr):Mu iI where
 r c H p x:=c p=some p∧C_ CE c H p x
 live h:=let ⟨_,_,_,_,_,e,_⟩:=h; ⟨_,e⟩
 keep g n h:=⟨let ⟨_,_,_,_,e,_⟩:=h.2; (g.col _ _ e).trans h.1,C_.keep g (fun r e=>by rw [h.1] at e; cases e; exact n) h.2⟩
 other h n:=⟨jY h.1 n,C_.col nZ h.2⟩
 pA h n:=⟨oK h.1 n,C_.col qD h.2⟩
def G6 (CE:Addr) (c:Cl) (H:Hp) (v:V) (x:iI):Prop:=∃ e,v=.ref e∧C_ CE c H e x
theorem Step.Cr (g:Step [] c0 H0 c H) (h:G6 CE c0 H0 v x):G6 CE c H v x:=let ⟨e,q,f⟩:=h; ⟨e,q,f.keep g fun _ _ z=>by cases z⟩
theorem O2 {m:Str} {B:Prop} (h:G6 CE c H v x) (l:(["kind", "value", "ground", "first", "last", "entry", "ended"]:List Str).all (fun f=>!(m==f))=true) (b:B):∃ a dx fs, v=.ref a∧H a=some (.ins CE dx fs)∧fs.lookup m=none∧B:=by
 obtain ⟨e,rfl,dx,gr,l',z,ob,_⟩:=h
 exact ⟨e, dx, _, rfl, ob, look_none (ns:=["kind", "value", "ground", "first", "last", "entry", "ended"]) (us:=[_, _, _, _, _, _, _]) l, b⟩
end
section
variable {CE:Addr} {c:Cl} {H:Hp} {v:V} {x:iI} {K:iV} {f:Str}
theorem Jo (h:G6 CE c H v x) (cl:Cls K CE) (na:NoAttr K CE "kind"):∃ u, jV.r c H u (x.1)∧Fv K "kind" v H u:=by
 obtain ⟨e,rfl,dx,gr,l,z,ob,k1,k2,hg,hl,hz⟩:=h
 refine ⟨.str x.1,⟨rfl,k1⟩,fun Q q=>⟨e,CE,dx,_,_,rfl,ob,cl,na,?_,q⟩⟩
 exact (pN (i:=0) (ns:=["kind", "value", "ground", "first", "last", "entry", "ended"]) (us:=[.str x.1, .str x.2.1, gr, .int x.2.2.2.1, l, .int x.2.2.2.2.2.1, z]) jc lK rfl).trans rfl
theorem Fy (h:G6 CE c H v x) (cl:Cls K CE) (na:NoAttr K CE "value"):∃ u, jV.r c H u (x.2.1)∧Fv K "value" v H u:=by
 obtain ⟨e,rfl,dx,gr,l,z,ob,k1,k2,hg,hl,hz⟩:=h
 refine ⟨.str x.2.1,⟨rfl,k2⟩,fun Q q=>⟨e,CE,dx,_,_,rfl,ob,cl,na,?_,q⟩⟩
 exact (pN (i:=1) (ns:=["kind", "value", "ground", "first", "last", "entry", "ended"]) (us:=[.str x.1, .str x.2.1, gr, .int x.2.2.2.1, l, .int x.2.2.2.2.2.1, z]) jc lK rfl).trans rfl
theorem Dc (h:G6 CE c H v x) (cl:Cls K CE) (na:NoAttr K CE "ground"):∃ u, v5.r c H u (x.2.2.1)∧Fv K "ground" v H u:=by
 obtain ⟨e,rfl,dx,gr,l,z,ob,k1,k2,hg,hl,hz⟩:=h
 refine ⟨gr,hg,fun Q q=>⟨e,CE,dx,_,_,rfl,ob,cl,na,?_,q⟩⟩
 exact (pN (i:=2) (ns:=["kind", "value", "ground", "first", "last", "entry", "ended"]) (us:=[.str x.1, .str x.2.1, gr, .int x.2.2.2.1, l, .int x.2.2.2.2.2.1, z]) jc lK rfl).trans rfl
theorem Bm (h:G6 CE c H v x) (cl:Cls K CE) (na:NoAttr K CE "first"):∃ u, jB.r c H u (x.2.2.2.1)∧Fv K "first" v H u:=by
 obtain ⟨e,rfl,dx,gr,l,z,ob,k1,k2,hg,hl,hz⟩:=h
 refine ⟨.int x.2.2.2.1,rfl,fun Q q=>⟨e,CE,dx,_,_,rfl,ob,cl,na,?_,q⟩⟩
 exact (pN (i:=3) (ns:=["kind", "value", "ground", "first", "last", "entry", "ended"]) (us:=[.str x.1, .str x.2.1, gr, .int x.2.2.2.1, l, .int x.2.2.2.2.2.1, z]) jc lK rfl).trans rfl
theorem yC (h:G6 CE c H v x) (cl:Cls K CE) (na:NoAttr K CE "last"):∃ u, jC.r c H u (x.2.2.2.2.1)∧Fv K "last" v H u:=by
 obtain ⟨e,rfl,dx,gr,l,z,ob,k1,k2,hg,hl,hz⟩:=h
 refine ⟨l,hl,fun Q q=>⟨e,CE,dx,_,_,rfl,ob,cl,na,?_,q⟩⟩
 exact (pN (i:=4) (ns:=["kind", "value", "ground", "first", "last", "entry", "ended"]) (us:=[.str x.1, .str x.2.1, gr, .int x.2.2.2.1, l, .int x.2.2.2.2.2.1, z]) jc lK rfl).trans rfl
theorem FJ (h:G6 CE c H v x) (cl:Cls K CE) (na:NoAttr K CE "entry"):∃ u, jB.r c H u (x.2.2.2.2.2.1)∧Fv K "entry" v H u:=by
 obtain ⟨e,rfl,dx,gr,l,z,ob,k1,k2,hg,hl,hz⟩:=h
 refine ⟨.int x.2.2.2.2.2.1,rfl,fun Q q=>⟨e,CE,dx,_,_,rfl,ob,cl,na,?_,q⟩⟩
 exact (pN (i:=5) (ns:=["kind", "value", "ground", "first", "last", "entry", "ended"]) (us:=[.str x.1, .str x.2.1, gr, .int x.2.2.2.1, l, .int x.2.2.2.2.2.1, z]) jc lK rfl).trans rfl
theorem yD (h:G6 CE c H v x) (cl:Cls K CE) (na:NoAttr K CE "ended"):∃ u, jC.r c H u (x.2.2.2.2.2.2)∧Fv K "ended" v H u:=by
 obtain ⟨e,rfl,dx,gr,l,z,ob,k1,k2,hg,hl,hz⟩:=h
 refine ⟨z,hz,fun Q q=>⟨e,CE,dx,_,_,rfl,ob,cl,na,?_,q⟩⟩
 exact (pN (i:=6) (ns:=["kind", "value", "ground", "first", "last", "entry", "ended"]) (us:=[.str x.1, .str x.2.1, gr, .int x.2.2.2.1, l, .int x.2.2.2.2.2.1, z]) jc lK rfl).trans rfl
end
def xK (CE p:Addr) (c:Cl) (H:Hp):List V→List iI→Prop
 | [],[]=>True
 | u::us,x::xs=>(∃ e,u=.ref e∧c e=some p∧C_ CE c H e x)∧xK CE p c H us xs
 | _,_=>False
abbrev jx:=List iI×Int
section
variable {CE C:Addr} {c c' c0:Cl} {H H' H0:Hp} {S T:List Addr} {e p q s:Addr} {x y:iI} {v:V} {us:List V} {xs:List iI} {K:iV} {j:Nat}
theorem xK.len:∀ {us:List V} {xs:List iI},xK CE p c H us xs→us.length=xs.length
 | [],[],_=>rfl
 | _::_,_::_,h=>by rw [lC,lC,xK.len h.2]
 | [],_::_,h=>h.elim
 | _::_,[],h=>h.elim
theorem xK.Bo (f:∀ e x,c e=some p→C_ CE c H e x→c' e=some q∧C_ CE c' H' e x):∀ {us:List V} {xs:List iI},xK CE p c H us xs→xK CE q c' H' us xs
 | [],[],_=>trivial
 | _::_,_::_,h=>⟨let ⟨e,a,b,d⟩:=h.1; ⟨e,a,(f e _ b d).1,(f e _ b d).2⟩,xK.Bo f h.2⟩
 | [],_::_,h=>h.elim
 | _::_,[],h=>h.elim
theorem xK.at:∀ {us:List V} {xs:List iI} {j:Nat},xK CE p c H us xs→us[j]?=some v→∃ x e,xs[j]?=some x∧v=.ref e∧c e=some p∧C_ CE c H e x
 | [],[],_,_,e=>by simp at e
 | u::us,x::xs,0,h,e=>by
  have e':u=v:=by simpa using e
  subst e'
  obtain ⟨a,b,d⟩:=h.1
  exact ⟨x,a,rfl,b,d⟩
 | u::us,x::xs,j+1,h,e=>xK.at (us:=us) (xs:=xs) (j:=j) h.2 (by simpa using e)
 | [],_::_,_,h,_=>h.elim
 | _::_,[],_,h,_=>h.elim
theorem xK.app:∀ {us:List V} {xs:List iI},xK CE p c H us xs→c e=some p→C_ CE c H e y→xK CE p c H (us++[.ref e]) (xs++[y])
 | [],[],_,a,b=>⟨⟨e,rfl,a,b⟩,trivial⟩
 | _::_,_::_,h,a,b=>⟨h.1,xK.app h.2 a b⟩
 | [],_::_,h,_,_=>h.elim
 | _::_,[],h,_,_=>h.elim
theorem xK.mem:∀ {us:List V} {xs:List iI},xK CE p c H us xs→V.ref e∈us→c e=some p
 | [],[],_,m=>by cases m
 | u::us,x::xs,h,m=>by
  rcases lA.mp m with q | q
  ·obtain ⟨a,b,d,_⟩:=h.1
   rw [b] at q; cases q; exact d
  exact xK.mem h.2 q
 | [],_::_,h,_=>h.elim
 | _::_,[],h,_=>h.elim
theorem xK.chg (st:Step [p] c H c H') (oth:∀ b o,b≠e→H b=some o→H' b=some o):∀ {us:List V} {xs:List iI} {j:Nat},xK CE p c H us xs→us.Nodup→us[j]?=some (.ref e)→C_ CE c H' e y→xK CE p c H' us (xs.set j y)
 | [],[],_,_,_,q,_=>by simp at q
 | u::us,x::xs,0,h,nd,q,f=>by
  have e':u=.ref e:=by simpa using q
  subst e'
  obtain ⟨a,b,d,g⟩:=h.1
  cases b
  refine ⟨⟨e,rfl,d,f⟩,?_⟩
  refine xK.others st oth h.2 fun m=>(List.nodup_cons.mp nd).1 m
 | u::us,x::xs,j+1,h,nd,q,f=>by
  obtain ⟨a,b,d,g⟩:=h.1
  have q':us[j]?=some (.ref e):=by simpa using q
  have ne:a≠e:=fun z=>(List.nodup_cons.mp nd).1 (by rw [b,z]; exact tH q')
  refine ⟨⟨a,b,d,?_⟩,xK.chg st oth h.2 (List.nodup_cons.mp nd).2 q' f⟩
  obtain ⟨dx,gr,l,z,ob,k1,k2,hg,hl,hz⟩:=g
  exact ⟨dx,gr,l,z,oth _ _ ne ob,k1,k2,v5.up st.up hg,jC.up st.up hl,jC.up st.up hz⟩
 | [],_::_,_,h,_,_,_=>h.elim
 | _::_,[],_,h,_,_,_=>h.elim
where
 xK.others {CE p e:Addr} {c:Cl} {H H':Hp} (st:Step [p] c H c H') (oth:∀ b o,b≠e→H b=some o→H' b=some o):∀ {us:List V} {xs:List iI},xK CE p c H us xs→V.ref e∉us→xK CE p c H' us xs
 | [],[],_,_=>trivial
 | u::us,x::xs,h,n=>by
  obtain ⟨a,b,d,g⟩:=h.1
  have ne:a≠e:=fun z=>n (by rw [b,z]; exact kE)
  refine ⟨⟨a,b,d,?_⟩,xK.others st oth h.2 fun m=>n (lQ _ m)⟩
  obtain ⟨dx,gr,l,z,ob,k1,k2,hg,hl,hz⟩:=g
  exact ⟨dx,gr,l,z,oth _ _ ne ob,k1,k2,v5.up st.up hg,jC.up st.up hl,jC.up st.up hz⟩
 | [],_::_,h,_=>h.elim
 | _::_,[],h,_=>h.elim
def nQ (C CE:Addr):Mu jx where
 r c H p x:=c p=some p∧∃ dx q us, q≠p∧c q=some p∧H p=some (.ins C dx [("_events", .ref q), ("_entries", .int x.2)])∧H q=some (.lst us)∧xK CE p c H us x.1∧us.Nodup
 live h:=let ⟨_,_,_,_,_,_,e,_⟩:=h; ⟨_,e⟩
 keep g n h:=by
  obtain ⟨cp,dx,q,us,nq,cq,hp,hq,ev,nd⟩:=h
  refine ⟨(g.col _ _ hp).trans cp,dx,q,us,nq,(g.col _ _ hq).trans cq,g.mJ _ _ _ hp cp n,g.mJ _ _ _ hq cq n,ev.Bo (fun e x ce f=>⟨?_,f.keep g fun r z=>by rw [ce] at z; cases z; exact n⟩),nd⟩
  obtain ⟨_,_,_,_,ob,_⟩:=f
  exact (g.col _ _ ob).trans ce
 other h n:=by
  obtain ⟨cp,dx,q,us,nq,cq,hp,hq,ev,nd⟩:=h
  exact ⟨jY cp n,dx,q,us,nq,jY cq n,hp,hq,ev.Bo (fun e x ce f=>⟨jY ce n,f.col nZ⟩),nd⟩
 pA h n:=by
  obtain ⟨cp,dx,q,us,nq,cq,hp,hq,ev,nd⟩:=h
  exact ⟨oK cp n,dx,q,us,nq,oK cq n,hp,hq,ev.Bo (fun e x ce f=>⟨oK ce n,f.col qD⟩),nd⟩
end
section
variable {CE C:Addr} {c c' c0:Cl} {H H' H0:Hp} {S T:List Addr} {e p q s dx:Addr} {x:jx} {y:iI} {v:V} {us:List V} {K:iV} {j:Nat} {n:Int}
theorem lE {m:Str} {B:Prop} (h:(nQ C CE).r c H p x) (l:(["_events", "_entries"]:List Str).all (fun f=>!(m==f))=true) (b:B):∃ a dx fs, V.ref p=.ref a∧H a=some (.ins C dx fs)∧fs.lookup m=none∧B:=by
 obtain ⟨cp,dx,q,us,nq,cq,hp,_⟩:=h
 exact ⟨p, dx, _, rfl, hp, look_none (ns:=["_events", "_entries"]) (us:=[_, _]) l, b⟩
theorem yE (h:(nQ C CE).r c H p x) (cl:Cls K C) (na:NoAttr K C "_entries"):Fv K "_entries" (.ref p) H (.int x.2):=by
 obtain ⟨cp,dx,q,us,nq,cq,hp,_⟩:=h
 exact fun Q z=>⟨p, C, dx, _, _, rfl, hp, cl, na, (pN (i:=1) (ns:=["_events", "_entries"]) (us:=[.ref q, .int x.2]) jc lK rfl).trans rfl, z⟩
theorem xg (h:(nQ C CE).r c H p x) (cl:Cls K C) (na:NoAttr K C "_events"):∃ q us, Fv K "_events" (.ref p) H (.ref q)∧H q=some (.lst us)∧xK CE p c H us x.1∧us.length=x.1.length∧(∃ dx n, H p=some (.ins C dx [("_events", .ref q), ("_entries", .int n)])):=by
 obtain ⟨cp,dx,q,us,nq,cq,hp,hq,ev,nd⟩:=h
 exact ⟨q, us, fun Q z=>⟨p, C, dx, _, _, rfl, hp, cl, na, (pN (i:=0) (ns:=["_events", "_entries"]) (us:=[.ref q, .int x.2]) jc lK rfl).trans rfl, z⟩, hq, ev, ev.len, dx, _, hp⟩
def uO (C:Addr) (H:Hp) (p:Addr) (v:V) (j:Nat):Prop:=∃ dx q us n, H p=some (.ins C dx [("_events", .ref q), ("_entries", .int n)])∧H q=some (.lst us)∧us[j]?=some v
theorem uO.ev (h:(nQ C CE).r c H p x) (i:uO C H p v j):∃ y,x.1[j]?=some y∧G6 CE c H v y:=by
 obtain ⟨cp,dx,q,us,nq,cq,hp,hq,ev,nd⟩:=h
 obtain ⟨U6,q2,us2,n2,hp2,hq2,iv⟩:=i
 rw [hp] at hp2; cases hp2
 rw [hq] at hq2; cases hq2
 obtain ⟨y,e,a,b,_,f⟩:=ev.at iv
 exact ⟨y,a,e,b,f⟩
theorem uO.keep (g:Step S c H c' H') (h:(nQ C CE).r c H p x) (n:p∉S) (i:uO C H p v j):uO C H' p v j:=by
 obtain ⟨cp,dx,q,us,nq,cq,hp,hq,ev,nd⟩:=h
 obtain ⟨U6,q2,us2,n2,hp2,hq2,iv⟩:=i
 rw [hp] at hp2; cases hp2
 rw [hq] at hq2; cases hq2
 exact ⟨dx,q,us,_,g.mJ _ _ _ hp cp n,g.mJ _ _ _ hq cq n,iv⟩
theorem uO.base (g:Step [] c0 H0 c H) (h:(nQ C CE).r c0 H0 p x) (i:uO C H p v j):∃ y,x.1[j]?=some y∧G6 CE c0 H0 v y:=by
 obtain ⟨cp,dx,q,us,nq,cq,hp,hq,ev,nd⟩:=id h
 obtain ⟨U6,q2,us2,n2,hp2,hq2,iv⟩:=i
 have e1:=g.mJ _ _ _ hp cp j6
 have e2:=g.mJ _ _ _ hq cq j6
 rw [e1] at hp2; cases hp2
 rw [e2] at hq2; cases hq2
 exact uO.ev h ⟨dx,q,us,_,hp,hq,iv⟩
theorem O3 (h:(nQ C CE).r c H p x) (w:Wf c H):∃ dx fs, H p=some (.ins C dx fs)∧List.lookup ("_entries" : Str) fs=some (.int x.2)∧fs.length<1000∧Step [p] c H c (upd H p (.ins C dx (putF "_entries" (.int n) fs)))∧(nQ C CE).r c (upd H p (.ins C dx (putF "_entries" (.int n) fs))) p (x.1, n) ∧
  ∀ v j, uO C H p v j→uO C (upd H p (.ins C dx (putF "_entries" (.int n) fs))) p v j:=by
 obtain ⟨cp,dx,q,us,nq,cq,hp,hq,ev,nd⟩:=h
 have st:Step [p] c H c (upd H p (.ins C dx [("_events", .ref q), ("_entries", .int n)])):=Step.mut w hp cp
 have U7:putF "_entries" (.int n) [("_events", V.ref q), ("_entries", .int x.2)]=([("_events", V.ref q), ("_entries", .int n)]:List (Str×V)):=by
  simp only [putF]
  rw [if_neg jc,if_pos trivial]
 refine ⟨dx,_,hp,?_,Nat.le_of_ble_eq_true rfl,by rw [U7]; exact st,?_,fun v j i=>?_⟩
 ·exact (pN (i:=1) (ns:=["_events", "_entries"]) (us:=[.ref q, .int x.2]) jc lK rfl).trans rfl
 ·rw [U7]
  refine ⟨cp,dx,q,us,nq,cq,j8,by rw [jH nq]; exact hq,ev.Bo (fun e y ce f=>⟨ce,?_⟩),nd⟩
  obtain ⟨d1,gr,l,z,ob,k1,k2,hg,hl,hz⟩:=f
  have ne:e≠p:=fun z=>by
   rw [z,hp] at ob
   have:=congrArg (fun o=>match o with | some (HO.ins _ _ fs)=>fs.length | _=>0) ob
   simp at this
  exact ⟨d1,gr,l,z,by rw [jH ne]; exact ob,k1,k2,v5.up st.up hg,jC.up st.up hl,jC.up st.up hz⟩
 ·rw [U7]
  obtain ⟨U6,q2,us2,n2,hp2,hq2,iv⟩:=i
  rw [hp] at hp2; cases hp2
  exact ⟨dx,q,us2,n,j8,by rw [jH nq]; exact hq2,iv⟩
theorem FP (h:(nQ C CE).r c H p x) (w:Wf c H) (ep:∃ dx n, H p=some (.ins C dx [("_events", .ref q), ("_entries", .int n)])) (he:(LQ CE).r c H e y) (ne:e≠p) (hl:x.1.length<sizeLine) {Q:VK}
  (k:∀ H',Step [p] c H c H'→(∃ u,H' p=some u)→(nQ C CE).r (lU c e p) H' p (x.1++[y],x.2)→Q .non H'):rAppend (.ref q) [.ref e] H Q:=by
 obtain ⟨cp,dx,q',us,nq,cq,hp,hq,ev,nd⟩:=h
 obtain ⟨U6,n2,ep⟩:=ep
 rw [hp] at ep
 have eq:q'=q:=by cases ep; rfl
 subst eq
 have st:Step [p] c H c (upd H q' (.lst (us++[.ref e]))):=Step.mut w hq cq
 obtain ⟨ce,fe⟩:=he
 have oth:∀ {a:Addr} {z:iI},C_ CE c H a z→C_ CE (lU c e p) (upd H q' (.lst (us++[.ref e]))) a z:=fun {a z} f=>by
  refine C_.col nZ ?_
  obtain ⟨d1,gr,l,z',ob,k1,k2,hg,hl,hz⟩:=f
  have na:a≠q':=fun z=>by rw [z,hq] at ob; cases ob
  exact ⟨d1,gr,l,z',by rw [jH na]; exact ob,k1,k2,v5.up st.up hg,jC.up st.up hl,jC.up st.up hz⟩
 refine ⟨q',us,.ref e,rfl,rfl,hq,by rw [ev.len]; exact hl,k _ st ⟨_,by rw [jH (iZ nq)]; exact hp⟩ ⟨jY cp (iZ ne),dx,q',us++[.ref e],nq,jY cq (iZ ne),by rw [jH (iZ nq)]; exact hp,j8,?_,?_⟩⟩
 ·exact xK.app (ev.Bo (fun a z ca f=>⟨jY ca (iZ ne),oth f⟩)) (tU ce) (oth fe)
 ·rw [List.nodup_append]
  refine ⟨nd,by simp,fun a ma b mb=>?_⟩
  rw [jD.mp mb]
  intro z
  rw [z] at ma
  have:=ev.mem ma
  rw [ce] at this
  exact ne (j5 this)
theorem O4 (h:(nQ C CE).r c H p x) (w:Wf c H) (i:uO C H p v j) (cl:Cls K CE) (na:NoAttr K CE "ended") (hy:x.1[j]?=some y) {D:Ends} {σ:L2.St}
  (k:∀ H', Step [p] c H c H'→(nQ C CE).r c H' p (x.1.set j (y.1, y.2.1, y.2.2.1, y.2.2.2.1, y.2.2.2.2.1, y.2.2.2.2.2.1, some n), x.2)→D.nx σ H'):Lg K "ended" D σ (.int n) v H:=by
 obtain ⟨cp,dx,q,us,nq,cq,hp,hq,ev,nd⟩:=h
 obtain ⟨U6,q2,us2,n2,hp2,hq2,iv⟩:=i
 rw [hp] at hp2; cases hp2
 rw [hq] at hq2; cases hq2
 obtain ⟨y',e,ey,rfl,ce,f⟩:=ev.at iv
 rw [hy] at ey; cases ey
 obtain ⟨d1,gr,l,z,ob,k1,k2,hg,hl,hz⟩:=id f
 have U7:putF "ended" (.int n) [("kind", V.str y.1), ("value", .str y.2.1), ("ground", gr), ("first", .int y.2.2.2.1), ("last", l), ("entry", .int y.2.2.2.2.2.1), ("ended", z)]=([("kind", V.str y.1), ("value", V.str y.2.1), ("ground", gr), ("first", V.int y.2.2.2.1), ("last", l), ("entry", V.int y.2.2.2.2.2.1), ("ended", V.int n)]:List (Str×V)):=by
  simp only [putF]
  rw [if_neg jc,if_neg jc,if_neg jc,if_neg jc,if_neg jc,if_neg jc,if_pos trivial]
 have st:Step [p] c H c (upd H e (.ins CE d1 (putF "ended" (.int n) [("kind", V.str y.1), ("value", .str y.2.1), ("ground", gr), ("first", .int y.2.2.2.1), ("last", l), ("entry", .int y.2.2.2.2.2.1), ("ended", z)]))):=Step.mut w ob ce
 have Y4:p≠e:=fun z=>by
  rw [← z,hp] at ob
  have:=congrArg (fun o=>match o with | some (HO.ins _ _ fs)=>fs.length | _=>0) ob
  simp at this
 have neq:q≠e:=fun z=>by rw [← z,hq] at ob; cases ob
 refine ⟨e,CE,d1,_,rfl,ob,cl,na,Nat.le_of_ble_eq_true rfl,k _ st ⟨cp,dx,q,us,nq,cq,by rw [jH Y4]; exact hp,by rw [jH neq]; exact hq,?_,nd⟩⟩
 refine xK.chg st (fun b o nb hb=>by rw [jH nb]; exact hb) ev nd iv ⟨d1,gr,l,.int n,by rw [j8,U7],k1,k2,v5.up st.up hg,jC.up st.up hl,rfl⟩
theorem LR {RN:Hp} (o:pU C c H p dx (List.zip ["_events", "_entries"] [V.ref q, .int n])) (l:Own CV RN c H q us []) (nq:q≠p):(nQ C CE).r (lU c q p) H p ([], n):=by
 have e:us=[]:=by
  have:=l.rs.len
  exact List.length_eq_zero_iff.mp this
 subst e
 exact ⟨jY o.col (iZ nq),dx,q,[],nq,tU l.col,o.obj,l.obj,trivial,List.nodup_nil⟩
theorem O5 {k0 k1:Str} {g l z:V} {f0 f1:Int} {g0:List Row3} {l0 z0:Option Int} (o:pU CE c H p dx (List.zip ["kind", "value", "ground", "first", "last", "entry", "ended"] [.str k0, .str k1, g, .int f0, l, .int f1, z])) (h0:PyData.strOk k0=true) (h1:PyData.strOk k1=true) (hg:v5.r c H g g0) (hl:jC.r c H l l0) (hz:jC.r c H z z0) :
  (LQ CE).r c H p (k0,k1,g0,f0,l0,f1,z0):=⟨o.col,dx,g,l,z,o.obj,h0,h1,hg,hl,hz⟩
end
section
variable {CE C:Addr} {c c' c0:Cl} {H H' H0:Hp} {S T:List Addr} {e p q s dx:Addr} {x:jx} {y:iI} {v:V} {us:List V} {K:iV} {j:Nat} {n:Int}
theorem uO.at (h:(nQ C CE).r c H p x) (i:uO C H p v j) (e:x.1[j]?=some y):G6 CE c H v y:=by
 obtain ⟨y',e',r⟩:=i.ev h
 rw [e] at e'; cases e'; exact r
theorem uO.at0 (g:Step [] c0 H0 c H) (h:(nQ C CE).r c0 H0 p x) (i:uO C H p v j) (e:x.1[j]?=some y):G6 CE c0 H0 v y:=by
 obtain ⟨y',e',r⟩:=i.base g h
 rw [e] at e'; cases e'; exact r
structure EvL (CE p:Addr) (c0:Cl) (H0:Hp) (q:Addr) (us:List V) (xs:List iI):Prop where
 col:c0 q=some p
 obj:H0 q=some (.lst us)
 ev:xK CE p c0 H0 us xs
theorem L_ (h:(nQ C CE).r c0 H0 p x):∃ q us, EvL CE p c0 H0 q us x.1∧∀ {K:iV} {c H}, Step [] c0 H0 c H→Cls K C→NoAttr K C "_events" → Fv K "_events" (.ref p) H (.ref q):=by
 obtain ⟨cp,dx,q,us,nq,cq,hp,hq,ev,nd⟩:=h
 refine ⟨q, us, ⟨cq, hq, ev⟩, fun {K c H} g cl na Q z=>⟨p, C, dx, _, _, rfl, g.mJ _ _ _ hp cp j6, cl, na, (pN (i:=0) (ns:=["_events", "_entries"]) (us:=[.ref q, .int x.2]) jc lK rfl).trans rfl, z⟩⟩
theorem EvL.now {xs:List iI} (h:EvL CE p c0 H0 q us xs) (g:Step [] c0 H0 c H):H q=some (.lst us):=g.mJ _ _ _ h.obj h.col j6
theorem EvL.at {xs:List iI} (h:EvL CE p c0 H0 q us xs) (i:us[j]?=some v) (e:xs[j]?=some y):G6 CE c0 H0 v y:=by
 obtain ⟨y',a,e',r,_,f⟩:=h.ev.at i
 rw [e] at e'; cases e'
 exact ⟨a,r,f⟩
theorem O6 {i:Int} {us:List V} (ep:∃ dx n, H p=some (.ins C dx [("_events", .ref q), ("_entries", .int n)])) (hq:H q=some (.lst us)) (hl:us.length=x.1.length) (e:ixN x.1.length i=some j) (ej:decide (j<x.1.length)=true):∃ u, Rv (rIxL K) (.ref q) (.int i) H u∧uO C H p u j:=by
 obtain ⟨dx,n,ep⟩:=ep
 have hj:j<us.length:=by rw [hl]; exact jQ ej
 refine ⟨us[j],fun Q z=>⟨q,us,i,us[j],rfl,rfl,.inl (.inl hq),?_,z⟩,dx,q,us,n,ep,hq,nA hj⟩
 unfold atI
 rw [hl,e]
 exact nA hj
def U8 (K:iV) (f:Str) (tv:TE) (rd:V→V→Hp→VK→Prop) (D:Ends) (σ:L2.St):VK:=fun x H1=>∃ a C dx fs v,x=.ref a∧H1 a=some (.ins C dx fs)∧Cls K C∧NoAttr K C f∧fs.lookup f=some v ∧
 tv σ H1 fun y H2=>rd v y H2 fun z H3=>∃ dx' fs',H3 a=some (.ins C dx' fs')∧fs'.length<1000∧D.nx σ (upd H3 a (.ins C dx' (putF f z fs')))
theorem Hz {ta tv:TE} {rd:V→V→Hp→VK→Prop} {f:Str} {D:Ends} {σ:L2.St} {H:Hp} (h:ta σ H (U8 K f tv rd D σ)):sFldAug K ta tv rd f D σ H:=h
theorem Bp {σ:L2.St} {D:Ends} (h:(nQ C CE).r c H p x) (w:Wf c H) (cl:Cls K C) (na:NoAttr K C "_entries") {n:Int}
  (k:∀ H', Step [p] c H c H'→(nQ C CE).r c H' p (x.1, x.2+n)→(∀ v j, uO C H p v j→uO C H' p v j)→D.nx σ H'):U8 K "_entries" (tC (.int n)) rAdd D σ (.ref p) H:=by
 obtain ⟨dx,fs,hp,hl,h1,st,hm,ix⟩:=O3 (n:=x.2+n) h w
 exact ⟨p,C,dx,fs,_,rfl,hp,cl,na,hl,x.2,n,rfl,rfl,dx,fs,hp,h1,k _ st hm ix⟩
end
def QT (C:Addr) (c:Cl) (H:Hp) (p q:Addr):Prop:=c p=some p∧∃ dx n, H p=some (.ins C dx [("_events", .ref q), ("_entries", .int n)])
section
variable {C:Addr} {c c':Cl} {H H':Hp} {S:List Addr} {p q r:Addr} {us:List V} {n:Nat} {K:iV} {σ:L2.St} {t:TE}
theorem QT.keep (h:QT C c H p q) (g:Step S c H c' H') (ne:p∉S):QT C c' H' p q:=by
 obtain ⟨cp,dx,n,hp⟩:=h
 exact ⟨(g.col _ _ hp).trans cp,dx,n,g.mJ _ _ _ hp cp ne⟩
theorem QT.frz (h:QT C c H p q) (ne:p≠r):QT C (Kb.frz c r) H p q:=⟨oK h.1 ne,h.2⟩
theorem Aj (h:H q=some (.lst us)) (hl:us.length=n) (hv:Pv t σ H (.ref q)):Pv (tCB (fun xs H Q=>∃ p ys,xs=[.ref p]∧(SqL K H p ys∨SqT K H p ys)∧Q (.int ys.length) H) (tCons t tNil)) σ H (.int n):=by
 refine uV (iQ hv jm) fun Q z=>⟨q,us,rfl,.inl (.inl (.inl h)),?_⟩
 rw [hl]; exact z
end
section
variable {CE p q a:Addr} {c c0:Cl} {H H0:Hp} {us:List V} {xs:List iI} {K:iV} {k:Int} {n:Nat}
theorem EvL.len (h:EvL CE p c0 H0 q us xs):us.length=xs.length:=h.ev.len
theorem O7 (w:Wf c H) (h:H a=some (.lst us)) (hl:us.length=n):RD (ItE K a k) (wu jB (Hw us)) (xJ k (List.range n)) c H:=hl▸RM w h
end
def WL {α:Type} [DecidableEq α] (S:List Addr) (A:Ty α) (c:Cl) (H:Hp) (v:V) (xs:List α):Prop:=∃ (a:Addr) (us:List V),v=.ref a∧H a=some (.lst us)∧Rs A c H us xs∧∀ r,c a=some r→r∉S
section
variable {α:Type} [DecidableEq α] {A:Ty α} {S:List Addr} {c c0:Cl} {H H0 RN:Hp} {v:V} {xs:List α} {p q:Addr} {us:List V}
theorem O8 (h:Own A RN c H p us xs) (n:p≠q):WL [q] A c H (.ref p) xs:=⟨p,us,rfl,h.obj,h.rs,fun r e m=>by
 rw [h.col] at e; cases e
 exact n (jD.mp m)⟩
theorem Step.plx (g:Step S c0 H0 c H) (h:WL S A c0 H0 v xs):rP A c H v xs:=let ⟨a,us,e,o,r,n⟩:=h; ⟨a,us,e,g.keep _ _ o n,r.up g.up⟩
end
section
variable {c:Cl} {H:Hp} {K:iV} {v w:V} {a b:Addr} {us vs:List V}
theorem Ma (wf:Wf c H) (h:Rd H a (.tup us)) (h2:Rd H b (.tup vs)) (n1:us≠[]) (n2:vs≠[]) (hl:us.length+vs.length≤sizeLine) {Q:VK}
  (q:∀ p c' H',Step [] c H c' H'→c' p=none→Rd H' p (.tup (us++vs))→H p=none→Q (.ref p) H'):rCatT K (.ref a) (.ref b) H Q :=
 ⟨a,b,us,vs,rfl,rfl,.inl h,.inl h2,n1,hl,fun z=>absurd z n2,fun _ p np=>q p (setC c p none) _ (Step.new wf np fun r e=>by cases e) m7 (.inl j8) np⟩
end
end Kb
namespace Kb
open PySem PySem.Spec L2 PyProof.Rows
section
variable {P:Program} {w:World} {A:Around} {E:Value→Shared→Prop} {s:Shared}
abbrev rK (P:Program) (w:World) (h:Heap) (k:List Key) (a:Addr):Prop:=IsTupleKey (mixKind P w) h k a
abbrev mh (P:Program) (w:World) (k:List Key):Int:=tupleKeyHash (mixKind P w) k
theorem rK.items {k:List Key} {vs:List Value} (h:ItemsAre (mixKind P w) k vs):∀ v∈vs,(∃ i t,v=Value.int i t)∨∃ x t,v=Value.str x t:=by
 induction h with
 | nil=>exact fun v m=>nomatch m
 | cons h1 _ ih =>
  intro v m
  rcases lA.mp m with e | m
  ·rcases keyIs_shape h1 with ⟨i,t,_,q⟩ | ⟨x,t,_,q⟩
   ·exact .inl ⟨i,t,e.trans q⟩
   exact .inr ⟨x,t,e.trans q⟩
  exact ih v m
theorem rK.same {h h':Heap} {k:List Key} {a b:Addr} {o:Obj} {es:Array (Int×Value)} {ep:Nat} {t:SetTable} (x:rK P w h k b) (ho:h.get? a=some o) (hd:o.data=.set es ep t) (sb:Heap.SameBut a h h'):rK P w h' k b:=by
 obtain ⟨u,its,n,g,c,d,i⟩:=x
 refine ⟨u,its,n,(sb.2 b fun e=>?_).trans g,c,d,i⟩
 rw [e,ho] at g
 cases g
 rw [hd] at d
 cases d
theorem rK.keep {h h':Heap} {k:List Key} {b:Addr} (x:rK P w h k b) (kp:∀ c o,h.get? c=some o→h'.get? c=some o):rK P w h' k b :=
 let ⟨u,its,n,g,r⟩:=x; ⟨u,its,n,kp b u g,r⟩
theorem zM {α β:Type} {b:β}:∀ {l:List α} {f:α→β→Sem (ForInStep β)},(∀ x∈l,f x b=pure (.yield b))→forIn l b f=pure b
 | [],_,_=>rfl
 | x::l,f,h=>by
  rw [List.forIn_cons,h x kE,pure_bind]
  exact zM fun y m=>h y (lQ _ m)
theorem Mf {n:Nat} {v:Value} (h:(∃ i t,v=Value.int i t)∨∃ x t,v=Value.str x t):ofAClassStatement n v=pure false:=by
 rcases h with ⟨i,t,rfl⟩ | ⟨x,t,rfl⟩<;>cases n<;>rfl
theorem Mg {n:Nat} {v:Value} (h:(∃ i t,v=Value.int i t)∨∃ x t,v=Value.str x t):∃ b,hashByValue n v=pure b:=by
 rcases h with ⟨i,t,rfl⟩ | ⟨x,t,rfl⟩
 ·exact ⟨true,by cases n<;>rfl⟩
 exact ⟨false,by cases n<;>rfl⟩
theorem FQ {k:List Key} {b:Addr} {Q:Bool→Shared→Prop} (hk:rK P w s.heap k b) (h:Q false s):wpAny (model P w) A (ofAClassStatement 8 (.ref b)) Q E s:=by
 have ty:=hk.typeIs
 obtain ⟨o,⟨its⟩,n,ho,_,hd,hi⟩:=hk
 unfold ofAClassStatement
 refine jP (wpAny_typeOf ty ?_)
 have tt:(("tuple" : String) == "tuple")=true:=by decide
 dsimp only
 rw [tt]
 refine jP (lN ?_)
 rw [if_neg iW]
 refine jP (wpAny_seqItems ho hd ?_)
 dsimp only
 rw [← Array.forIn_toList,zM fun v m=>?_]
 ·exact jP (lN (lN h))
 rw [Mf (rK.items hi v m)]
 rfl
theorem O9 {k:List Key} {b:Addr} {Q:Bool→Shared→Prop} (hk:rK P w s.heap k b) (h:∀ r,Q r s):wpAny (model P w) A (hashByValue 8 (.ref b)) Q E s:=by
 have ty:=hk.typeIs
 obtain ⟨o,⟨its⟩,n,ho,_,hd,hi⟩:=hk
 unfold hashByValue
 refine jP (wpAny_specialOf ty F.slot_tuple_hash.lookup ?_)
 show wpAny _ _ (seqItems? (.ref b) >>= _) _ _ s
 refine jP (wpAny_seqItems ho hd (jP ?_))
 show wpAny _ _ (forIn (Array.mk its) _ _) _ _ s
 rw [← Array.forIn_toList]
 have go:∀ (l:List Value),(∀ v∈l,(∃ i t,v=Value.int i t)∨∃ x t,v=Value.str x t)→∀ (f:Value→Option Bool×Unit→Sem (ForInStep (Option Bool×Unit))),
   (∀ v r,f v r=(do if !(← hashByValue 7 v) then pure (.done (some false,())) else pure (.yield (none,()))))→(forIn l ((none,()):Option Bool×Unit) f=pure (none,())∨forIn l ((none,()):Option Bool×Unit) f=pure (some false,())):=by
  intro l
  induction l with
  | nil=>exact fun _ _ _=>.inl rfl
  | cons v l ih =>
   intro q f hf
   obtain ⟨b,e⟩:=Mg (n:=7) (q v kE)
   rw [List.forIn_cons,hf,e,pure_bind]
   cases b with
   | true=>exact ih (fun u m=>q u (lQ _ m)) f hf
   | false=>exact .inr rfl
 rcases go its (rK.items hi) _ (fun v r=>rfl) with e | e
 ·rw [e]; exact lN (lN (h true))
 rw [e]; exact lN (lN (h false))
theorem O_ {k:List Key} {b:Addr} {Q:Bool→Shared→Prop} (hk:rK P w s.heap k b) {ys:List Value} (hy:∀ y∈ys,∃ k' c,y=Value.ref c∧rK P w s.heap k' c) (h:Q false s) :
  wpAny (model P w) A (searchCouldBeSeen (.ref b) ys) Q E s:=by
 unfold searchCouldBeSeen
 refine jP (wpAny_forIn_list _ (fun l r s1=>s1=s∧r.1=none∧∀ y∈l,y∈ys) _ (fun y l r s1 ⟨e1,e2,m⟩=>?_) (fun r s1 ⟨e1,e2,_⟩=>?_) _ _ ⟨rfl,rfl,fun _ z=>z⟩)
 ·subst e1
  obtain ⟨k',c,rfl,hc⟩:=hy y (m y kE)
  dsimp only
  cases hv:(b==c||(carriedByValue (.ref b)&&carriedByValue (.ref c))) with
  | true=>exact wp_if_pos rfl (lN ⟨rfl,rfl,fun y z=>m y (lQ _ z)⟩)
  | false =>
   refine wp_if_neg qX ?_
   refine jP (wpAny_eqIsQuiet_tuple hk ?_)
   rw [Bool.not_true,if_neg qX]
   refine jP (wpAny_eqIsQuiet_tuple hc ?_)
   rw [Bool.not_true,if_neg qX]
   refine jP (FQ hk ?_)
   rw [if_neg qX]
   refine jP (FQ hc ?_)
   rw [if_neg qX]
   exact lN ⟨rfl,rfl,fun y z=>m y (lQ _ z)⟩
 ·subst e1
  obtain ⟨r1,r2⟩:=r
  cases e2
  exact lN h
end
abbrev Pa (m:Nat) (h:Int) (c:Nat):SetTable.Probe:=nth m (runAt m (SetTable.bits h%(m+1)) (SetTable.bits h)) c
theorem Dd (m:Nat) (h:Int):∀ c,(Pa m h c).dummy=none
 | 0=>rfl
 | c+1=>by
  have ih:=Dd m h c
  show (nth m _ (c+1)).dummy=none
  rw [nth_succ]
  unfold adv
  split<;>exact ih
theorem Mh {t:SetTable} {hs:List Int} (T:TabOk t hs) (g:Nat→Int) (h:Int) {c K:Nat} (hc:c≤K) (hf:K<10*SetTable.turns t.mask) (hK:way t.mask h K∉t.place.toList)
  (hb:∀ k,k<K→way t.mask h k∈t.place.toList) :
  (∃ q i,c≤q∧q<K∧t.place.toList[i]?=some (way t.mask h q)∧g i=h∧(∀ q' i',c≤q'→q'<q→t.place.toList[i']?=some (way t.mask h q')→g i'≠h) ∧
   t.probe g h (Pa t.mask h c)=some (.candidate (way t.mask h q) i (Pa t.mask h (q+1)))) ∨
  ((∀ q' i',c≤q'→q'<K→t.place.toList[i']?=some (way t.mask h q')→g i'≠h)∧t.probe g h (Pa t.mask h c)=some (.empty (way t.mask h K) none)):=by
 have sh:∀ d,nth t.mask (Pa t.mask h c) d=Pa t.mask h (c+d):=fun d=>(nth_add t.mask c _ d).symm
 have eK:c+(K - c)=K:=Nat.add_sub_cancel' hc
 have said:=go_spec t T.ris T.dm g h (10*SetTable.turns t.mask) (K - c) (Pa t.mask h c) (Dd _ _ c) iJ (fun d hd=>by rw [sh]; exact hb _ iJ) (by rw [sh,eK]; exact hK)
 simp only [sh,eK] at said
 rcases said with ⟨d,i,h1,h2,h3,h4,h5⟩ | ⟨h4,h5⟩
 ·refine .inl ⟨c+d,i,Nat.le_add_right _ _,iJ,h2,h3,fun q' i' a b e=>h4 (q' - c) i' iJ ?_,h5⟩
  rw [Nat.add_sub_cancel' a]; exact e
 ·refine .inr ⟨fun q' i' a b e=>h4 (q' - c) i' iJ ?_,h5⟩
  rw [Nat.add_sub_cancel' a]; exact e
def tV (P:Program) (w:World) (L:List (Addr×List Key)):List (Int×Value):=L.map fun p=>(mh P w p.2,Value.ref p.1)
structure qw (P:Program) (w:World) (h:Heap) (a:Addr) (L:List (Addr×List Key)) (es:Array (Int×Value)) (ep:Nat) (t:SetTable):Prop where
 ob:∃ o,h.get? a=some o∧o.ExactSet∧o.data=.set es ep t
 rows:es.toList=tV P w L
 tab:TabOk t (L.map fun p=>mh P w p.2)
 nd:(L.map (·.2)).Nodup
 tup:∀ p∈L,rK P w h p.2 p.1
 led:w.params.followText "set-order" = true∨t.led=true
 room:L.length*5<t.mask*3
 few:L.length<64
theorem tG {P:Program} {w:World} {L:List (Addr×List Key)} {es:Array (Int×Value)} (h:es.toList=tV P w L):es.size=L.length:=by
 rw [← uG,h,tV,mU]
theorem fits_of {t:SetTable} {n:Nat} (h1:t.place.size=n) (h2:t.dummies=#[]) (h3:n≤t.mask):t.fits n=true:=by
 have h4:t.fill=n:=by
  show t.place.size+t.dummies.size=n
  rw [h2]; exact h1
 unfold SetTable.fits
 rw [h4,Bool.and_eq_true]
 exact ⟨beq_iff_eq.mpr h1,k_ h3⟩
section
variable {P:Program} {w:World} {A:Around} {E:Value→Shared→Prop} {s:Shared} {a:Addr} {L:List (Addr×List Key)} {es:Array (Int×Value)} {ep:Nat} {t:SetTable}
theorem qw.len (R:qw P w s.heap a L es ep t):es.size=L.length:=tG R.rows
theorem qw.places (R:qw P w s.heap a L es ep t):t.place.size=L.length:=by
 have h:=R.tab.sz
 rw [mU] at h
 exact h
theorem qw.fits (R:qw P w s.heap a L es ep t):t.fits es.size=true:=by
 have:=R.room
 have:=R.len
 exact fits_of (R.places.trans R.len.symm) R.tab.dm iJ
theorem qw.at (R:qw P w s.heap a L es ep t) {i:Nat} {p:Addr×List Key} (h:L[i]?=some p):es[i]?=some (mh P w p.2,Value.ref p.1):=by
 rw [← Array.getElem?_toList,R.rows,tV,List.getElem?_map,h]
 rfl
theorem qw.there (R:qw P w s.heap a L es ep t) {i j:Nat} (h:t.place.toList[i]?=some j):∃ p,L[i]?=some p∧p∈L:=by
 have hl:i<L.length:=by
  have:=(uF.mp h).1
  rw [uG,R.places] at this
  exact this
 exact ⟨L[i],nA hl,List.getElem_mem hl⟩
theorem seek (R:qw P w s.heap a L es ep t) {x:Addr} {k:List Key} (hx:rK P w s.heap k x) (hu:A.units<cLine) {K:Nat} (hf:K<10*SetTable.turns t.mask) (hK:way t.mask (mh P w k) K∉t.place.toList)
  (hb:∀ c,c<K→way t.mask (mh P w k) c∈t.place.toList) {Q:SetFound→Shared→Prop} (yes:k∈L.map (·.2)→Q (.there none) s) (no:k∉L.map (·.2)→Q (.free (way t.mask (mh P w k) K) false) s) :
  ∀ (f c:Nat) (stand:Option SetTable.Probe),stand.getD (t.probeStart (mh P w k))=Pa t.mask (mh P w k) c→c≤K→K<c+f →
   (∀ (c' i:Nat) (p:Addr×List Key),c'<c→t.place.toList[i]?=some (way t.mask (mh P w k) c')→L[i]?=some p→p.2≠k)→wpAny (model P w) A (setSearchFrom a (.ref x) (mh P w k) true f stand) Q E s:=by
 obtain ⟨o,ho,hex,hd⟩:=R.ob
 intro f
 induction f with
 | zero=>intro c _ _ h1 h2; omega
 | succ f ih =>
  intro c stand hst hc hlt past
  have word:∀ {i:Nat} {p:Addr×List Key},L[i]?=some p→(es[i]?.map (·.1)).getD 0=mh P w p.2:=fun e=>by rw [R.at e]; rfl
  rw [setSearchFrom_succ]
  refine jP (wpAny_setState_of ho hd R.fits ?_)
  have gw:t.gaveWay=false:=by
   unfold SetTable.gaveWay
   rw [mask_odd R.tab.mok]
   rfl
  simp only [gw,Bool.false_eq_true,if_false]
  rw [hst]
  rcases Mh R.tab (fun i=>(es[i]?.map (·.1)).getD 0) (mh P w k) hc hf hK hb with ⟨q,i,h1,h2,hi,hh,h4,pr⟩ | ⟨h4,pr⟩
  ·-- a member of the same hash
   obtain ⟨p,hp,hm⟩:=R.there hi
   have live:t.slot (way t.mask (mh P w k) q)=.live i:=slot_live R.tab.ris hi
   have rest:wpAny (model P w) A (searchRest a (.ref x) (mh P w k) true f es t (way t.mask (mh P w k) q) i (Pa t.mask (mh P w k) (q+1))) Q E s:=by
    unfold searchRest
    rw [R.at hp]
    refine jP (wpAny_holding (wpAny_eqBool_tuple hu (R.tup p hm) hx (jP (wpAny_setState_of ho hd R.fits ?_))))
    by_cases e:p.2=k
    ·rw [k_ e]
     exact lN (yes (List.mem_map.mpr ⟨p,hm,e⟩))
    ·rw [oJ e]
     simp only [Bool.and_false,Bool.false_eq_true,if_false,sameMem,if_true,live,R.at hp]
     refine jP (wpAny_isSame_ref_self (jP (lN ?_)))
     simp only [if_true]
     refine ih (q+1) _ rfl h2 iJ fun c' i' p' g1 g2 g3=>?_
     rcases Nat.lt_or_ge c' c with z | z
     ·exact past c' i' p' z g2 g3
     ·rcases Nat.lt_or_ge c' q with y | y
      ·intro ek
       exact h4 c' i' z y g2 ((word g3).trans (by rw [ek]))
      ·have ec:c'=q:=by omega
       rw [ec] at g2
       have l2:=slot_live R.tab.ris g2
       rw [live] at l2
       cases l2
       rw [hp] at g3
       cases g3
       exact e
   rw [pr]
   cases hl:t.led with
   | true=>exact rest
   | false =>
    refine jP (O_ hx (fun y hy=>?_) ?_)
    ·obtain ⟨e,me,rfl⟩:=List.mem_map.mp hy
     have mem:e∈tV P w L:=by
      rw [← R.rows]
      have:=(Array.mem_filter.mp (Array.mem_toList_iff.mp me)).1
      exact Array.mem_toList_iff.mpr this
     obtain ⟨p2,m2,rfl⟩:=List.mem_map.mp mem
     exact ⟨p2.2,p2.1,rfl,R.tup p2 m2⟩
    ·exact rest
  ·rw [pr]
   refine lN (no fun hm=>?_)
   obtain ⟨p,m,ek⟩:=List.mem_map.mp hm
   obtain ⟨i,hi,e⟩:=List.getElem_of_mem m
   have hp:L[i]?=some p:=by rw [nA hi,e]
   have il:i<t.place.toList.length:=by rw [uG,R.places]; exact hi
   have hj:=nA il
   obtain ⟨c',hc',ew⟩:=R.tab.before (h:=mh P w k) hK (by rw [List.getElem?_map,hp,← ek]; rfl) hj
   rw [← ew] at hj
   rcases Nat.lt_or_ge c' c with z | z
   ·exact past c' i p z hj hp ek
   ·exact h4 c' i z hc' hj ((word hp).trans (by rw [ek]))
theorem HD (R:qw P w s.heap a L es ep t) {x:Addr} {k:List Key} (hx:rK P w s.heap k x) (hu:A.units<cLine) {Q:SetFound→Shared→Prop} (yes:k∈L.map (·.2)→Q (.there none) s)
  (no:∀ K,k∉L.map (·.2)→way t.mask (mh P w k) K∉t.place.toList→(∀ c,c<K→way t.mask (mh P w k) c∈t.place.toList)→Q (.free (way t.mask (mh P w k) K) false) s) :
  wpAny (model P w) A (setSearch a (.ref x) (mh P w k) true) Q E s:=by
 have:=R.room
 obtain ⟨K,h1,h2,h3⟩:=R.tab.first (by rw [mU]; omega) (mh P w k)
 have:K<100000:=by
  refine Nat.lt_of_lt_of_le h1 ?_
  rcases R.tab.mok with e | e | e<;>rw [e]<;>decide
 exact seek R hx hu h1 h2 h3 yes (fun n=>no K n h2 h3) 100000 0 none rfl (Nat.zero_le _) iJ fun c' i p z=>absurd z (Nat.not_lt_zero _)
end
theorem xM {α β:Type} {f:α→Option β} {g:α→β}:∀ {l:List α},(∀ x∈l,f x=some (g x))→l.filterMap f=l.map g
 | [],_=>rfl
 | x::l,h=>by rw [List.filterMap_cons_some (h x kE),xM fun y m=>h y (lQ _ m)]; rfl
theorem HF {α:Type} (L:List α):(List.range L.length).filterMap (fun i=>L[i]?)=L:=by
 have e:(List.range L.length).map (fun i=>L[i]?)=L.map some:=by
  refine List.ext_getElem (by rw [mU,mU,List.length_range]) fun i h1 h2=>?_
  rw [mU] at h2
  rw [List.getElem_map,List.getElem_map,List.getElem_range,nA h2]
 have z:=congrArg (List.filterMap id) e
 rw [List.filterMap_map,List.filterMap_map] at z
 exact z.trans List.filterMap_some
section
variable {P:Program} {w:World} {A:Around} {E:Value→Shared→Prop} {s:Shared} {a:Addr} {L:List (Addr×List Key)} {es:Array (Int×Value)} {ep:Nat} {t:SetTable}
theorem FT {order:Array Nat} (hr:es.toList=tV P w L) (hp:order.toList.Perm (List.range L.length)) :
  ∃ L2,(order.filterMap (es[·]?)).toList=tV P w L2∧L2.Perm L∧(L2.map fun p=>mh P w p.2)=order.toList.map fun i=>(es.map (·.1)).getD i 0:=by
 have get:∀ i:Nat,es[i]?=(L[i]?).map fun p=>(mh P w p.2,Value.ref p.1):=fun i=>by rw [← Array.getElem?_toList,hr,tV,List.getElem?_map]
 refine ⟨order.toList.filterMap fun i=>L[i]?,?_,?_,?_⟩
 ·rw [Array.toList_filterMap,tV,List.map_filterMap]
  exact congrArg (fun f=>List.filterMap f order.toList) (funext get)
 ·have z:=hp.filterMap fun i=>L[i]?
  rwa [HF] at z
 ·rw [List.map_filterMap]
  refine xM fun i m=>?_
  have hi:i<L.length:=List.mem_range.mp (hp.mem_iff.mp m)
  rw [Array.getD_eq_getD_getElem?,Array.getElem?_map,get i,nA hi]
  rfl
structure JL (P:Program) (w:World) (h:Heap) (a:Addr) (L:List (Addr×List Key)) (es:Array (Int×Value)) (ep:Nat) (t:SetTable):Prop where
 ob:∃ o,h.get? a=some o∧o.ExactSet∧o.data=.set es ep t
 rows:es.toList=tV P w L
 tab:TabOk t (L.map fun p=>mh P w p.2)
 nd:(L.map (·.2)).Nodup
 tup:∀ p∈L,rK P w h p.2 p.1
 led:w.params.followText "set-order" = true∨t.led=true
 low:L.length≤t.mask
 few:L.length<64
theorem JL.fits {h:Heap} (R:JL P w h a L es ep t):t.fits es.size=true:=by
 have e:=R.tab.sz
 rw [mU,← tG R.rows] at e
 exact fits_of e R.tab.dm (by rw [tG R.rows]; exact R.low)
theorem JL.full {h:Heap} (R:JL P w h a L es ep t) (room:L.length*5<t.mask*3):qw P w h a L es ep t:=⟨R.ob,R.rows,R.tab,R.nd,R.tup,R.led,room,R.few⟩
theorem relay (R:JL P w s.heap a L es ep t) {wanted M:Nat} (hw:SetTable.sizeAbove wanted - 1=M) (hM:MaskOk M) (big:SetTable.sizeAbove wanted≤sizeLine) (hn:L.length*5<M*3) {Q:Unit→Shared→Prop}
  (q:∀ h' L' es' ep' t',Heap.SameBut a s.heap h'→qw P w h' a L' es' ep' t'→L'.Perm L→Q () { s with heap:=h' }):wpAny (model P w) A (setRelay a wanted) Q E s:=by
 obtain ⟨o,ho,hex,hd⟩:=R.ob
 have hl:=tG R.rows
 obtain ⟨t',order,e,hp,T,em,el,-,-⟩:=relaid_ok t (hs:=es.map (·.1)) (wanted:=wanted) hw hM (by rw [Array.size_map,hl]; omega)
 rw [Array.size_map,hl] at hp
 obtain ⟨L2,r1,r2,r3⟩:=FT R.rows hp
 rw [← r3] at T
 have same:(order.filterMap (es[·]?)).size=es.size:=by rw [tG r1,r2.length_eq,hl]
 rw [setRelay_eq]
 refine jP (wpAny_setState_of ho hd R.fits ?_)
 refine wp_if_neg (Nat.not_lt.mpr big) ?_
 dsimp only
 rw [e]
 refine jP (wp_if_neg (by rw [same]; exact fun z=>by simp at z) (lN ?_))
 refine wpAny_storeSet_of ho hd ?_ (by rw [same,hl]; have:=R.few; rw [sizeLine_eq]; omega)
 have sb:Heap.SameBut a s.heap (s.heap.update a (Obj.putSet (order.filterMap (es[·]?)) t')):=Heap.SameBut.update ..
 exact q _ L2 _ (ep+1) t' sb ⟨⟨_,store_at ho hd,⟨hex.1,hex.2.1,hex.2.2⟩,rfl⟩,r1,T,(r2.map (·.2)).nodup_iff.mpr R.nd,fun p m=>(R.tup p (r2.mem_iff.mp m)).same ho hd sb,by rw [el]; exact R.led,by rw [r2.length_eq,em]; exact hn,
  by rw [r2.length_eq]; exact R.few⟩ r2
theorem grows {n m:Nat} (hm:MaskOk m) (room:n*5<m*3) (few:n+1<64) (full:m*3≤(n+1)*5) :
  ∃ M,SetTable.sizeAbove (SetTable.grown (n+1)) - 1=M∧MaskOk M∧SetTable.sizeAbove (SetTable.grown (n+1))≤sizeLine∧(n+1)*5<M*3:=by
 rcases hm with e | e | e
 ·have:n=4:=by omega
  subst this
  exact ⟨31,by rw [size_20],.inr (.inl rfl),by rw [size_20,sizeLine_eq]; decide,iW⟩
 ·have:n=18:=by omega
  subst this
  exact ⟨127,by rw [size_76],.inr (.inr rfl),by rw [size_76,sizeLine_eq]; decide,iW⟩
 ·omega
theorem FW {α:Type} (L:List α) (p:Nat) (x:α):(L.take p++x::L.drop p).Perm (x::L):=by
 have z:(L.take p++x::L.drop p).Perm (x::(L.take p++L.drop p)):=List.perm_middle
 rwa [List.take_append_drop] at z
theorem RP (R:qw P w s.heap a L es ep t) {x:Addr} {k:List Key} (hx:rK P w s.heap k x) (hu:A.units<cLine) (few:L.length+1<64) {Q:Bool→Shared→Prop}
  (q:∀ b h' L' es' ep' t',Heap.SameBut a s.heap h'→qw P w h' a L' es' ep' t'→(k∈L.map (·.2)→L'=L)→(k∉L.map (·.2)→L'.Perm ((x,k)::L))→Q b { s with heap:=h' }) :
  wpAny (model P w) A (setAddHashed a (.ref x) (mh P w k)) Q E s:=by
 obtain ⟨o,ho,hex,hd⟩:=R.ob
 unfold setAddHashed
 refine wpAny_holding ?_
 rw [show (100000:Nat)=99999+1 from rfl,setAddHashedIn_succ]
 refine jP (wpAny_setState_of ho hd R.fits ?_)
 have ns:byScan (.ref x) es=false:=by simp [byScan,Value.scannable]
 simp only [ns,Bool.false_eq_true,if_false]
 refine jP (HD R hx hu (fun m=>?_) fun K m hK hb=>?_)
 ·exact lN (q false _ L es ep t (Heap.SameBut.refl _ _) R (fun _=>rfl) fun z=>absurd m z)
 ·refine jP (wpAny_setState_of ho hd R.fits ?_)
  obtain ⟨q1,-,q3,q4,q5,-,-,-,q9⟩:=R.tab.put hK hb
  dsimp only
  generalize t.put (way t.mask (mh P w k) K)=pt at q1 q3 q4 q5 q9 ⊢
  obtain ⟨t1,p⟩:=pt
  dsimp only at q1 q3 q4 q5 q9 ⊢
  rw [← q1] at q3
  have pm:=FW L p (x,k)
  have len:(L.take p++(x,k)::L.drop p).length=L.length+1:=pm.length_eq
  rw [mU] at q9
  have WM:(L.take p++(x,k)::L.drop p).map (fun p=>mh P w p.2)=(L.map fun p=>mh P w p.2).take p++mh P w k::(L.map fun p=>mh P w p.2).drop p:=by rw [List.map_append,List.map_cons,List.map_take,List.map_drop]
  rw [← WM] at q3
  have Jp:(SetTable.insertAt es p (mh P w k,Value.ref x)).toList=tV P w (L.take p++(x,k)::L.drop p):=by
   rw [SetTable.toList_insertAt,R.rows,tV,tV,List.map_append,List.map_cons,List.map_take,List.map_drop]
  generalize L.take p++(x,k)::L.drop p=L1 at pm len q3 Jp
  generalize SetTable.insertAt es p (mh P w k,Value.ref x)=es1 at Jp ⊢
  have after:∀ t2:SetTable,t2.place=t1.place→t2.dummies=t1.dummies→t2.mask=t1.mask→t2.led=t1.led →
    wpAny (model P w) A (do
     storeSet a es1 t2
     if !false&&t2.tooFull then setRelay a (SetTable.grown (es.size+1))
     pure true) Q E s:=fun t2 ep1 ep2 RQ ep4=>by
   have sb:Heap.SameBut a s.heap (s.heap.update a (Obj.putSet es1 t2)):=Heap.SameBut.update ..
   have raw:JL P w (s.heap.update a (Obj.putSet es1 t2)) a L1 es1 (ep+1) t2:=by
    refine ⟨⟨_,store_at ho hd,⟨hex.1,hex.2.1,hex.2.2⟩,rfl⟩,Jp,⟨by rw [ep1]; exact q3.ris,by rw [ep2]; exact q3.dm,by rw [ep1]; exact q3.sz,by rw [RQ]; exact q3.mok,by rw [ep1,RQ]; exact q3.bd,by rw [ep1,RQ]; exact q3.reach⟩,?_,fun r m2=>?_,
     by rw [ep4,q5]; exact R.led,?_,by rw [len]; exact few⟩
    ·refine (pm.map (·.2)).nodup_iff.mpr ?_
     exact List.nodup_cons.mpr ⟨m,R.nd⟩
    ·rcases lA.mp (pm.mem_iff.mp m2) with e | m2
     ·rw [e]; exact hx.same ho hd sb
     ·exact (R.tup r m2).same ho hd sb
    ·have:=R.room
     rw [len,RQ,q4]
     rcases R.tab.mok with e | e | e<;>rw [e] at this ⊢<;>omega
   refine jP (wpAny_storeSet_of ho hd ?_ (by rw [tG Jp,len,sizeLine_eq]; omega))
   have fill:t2.fill=L.length+1:=by
    rw [← q9]
    unfold SetTable.fill
    rw [ep1,ep2]
   cases tf:t2.tooFull with
   | true =>
    have full:t2.mask*3≤(L.length+1)*5:=by
     unfold SetTable.tooFull at tf
     rw [fill] at tf
     exact jQ tf
    rw [RQ,q4] at full
    obtain ⟨M,g1,g2,g3,g4⟩:=grows R.tab.mok R.room few full
    rw [R.len]
    refine jP (relay (s:={ s with heap:=s.heap.update a (Obj.putSet es1 t2) }) raw g1 g2 g3 (by rw [len]; exact g4) fun h2 L2 es2 ep2 t3 sb2 R2 pm2=>?_)
    exact lN (q true h2 L2 es2 ep2 t3 (sb.trans sb2) R2 (fun z=>absurd z m) fun _=>pm2.trans pm)
   | false =>
    refine jP (lN (lN (q true _ L1 es1 (ep+1) t2 sb (raw.full ?_) (fun z=>absurd z m) fun _=>pm)))
    unfold SetTable.tooFull at tf
    have z:=of_decide_eq_false tf
    rw [fill] at z
    rw [len]
    omega
  cases hp:t1.plain with
  | true =>
   refine jP (O9 hx fun r=>?_)
   cases r with
   | true=>exact after t1 rfl rfl rfl rfl
   | false=>exact after { t1 with plain:=false } rfl rfl rfl rfl
  | false=>exact jP (lN (after t1 rfl rfl rfl rfl))
end
structure Holds (ks L:List (Addr×List Key)):Prop where
 sub:∀ p∈L,p∈ks
 all:∀ p∈ks,p.2∈L.map (·.2)
 len:L.length≤ks.length
theorem Holds.next {ks L L':List (Addr×List Key)} {x:Addr×List Key} (g:Holds ks L) (old:x.2∈L.map (·.2)→L'=L) (new:x.2∉L.map (·.2)→L'.Perm (x::L)):Holds (ks++[x]) L':=by
 by_cases m:x.2∈L.map (·.2)
 ·cases old m
  refine ⟨fun p z=>List.mem_append_left _ (g.sub p z),fun p z=>?_,by rw [o_]; exact Nat.le_add_right_of_le g.len⟩
  rcases tK.mp z with z | z
  ·exact g.all p z
  cases jD.mp z; exact m
 have pm:=new m
 refine ⟨fun p z=>?_,fun p z=>(pm.map (·.2)).mem_iff.mpr ?_,by rw [pm.length_eq,o_]; exact Nat.succ_le_succ g.len⟩
 ·rcases lA.mp (pm.mem_iff.mp z) with e | z
  ·rw [e]; exact List.mem_append_right _ kE
  exact List.mem_append_left _ (g.sub p z)
 rcases tK.mp z with z | z
 ·exact lQ _ (g.all p z)
 cases jD.mp z; exact kE
theorem take_one {α:Type} {l:List α} {i:Nat} {x:α} (h:l[i]?=some x):l.take (i+1)=l.take i++[x]:=by rw [List.take_succ,h]; rfl
section
variable {P:Program} {w:World} {A:Around} {E:Value→Shared→Prop} {s:Shared}
theorem qw.keep {h h':Heap} {a:Addr} {L:List (Addr×List Key)} {es:Array (Int×Value)} {ep:Nat} {t:SetTable} (R:qw P w h a L es ep t) (at_:∀ o,h.get? a=some o→h'.get? a=some o) (ts:∀ p∈L,rK P w h' p.2 p.1):qw P w h' a L es ep t :=
 let ⟨o,ho,r⟩:=R.ob; ⟨⟨o,at_ o ho,r⟩,R.rows,R.tab,R.nd,ts,R.led,R.room,R.few⟩
theorem Mi {h:Heap} {a:Addr} (ho:h.get? a=some { cls:=.type "set", dict:=none, data:=.set #[] 0 (.fresh 0 0 (!w.params.followText "set-order")) }):qw P w h a [] #[] 0 (.fresh 0 0 (!w.params.followText "set-order")):=by
 refine ⟨⟨_,ho,⟨rfl,rfl,rfl⟩,rfl⟩,rfl,⟨.nil,rfl,rfl,.inl rfl,(fun x z=>nomatch z),(fun i h j z=>by simp at z)⟩,.nil,(fun p z=>nomatch z),?_,(by show 0*5<7*3; decide),(by show 0<64; decide)⟩
 show _∨(!w.params.followText "set-order")=true
 cases w.params.followText "set-order"
 ·exact .inr rfl
 exact .inl rfl
theorem Mj {I:Addr} {fp wr:List Addr} {G:Array GenState→Array GenState→Prop} {Pv:Nat→Value→Prop} {St:Nat→Shared→Prop} {R:Result→Shared→Prop} (ks:List (Addr×List Key))
  (W:WalksS P w A.in1 I fp wr G ks.length Pv St) {S:Addr} (nS:S∉fp) (few:ks.length<64) (val:∀ i v,Pv i v→∃ p,ks[i]?=some p∧v=.ref p.1) {h0:Heap} (tup:∀ p∈ks,rK P w h0 p.2 p.1) (S0:h0.get? S=none) (w0:∀ b∈wr,h0.get? b=none)
  (hu:A.in1.units<cLine) (fin:∀ s' L es ep t,Moved (S::wr) G s s'→qw P w s'.heap S L es ep t→Holds ks L→(∀ b o,h0.get? b=some o→s'.heap.get? b=some o)→R (.ok (.ret .none)) s') :
  ∀ (n i:Nat) (s1:Shared),i+n=ks.length→St i s1→Moved (S::wr) G s s1→(∀ b o,h0.get? b=some o→s1.heap.get? b=some o)→(∃ L es ep t,qw P w s1.heap S L es ep t∧Holds (ks.take i) L) →
   codeAny (model P w) A (.builtin "set.update.loop" ⟨[.ref S, .ref I], []⟩) R s1:=by
 have up:∀ b∈wr,b∈S::wr:=fun b m=>lQ _ m
 have stays:∀ {s1 s2:Shared},Moved wr G s1 s2→(∀ b o,h0.get? b=some o→s1.heap.get? b=some o)→∀ b o,h0.get? b=some o→s2.heap.get? b=some o:=fun m k b o e =>
  m.heap b o (fun z=>by rw [w0 b z] at e; cases e) (k b o e)
 intro n
 induction n with
 | zero =>
  intro i s1 hi st mv kp ⟨L,es,ep,t,hS,g⟩
  cases (show i=ks.length by omega)
  refine codeAny_builtin F.entry_set_update_loop ?_
  rw [Around.under_plainId F.plain_set_update_loop _]
  show wpAny _ A.in1 (pyNext (.ref I) >>= _) _ _ s1
  refine jP (W.done s1 _ _ st fun s2 m=>?_)
  rw [List.take_length] at g
  have kp2:=stays m kp
  exact lN (fin s2 L es ep t (Moved.trans W.gtrans mv (m.mono up)) (hS.keep (fun o e=>m.heap S o (fun z=>nS (W.sub _ z)) e) fun p z=>(tup p (g.sub p z)).keep kp2) g kp2)
 | succ n ih =>
  intro i s1 hi st mv kp ⟨L,es,ep,t,hS,g⟩
  refine codeAny_builtin F.entry_set_update_loop ?_
  rw [Around.under_plainId F.plain_set_update_loop _]
  show wpAny _ A.in1 (pyNext (.ref I) >>= _) _ _ s1
  refine jP (W.item i s1 _ _ iJ st fun v s2 pv st2 m=>?_)
  obtain ⟨p,hp,rfl⟩:=val i v pv
  have kp2:=stays m kp
  have hS2:qw P w s2.heap S L es ep t:=hS.keep (fun o e=>m.heap S o (fun z=>nS (W.sub _ z)) e) fun q z=>(tup q (List.mem_of_mem_take (g.sub q z))).keep kp2
  have hx:rK P w s2.heap p.2 p.1:=(tup p (tH hp)).keep kp2
  show wpAny _ A.in1 (holding [Value.ref p.1] (setAdd S (.ref p.1)) >>= _) _ _ s2
  refine jP (wpAny_holding ?_)
  unfold setAdd
  refine wpAny_holding (jP (wpAny_pyHash_tuple hu hx ?_))
  have gl:=g.len
  rw [List.length_take] at gl
  refine RP (s:={ s2 with toks:=s2.toks+(p.2.length+1) }) hS2 hx hu iJ fun b h3 L3 Y5 RQ t3 sb hS3 old new=>?_
  refine lN ⟨plainId_quiet F.plain_set_update_loop _,ih (i+1) _ iJ (W.frame _ s2 _ _ st2 (Nat.le_add_right _ _) fun b z o e=>(sb.2 b fun y=>nS (y▸z)).trans e) ?_ (fun b o e=>(sb.2 b fun z=>by rw [z,S0] at e; cases e).trans (kp2 b o e))
   ⟨L3,Y5,RQ,t3,hS3,by rw [take_one hp]; exact g.next old new⟩⟩
  refine (Moved.trans W.gtrans mv (m.mono up)).then_heap (Nat.le_add_right _ _) fun b o z e=>(sb.2 b fun y=>z ?_).trans e
  rw [y]; exact kE
end
section
variable {P:Program} {w:World} {A:Around} {E:Value→Shared→Prop} {s:Shared}
abbrev m9 (w:World):Obj:={ cls:=.type "set", dict:=none, data:=.set #[] 0 (.fresh 0 0 (!w.params.followText "set-order")) }
theorem Dg {h:Heap} {b:Addr} (z:h.objs.size≤b):h.get? b=none:=by
 cases q:h.get? b with
 | none=>rfl
 | some o=>exact absurd (Heap.lt_size q) (Nat.not_lt.mpr z)
theorem Ml {l:Addr} {items:Array Value} (ks:List (Addr×List Key)) {Q:Value→Shared→Prop} (hh:A.handled=none) (hl:s.heap.IsList l items) (hit:items.toList=ks.map fun p=>Value.ref p.1) (tup:∀ p∈ks,rK P w s.heap p.2 p.1)
  (few:ks.length<64) (hu:A.units+2<cLine) (q:∀ h' tk L es ep t,qw P w h' s.heap.objs.size L es ep t→Holds ks L→(∀ b o,s.heap.get? b=some o→h'.get? b=some o)→Q .none { s with heap:=h',toks:=tk }) :
  codeAny (model P w) A (.call (.builtin "set.__init__") ⟨[.ref s.heap.objs.size, .ref l], []⟩) (wants Q E) { s with heap:=s.heap.push (m9 w) }:=by
 have hS:(s.heap.push (m9 w)).get? s.heap.objs.size=some (m9 w):=Heap.get?_push_size _ rfl
 have hT:Shared.TypeIs { s with heap:=s.heap.push (m9 w) } (.ref s.heap.objs.size) "set" := ⟨_, hS, rfl⟩
 have size:items.size=ks.length:=by rw [← uG,hit,mU]
 refine codeAny_mono (codeAny_call_builtin (R:=wants Q E) F.called_set.init.plain F.entry_set_init (check_set_init_1 hT ?_)) fun _ _ z=>z
 obtain ⟨ol,hol,hcl,nl,hdl⟩:=hl
 obtain ⟨ocls,odict,odata,oslots⟩:=ol
 simp only at hcl hdl
 subst hcl hdl
 have hol':(s.heap.push (m9 w)).get? l=some { cls:=.type "list", dict:=odict, data:=.seq items nl, slots:=oslots }:=Heap.get?_push_of_some _ hol
 have hsls:=F.sub_list_set
 have hslf:=F.sub_list_frozenset
 have hne:(Value.type "list" == Value.type "dict")=false:=by decide
 have hl1:(s.heap.push (m9 w)).IsList l items:=⟨_,hol',rfl,nl,rfl⟩
 unfold Builtin.«set.__init__» noKeywords Builtin.Frozenset.updateFrom
 generalize hPI:pyIter=PI
 wp_walk
 subst hPI
 refine wpAny_pyIter_list hl1 (jP (wpAny_runValue ?_))
 have lt:l<s.heap.objs.size:=Heap.lt_size hol
 have sz:(s.heap.push (m9 w)).objs.size=s.heap.objs.size+1:=Heap.size_push ..
 have hh3:A.in1.in1.handled=none:=by simp [hh]
 have WQ:l≠(s.heap.push (m9 w)).objs.size:=by rw [sz]; exact Nat.ne_of_lt (Nat.lt_succ_of_lt lt)
 have W:=(Walks.list (prog:=P) (w:=w) hh3 _ l WQ items).toS
 rw [size] at W
 refine Mj (s:={ s with heap:=(s.heap.push (m9 w)).push { cls:=.type "list_iterator", data:=.fields #[.ref l, .int 0 0] } }) ks W (S:=s.heap.objs.size) ?nS few ?val (h0:=s.heap) tup (Dg (lD _)) ?w0 hu ?fin ks.length 0 _ (Nat.zero_add _)
  ⟨⟨_,Heap.get?_push_size _ rfl,rfl,rfl⟩,hl1.push _⟩ (Moved.refl fun _=>rfl) (fun b o e=>Heap.get?_push_of_some _ (Heap.get?_push_of_some _ e)) ⟨[],#[],0,_,Mi (Heap.get?_push_of_some _ hS),⟨(fun p z=>nomatch z),(fun p z=>nomatch z),Nat.zero_le _⟩⟩
 case nS =>
  rw [sz]
  simp only [List.mem_cons,List.not_mem_nil,or_false,not_or]
  exact ⟨Nat.ne_of_lt (Nat.lt_succ_self _),Nat.ne_of_gt lt⟩
 case val =>
  intro i v hv
  have z:items.toList[i]?=some v:=by rw [Array.getElem?_toList]; exact hv
  rw [hit,List.getElem?_map] at z
  obtain ⟨p,hp,e⟩:=Option.map_eq_some_iff.mp z
  exact ⟨p,hp,e.symm⟩
 case w0 =>
  intro b z
  rw [jD.mp z,sz]
  exact Dg (Nat.le_succ _)
 case fin =>
  intro s' L es ep t mv hS' g kp
  obtain ⟨h',g2,d',tk,os'⟩:=s'
  cases (mv.gens:g2=s.gens)
  cases (mv.drawn:d'=s.drawn)
  cases (mv.os:os'=s.os)
  exact lN (lN (q h' tk L es ep t hS' g kp))
end
section
variable {P:Program} {w:World} {A:Around} {E:Value→Shared→Prop} {s:Shared}
theorem Mp {l:Addr} {items:Array Value} (ks:List (Addr×List Key)) {Q:Value→Shared→Prop} (hh:A.handled=none) (hl:s.heap.IsList l items) (hit:items.toList=ks.map fun p=>Value.ref p.1) (tup:∀ p∈ks,rK P w s.heap p.2 p.1)
  (few:ks.length<64) (hu:A.units+3<cLine) (q:∀ h' tk L es ep t,qw P w h' s.heap.objs.size L es ep t→Holds ks L→(∀ b o,s.heap.get? b=some o→h'.get? b=some o)→Q (.ref s.heap.objs.size) { s with heap:=h',toks:=tk }) :
  wpAny (model P w) A (call (.type "set") [.ref l]) Q E s:=by
 obtain ⟨c,tl,hmro⟩:=F.called_set.mro
 have hmade:=F.called_set.made
 have hsub:=F.called_set.sub
 have hnt:=F.called_set.notType
 have hcc:=F.called_set.canCreate
 have hct:=F.typeCall_set_1 (.ref l)
 have hS:(s.heap.push (m9 w)).get? s.heap.objs.size=some (m9 w):=Heap.get?_push_size _ rfl
 have hT:Shared.TypeIs { s with heap:=s.heap.push (m9 w) } (.ref s.heap.objs.size) "set" := ⟨_, hS, rfl⟩
 have hli:=F.called_set.init.lookup
 have hbi:=F.called_set.init.bind (.ref s.heap.objs.size)
 refine wpAny_call (codeAny_of_tree (lN ⟨Code.quiet_builtin _ jc,codeAny_builtin F.entry_type_call ?_⟩))
 rw [Around.under_plain (weight_type_call_type "set" [.ref l] []) rfl]
 repeat (any_goals (first | assumption | wp_step))
 refine codeAny_mono (code_set_led1 (.ref l) (E:=E) (Q₁:=fun obj s1=>obj=.ref s.heap.objs.size∧s1={ s with heap:=s.heap.push (m9 w) }) ⟨rfl,rfl⟩) fun r s1 z=>?_
 cases r with
 | error e=>exact z
 | ok fl =>
  cases fl with
  | ret obj =>
   obtain ⟨rfl,rfl⟩:=z
   repeat (any_goals (first | assumption | wp_step))
   refine codeAny_mono (Ml (E:=E) (Q:=fun r s2=>r=.none∧∃ h' tk L es ep t,s2={ s with heap:=h',toks:=tk }∧qw P w h' s.heap.objs.size L es ep t∧Holds ks L∧(∀ b o,s.heap.get? b=some o→h'.get? b=some o)) ks ?_ hl hit tup few ?_
    fun h' tk L es ep t r g k=>⟨rfl,h',tk,L,es,ep,t,rfl,r,g,k⟩) fun r2 s2 z=>?_
   ·simp [hh]
   ·exact hu
   ·cases r2 with
    | error e=>exact z
    | ok fl =>
     cases fl with
     | ret u =>
      obtain ⟨rfl,h',tk,L,es,ep,t,rfl,hS',g,k⟩:=z
      repeat (any_goals (first | assumption | wp_step))
      exact q _ _ _ _ _ _ hS' g k
     | _=>exact z.elim
  | _=>exact z.elim
end
end Kb
namespace Kb
open PySem PySem.Spec L2 PyProof.Rows PyProof.Rows.G
theorem FZ {α β:Type} {f:α→β} {vs ws:List β} (p:vs.Perm ws):∀ L:List α,ws=L.map f→∃ L1:List α,L1.Perm L∧vs=L1.map f:=by
 induction p with
 | nil=>exact fun L e=>⟨L,.refl _,e⟩
 | @cons v _ _ _ ih =>
  intro L e
  cases L with
  | nil=>cases e
  | cons x L =>
   obtain ⟨e1,e2⟩:=List.cons.inj e
   obtain ⟨L1,p1,q1⟩:=ih L e2
   exact ⟨x::L1,p1.cons x,by rw [q1,e1]; rfl⟩
 | swap u v l =>
  intro L e
  match L,e with
  | x::y::L,e =>
   obtain ⟨e1,e2⟩:=List.cons.inj e
   obtain ⟨e2,e3⟩:=List.cons.inj e2
   exact ⟨y::x::L,.swap _ _ _,by rw [e1,e2,e3]; rfl⟩
  | [_],e=>exact absurd (List.cons.inj e).2 j6
  | [],e=>cases e
 | trans _ _ ih1 ih2 =>
  intro L e
  obtain ⟨L2,p2,q2⟩:=ih2 L e
  obtain ⟨L1,p1,q1⟩:=ih1 L2 q2
  exact ⟨L1,p1.trans p2,q1⟩
def qW:Key→Int ⊕ List Nat
 | .inl i=>.inl i
 | .inr x=>.inr x.cps.toList
def Tv:Key→Bool
 | .inl _=>false
 | .inr _=>true
section
variable {P:Program} {w:World} {A:Around} {E:Value→Shared→Prop} {s:Shared}
theorem HJ {sh:Nat→Bool} {k:List Key} {vs:List Value} (h:ItemsAre (mixKind P w) k vs):∀ (i:Nat),(∀ j a,k[j]?=some a→Tv a=sh (i+j))→tupItems sh i vs=some (k.map qW):=by
 induction h with
 | nil=>exact fun _ _=>rfl
 | @cons a v ks vs h1 _ ih =>
  intro i q
  have here:=q 0 a rfl
  have rest:=ih (i+1) fun j b e=>by rw [show i+1+j=i+(j+1) by omega]; exact q (j+1) b (by simpa using e)
  rcases keyIs_shape h1 with ⟨n,t,rfl,rfl⟩ | ⟨x,t,rfl,rfl⟩
  ·have e:sh i=false:=here.symm
   show (if sh i=true then none else (tupItems sh (i+1) vs).map (Sum.inl n::·))=_
   rw [e,rest]; rfl
  have e:sh i=true:=here.symm
  show (if sh i=true then (tupItems sh (i+1) vs).map (Sum.inr x.cps.toList::·) else none)=_
  rw [e,rest]; rfl
theorem Pb {sh:Nat→Bool} {h:Heap} {k:List Key} {b:Addr} (x:rK P w h k b) (ne:k≠[]) (q:∀ j a,k[j]?=some a→Tv a=sh j):tupKeyC h sh (.ref b)=some (k.map qW)∧∃ f,TupOf h sh (.ref b) f:=by
 obtain ⟨o,⟨its⟩,n,ho,hc,hd,hi⟩:=x
 have it:=HJ hi 0 fun j a e=>by rw [Nat.zero_add]; exact q j a e
 refine ⟨?_,?_⟩
 ·unfold tupKeyC
  have e1:isTupObj h (.ref b)=true:=by simp [isTupObj,ho,hc]
  rw [if_pos e1]
  simp only [tupKey,ho,hd]
  exact it
 cases hi with
 | nil=>exact absurd rfl ne
 | @cons a v ks vs h1 _ =>
  have sa:=q 0 a rfl
  refine ⟨v,b,o,_,n,rfl,ho,hc,hd,rfl,fun z=>?_,fun z=>?_⟩
  ·rcases keyIs_shape h1 with ⟨i,t,rfl,rfl⟩ | ⟨x,t,rfl,rfl⟩
   ·exact ⟨i,t,rfl⟩
   rw [z] at sa; cases sa
  rcases keyIs_shape h1 with ⟨i,t,rfl,rfl⟩ | ⟨x,t,rfl,rfl⟩
  ·rw [z] at sa; cases sa
  exact ⟨x,t,rfl⟩
theorem Mq {a:Addr} {L:List (Addr×List Key)} {es:Array (Int×Value)} {ep:Nat} {t:SetTable} {Q:Value→Shared→Prop} (R:qw P w s.heap a L es ep t) (hh:A.handled=none) {sh:Nat→Bool} (shape:∀ p∈L,p.2≠[]∧∀ j b,p.2[j]?=some b→Tv b=sh j)
  (q:∀ s' p (out:Array Value) (c:Nat) (L':List (Addr×List Key)), (∀ b o, s.heap.get? b=some o→s'.heap.get? b=some o)→s'.gens=s.gens→s'.os=s.os→s.heap.objs.size≤p→s'.heap.get? p=some (seqObj "list" out c) →
   out.toList=L'.map (fun z=>Value.ref z.1)→L'.Perm L→L'.Pairwise (fun y z=>yW (y.2.map qW) (z.2.map qW)=true)→Q (.ref p) s'):wpAny (model P w) A (call (.builtin "sorted") [.ref a]) Q E s:=by
 obtain ⟨o,ho,hex,hd⟩:=R.ob
 have hl:=R.len
 have few:=R.few
 refine Calls.call_function_entry kind_sorted plain_sorted entry_sorted (args_sorted1 _) ?_
 unfold Builtin.«sorted»
 refine jP (m:=checkCount "sorted" 1 1 _) (lN ?_)
 refine jP (collect_set (A:=A.in1) hh ⟨o,ho,hex.1,hd⟩ R.fits (by unfold scanBound; omega) R.tab.ris R.led fun s1 vs k1 hz g1 o1 pm=>?_)
 have members:es.toList.map (·.2)=L.map fun z=>Value.ref z.1:=by rw [R.rows,tV,List.map_map]; rfl
 obtain ⟨L1,p1,rfl⟩:=FZ pm L members
 have small:(L1.map fun z=>Value.ref z.1).length≤sizeLine:=by rw [mU,p1.length_eq,sizeLine_eq]; omega
 refine jP (wpAny_newList ?_ small)
 have hoL:(s1.heap.push (seqObj "list" (L1.map fun z=>Value.ref z.1).toArray 0)).get? s1.heap.objs.size=some (seqObj "list" (L1.map fun z=>Value.ref z.1).toArray 0):=Heap.get?_push_size _ rfl
 have keep:∀ b u, s.heap.get? b=some u→(s1.heap.push (seqObj "list" (L1.map fun z=>Value.ref z.1).toArray 0)).get? b=some u:=fun b u e=>Heap.get?_push_of_some _ (k1 b u e)
 have of:∀ z∈L1, tupKeyC (s1.heap.push (seqObj "list" (L1.map fun z=>Value.ref z.1).toArray 0)) sh (.ref z.1)=some (z.2.map qW)∧∃ f, TupOf (s1.heap.push (seqObj "list" (L1.map fun z=>Value.ref z.1).toArray 0)) sh (.ref z.1) f:=fun z m =>
  Pb ((R.tup z (p1.mem_iff.mp m)).keep keep) (shape z (p1.mem_iff.mp m)).1 (shape z (p1.mem_iff.mp m)).2
 generalize Y6:s1.heap.push (seqObj "list" (L1.map fun z=>Value.ref z.1).toArray 0)=hp at hoL keep of
 obtain ⟨fs,ht⟩:∃ fs,TupsOf hp sh (L1.map fun z=>Value.ref z.1) fs:=Je fun v hv=>by
  obtain ⟨z,m,rfl⟩:=List.mem_map.mp hv
  exact (of z m).2
 have hk:∀ v∈L1.map (fun z=>Value.ref z.1),∃ l,tupKeyC hp sh v=some l:=fun v hv=>by
  obtain ⟨z,m,rfl⟩:=List.mem_map.mp hv
  exact ⟨_,(of z m).1⟩
 refine jP (wpAny_holding (wpAny_call_entry slot_list_sort ⟨_,hoL,rfl⟩ entry_list_sort (list_sort_tups (s:={ s1 with heap:=hp }) hoL ht hk small fun st' hpm hso _=>⟨_,rfl,?_⟩) (args_list_sort _)))
 have pl:(arrOf st').toList.Perm ((L1.map fun z=>Value.ref z.1).zip (L1.map fun z=>Value.ref z.1)):=by
  have e:=Array.perm_iff_toList_perm.mp hpm
  rwa [pairsOf_toList] at e
 have both:(L1.map fun z=>Value.ref z.1).zip (L1.map fun z=>Value.ref z.1)=L1.map fun z=>(Value.ref z.1,Value.ref z.1):=by rw [List.zip_map']
 obtain ⟨L2,p2,e2⟩:=FZ pl L1 both
 have out:((arrOf st').map (·.2)).toList=L2.map fun z=>Value.ref z.1:=by rw [Array.toList_map,e2,List.map_map]; rfl
 obtain ⟨c,hc⟩:=sortedHeap_at (vs:=L1.map fun z=>Value.ref z.1) (out:=(arrOf st').map (·.2)) hoL
 have pw:L2.Pairwise (fun y z=>yW (y.2.map qW) (z.2.map qW)=true):=by
  rw [List.pairwise_iff_getElem]
  intro i j hi hj hij
  have sz:(arrOf st').toList.length=L2.length:=by rw [e2,mU]
  have Y7:(pairsOf (L1.map fun z=>Value.ref z.1)).size=L2.length:=by
   rw [← uG,pairsOf_toList,← pl.length_eq,sz]
  have kk:∀ m (hm:m<L2.length),KK (tupKindC hp sh) (arrOf st') m=(L2[m]).2.map qW:=fun m hm=>by
   have hm':m<(arrOf st').size:=by rw [← uG,sz]; exact hm
   have at_:(arrOf st')[m]?=some (Value.ref (L2[m]).1,Value.ref (L2[m]).1):=by
    rw [← Array.getElem?_toList,e2,List.getElem?_map,nA hm]; rfl
   unfold KK
   rw [at_]
   show ((tupKeyC hp sh (Value.ref (L2[m]).1)).getD [])=_
   rw [(of _ (p2.mem_iff.mp (List.getElem_mem hm))).1]
   rfl
  have z:=hso i j (Nat.le_of_lt hij) (by rw [Y7]; exact hj)
  rw [kk i hi,kk j hj] at z
  have z':lexLt itemOrd ((L2[j]).2.map qW) ((L2[i]).2.map qW)=false:=z
  unfold yW Rk
  rw [z']; rfl
 refine lN ⟨_,rfl,q _ s1.heap.objs.size _ c L2 (fun b u e=>?_) g1 o1 hz hc out (p2.trans p1) pw⟩
 have lt:=Heap.lt_size (k1 b u e)
 have e3:=keep b u e
 show (sortedHeap hp s1.heap.objs.size (L1.map fun z=>Value.ref z.1) ((arrOf st').map (·.2))).get? b=some u
 rw [sortedHeap_old (Nat.ne_of_lt lt) (by rw [← Y6,size_push']; exact Nat.lt_succ_of_lt lt)]
 exact e3
end
structure Dh (P:Program) (w:World) (a:Addr) (L:List (Addr×List Key)) (h:Heap):Prop where
 all:∃ es ep t, (∃ o, h.get? a=some o∧o.ExactSet∧o.data=.set es ep t)∧es.toList=tV P w L∧TabOk t (L.map fun p=>mh P w p.2)∧(L.map (·.2)).Nodup∧(w.params.followText "set-order" = true∨t.led=true)∧L.length*5<t.mask*3∧L.length<64
def Di (P:Program) (w:World) (a:Addr) (L:List (Addr×List Key)):HO:=.ext (Dh P w a L)
theorem qw.bare {P:Program} {w:World} {h:Heap} {a:Addr} {L:List (Addr×List Key)} {es:Array (Int×Value)} {ep:Nat} {t:SetTable} (R:qw P w h a L es ep t):Dh P w a L h:=⟨es,ep,t,R.ob,R.rows,R.tab,R.nd,R.led,R.room,R.few⟩
theorem Dh.full {P:Program} {w:World} {h:Heap} {a:Addr} {L:List (Addr×List Key)} (R:Dh P w a L h) (ts:∀ p∈L,rK P w h p.2 p.1):∃ es ep t,qw P w h a L es ep t :=
 let ⟨es,ep,t,h1,h2,h3,h4,h5,h6,h7⟩:=R.all; ⟨es,ep,t,h1,h2,h3,h4,ts,h5,h6,h7⟩
theorem Mr {P:Program} {w:World} {H:Hp} {h:Heap} {a:Addr} {L:List (Addr×List Key)} (R:Dh P w a L h):ObjOk P w H h a (Di P w a L):=by
 obtain ⟨es,ep,t,⟨o,ho,r⟩,q⟩:=id R.all
 exact ⟨R,⟨o,ho⟩,fun h1 h2 p k=>let ⟨es,ep,t,⟨o,ho,r⟩,q⟩:=p.all; ⟨es,ep,t,⟨o,k o ho,r⟩,q⟩⟩
theorem Bq {P:Program} {w:World}:∀ {k:List Key} {us:List Value},Vals (k.map kV) us→ItemsAre (mixKind P w) k us
 | [],_,.nil=>.nil
 | .inl i::k,_,.cons r t=>by
  obtain ⟨tk,rfl⟩:=r
  exact .cons (mixKind_int P w i tk) (Bq t)
 | .inr x::k,_,.cons r t=>by
  obtain ⟨tk,rfl⟩:=r
  exact .cons (mixKind_str P w x tk) (Bq t)
theorem Ge:∀ {ks:List (Addr×List Key)} {us:List Value},Vals (ks.map fun p=>V.ref p.1) us→us=ks.map fun p=>Value.ref p.1
 | [],_,.nil=>rfl
 | p::ks,_,.cons r t=>by
  cases (r:_=Value.ref p.1)
  rw [Ge t]; rfl
theorem Gf:∀ (ks:List (Addr×List Key)),Vals (ks.map fun p=>V.ref p.1) (ks.map fun p=>Value.ref p.1)
 | []=>.nil
 | _::ks=>.cons rfl (Gf ks)
section
variable {X:Cx}
theorem Jq {pins:List (Addr×Obj)} {σ:L2.St} {H:Hp} {s:Shared} {b:Addr} {k:List Key} (I:Inv X pins σ H s) (h:SqT X.K H b (k.map kV)):rK X.prog X.w s.heap k b:=by
 obtain ⟨its,r,⟨o,ho,hc,n,hd⟩,_⟩:=I.tuple h
 exact ⟨o,its.toArray,n,ho,hc,hd,by simpa using Bq r⟩
def rSetL (K:iV) (P:Program) (w:World):List V→Hp→VK→Prop:=fun xs H Q=>∃ (l:Addr) (ks:List (Addr×List Key)),xs=[V.ref l]∧SqL K H l (ks.map fun p=>V.ref p.1)∧(∀ p∈ks,SqT K H p.1 (p.2.map kV))∧ks.length<64 ∧
 ∀ a L,H a=none→Holds ks L→(L.map (·.2)).Nodup→Q (.ref a) (upd H a (Di P w a L))
theorem Pg (hc:X.calm=true) (hu:X.A.units+64<cLine):CallR X (.type "set") (rSetL X.K X.prog X.w):=by
 intro pins s σ H xs us Q I r h
 obtain ⟨l,ks,rfl,hl,hk,few,q⟩:=h
 obtain ⟨u,rfl,ru⟩:=vals1 r
 obtain rfl:u=Value.ref l:=ru
 obtain ⟨its,rv,pl,hz⟩:=I.list hl
 have fresh:H s.heap.objs.size=none:=I.hok.fresh (lD _)
 exact Mp (P:=X.prog) (w:=X.w) ks (I.ok.hd hc) pl.isList (by simpa using Ge rv) (fun p m=>Jq I (hk p m)) few iJ fun h' tk L es ep t R g k =>
  ⟨.ref s.heap.objs.size,_,I.laid (t':=tk) k (lD _) (Mr R.bare),rfl,q _ L fresh g R.nd⟩
def HS (K:iV) (P:Program) (w:World):List V→Hp→VK→Prop:=fun vs H Q=>∃ (a:Addr) (L:List (Addr×List Key)) (sh:Nat→Bool),vs=[V.ref a]∧H a=some (Di P w a L)∧(∀ p∈L,SqT K H p.1 (p.2.map kV)) ∧
 (∀ p∈L,p.2≠[]∧∀ j b,p.2[j]?=some b→Tv b=sh j) ∧
 ∀ (L':List (Addr×List Key)) (p:Addr),L'.Perm L→L'.Pairwise (fun y z=>yW (y.2.map qW) (z.2.map qW)=true)→H p=none→Q (.ref p) (upd H p (.lst (L'.map fun q=>V.ref q.1)))
theorem Ms (hc:X.calm=true):CallR X (.builtin "sorted") (HS X.K X.prog X.w):=by
 intro pins s σ H vs us Q I r h
 obtain ⟨a,L,sh,rfl,ha,hk,shape,q⟩:=h
 obtain ⟨u,rfl,ru⟩:=vals1 r
 obtain rfl:u=Value.ref a:=ru
 have R0:Dh X.prog X.w a L s.heap:=(I.hok a _ ha).1
 obtain ⟨es,ep,t,R⟩:=R0.full fun p m=>Jq I (hk p m)
 refine Mq R (I.ok.hd hc) shape fun s' p out c L' k g o hp hg hout pm pw=>?_
 have fresh:H p=none:=I.hok.fresh hp
 have hlen:(L'.map fun q=>V.ref q.1).length≤sizeLine:=by rw [mU,pm.length_eq,sizeLine_eq]; have:=R.few; omega
 have J:Inv X pins σ (upd H p (.lst (L'.map fun q=>V.ref q.1))) { s with heap:=s'.heap,gens:=s'.gens,drawn:=s'.drawn,toks:=s'.toks } :=
  I.call (ch:=[]) (Un.laid k hp fresh) (I.hok.laid k hp ⟨hlen,out.toList,c,by rw [hout]; exact Gf L',hg⟩) (by rw [g]; exact I.bare) (fun _ z=>nomatch z)
 have e:s'={ s with heap:=s'.heap,gens:=s'.gens,drawn:=s'.drawn,toks:=s'.toks }:=by
  obtain ⟨h1,g1,d1,t1,o1⟩:=s'
  obtain ⟨h2,g2,d2,t2,o2⟩:=s
  cases o
  rfl
 rw [e]
 exact ⟨.ref p,_,J,rfl,q L' p pm pw fresh⟩
end
def uniq {α:Type} [DecidableEq α]:List α→List α
 | []=>[]
 | x::xs=>if x∈uniq xs then uniq xs else x::uniq xs
theorem uX {α:Type} [DecidableEq α] {x:α}:∀ {xs:List α},x∈uniq xs↔x∈xs
 | []=>Iff.rfl
 | y::xs=>by
  unfold uniq
  split
  ·rename_i m
   rw [uX,lA]
   exact ⟨.inr,fun z=>z.elim (fun e=>e▸uX.mp m) id⟩
  rw [lA,lA,uX]
theorem vG {α:Type} [DecidableEq α]:∀ xs:List α,(uniq xs).Nodup
 | []=>.nil
 | y::xs=>by
  unfold uniq
  split
  ·exact vG xs
  rename_i m
  exact List.nodup_cons.mpr ⟨m,vG xs⟩
def toK:Int ⊕ List Nat→Key
 | .inl i=>.inl i
 | .inr l=>.inr ⟨l.toArray⟩
def Gg (k:SK):List Key:=k.map toK
theorem yF (k:SK):(Gg k).map qW=k:=by
 unfold Gg
 rw [List.map_map]
 have e:∀ a∈k,(qW∘toK) a=a:=fun a _=>by cases a<;>simp [qW,toK]
 rw [List.map_congr_left e,List.map_id']
theorem Ph {k m:SK} (h:Gg k=Gg m):k=m:=by
 have e:=congrArg (List.map qW) h
 rwa [yF,yF] at e
theorem Eh:∀ {ws:List V} {k:SK},keyV ws=some k→ws=(Gg k).map kV∧∀ (j:Nat) (v:V),ws[j]?=some v→∃ b,(Gg k)[j]?=some b∧Yp v=Tv b
 | [],k,h=>by
  cases j5 h
  exact ⟨rfl,fun j v z=>by simp at z⟩
 | v::ws,k,h=>by
  unfold keyV at h
  cases v with
  | int i =>
   cases q:keyV ws with
   | none=>rw [q] at h; cases h
   | some k' =>
    rw [q] at h
    cases (j5 h)
    obtain ⟨e,f⟩:=Eh q
    refine ⟨congrArg (V.int i::·) e,fun j u z=>?_⟩
    cases j with
    | zero=>cases j5 z; exact ⟨_,rfl,rfl⟩
    | succ j=>exact f j u (by simpa using z)
  | str x =>
   cases q:keyV ws with
   | none=>rw [q] at h; cases h
   | some k' =>
    rw [q] at h
    cases (j5 h)
    obtain ⟨e,f⟩:=Eh q
    refine ⟨congrArg (V.str x::·) e,fun j u z=>?_⟩
    cases j with
    | zero=>cases j5 z; exact ⟨_,rfl,rfl⟩
    | succ j=>exact f j u (by simpa using z)
  | _=>cases h
section
variable {α:Type} [DecidableEq α] {A:Ty α} {c:Cl} {H H0:Hp} {key:α→SK} {sh:Nat→Bool}
theorem Jr (Tw:Rm A key sh):∀ {us:List V} {xs:List α},Rs A c H us xs→∃ ks:List (Addr×List Key),us=ks.map (fun p=>V.ref p.1) ∧
  (∀ p∈ks,Rd H p.1 (.tup (p.2.map kV))∧(p.2≠[]∧∀ j b,p.2[j]?=some b→Tv b=sh j)∧∃ x∈xs,A.r c H (.ref p.1) x∧p.2=Gg (key x))∧(∀ x∈xs,Gg (key x)∈ks.map (·.2))∧ks.length=xs.length
 | [],[],_=>⟨[],rfl,fun p z=>(nomatch z),fun x z=>(nomatch z),rfl⟩
 | u::us,x::xs,h=>by
  obtain ⟨ks,e,a,b,l⟩:=Jr Tw h.2
  obtain ⟨t,ws,rfl,rd,ne,kv,s⟩:=Tw.ok h.1
  obtain ⟨ew,f⟩:=Eh kv
  refine ⟨(t,Gg (key x))::ks,by rw [e]; rfl,fun p z=>?_,fun y z=>?_,congrArg (·+1) l⟩
  ·rcases lA.mp z with rfl | z
   ·refine ⟨by rw [← ew]; exact rd,⟨fun (z:Gg (key x)=[])=>ne (by rw [ew,z]; rfl),fun j k2 (z:(Gg (key x))[j]?=some k2)=>?_⟩,x,kE,h.1,rfl⟩
    have zw:ws[j]?=some (kV k2):=by rw [ew,List.getElem?_map,z]; rfl
    obtain ⟨b2,e2,e3⟩:=f j _ zw
    rw [z] at e2
    cases j5 e2
    rw [← e3]; exact s j _ zw
   ·obtain ⟨a1,a2,y,m,r,k⟩:=a p z
    exact ⟨a1,a2,y,lQ _ m,r,k⟩
  ·rcases lA.mp z with rfl | z
   ·exact kE
   ·exact lQ _ (b y z)
 | [],_::_,h=>h.elim
 | _::_,[],h=>h.elim
theorem Jt {xs:List α}:∀ {L:List (Addr×List Key)},(∀ p∈L,∃ x∈xs,A.r c H (.ref p.1) x∧p.2=Gg (key x))→∃ zs:List α,Rs A c H (L.map fun p=>V.ref p.1) zs∧L.map (·.2)=zs.map (fun z=>Gg (key z))∧∀ z∈zs,z∈xs
 | [],_=>⟨[],trivial,rfl,fun z m=>(nomatch m)⟩
 | p::L,h=>by
  obtain ⟨x,m,r,k⟩:=h p kE
  obtain ⟨zs,rs,e,s⟩:=Jt fun q z=>h q (lQ _ z)
  refine ⟨x::zs,⟨r,rs⟩,?_,fun z y=>?_⟩
  ·show p.2::L.map (·.2)=Gg (key x)::zs.map (fun z=>Gg (key z))
   rw [k,e]
  rcases lA.mp y with rfl | y
  ·exact m
  exact s z y
theorem Gh {K:iV} {P:Program} {wd:World} {v:V} {xs:List α} (Tw:Rm A key sh) (hx:rB K A c H v xs) (w:Wf c H) (n0:∀ p,H p=none→H0 p=none) (few:decide (xs.length<64)=true) {Q:VK}
  (q:∀ p us' c' H',H p=none→Step [] c H c' H'→Own A H0 c' H' p us' (wA key (uniq xs))→Q (.ref p) H'):rSetL K P wd [v] H fun y H1=>HS K P wd [y] H1 Q:=by
 obtain ⟨a,us,rfl,h,r⟩:=hx
 obtain ⟨ks,rfl,tup,all,len⟩:=Jr Tw r
 refine ⟨a,ks,rfl,h,fun p m=>.inl (tup p m).1,by rw [len]; exact jQ few,fun S L nS g nd=>?_⟩
 have st1:Step [] c H (setC c S none) (upd H S (Di P wd S L)):=Step.new w nS fun r e=>by cases e
 refine ⟨S,L,sh,rfl,j8,fun p m=>?_,fun p m=>(tup p (g.sub p m)).2.1,fun L' p pm pw np=>?_⟩
 ·have rd:=(tup p (g.sub p m)).1
  have ne:p.1≠S:=fun e=>by
   rw [e] at rd
   rcases rd with rd | ⟨o,rd⟩<;>rw [nS] at rd<;>cases rd
  rcases rd with rd | ⟨o,rd⟩
  ·exact .inl (.inl (by rw [jH ne]; exact rd))
  ·exact .inl (.inr ⟨o,by rw [jH ne]; exact rd⟩)
 ·obtain ⟨zs,rs,e,sub⟩:=Jt (A:=A) (c:=c) (H:=H) (key:=key) (xs:=xs) (L:=L') fun p m=>(tup p (g.sub p (pm.mem_iff.mp m))).2.2
  have nd':(zs.map fun z=>Gg (key z)).Nodup:=by rw [← e]; exact (pm.map (·.2)).nodup_iff.mpr nd
  have Y8:zs.Nodup:=List.Pairwise.of_map _ (fun _ _ n z=>n (congrArg (fun z=>Gg (key z)) z)) nd'
  have back:∀ x∈xs,x∈zs:=fun x m=>by
   obtain ⟨q1,m1,e1⟩:=List.mem_map.mp (all x m)
   have m2:=g.all q1 m1
   rw [e1,← (pm.map (·.2)).mem_iff,e] at m2
   obtain ⟨z,m3,e3⟩:=List.mem_map.mp m2
   rw [← Tw.inj _ _ (Ph e3)]
   exact m3
  have pz:zs.Perm (uniq xs):=(List.perm_ext_iff_of_nodup Y8 (vG xs)).mpr fun x=>⟨fun m=>uX.mpr (sub x m),fun m=>back x (uX.mp m)⟩
  have Y9:zs.Pairwise fun y z=>yW (key y) (key z)=true:=by
   have h1:(L'.map (·.2)).Pairwise fun y z=>yW (y.map qW) (z.map qW)=true:=List.pairwise_map.mpr pw
   rw [e] at h1
   refine (List.pairwise_map.mp h1).imp fun h2=>?_
   rwa [yF,yF] at h2
  have ez:zs=wA key (uniq xs):=zK Tw.inj Y9 (yq _) (pz.trans (vq _).symm)
  have nH:H p=none:=by
   by_cases ep:p=S
   ·rw [ep]; exact nS
   ·rw [jH ep] at np; exact np
  have st2:Step [] (setC c S none) (upd H S (Di P wd S L)) (setC (setC c S none) p (some p)) (upd (upd H S (Di P wd S L)) p (.lst (L'.map fun q=>V.ref q.1))):=Step.new st1.wf np fun r e=>by cases e; exact .inl rfl
  have st:=st1.pB st2
  refine q p _ _ _ nH st ⟨m7,j8,?_,n0 p nH⟩
  rw [← ez]
  exact rs.up st.up
end
section
variable {X:Cx} {K:iV} {P:Program} {w:World}
theorem Mv (e:X.K=K) (ep:X.prog=P) (ew:X.w=w) (hc:X.calm=true) (hu:X.A.units+64<cLine):CallR X (.type "set") (rSetL K P w):=by
 subst e ep ew
 exact Pg hc hu
theorem JM (e:X.K=K) (ep:X.prog=P) (ew:X.w=w) (hc:X.calm=true):CallR X (.builtin "sorted") (HS K P w):=by
 subst e ep ew
 exact Ms hc
end
end Kb
namespace Kb
open PySem PySem.Spec L2 PyProof.Rows
abbrev P2:=PySem.Str×PySem.Str
def kP (x:P2):List Key:=[.inr x.1,.inr x.2]
def WR (x:P2):Bool:=PyData.strOk x.1&&PyData.strOk x.2
def Wd:List P2→List V→List (List Key×V)
 | k::ks,u::us=>(kP k,u)::Wd ks us
 | _,_=>[]
def U9 {α:Type} [DecidableEq α] (A:Ty α):Ty (List (P2×α)) where
 r c H v kvs:=∃ (a:Addr) (us:List V),v=.ref a∧c a=none∧Rd H a (.dT (Wd (uW kvs) us))∧Rs A c H us (CZ kvs)∧∀ k∈uW kvs,WR k=true
 up:=fun g ⟨a,us,e,k,q,h,o⟩=>⟨a,us,e,g.Ay k q,g.rd k q,h.up g,o⟩
 enc _:=.none
 dep:=1000
 dp h:=absurd h iW
 lay h:=absurd h iW
 lJ h:=absurd h iW
 eqv h:=absurd h iW
structure uY {α:Type} [DecidableEq α] (A:Ty α) (H0:Hp) (c:Cl) (H:Hp) (p:Addr) (us:List V) (kvs:List (P2×α)):Prop where
 col:c p=some p
 obj:H p=some (.dT (Wd (uW kvs) us))
 rs:Rs A c H us (CZ kvs)
 ok:∀ k∈uW kvs,WR k=true
 new:H0 p=none
section
variable {α:Type} [DecidableEq α] {A:Ty α} {c c' c0:Cl} {H H' H0:Hp} {S T:List Addr} {p q a:Addr} {o:Obj} {us:List V} {kvs:List (P2×α)} {v z:V} {x d:α} {k:P2} {σ:L2.St}
theorem uY.step (h:uY A H0 c H p us kvs) (g:Step T c H c' H') (n:p∉T):uY A H0 c' H' p us kvs:=⟨(g.col p _ h.obj).trans h.col,g.mJ p _ p h.obj h.col n,h.rs.up g.up,h.ok,h.new⟩
theorem uY.step0 (h:uY A H0 c H p us kvs) (g:Step [] c H c' H'):uY A H0 c' H' p us kvs:=h.step g (fun z=>by cases z)
theorem uY.step1 (h:uY A H0 c H p us kvs) (g:Step [q] c H c' H') (n:p≠q):uY A H0 c' H' p us kvs:=h.step g (fun z=>n (jD.mp z))
theorem uY.other (h:uY A H0 c H p us kvs) (n:p≠q):uY A H0 (Kb.frz c q) H p us kvs:=⟨oK h.col n,h.obj,h.rs.up qD,h.ok,h.new⟩
theorem uY.xW {r:Addr} (h:uY A H0 c H p us kvs) (n:p≠q):uY A H0 (lU c q r) H p us kvs:=⟨jY h.col n,h.obj,h.rs.up nZ,h.ok,h.new⟩
theorem uY.frz (h:uY A H0 c H p us kvs):(U9 A).r (Kb.frz c p) H (.ref p) kvs:=⟨p,us,rfl,uU h.col,.inl h.obj,h.rs.up qD,h.ok⟩
theorem uY.base {H1:Hp} {c1:Cl} (h:uY A H1 c H p us kvs) (g:Step S c0 H0 c1 H1):uY A H0 c H p us kvs:=⟨h.col,h.obj,h.rs,h.ok,g.fresh h.new⟩
end
structure U_ {α:Type} [DecidableEq α] (A:Ty α) (c:Cl) (H:Hp) (a:Addr) (o:Obj) (us:List V) (kvs:List (P2×α)):Prop where
 col:c a=none
 obj:H a=some (.frz o (.dT (Wd (uW kvs) us)))
 rs:Rs A c H us (CZ kvs)
 ok:∀ k∈uW kvs,WR k=true
section
variable {α:Type} [DecidableEq α] {A:Ty α} {c c' c0:Cl} {H H' H0:Hp} {S T:List Addr} {p q a:Addr} {o:Obj} {us:List V} {kvs:List (P2×α)} {v z:V} {x d:α} {k:P2} {σ:L2.St}
theorem U_.lift (h:U_ A c H a o us kvs) (st:Step T c H c' H'):U_ A c' H' a o us kvs:=⟨(st.col _ _ h.obj).trans h.col,LK st h.obj h.col,h.rs.up st.up,h.ok⟩
theorem U_.ty (h:U_ A c H a o us kvs):(U9 A).r c H (.ref a) kvs:=⟨a,us,rfl,h.col,.inr ⟨o,h.obj⟩,h.rs,h.ok⟩
end
end Kb
namespace Kb
open PySem PySem.Spec PyProof.Rows L2
def Y_ (i:Nat) (D:Ends):Ends:=⟨fun σ H=>D.nx (σ.set i none) H,D.rt,fun σ H=>D.bk (σ.set i none) H,fun σ H=>D.ct (σ.set i none) H⟩
abbrev Cls:=Value×Option Nat×(Addr→Value→Option Addr→TS)
def Ju (q:Cls) (a:Addr) (cls:Value) (d:Option Addr) (D:Ends) (σ:L2.St) (H:Hp):Prop:=match q.2.1 with
 | none=>q.2.2 a cls d D σ H
 | some i=>q.2.2 a cls d (Y_ i D) (σ.set i (some (.ref a))) H
theorem Jv {c cls:Value} {ts:Addr→Value→Option Addr→TS} {a:Addr} {d:Option Addr} {D:Ends} {σ:L2.St} {H:Hp} (h:ts a cls d D σ H):Ju (c,none,ts) a cls d D σ H:=h
def Pj (K:iV) (Wout:WX) (D:Ends):List Cls→WX
 | []=>Wout
 | q::r=>fun cls d σ H=>∃ b,PySem.W.exmOne K cls q.1=some b∧(b=true→∀ a,H a=none→Ju q a cls d D σ H)∧(b=false→Pj K Wout D r cls d σ H)
inductive yG (X:Cx):List ExceptHandler→List Cls→Prop
 | nil:yG X [] []
 | bare {x:Str} {c:Value} {ts:Addr→Value→Option Addr→TS} {b₀:Stmt} {suite:List Stmt} {np p:Pos} {hds:List ExceptHandler} {l:List Cls} (hc:Names X x c)
   (su:∀ (a:Addr) (oe:Obj) (cls:Value) (d:Option Addr) (pn:List (Addr×Obj)),Zc cls d oe→(∃ vs,oe.data=.fields vs)→PSs (X.suite a ((a,oe)::pn)) (b₀::suite) (ts a cls d)) (r:yG X hds l) :
   yG X (.ExceptHandler (some (.Name x np)) none (b₀::suite) p::hds) ((c,none,ts)::l)
 | named {x n:Str} {i:Nat} {c:Value} {ts:Addr→Value→Option Addr→TS} {b₀:Stmt} {suite:List Stmt} {np p:Pos} {hds:List ExceptHandler} {l:List Cls} (hN:X.N.Nodup) (hi:X.N[i]?=some n) (hln:X.env.kindOf n=some .local) (hc:Names X x c)
   (su:∀ (a:Addr) (oe:Obj) (cls:Value) (d:Option Addr) (pn:List (Addr×Obj)),Zc cls d oe→(∃ vs,oe.data=.fields vs)→PSs (X.suite a ((a,oe)::pn)) (b₀::suite) (ts a cls d)) (r:yG X hds l) :
   yG X (.ExceptHandler (some (.Name x np)) (some n) (b₀::suite) p::hds) ((c,some i,ts)::l)
section
variable {X:Cx} {body:List Stmt} {h₀:ExceptHandler} {hds:List ExceptHandler} {l:List Cls} {pos:Pos} {tb:WX→TS} {Wout:WX}
theorem HW (hs:X.stack=X.env::X.outer) (hf:X.env.frame=some X.env.locals) (tk:Takes X Wout)
  (hb:∀ (W:WX) (pn:List (Addr×Obj)) (xe:Value→Shared→Prop),Takes (X.tr pn xe) W→PassesOwn (model X.prog X.w) X.A X.env xe→PSs (X.tr pn xe) body (tb W))
  (hh:yG X (h₀::hds) l):PS X (.Try body (h₀::hds) [] [] pos) (fun D σ H=>tb (Pj X.K Wout D l) D σ H):=by
 refine ⟨fun pins s σ H D I h=>?_⟩
 have ok:=I.ok
 have Pk:X.A.frames=some (X.env::X.outer):=by rw [ok.frames,hs]
 refine wpAny_Try_except (wpAny_mono ((hb (Pj X.K Wout D l) (X.pn++pins) (fun e s₁=>wpAny (model X.prog X.w) X.A (noteFrame e X.env) (fun _ s₂=>wpAny (model X.prog X.w) X.A (setFlight e none) (fun _ s₃ =>
  wpAny (model X.prog X.w) X.A (handleBy e X.env (h₀::hds)) (SP X pins D) X.xe s₃) X.xe s₂) X.xe s₁) (fun u s' caught=>?_) PassesOwn.looking).run [] s σ H D (I.toTry _) h) (fun f s1 done=>?_) fun _ _ z=>z)
 ·obtain ⟨a,B,sI,pins',σ',H',cls,d,rfl,J',nb,up,sky,na,os,ag,w⟩:=caught
  have J:Inv X pins σ' H' sI:=J'.ofTry ok
  rw [hs] at sky
  show wpAny (model X.prog X.w) X.A (noteFrame (.ref a) X.env) _ _ _
  refine Sky.land Zc.steady Pk hf sky fun h3 fl3 up3=>?_
  obtain ⟨oe3,vs3,he3,hz3,hd3⟩:=fl3.there
  have outside:a∉frs (X.env::X.outer):=fun m=>by
   obtain ⟨_,o',e',no⟩:=fl3.2.2.1.mem m
   rw [he3] at e'
   cases e'
   exact no _ hd3
  have n1:a≠X.env.locals:=fun z=>outside (List.mem_filterMap.mpr ⟨X.env,kE,by rw [hf,z]⟩)
  have n2:a∉X.fs:=fun m=>by
   obtain ⟨e,me,q⟩:=List.mem_filterMap.mp m
   exact outside (List.mem_filterMap.mpr ⟨e,lQ _ me,q⟩)
  have J3:Inv X pins σ' H' { s' with heap:=h3 }:=J.landed nb fl3.1 (up.trans up3) os ag
  have S3:=J3.suite he3 hd3 na n1 n2
  have Va:PySem.W.Looks (model X.prog X.w) h3 (typeOf (.ref a)) cls:=fun A Q E s k q=>wpAny_typeOf_ref (k _ _ he3) (by rw [hz3.1]; exact q)
  have QV:∀ {x:Str} {c:Value} {np:Pos},Names X x c→∀ {Q:Value→Shared→Prop} {E:Value→Shared→Prop},Q c { s' with heap:=h3 }→wpAny (model X.prog X.w) (X.A.mark (some (.ref a))) (eval (.Name x np) X.env) Q E { s' with heap:=h3 }:=fun {x c np} hc {Q E} q =>
   match hc with
   | ⟨hg,db,.inl hm⟩=>ld_glob (X:=X.suite a ((a,oe3)::(X.pn++pins))) S3 hg hm q db
   | ⟨hg,db,.inr ⟨hm,hv,hn⟩⟩=>ld_blt (X:=X.suite a ((a,oe3)::(X.pn++pins))) S3 hg hm hv q hn db
  have go:∀ {hs':List ExceptHandler} {l':List Cls},yG X hs' l'→Pj X.K Wout D l' cls d σ' H'→wpAny (model X.prog X.w) X.A (handleBy (.ref a) X.env hs') (SP X pins D) X.xe { s' with heap:=h3 }:=by
   intro hs' l' m
   induction m with
   | nil =>
    intro w
    refine wpAny_handleBy_nil ?_
    obtain ⟨_,_,_,oe,vs,T,oT,_,he,_,hd,h1,_⟩:=id fl3
    unfold PySem.passOn
    have fly:wpAny (model X.prog X.w) X.A (setFlight (.ref a) X.env.frame) (fun _ s4=>wpAny (model X.prog X.w) X.A (throw (.ref a):Sem Flow) (SP X pins D) X.xe s4) X.xe { s' with heap:=h3 }:=by
     rw [hf]
     refine HandSPX.setFlight_upZ fl3 fun h4 hh4 up4=>wpAny_throw (tk _ _ ⟨a,B,sI,pins,σ',H',cls,d,rfl,J,nb,(up.trans up3).trans up4,?_,na,os,ag,w⟩)
     rw [hs]
     exact .inr (.inr hh4)
    refine jP (wpAny_field he hd h1 ?_)
    have nn:¬ ((Value.ref T==Value.none)=true):=by simp
    rw [if_neg nn]
    first
     | exact jP (lN (jP fly))
     | exact jP fly
   | @bare x c ts b₀ suite np p hds2 l2 hc su r ih =>
    rintro ⟨b,eb,yes,no⟩
    refine wpAny_handleBy_cons (codeAny_handlers_test (QV hc ((PySem.W.exm_one (M:=model X.prog X.w) J3.kIn Va eb).here ?_))) (fun q=>nomatch q)
    cases b with
    | false=>exact ih (no rfl)
    | true =>
     refine codeAny_handlers_suite (HandSPX.lands_againZ fl3 fun h4 fl4 up4=>?_)
     obtain ⟨oe4,vs4,he4,hz4,hd4⟩:=fl4.there
     have J4:Inv X pins σ' H' { s' with heap:=h4 }:=J.landed nb fl4.1 ((up.trans up3).trans up4) os ag
     have S4:=J4.suite he4 hd4 na n1 n2
     refine wpAny_mono ((su a oe4 cls d (X.pn++pins) hz4 ⟨_,hd4⟩).run [] _ _ H' _ S4 (yes rfl a na)) (fun f s6 e=>?_) fun _ _ z=>z.elim
     cases f with
     | ret u=>exact let ⟨v6,σ6,H6,S6,r6,q6⟩:=e; ⟨_,_,_,S6.unsuite ok,r6,q6⟩
     | next=>exact let ⟨σ6,H6,S6,q6⟩:=e; ⟨_,_,S6.unsuite ok,q6⟩
     | brk=>exact let ⟨σ6,H6,S6,q6⟩:=e; ⟨_,_,S6.unsuite ok,q6⟩
     | cont=>exact let ⟨σ6,H6,S6,q6⟩:=e; ⟨_,_,S6.unsuite ok,q6⟩
   | @named x n i c ts b₀ suite np p hds2 l2 hN hi hln hc su r ih =>
    rintro ⟨b,eb,yes,no⟩
    refine wpAny_handleBy_cons (codeAny_handlers_test (QV hc ((PySem.W.exm_one (M:=model X.prog X.w) J3.kIn Va eb).here ?_))) (fun q=>nomatch q)
    cases b with
    | false=>exact ih (no rfl)
    | true =>
     refine codeAny_handlers_suite_as (HandSPX.lands_againZ fl3 fun h4 fl4 up4=>?_)
     obtain ⟨oe4,vs4,he4,hz4,hd4⟩:=fl4.there
     have J4:Inv X pins σ' H' { s' with heap:=h4 }:=J.landed nb fl4.1 ((up.trans up3).trans up4) os ag
     have S4:=J4.suite he4 hd4 na n1 n2
     refine store_ok (X:=X.suite a ((a,oe4)::(X.pn++pins))) (v:=.ref a) S4 hN hi (show Loc X.env.scope n from .inl hln) rfl (fun s5 S5=>?_) (.inr hln)
     refine wpAny_mono ((su a oe4 cls d (X.pn++pins) hz4 ⟨_,hd4⟩).run [] s5 _ H' _ S5 (yes rfl a na)) (fun f s6 e=>?_) fun _ _ z=>z.elim
     have away:∀ {σ6:L2.St} {H6:Hp} {Q:Shared→Prop},Inv (X.suite a ((a,oe4)::(X.pn++pins))) [] σ6 H6 s6→(∀ s7,Inv X pins (σ6.set i none) H6 s7→Q s7) →
       wpAny (model X.prog X.w) X.A (do bindName X.env n .none; unbindBehindTheSuite X.env n p) (fun _ s7=>Q s7) X.xe s6:=fun S6 q=>gone_ok (S6.unsuite ok) hN hi hln q
     cases f with
     | ret u=>exact let ⟨v6,σ6,H6,S6,r6,q6⟩:=e; away S6 fun s7 J7=>⟨_,_,_,J7,r6,q6⟩
     | next=>exact let ⟨σ6,H6,S6,q6⟩:=e; away S6 fun s7 J7=>⟨_,_,J7,q6⟩
     | brk=>exact let ⟨σ6,H6,S6,q6⟩:=e; away S6 fun s7 J7=>⟨_,_,J7,q6⟩
     | cont=>exact let ⟨σ6,H6,S6,q6⟩:=e; away S6 fun s7 J7=>⟨_,_,J7,q6⟩
  exact go hh w
 ·cases f with
  | ret u=>exact let ⟨v,σ',H',J',r,q⟩:=done; ⟨v,σ',H',J'.ofTry ok,r,q⟩
  | next=>exact let ⟨σ',H',J',q⟩:=done; wpAny_execs_nil ⟨σ',H',J'.ofTry ok,q⟩
  | brk=>exact let ⟨σ',H',J',q⟩:=done; ⟨σ',H',J'.ofTry ok,q⟩
  | cont=>exact let ⟨σ',H',J',q⟩:=done; ⟨σ',H',J'.ofTry ok,q⟩
end
theorem Pn {β ς:Type} {H0 H:Hp} {σ:L2.St} {P:β→Cl→Hp→Prop} {PE:Err→Cl→Hp→Prop} {S:List Addr} {c0:Cl} {te:TE} {Q:VK} {m:Res (Bool×ς)} {rest:Bool×ς→Res β} (k:Kont P PE S c0 H0 (m.bind rest)) (I:ς→Cl→Hp→L2.St→Prop)
  (hd:∀ y c H,I y.2 c H σ→Kont P PE S c0 H0 (rest y)→Q (.bl y.1) H) (hb:Kont (fun y c H=>I y.2 c H σ→Q (.bl y.1) H) PE S c0 H0 m→te σ H Q):te σ H Q :=
 hb ((k.turn).imp (fun b c H _ q i=>hd b c H i q) (fun _ _ _ _ q=>q))
end Kb
namespace Kb
open PySem L2 PySem.Spec PyProof.Rows
structure Za (K:iV) (C:Addr):Prop where
 cl:L2.Cls K C
 ha:PySem.W.findIn K (.ref C) "__class__" = some (some (.builtin "object.__class__"))
 hn:PySem.W.specialIn K (.builtin "object.__class__") "__get__" = some (some (.builtin "getset_descriptor.__get__"))
 htk:PySem.W.takesIn K (.builtin "object.__class__")=some true
 hm:PySem.W.mroIn K C (.type "object")=some true
 kit:PySem.W.kitOne K (.ref C) (.ref C)=some true
end Kb
namespace Kb
open PySem L2
section
variable {v:V} {H:Hp} {Q:L2.St→Hp→Prop} {l:L2.St} {a0 a1 a2 a3 a4 a5 a6 a7 a8 a9 a10 a11 a12 a13 a14 a15 a16 a17 a18 a19 a20 a21 a22 a23 a24 a25 a26 a27 a28 a29 a30 a31 a32 a33 a34 a35 a36 a37 a38 a39 a40 a41 a42 a43 a44 a45 a46 a47 a48 a49 a50 a51 a52 a53 a54 a55 a56 a57 a58 a59:Option V}
theorem uf (h:Q (a0::some v::l) H):gName 1 v (a0::a1::l) H Q:=h
theorem qJ (h:Q (a0::a1::some v::l) H):gName 2 v (a0::a1::a2::l) H Q:=h
theorem rE (h:Q (a0::a1::a2::some v::l) H):gName 3 v (a0::a1::a2::a3::l) H Q:=h
theorem sV (h:Q (a0::a1::a2::a3::some v::l) H):gName 4 v (a0::a1::a2::a3::a4::l) H Q:=h
theorem vH (h:Q (a0::a1::a2::a3::a4::some v::l) H):gName 5 v (a0::a1::a2::a3::a4::a5::l) H Q:=h
theorem yH (h:Q (a0::a1::a2::a3::a4::a5::some v::l) H):gName 6 v (a0::a1::a2::a3::a4::a5::a6::l) H Q:=h
theorem Ak (h:Q (a0::a1::a2::a3::a4::a5::a6::some v::l) H):gName 7 v (a0::a1::a2::a3::a4::a5::a6::a7::l) H Q:=h
theorem Ei (h:Q (a0::a1::a2::a3::a4::a5::a6::a7::some v::l) H):gName 8 v (a0::a1::a2::a3::a4::a5::a6::a7::a8::l) H Q:=h
theorem yI (h:Q (a0::a1::a2::a3::a4::a5::a6::a7::a8::some v::l) H):gName 9 v (a0::a1::a2::a3::a4::a5::a6::a7::a8::a9::l) H Q:=h
theorem Br (h:Q (a0::a1::a2::a3::a4::a5::a6::a7::a8::a9::some v::l) H):gName 10 v (a0::a1::a2::a3::a4::a5::a6::a7::a8::a9::a10::l) H Q:=h
theorem Bs (h:Q (a0::a1::a2::a3::a4::a5::a6::a7::a8::a9::a10::some v::l) H):gName 11 v (a0::a1::a2::a3::a4::a5::a6::a7::a8::a9::a10::a11::l) H Q:=h
end
instance:DecidableEq Addr:=inferInstanceAs (DecidableEq Nat)
section
variable {p q:Addr} {l:List Addr}
theorem Vb {F:Addr→Prop}:∀ p,p∈([]:List Addr)→F p:=fun p z=>by cases z
theorem JN {F:Addr→Prop} {q:Addr} (a:F q) (t:∀ p,p∈l→F p):∀ p,p∈q::l→F p:=fun p z=>(lA.mp z).elim (fun e=>e▸a) (t p)
end
section
variable {α:Type} [DecidableEq α] {A:Ty α} {c c':Cl} {H H' RN:Hp} {p q:Addr} {us vs:List V} {xs ys:List α} {S:List Addr} {v:V} {x:α}
def Zb (A:Ty α):Mu (List α) where
 r c H p xs:=c p=some p∧∃ us,H p=some (.lst us)∧Rs A c H us xs
 live h:=let ⟨_,_,e,_⟩:=h; ⟨_,e⟩
 keep g n h:=by
  obtain ⟨cp,us,hp,rs⟩:=h
  exact ⟨(g.col _ _ hp).trans cp,us,g.mJ _ _ _ hp cp n,rs.up g.up⟩
 other h n:=by
  obtain ⟨cp,us,hp,rs⟩:=h
  exact ⟨jY cp n,us,hp,rs.up nZ⟩
 pA h n:=by
  obtain ⟨cp,us,hp,rs⟩:=h
  exact ⟨oK cp n,us,hp,rs.up qD⟩
end
abbrev Pq:=List PySem.Str
@[reducible] def Vc:Mu Pq:=Zb jV
inductive ZW
 | non
 | txt (s:PySem.Str)
 | num (i:Int)
 | rat (q:Int×Int)
 | YX (gr:List (PySem.Str×Int×Int))
 | ZX (w:List Part)
 deriving DecidableEq
def Zd {α β:Type} (xs:List α) (f:α→α→α→α→α→Res β):Res β:=match xs with
 | [x0,x1,x2,x3,x4]=>f x0 x1 x2 x3 x4
 | _=>.stk
@[simp] theorem WT {α β:Type} {x0 x1 x2 x3 x4:α} {f:α→α→α→α→α→Res β}:Zd [x0,x1,x2,x3,x4] f=f x0 x1 x2 x3 x4:=rfl
end Kb
namespace Kb
open PySem PySem.Spec L2 PyProof.Rows
section
variable {K:iV} {d:v9}
theorem v9.look (e:He.fnW K d.at_=d.txt) (c:Tq K d=true) :
  ∃ oc od osl df kV doc pm an cd ct,K.lookup (He.fAd K d.at_)=some ⟨oc,od,.func (PySem.W.fnOf d.name d.qual d.params d.body d.scope df kV doc pm an cd ct),osl⟩∧PySem.W.codeIn K cd d.qual=true∧Q8 K df d.dfl=true:=by
 cases q:K.lookup (He.fAd K d.at_) with
 | none=>simp only [Tq,q] at c; cases c
 | some o =>
  obtain ⟨oc,od,dt,osl⟩:=o
  cases dt with
  | func fd =>
   obtain ⟨nm,ql,pa,bo,sc,gl,cl,df,kV,doc,pm,an,cd,ct,bi⟩:=fd
   simp only [Tq,q,Bool.and_eq_true] at c
   simp only [He.fnW,q,v9.txt,Option.some.injEq,Prod.mk.injEq] at e
   obtain ⟨rfl,rfl,rfl,rfl,rfl,rfl,rfl,rfl⟩:=e
   exact ⟨oc,od,osl,df,kV,doc,pm,an,cd,ct,rfl,c.1,c.2⟩
  | _=>simp only [Tq,q] at c; cases c
theorem RW {v:Value} (h:Q8 K v none=true):v=.none:=by
 cases v with
 | none=>rfl
 | _=>cases h
end
structure ug (fa:JG) (fn:List v9) (ds:List (Str×List (Str×Str))) (w:World) (K:iV):Prop where
 eq:TJ fa fn ds K=Ra fn ds w
theorem vI {α:Type} (g:Addr→Option Obj):∀ (n:List Addr) (k:iV→α),Aa g n k=k (Qu g n)
 | [],_=>rfl
 | n::r,k=>by
  unfold Aa Qu
  cases g n with
  | some o=>exact vI g r _
  | none=>exact vI g r k
theorem HX {g:Addr→Option Obj} {a:Addr} {o:Obj}:∀ n,(Qu g n).lookup a=some o→g a=some o
 | [],e=>nomatch e
 | n::r,e=>by
  unfold Qu at e
  cases q:g n with
  | none=>rw [q] at e; exact HX r e
  | some u =>
   rw [q] at e
   rw [List.lookup_cons] at e
   split at e
   ·rename_i t
    cases beq_iff_eq.mp t
    exact q.trans e
   exact HX r e
def Gi (fa:JG) (fn:List v9) (ds:List (Str×List (Str×Str))) (g:Addr→Option Obj) (n:List Addr):Qt:=Aa g n fun K=>TJ fa fn ds K
def yJ (A:List Addr) (fa:JG) (fn:List v9) (ds:List (Str×List (Str×Str))):PySem.W.Hook where
 α:=Qt
 obs:=fun s=>Gi fa fn ds s.heap.get? A
 val:=fun w=>Ra fn ds w
 says:=fun w h=>∃ K:iV,K.In h∧ug fa fn ds w K
 of:=fun w s e=>⟨Qu s.heap.get? A,fun _ _=>HX _,⟨(vI _ _ _).symm.trans e⟩⟩
 keeps:=fun _ _ _ ⟨K,hK,c⟩ k=>⟨K,PySem.W.Frag.In.keeps hK k,c⟩
def zX (A:List Addr) (fa:JG) (fn:List v9) (ds:List (Str×List (Str×Str))) (s:PySem.W.SharedT):Qt:=Gi fa fn ds (HandSHeadRun.getT s) A
theorem Pr {A:List Addr} {fa:JG} {fn:List v9} {ds:List (Str×List (Str×Str))} (s:PySem.W.SharedT):zX A fa fn ds s=(yJ A fa fn ds).obs s.abs:=by
 have e:HandSHeadRun.getT s=s.abs.heap.get?:=funext (HandSHeadRun.getT_eq s)
 show Gi fa fn ds (HandSHeadRun.getT s) A=Gi fa fn ds s.abs.heap.get? A
 rw [e]
section
variable {fa:JG} {fn:List v9} {ds:List (Str×List (Str×Str))} {w:World} {K:iV}
theorem ug.bools (c:ug fa fn ds w K):(fa.all fun l=>l.all fun f=>f K)=true∧fn.all (fun d=>Q9 K d)=true:=⟨congrArg (fun z:Qt=>z.1) c.eq,congrArg (fun z:Qt=>z.2.1.1) c.eq⟩
theorem Vd {d:v9} (h:Q9 K d=true):Tq K d=true:=by
 unfold Q9 at h
 rw [Bool.and_eq_true] at h
 exact h.1
theorem ug.fact (c:ug fa fn ds w K) (i j:Nat) {l:List (iV→Bool)} {f:iV→Bool} (h:fa[i]?=some l) (hf:l[j]?=some f):f K=true :=
 uJ.mp (uJ.mp c.bools.1 l (tH h)) f (tH hf)
theorem RX {α β:Type} {f g:α→β} {l:List α} (e:l.map f=l.map g) {i:Nat} {x:α} (h:l[i]?=some x):f x=g x:=by
 have z:=congrArg (fun m:List β=>m[i]?) e
 simp only [List.getElem?_map,h] at z
 exact j5 z
theorem ug.fn0 (c:ug fa fn ds w K) (i:Nat) {d:v9} (h:fn[i]?=some d) (hd:d.dfl=none) :
  ∃ oc od osl kV doc pm an cd ct,K.lookup (He.fAd K d.at_)=some ⟨oc,od,.func (PySem.W.fnOf d.name d.qual d.params d.body d.scope .none kV doc pm an cd ct),osl⟩∧PySem.W.codeIn K cd d.qual=true:=by
 have e:=RX (show fn.map (fun d=>He.fnW K d.at_)=fn.map v9.txt from congrArg (fun z:Qt=>z.2.1.2) c.eq) h
 obtain ⟨oc,od,osl,df,kV,doc,pm,an,cd,ct,q,k,dd⟩:=v9.look e (Vd (uJ.mp c.bools.2 d (tH h)))
 rw [hd] at dd
 cases RW dd
 exact ⟨oc,od,osl,kV,doc,pm,an,cd,ct,q,k⟩
end
theorem JQ {A:List Addr} {r:PySem.W.OpenRow} {q:Program} {M:Nat} {loose:List Str} {w:World} {fa:JG} {fn:List v9} {ds:List (Str×List (Str×Str))}
  (h1:∀ os,(HandSHeadRun.endF (HandSHeadRun.stepQ (HandSHeadRun.denQ HandSHeadRun.tabQ) r.prog w) M r.prog w os).map (fun s=>(HandSHeadRun.looksF r.prog (PySem.W.boot_heap w.params) s.abs,HandSHeadRun.seenQ q loose (importedModules r.prog.main.body) (fun s=>PySem.W.xlAt q [] s&&PySem.W.recOk r.toRowW.records s) s.abs))=some (true,PySem.W.openGood q loose))
  (h2:∀ os,(HandSHeadRun.endF (HandSHeadRun.stepQ (HandSHeadRun.denQ HandSHeadRun.tabQ) r.prog w) M r.prog w os).map (fun s=>Aa (HandSHeadRun.getT s) A fun K=>wg fn ds K)=some (xr fn ds w))
  (h3:∀ l∈fa,∀ os,(HandSHeadRun.endF (HandSHeadRun.stepQ (HandSHeadRun.denQ HandSHeadRun.tabQ) r.prog w) M r.prog w os).map (fun s=>Aa (HandSHeadRun.getT s) A fun K=>l.all fun f=>f K)=some true) :
  HandSHeadRun.RunEq r q (yJ A fa fn ds) (zX A fa fn ds) M loose w:=fun os=>by
 have g1:=h1 os
 have g2:=h2 os
 have g3:=fun l m=>h3 l m os
 generalize HandSHeadRun.endF (HandSHeadRun.stepQ (HandSHeadRun.denQ HandSHeadRun.tabQ) r.prog w) M r.prog w os=E at g1 g2 g3 ⊢
 cases E with
 | none=>cases g1
 | some s =>
  have e1:=j5 g1
  have e2:Aa (HandSHeadRun.getT s) A (fun K=>wg fn ds K)=xr fn ds w:=j5 g2
  have e3:(fa.all fun l=>l.all fun f=>f (Qu (HandSHeadRun.getT s) A))=true:=uJ.mpr fun l m=>by
   have z:Aa (HandSHeadRun.getT s) A (fun K=>l.all fun f=>f K)=true:=j5 (g3 l m)
   rw [vI] at z
   exact z
  rw [vI] at e2
  show some (_,_,zX A fa fn ds s)=_
  have e4:zX A fa fn ds s=Ra fn ds w:=by
   unfold zX Gi
   rw [vI]
   exact Prod.ext e3 e2
  obtain ⟨e5,e6⟩:=Prod.mk.inj e1
  rw [e4]
  exact congrArg some (Prod.ext e5 (Prod.ext e6 rfl))
theorem JR {fns:List (List v9)} {ds:List (Str×List (Str×Str))} {w:World} {K:iV} (h:∀ l∈fns,wg l [] K=xr l [] w) (hd:wg [] ds K=xr [] ds w):wg fns.flatten ds K=xr fns.flatten ds w:=by
 have a:∀ l∈fns,l.all (fun d=>Q9 K d)=true∧l.map (fun d=>He.fnW K d.at_)=l.map v9.txt:=fun l m=>by
  have z:=(Prod.mk.inj (h l m)).1
  exact ⟨(Prod.mk.inj z).1,(Prod.mk.inj z).2⟩
 refine Prod.ext (Prod.ext ?_ ?_) (Prod.mk.inj hd).2
 ·show fns.flatten.all (fun d=>Q9 K d)=true
  rw [uJ]
  intro d m
  obtain ⟨l,ml,md⟩:=List.mem_flatten.mp m
  exact uJ.mp (a l ml).1 d md
 show fns.flatten.map (fun d=>He.fnW K d.at_)=fns.flatten.map v9.txt
 rw [List.map_flatten,List.map_flatten]
 exact congrArg List.flatten (List.map_congr_left fun l m=>(a l m).2)
theorem HY {A:List Addr} {r:PySem.W.OpenRow} {q:Program} {M:Nat} {loose:List Str} {w:World} {fa:JG} {fns:List (List v9)} {ds:List (Str×List (Str×Str))}
  (h1:∀ os,(HandSHeadRun.endF (HandSHeadRun.stepQ (HandSHeadRun.denQ HandSHeadRun.tabQ) r.prog w) M r.prog w os).map (fun s=>(HandSHeadRun.looksF r.prog (PySem.W.boot_heap w.params) s.abs,HandSHeadRun.seenQ q loose (importedModules r.prog.main.body) (fun s=>PySem.W.xlAt q [] s&&PySem.W.recOk r.toRowW.records s) s.abs))=some (true,PySem.W.openGood q loose))
  (h2:∀ l∈fns,∀ os,(HandSHeadRun.endF (HandSHeadRun.stepQ (HandSHeadRun.denQ HandSHeadRun.tabQ) r.prog w) M r.prog w os).map (fun s=>Aa (HandSHeadRun.getT s) A fun K=>wg l [] K)=some (xr l [] w))
  (hd:∀ os,(HandSHeadRun.endF (HandSHeadRun.stepQ (HandSHeadRun.denQ HandSHeadRun.tabQ) r.prog w) M r.prog w os).map (fun s=>Aa (HandSHeadRun.getT s) A fun K=>wg [] ds K)=some (xr [] ds w))
  (h3:∀ l∈fa,∀ os,(HandSHeadRun.endF (HandSHeadRun.stepQ (HandSHeadRun.denQ HandSHeadRun.tabQ) r.prog w) M r.prog w os).map (fun s=>Aa (HandSHeadRun.getT s) A fun K=>l.all fun f=>f K)=some true) :
  HandSHeadRun.RunEq r q (yJ A fa fns.flatten ds) (zX A fa fns.flatten ds) M loose w:=JQ h1 (fun os=>by
 have g2:=fun l m=>h2 l m os
 have g3:=hd os
 generalize (HandSHeadRun.endF (HandSHeadRun.stepQ (HandSHeadRun.denQ HandSHeadRun.tabQ) r.prog w) M r.prog w os)=E at g2 g3 ⊢
 cases E with
 | none=>cases g3
 | some s =>
  have z:Aa (HandSHeadRun.getT s) A (fun K=>wg [] ds K)=xr [] ds w:=j5 g3
  rw [vI] at z
  show some (Aa (HandSHeadRun.getT s) A fun K=>wg fns.flatten ds K)=_
  rw [vI]
  refine congrArg some (JR (fun l m=>?_) z)
  have y:Aa (HandSHeadRun.getT s) A (fun K=>wg l [] K)=xr l [] w:=j5 (g2 l m)
  rw [vI] at y
  exact y) h3
theorem Bt {A:List Addr} {r:PySem.W.OpenRow} {q:Program} {M:Nat} {loose:List Str} {w:World} {fa:JG} {fns:List (List v9)} {ds:List (Str×List (Str×Str))}
  (h1:∀ os,(HandSHeadRun.endF (HandSHeadRun.stepQ (HandSHeadRun.denQ HandSHeadRun.tabQ) r.prog w) M r.prog w os).map (fun s=>((HandSHeadRun.looksF r.prog (PySem.W.boot_heap w.params) s.abs,HandSHeadRun.seenQ q loose (importedModules r.prog.main.body) (fun s=>PySem.W.xlAt q [] s&&PySem.W.recOk r.toRowW.records s) s.abs),Aa (HandSHeadRun.getT s) A fun K=>wg [] ds K))=some ((true,PySem.W.openGood q loose),xr [] ds w))
  (h2:∀ l∈fns,∀ os,(HandSHeadRun.endF (HandSHeadRun.stepQ (HandSHeadRun.denQ HandSHeadRun.tabQ) r.prog w) M r.prog w os).map (fun s=>Aa (HandSHeadRun.getT s) A fun K=>wg l [] K)=some (xr l [] w))
  (h3:∀ l∈fa,∀ os,(HandSHeadRun.endF (HandSHeadRun.stepQ (HandSHeadRun.denQ HandSHeadRun.tabQ) r.prog w) M r.prog w os).map (fun s=>Aa (HandSHeadRun.getT s) A fun K=>l.all fun f=>f K)=some true) :
  HandSHeadRun.RunEq r q (yJ A fa fns.flatten ds) (zX A fa fns.flatten ds) M loose w :=
 HY (fun os=>by
  have g:=h1 os
  generalize (HandSHeadRun.endF (HandSHeadRun.stepQ (HandSHeadRun.denQ HandSHeadRun.tabQ) r.prog w) M r.prog w os)=E at g ⊢
  cases E with
  | none=>cases g
  | some s=>exact congrArg some (Prod.mk.inj (j5 g)).1) h2 (fun os=>by
  have g:=h1 os
  generalize (HandSHeadRun.endF (HandSHeadRun.stepQ (HandSHeadRun.denQ HandSHeadRun.tabQ) r.prog w) M r.prog w os)=E at g ⊢
  cases E with
  | none=>cases g
  | some s=>exact congrArg some (Prod.mk.inj (j5 g)).2) h3
section
open PySem.W PySem.Calls
structure WW (r:OpenRow) (q:Program) (d:DefRec) (kwd:List (PySem.Str×PySem.Expr)):Prop where
 e:opening r.prog=plainProg r.prog.main.scope.names
 f:∀ s,fenceModules? r.prog s=some s
 hdef:defOf q r.name=some (d,kwd)
 hp:r.prog.theDef r.name=some (d.params,d.body,d.scope)
 hk:kwWritten? d.params.kwonlyargs d.params.kw_defaults=some kwd
 hwr:(!r.writes||r.records.isEmpty)=true
 ok:(chainsOk q&&opensWell r.prog&&(frees r.toRowW&&r.within.isEmpty))=true
 hb:r.prog.bare
end
theorem Ve {l:PySem.W.OpenLaw} {n k:Nat} {q:Program} {loose:List Str} {XP:(Str→Option Value)→Heap→Prop} {YP:World→Heap→Prop} {d:DefRec} {sp:iV→Sp} {x:Str}
  (most:l.most=some n) (small:n≤sizeLine) (hdf:d.params.defaults=[]) (room:Room k callerA)
  (F:∀ (w:World) (mg:Str→Option Value) (fa:Addr) (h:Heap),YP w h→h.Ns mainGlobals mg→mg d.name=some (.ref fa) →
   ∃ K:iV,K.In h∧∃ fd:FuncData,(∀ (s:Shared) (u:Value),BindsTo s fd ⟨[u],[]⟩ [(x,u)])∧∀ base:Heap,K.In base→base.Ns mainGlobals mg→base.NoDigits→RG l.prog w K mg base k fa fd [x] (sp K))
  (prom:∀ (K:iV) (H:Hp) (a:Addr) (ns:List Int),ns.length≤n→SqL K H a (ns.map V.int)→sp K [.ref a] H (fun v _=>v=.bl true) fun _ _ _=>False) :
  PySem.W.WalkO q loose XP YP l.row.toRowW d [] (fun f vs=>PySem.call f vs):=by
 apply Att.attach_call most hdf
 intro w s0 s1 mg mb fa o pm cd doc a vals ns G Y _ _ _ name Cq isI short hg
 obtain ⟨K,KX,fd,bnd,all⟩:=F w mg fa s1.heap Y G.T.g name
 exact Ls KX G.T.g G.T.b G.T.builtins G.T.nolimit hg Cq isI (Nat.le_trans short small) room G.T.nodigits all bnd (fun H sq=>prom _ H a ns short sq)
section
open PySem.W
variable {K:iV} {mg:Str→Option Value} {h:Heap} {w:World}
def xO (K:iV) (f:Addr):FuncData:=match K.lookup f with
 | some ⟨_,_,.func fd,_⟩=>fd
 | _=>default
theorem H_ {f:Addr} {oc:Value} {od:Option Addr} {fd:FuncData} {sl:Array (Option Value)} (l:K.lookup f=some ⟨oc,od,.func fd,sl⟩):xO K f=fd:=by
 unfold xO
 rw [l]
theorem wH {x:Str} {st:Stmt} {ps:List Str} {f:Addr} (X:K.In h) (G:h.Ns mainGlobals mg) (a:nsIn K mainGlobals x=some (some (.ref f)))
  (z:∃ oc od sl kV dc pm an cd ct,K.lookup f=some ⟨oc,od,.func (fnOf x x (defArgs st) (defBody st) (defScope st) .none kV dc pm an cd ct),sl⟩∧codeIn K cd x=true) (k:keepIn K (.ref f)=true)
  (hb:∀ (kV doc pm:Value) (an:Option Addr) (cdv ct:Value) (us:List Value),us.length=ps.length→bindArgs (fnOf x x (defArgs st) (defBody st) (defScope st) .none kV doc pm an cdv ct) ⟨us,[]⟩=pure (ps.zip us)) :
  Df K mg x st f (xO K f) ps:=by
 obtain ⟨oc,od,sl,kV,dc,pm,an,cd,ct,l,c⟩:=z
 rw [H_ l]
 exact Uq X G a l c k hb
theorem Ek {C:Addr} {x qual:Str} {st:Stmt} {ps:List Str} {f:Addr} (a:findIn K (.ref C) x=some (some (.ref f))) (i:isFn K (.ref f)=true)
  (z:∃ oc od sl kV dc pm an cd ct,K.lookup f=some ⟨oc,od,.func (fnOf x qual (defArgs st) (defBody st) (defScope st) .none kV dc pm an cd ct),sl⟩∧codeIn K cd qual=true) (k:keepIn K (.ref f)=true)
  (hb:∀ (kV doc pm:Value) (an:Option Addr) (cdv ct:Value) (us:List Value),us.length=ps.length→bindArgs (fnOf x qual (defArgs st) (defBody st) (defScope st) .none kV doc pm an cdv ct) ⟨us,[]⟩=pure (ps.zip us)) :
  Mt K C x qual st f (xO K f) ps:=by
 obtain ⟨oc,od,sl,kV,dc,pm,an,cd,ct,l,c⟩:=z
 rw [H_ l]
 exact Us a i l c k hb
theorem ug.kp {fa:JG} {fn:List v9} {ds:List (Str×List (Str×Str))} (c:ug fa fn ds w K) (i:Nat) {d:v9} (h:fn[i]?=some d):keepIn K (.ref (He.fAd K d.at_))=true:=by
 have z:=uJ.mp c.bools.2 d (tH h)
 unfold Q9 at z
 rw [Bool.and_eq_true,Bool.and_eq_true] at z
 exact z.2.1
theorem ug.g {l:List (iV→Bool)} {fn:List v9} {ds:List (Str×List (Str×Str))} (c:ug [l] fn ds w K) (j:Nat) {f:iV→Bool} {p:Prop} [d:Decidable p] (hf:l[j]?=some f:=by rfl) (e:f K=decide p:=by rfl):p :=
 jQ (e.symm.trans (c.fact 0 j rfl hf))
end
end Kb
namespace Kb
open PySem L2
inductive Z0
 | num (i:Int)
 | Z4 (l:List PySem.Str)
 deriving DecidableEq
end Kb
namespace Kb
open PySem PySem.Spec PyProof.Rows L2
def Dj (c:Cl) (H:Hp) (e:Addr) (x:iI):Prop:=∃ g l z,H e=some (.lst [.str x.1,.str x.2.1,g,.int x.2.2.2.1,l,.int x.2.2.2.2.2.1,z]) ∧
 PyData.strOk x.1=true∧PyData.strOk x.2.1=true∧v5.r c H g x.2.2.1∧jC.r c H l x.2.2.2.2.1∧jC.r c H z x.2.2.2.2.2.2
section
variable {c c' c0:Cl} {H H' H0:Hp} {S T:List Addr} {e p q s:Addr} {x y:iI} {v:V} {K:iV} {us:List V} {xs:List iI} {j:Nat}
theorem Dj.keep (g:Step S c H c' H') (hc:∀ r,c e=some r→r∉S) (h:Dj c H e x):Dj c' H' e x:=by
 obtain ⟨gr,l,z,ob,k1,k2,hg,hl,hz⟩:=h
 exact ⟨gr,l,z,g.keep _ _ ob hc,k1,k2,v5.up g.up hg,jC.up g.up hl,jC.up g.up hz⟩
theorem Dj.col (u:Up c H c' H) (h:Dj c H e x):Dj c' H e x:=by
 obtain ⟨gr,l,z,ob,k1,k2,hg,hl,hz⟩:=h
 exact ⟨gr,l,z,ob,k1,k2,v5.up u hg,jC.up u hl,jC.up u hz⟩
def QW (c:Cl) (H:Hp) (v:V) (x:iI):Prop:=∃ e,v=.ref e∧Dj c H e x
theorem Vf {i:Nat} {u:V} (h:QW c H v x) (k:∀ g l z,v5.r c H g x.2.2.1→jC.r c H l x.2.2.2.2.1→jC.r c H z x.2.2.2.2.2.2→([.str x.1,.str x.2.1,g,.int x.2.2.2.1,l,.int x.2.2.2.2.2.1,z]:List V)[i]?=some u):Rv (rIxL K) v (.int (i:Int)) H u:=by
 obtain ⟨e,rfl,gr,l,z,ob,k1,k2,hg,hl,hz⟩:=h
 have k:=k gr l z hg hl hz
 have hi:i<7:=by
  have:=(uF.mp k).1
  simpa using this
 exact fun Q w=>⟨e,_,_,u,rfl,rfl,.inl (.inl ob),by
  have e:ixN 7 (i:Int)=some i:=by
   unfold ixN
   simp
   omega
  show (ixN 7 (i:Int)).bind _=_
  rw [e]
  exact k,w⟩
theorem Gj (h:QW c H v x):Rv (rIxL K) v (.int 3) H (.int x.2.2.2.1):=Vf (i:=3) h fun _ _ _ _ _ _=>rfl
theorem Bu (h:QW c H v x):∃ u,jC.r c H u x.2.2.2.2.2.2∧Rv (rIxL K) v (.int 6) H u:=by
 obtain ⟨e,rfl,gr,l,z,ob,k1,k2,hg,hl,hz⟩:=h
 exact ⟨z,hz,fun Q w=>⟨e,_,_,z,rfl,rfl,.inl (.inl ob),rfl,w⟩⟩
theorem R3 (h:QW c H v x):∃ a u2 u4 u6,v=.ref a∧SqL K H a [.str x.1,.str x.2.1,u2,.int x.2.2.2.1,u4,.int x.2.2.2.2.2.1,u6]∧PyData.strOk x.1=true∧PyData.strOk x.2.1=true∧v5.r c H u2 x.2.2.1∧jC.r c H u4 x.2.2.2.2.1∧jC.r c H u6 x.2.2.2.2.2.2:=by
 obtain ⟨e,rfl,gr,l,z,ob,k1,k2,hg,hl,hz⟩:=h
 exact ⟨e,gr,l,z,rfl,.inl (.inl ob),k1,k2,hg,hl,hz⟩
def vQ (p:Addr) (c:Cl) (H:Hp):List V→List iI→Prop
 | [],[]=>True
 | u::us,x::xs=>(∃ e,u=.ref e∧e≠p∧c e=some p∧Dj c H e x)∧vQ p c H us xs
 | _,_=>False
theorem vQ.len:∀ {us:List V} {xs:List iI},vQ p c H us xs→us.length=xs.length
 | [],[],_=>rfl
 | _::_,_::_,h=>by rw [lC,lC,vQ.len h.2]
 | [],_::_,h=>h.elim
 | _::_,[],h=>h.elim
theorem vQ.Bo (f:∀ e x,c e=some p→Dj c H e x→c' e=some p∧Dj c' H' e x):∀ {us:List V} {xs:List iI},vQ p c H us xs→vQ p c' H' us xs
 | [],[],_=>trivial
 | _::_,_::_,h=>⟨let ⟨e,a,n,b,d⟩:=h.1; ⟨e,a,n,(f e _ b d).1,(f e _ b d).2⟩,vQ.Bo f h.2⟩
 | [],_::_,h=>h.elim
 | _::_,[],h=>h.elim
theorem vQ.at:∀ {us:List V} {xs:List iI} {j:Nat},vQ p c H us xs→xs[j]?=some x→∃ e,us[j]?=some (.ref e)∧e≠p∧c e=some p∧Dj c H e x
 | [],[],_,_,e=>by simp at e
 | u::us,y::xs,0,h,e=>by
  have e':y=x:=by simpa using e
  subst e'
  obtain ⟨a,b,n,d,f⟩:=h.1
  exact ⟨a,by rw [b]; rfl,n,d,f⟩
 | u::us,y::xs,j+1,h,e=>by
  obtain ⟨a,b,d⟩:=vQ.at (us:=us) (xs:=xs) (j:=j) h.2 (by simpa using e)
  exact ⟨a,by simpa using b,d⟩
 | [],_::_,_,h,_=>h.elim
 | _::_,[],_,h,_=>h.elim
theorem vQ.app:∀ {us:List V} {xs:List iI},vQ p c H us xs→e≠p→c e=some p→Dj c H e y→vQ p c H (us++[.ref e]) (xs++[y])
 | [],[],_,n,a,b=>⟨⟨e,rfl,n,a,b⟩,trivial⟩
 | _::_,_::_,h,n,a,b=>⟨h.1,vQ.app h.2 n a b⟩
 | [],_::_,h,_,_,_=>h.elim
 | _::_,[],h,_,_,_=>h.elim
theorem vQ.mem:∀ {us:List V} {xs:List iI},vQ p c H us xs→V.ref e∈us→c e=some p
 | [],[],_,m=>by cases m
 | u::us,x::xs,h,m=>by
  rcases lA.mp m with q | q
  ·obtain ⟨a,b,n,d,_⟩:=h.1
   rw [b] at q; cases q; exact d
  exact vQ.mem h.2 q
 | [],_::_,h,_=>h.elim
 | _::_,[],h,_=>h.elim
theorem vQ.others (st:Step [p] c H c H') (oth:∀ b o,b≠e→H b=some o→H' b=some o):∀ {us:List V} {xs:List iI},vQ p c H us xs→V.ref e∉us→vQ p c H' us xs
 | [],[],_,_=>trivial
 | u::us,x::xs,h,n=>by
  obtain ⟨a,b,m,d,g⟩:=h.1
  have ne:a≠e:=fun z=>n (by rw [b,z]; exact kE)
  refine ⟨⟨a,b,m,d,?_⟩,vQ.others st oth h.2 fun m=>n (lQ _ m)⟩
  obtain ⟨gr,l,z,ob,k1,k2,hg,hl,hz⟩:=g
  exact ⟨gr,l,z,oth _ _ ne ob,k1,k2,v5.up st.up hg,jC.up st.up hl,jC.up st.up hz⟩
 | [],_::_,h,_=>h.elim
 | _::_,[],h,_=>h.elim
theorem vQ.chg (st:Step [p] c H c H') (oth:∀ b o,b≠e→H b=some o→H' b=some o):∀ {us:List V} {xs:List iI} {j:Nat},vQ p c H us xs→us.Nodup→us[j]?=some (.ref e)→Dj c H' e y→vQ p c H' us (xs.set j y)
 | [],[],_,_,_,q,_=>by simp at q
 | u::us,x::xs,0,h,nd,q,f=>by
  have e':u=.ref e:=by simpa using q
  subst e'
  obtain ⟨a,b,n,d,g⟩:=h.1
  cases b
  exact ⟨⟨e,rfl,n,d,f⟩,vQ.others st oth h.2 fun m=>(List.nodup_cons.mp nd).1 m⟩
 | u::us,x::xs,j+1,h,nd,q,f=>by
  obtain ⟨a,b,n,d,g⟩:=h.1
  have q':us[j]?=some (.ref e):=by simpa using q
  have ne:a≠e:=fun z=>(List.nodup_cons.mp nd).1 (by rw [b,z]; exact tH q')
  refine ⟨⟨a,b,n,d,?_⟩,vQ.chg st oth h.2 (List.nodup_cons.mp nd).2 q' f⟩
  obtain ⟨gr,l,z,ob,k1,k2,hg,hl,hz⟩:=g
  exact ⟨gr,l,z,oth _ _ ne ob,k1,k2,v5.up st.up hg,jC.up st.up hl,jC.up st.up hz⟩
 | [],_::_,_,h,_,_,_=>h.elim
 | _::_,[],_,h,_,_,_=>h.elim
abbrev nR:=List iI
def iz:Mu nR where
 r c H p xs:=c p=some p∧∃ us,H p=some (.lst us)∧vQ p c H us xs∧us.Nodup
 live h:=let ⟨_,_,e,_⟩:=h; ⟨_,e⟩
 keep g n h:=by
  obtain ⟨cp,us,hp,ev,nd⟩:=h
  refine ⟨(g.col _ _ hp).trans cp,us,g.mJ _ _ _ hp cp n,ev.Bo (fun e x ce f=>⟨?_,f.keep g fun r z=>by rw [ce] at z; cases z; exact n⟩),nd⟩
  obtain ⟨_,_,_,ob,_⟩:=f
  exact (g.col _ _ ob).trans ce
 other h n:=by
  obtain ⟨cp,us,hp,ev,nd⟩:=h
  exact ⟨jY cp n,us,hp,ev.Bo (fun e x ce f=>⟨jY ce n,f.col nZ⟩),nd⟩
 pA h n:=by
  obtain ⟨cp,us,hp,ev,nd⟩:=h
  exact ⟨oK cp n,us,hp,ev.Bo (fun e x ce f=>⟨oK ce n,f.col qD⟩),nd⟩
theorem JT {α:Type} [DecidableEq α] {A:Ty α} {RN:Hp} {vs:List V} (l:Own A RN c H p vs []):iz.r c H p []:=by
 have e:vs=[]:=List.length_eq_zero_iff.mp l.rs.len
 subst e
 exact ⟨l.col,[],l.obj,trivial,List.nodup_nil⟩
theorem vQ.any:∀ {us:List V} {xs:List iI},vQ p c H us xs→Rs CV c H us (xs.map fun _=>())
 | [],[],_=>trivial
 | _::_,_::_,h=>⟨trivial,vQ.any h.2⟩
 | [],_::_,h=>h.elim
 | _::_,[],h=>h.elim
theorem Pu (h:iz.r c H p xs):rB K CV c H (.ref p) (xs.map fun _=>()):=let ⟨_,us,e,r,_⟩:=h; ⟨p,us,rfl,.inl (.inl e),r.any⟩
def Gk (H:Hp) (p:Addr) (v:V) (j:Nat):Prop:=∃ us,H p=some (.lst us)∧us[j]?=some v
theorem sW {i:Int} (h:iz.r c H p xs) (e:ixN xs.length i=some j) (hx:xs[j]?=some x):∃ v,QW c H v x∧Gk H p v j∧Rv (rIxL K) (.ref p) (.int i) H v:=by
 obtain ⟨cp,us,hp,ev,nd⟩:=h
 obtain ⟨a,b,n,d,f⟩:=ev.at hx
 exact ⟨.ref a,⟨a,rfl,f⟩,⟨us,hp,b⟩,fun Q w=>⟨p,us,i,_,rfl,rfl,.inl (.inl hp),by unfold atI; rw [ev.len,e]; exact b,w⟩⟩
theorem Gk.keep (g:Step S c H c' H') (h:iz.r c H p xs) (n:p∉S) (i:Gk H p v j):Gk H' p v j:=by
 obtain ⟨us,hp,iv⟩:=i
 exact ⟨us,g.mJ _ _ _ hp h.1 n,iv⟩
theorem Gk.at (h:iz.r c H p xs) (i:Gk H p v j) (hx:xs[j]?=some x):QW c H v x:=by
 obtain ⟨cp,us,hp,ev,nd⟩:=h
 obtain ⟨us2,hp2,iv⟩:=i
 rw [hp] at hp2
 cases hp2
 obtain ⟨a,b,n,d,f⟩:=ev.at hx
 rw [iv] at b
 exact ⟨a,j5 b,f⟩
theorem JV (h:iz.r c H p xs) (w:Wf c H) (ce:c e=some e) (fe:Dj c H e y) (ne:e≠p) (hl:xs.length<sizeLine) {Q:VK}
  (k:∀ H',Step [p] c H c H'→(∃ u,H' p=some u)→iz.r (lU c e p) H' p (xs++[y])→Q .non H'):rAppend (.ref p) [.ref e] H Q:=by
 obtain ⟨cp,us,hp,ev,nd⟩:=h
 have st:Step [p] c H c (upd H p (.lst (us++[.ref e]))):=Step.mut w hp cp
 have oth:∀ {a:Addr} {z:iI},a≠p→Dj c H a z→Dj (lU c e p) (upd H p (.lst (us++[.ref e]))) a z:=fun {a z} na f=>by
  refine Dj.col nZ ?_
  obtain ⟨gr,l,z',ob,k1,k2,hg,hl,hz⟩:=f
  exact ⟨gr,l,z',by rw [jH na]; exact ob,k1,k2,v5.up st.up hg,jC.up st.up hl,jC.up st.up hz⟩
 have map:∀ {vs:List V} {ys:List iI},vQ p c H vs ys→vQ p (lU c e p) (upd H p (.lst (us++[.ref e]))) vs ys:=by
  intro vs
  induction vs with
  | nil=>intro ys h; cases ys with
   | nil=>trivial
   | cons _ _=>exact h.elim
  | cons v vs ih=>intro ys h; cases ys with
   | nil=>exact h.elim
   | cons y ys =>
    obtain ⟨a,b,n,d,f⟩:=h.1
    exact ⟨⟨a,b,n,jY d (iZ ne),oth n f⟩,ih h.2⟩
 refine ⟨p,us,.ref e,rfl,rfl,hp,by rw [ev.len]; exact hl,k _ st ⟨_,j8⟩ ⟨jY cp (iZ ne),us++[.ref e],j8,?_,?_⟩⟩
 ·exact vQ.app (map ev) ne (tU ce) (oth ne fe)
 ·rw [List.nodup_append]
  refine ⟨nd,by simp,fun a ma b mb=>?_⟩
  rw [jD.mp mb]
  intro z
  rw [z] at ma
  have:=ev.mem ma
  rw [ce] at this
  exact ne (j5 this)
theorem JW {n:Int} (h:iz.r c H p xs) (w:Wf c H) (i:Gk H p v j) (hy:xs[j]?=some y) {Q:Hp→Prop}
  (k:∀ H',Step [p] c H c H'→iz.r c H' p (xs.set j (y.1,y.2.1,y.2.2.1,y.2.2.2.1,y.2.2.2.2.1,y.2.2.2.2.2.1,some n))→Q H'):L2.rSetL v (.int 6) (.int n) H Q:=by
 obtain ⟨cp,us,hp,ev,nd⟩:=h
 obtain ⟨us2,hp2,iv⟩:=i
 rw [hp] at hp2
 cases hp2
 obtain ⟨e,b,ne,ce,f⟩:=ev.at hy
 rw [iv] at b
 have b:=j5 b
 subst b
 obtain ⟨gr,l,z,ob,k1,k2,hg,hl,hz⟩:=id f
 have st:Step [p] c H c (upd H e (.lst ([.str y.1,.str y.2.1,gr,.int y.2.2.2.1,l,.int y.2.2.2.2.2.1,z].set 6 (.int n)))):=Step.mut w ob ce
 refine ⟨e,_,6,6,rfl,rfl,ob,rfl,k _ st ⟨cp,us,by rw [jH (iZ ne)]; exact hp,?_,nd⟩⟩
 exact vQ.chg st (fun b o nb hb=>by rw [jH nb]; exact hb) ev nd iv ⟨gr,l,.int n,by rw [j8]; rfl,k1,k2,v5.up st.up hg,jC.up st.up hl,rfl⟩
end
def zY {α:Type} [DecidableEq α] (H0:Hp) (A:Ty α):Ty (List α) where
 r c H v xs:=∃ (a:Addr) (us:List V),v=.ref a∧c a=none∧H a=some (.lst us)∧Rs A c H us xs∧H0 a=none
 up:=fun g ⟨a,us,e,k,q,h,n⟩=>⟨a,us,e,g.col a _ q k,g.obj a _ q k,h.up g,n⟩
 enc xs:=.list (xs.map A.enc)
 dep:=A.dep+1
 dp:=fun hd _ _ _ _ _ ⟨a,us,e,k,q,h,n⟩=>by subst e; exact .lst (.inl (.inl q)) (h.dp (qC hd))
 lay:=fun hd _ _ _ _ ⟨a,us,e,k,q,h,n⟩=>h.lay (qC hd)
 lJ hd xs:=Nat.succ_le_succ (DK A (qC hd) xs)
 eqv hd x y:=by simp only [PyData.eqv]; exact eqvAll A (qC hd) x y
section
variable {α:Type} [DecidableEq α] {A:Ty α} {c c' c0:Cl} {H H' H0 RN:Hp} {S T:List Addr} {p q:Addr} {us vs:List V} {xs:List α} {v u:V} {x:α}
theorem R4 (h:(zY H0 A).r c H v xs):(uK A).r c H v xs:=let ⟨a,us,e,k,q,r,_⟩:=h; ⟨a,us,e,k,q,r⟩
theorem Own.Vg (o:Own A H0 c H p us xs):(zY H0 A).r (Kb.frz c p) H (.ref p) xs:=⟨p,us,rfl,uU o.col,o.obj,o.rs.up qD,o.new⟩
theorem Step.junk (g:Step S c0 H0 c H) (n:H0 q=none) (h:H q=some (.lst us)):Step S c0 H0 c (upd H q (.lst vs)) where
 keep' a o e k:=by rw [jH (kW e n)]; exact g.keep' a o e k
 tL a d o e k:=by rw [jH (kW e n)]; exact g.tL a d o e k
 mJ a o r e k t:=by rw [jH (kW e n)]; exact g.mJ a o r e k t
 col a o e:=g.col a o e
 live a o e:=by
  obtain ⟨u,z⟩:=g.live a o e
  exact ⟨u,by rw [jH (kW e n)]; exact z⟩
 wf:=fun a o r e k=>by
  by_cases z:a=q
  ·subst z
   rw [j8] at e
   cases e
   obtain ⟨⟨u,y⟩,t⟩:=g.wf a _ r h k
   refine ⟨?_,t⟩
   by_cases z:r=a
   ·exact ⟨_,by rw [z]; exact j8⟩
   exact ⟨u,by rw [jH z]; exact y⟩
  rw [jH z] at e
  obtain ⟨⟨u,y⟩,t⟩:=g.wf a o r e k
  refine ⟨?_,t⟩
  by_cases z:r=q
  ·exact ⟨_,by rw [z]; exact j8⟩
  exact ⟨u,by rw [jH z]; exact y⟩
 Fe:=g.Fe
end
def wI (x:iI):PyData:=.list [jV.enc x.1,jV.enc x.2.1,v5.enc x.2.2.1,jB.enc x.2.2.2.1,jC.enc x.2.2.2.2.1,jB.enc x.2.2.2.2.2.1,jC.enc x.2.2.2.2.2.2]
section
variable {c c' c0:Cl} {H H' H0:Hp} {S T:List Addr} {e p q s:Addr} {x y:iI} {v:V} {K:iV} {us:List V} {xs:List iI} {j:Nat}
theorem Dj.dp (h:Dj c H e x):Dp K H (.ref e) (wI x)∧PyData.canLay0 (wI x)=true∧PyData.depth (wI x)≤4:=by
 obtain ⟨g,l,z,ob,k1,k2,hg,hl,hz⟩:=h
 have s1:jV.r c H (.str x.1) x.1:=⟨rfl,k1⟩
 have s2:jV.r c H (.str x.2.1) x.2.1:=⟨rfl,k2⟩
 refine ⟨.lst (.inl (.inl ob)) (.cons (jV.dp iW s1) (.cons (jV.dp iW s2) (.cons (v5.dp iW hg) (.cons (jB.dp (c:=c) iW rfl) (.cons (jC.dp iW hl) (.cons (jB.dp (c:=c) iW rfl) (.cons (jC.dp iW hz) .nil))))))),?_,?_⟩
 ·show (PyData.canLay0 _&&(PyData.canLay0 _&&(PyData.canLay0 _&&(PyData.canLay0 _&&(PyData.canLay0 _&&(PyData.canLay0 _&&(PyData.canLay0 _&&true)))))))=true
  rw [jV.lay iW s1,jV.lay iW s2,v5.lay iW hg,jB.lay (c:=c) (H:=H) (v:=.int x.2.2.2.1) iW rfl,jC.lay iW hl,jB.lay (c:=c) (H:=H) (v:=.int x.2.2.2.2.2.1) iW rfl,jC.lay iW hz]
  rfl
 have d1:=jV.lJ iW x.1
 have d2:=jV.lJ iW x.2.1
 have d3:=v5.lJ iW x.2.2.1
 have d4:=jB.lJ iW x.2.2.2.1
 have d5:=jC.lJ iW x.2.2.2.2.1
 have d6:=jB.lJ iW x.2.2.2.2.2.1
 have d7:=jC.lJ iW x.2.2.2.2.2.2
 have e1:jV.dep=0:=rfl
 have e2:v5.dep=2:=rfl
 have e3:jB.dep=0:=rfl
 have e4:jC.dep=0:=rfl
 show max _ (max _ (max _ (max _ (max _ (max _ (max _ 0))))))+1≤4
 omega
theorem vQ.dp:∀ {us:List V} {xs:List iI},vQ p c H us xs→DpAll K H us (xs.map wI)∧PyData.canLayAll0 (xs.map wI)=true∧PyData.depthAll (xs.map wI)≤4
 | [],[],_=>⟨.nil,rfl,Nat.zero_le _⟩
 | u::us,x::xs,h=>by
  obtain ⟨e,rfl,n,d,f⟩:=h.1
  obtain ⟨a1,a2,a3⟩:=f.dp (K:=K)
  obtain ⟨b1,b2,b3⟩:=vQ.dp (us:=us) (xs:=xs) h.2
  refine ⟨.cons a1 b1,?_,?_⟩
  ·show (PyData.canLay0 _&&PyData.canLayAll0 _)=true
   rw [a2,b2]; rfl
  show max _ _≤4
  omega
 | [],_::_,h=>h.elim
 | _::_,[],h=>h.elim
theorem Ib (h:iz.r c H p xs):Dp K H (.ref p) (.list (xs.map wI))∧SeqAt.shaped (.list (xs.map wI))=true:=by
 obtain ⟨cp,us,hp,ev,nd⟩:=h
 obtain ⟨b1,b2,b3⟩:=ev.dp (K:=K)
 refine ⟨.lst (.inl (.inl hp)) b1,?_⟩
 unfold SeqAt.shaped
 rw [show PyData.canLay0 (.list (xs.map wI))=true from b2,k_ (show PyData.depth (.list (xs.map wI))≤64 from by show PyData.depthAll _+1≤64; omega)]
 rfl
theorem Mw {α:Type} [DecidableEq α] {A:Ty α} (h:iz.r c H p xs) (hb:rB K A c H v ([]:List α)) (hd:A.dep+1≤64):Rv (rEqD K) (.ref p) v H (.bl (decide (xs=[]))):=fun Q q=>by
 obtain ⟨d1,s1⟩:=Ib (K:=K) h
 obtain ⟨d2,s2⟩:=hb.shape (K:=K) hd
 refine ⟨_,_,d1,d2,s1,s2,?_⟩
 have e:PyData.eqv (.list (xs.map wI)) ((uK A).enc ([]:List α))=decide (xs=[]):=by
  cases xs with
  | nil=>rfl
  | cons a l=>rfl
 rw [e]
 exact q
theorem oO {t:TE} {σ:L2.St} (h:iz.r c H p xs) (hv:Pv t σ H (.ref p)):Pv (tCB (fun xs H Q=>∃ p ys,xs=[.ref p]∧(SqL K H p ys∨SqT K H p ys)∧Q (.int ys.length) H) (tCons t tNil)) σ H (.int xs.length) :=
 let ⟨_,_,e,r,_⟩:=h; Aj e r.len hv
theorem zm (h:QW c H v x) (w:Wf c H) {Q:VK} (q:∀ p c' H',Step [] c H c' H'→(yh jV jV v5 jB jC jB jC).r c' H' (.ref p) x→H p=none→Q (.ref p) H'):kTup K v H Q:=by
 obtain ⟨e,rfl,g,l,z,ob,k1,k2,hg,hl,hz⟩:=h
 refine .inl ⟨e,_,rfl,.inl (.inl ob),fun p n=>?_⟩
 have st:Step [] c H (setC c p none) (upd H p (.tup [.str x.1,.str x.2.1,g,.int x.2.2.2.1,l,.int x.2.2.2.2.2.1,z])):=Step.new w n fun r e=>by cases e
 exact q p _ _ st ⟨p,_,_,_,_,_,_,_,rfl,m7,.inl j8,⟨rfl,k1⟩,⟨rfl,k2⟩,v5.up st.up hg,rfl,jC.up st.up hl,rfl,jC.up st.up hz⟩ n
theorem Gm (h:iz.r c H p xs):∃ us,H p=some (.lst us)∧us.length=xs.length∧Rs (Hw us) c H us (List.range xs.length)∧∀ {j:Nat} {v:V},us[j]?=some v→∃ x,xs[j]?=some x∧QW c H v x:=by
 obtain ⟨cp,us,hp,ev,nd⟩:=h
 refine ⟨us,hp,ev.len,?_,fun {j v} e=>?_⟩
 ·rw [← ev.len]
  have gen:∀ (k:Nat) (vs:List V),(∀ i,vs[i]?=us[k+i]?)→Rs (Hw us) c H vs ((List.range vs.length).map fun i=>k+i):=by
   intro k vs
   induction vs generalizing k with
   | nil=>intro _; trivial
   | cons a l ih =>
    intro e
    rw [lC,List.range_succ_eq_map,List.map_cons,List.map_map]
    refine ⟨?_,?_⟩
    ·have:=e 0
     exact this.symm.trans rfl
    have:=ih (k+1) fun i=>by
     have:=e (i+1)
     rw [show k+1+i=k+(i+1) by omega]
     simpa using this
    rwa [show ((List.range l.length).map fun i=>k+1+i)=((List.range l.length).map ((fun i=>k+i)∘Nat.succ)) from List.map_congr_left fun i _=>by show k+1+i=k+(i+1); omega] at this
  have:=gen 0 us fun i=>by rw [Nat.zero_add]
  rwa [show ((List.range us.length).map fun i=>0+i)=List.range us.length from by simp] at this
 have lt:=(uF.mp e).1
 rw [ev.len] at lt
 obtain ⟨a,b,n,d,f⟩:=ev.at (x:=xs[j]) (nA lt)
 rw [e] at b
 exact ⟨_,nA lt,a,j5 b,f⟩
end
abbrev Bv:Ty Row3:=mV jV jB jB
section
variable {c c' c0 cc:Cl} {H H' H0 Hc:Hp} {S T:List Addr} {e p q s a:Addr} {v:V} {K:iV} {us vs:List V}
def paint (c:Cl) (as:List Addr) (o:Addr):Cl:=fun x=>if x∈as then some o else c x
theorem Gn {as:List Addr} (h:a∈as):paint c as q a=some q:=if_pos h
theorem xq {as:List Addr} (h:a∉as):paint c as q a=c a:=if_neg h
theorem Step.paint {as:List Addr} (st:Step [] cc Hc c H) (h:∀ a∈as,Hc a=none∧∃ us,H a=some (.lst us)) (hq:∃ u,H q=some u):Step [] cc Hc (Kb.paint c as q) H where
 keep':=st.keep'
 tL:=st.tL
 mJ:=st.mJ
 col x o e:=by
  have n:x∉as:=fun m=>by
   have:=(h x m).1
   rw [e] at this; cases this
  rw [xq n]
  exact st.col x o e
 live:=st.live
 wf:=fun x o r e k=>by
  by_cases m:x∈as
  ·rw [Gn m] at k
   cases k
   obtain ⟨_,us,z⟩:=h x m
   rw [e] at z
   cases z
   exact ⟨hq,rfl⟩
  rw [xq m] at k
  exact st.wf x o r e k
 Fe:=st.Fe
theorem Mx {as:List Addr} (h:∀ a∈as,∃ us,H a=some (.lst us)) {x:Row3} (r:Bv.r c H v x):Bv.r (Kb.paint c as q) H v x:=by
 obtain ⟨a,u0,u1,u2,e,k,ob,r⟩:=r
 refine ⟨a,u0,u1,u2,e,?_,ob,r⟩
 rw [xq fun m=>?_]
 ·exact k
 obtain ⟨us,z⟩:=h a m
 rcases ob with ob | ⟨d,ob⟩<;>(rw [z] at ob; cases ob)
theorem Dk {as:List Addr} (h:∀ a∈as,∃ us,H a=some (.lst us)):∀ {us:List V} {xs:List Row3},Rs Bv c H us xs→Rs Bv (Kb.paint c as q) H us xs
 | [],[],_=>trivial
 | _::_,_::_,r=>⟨Mx h r.1,Dk h r.2⟩
 | [],_::_,r=>r.elim
 | _::_,[],r=>r.elim
structure QX (c:Cl) (H:Hp) (t a:Addr) (u4 u6:V) (x:iI):Prop where
 col:c t=none
 rd:Rd H t (.tup [.str x.1,.str x.2.1,.ref a,.int x.2.2.2.1,u4,.int x.2.2.2.2.2.1,u6])
 k1:PyData.strOk x.1=true
 k2:PyData.strOk x.2.1=true
 r4:jC.r c H u4 x.2.2.2.2.1
 r6:jC.r c H u6 x.2.2.2.2.2.2
theorem El {x:Option Int} (h:jC.r c H v x):jC.r c' H' v x:=by
 cases x with
 | none=>exact h
 | some i=>exact h
theorem QX.lift {u4 u6:V} {x:iI} (h:QX c H p a u4 u6 x) (st:Step T c H c' H'):QX c' H' p a u4 u6 x:=⟨st.up.Ay h.col h.rd,st.up.rd h.col h.rd,h.k1,h.k2,El h.r4,El h.r6⟩
theorem Em {x:iI} (g:Step S c0 H0 cc Hc) (st:Step [] cc Hc c H) (r:(yh jV jV (zY Hc Bv) jB jC jB jC).r c H v x) :
  ∃ t a us u4 u6,v=.ref t∧Step [] cc Hc (paint c [a] a) H∧Step S c0 H0 (paint c [a] a) H∧QX (paint c [a] a) H t a u4 u6 x∧Own Bv H0 (paint c [a] a) H a us x.2.2.1∧Hc a=none:=by
 obtain ⟨t,u0,u1,u2,u3,u4,u5,u6,e,kt,rd,r0,r1,r2,r3,r4,r5,r6⟩:=r
 obtain ⟨a,us,e2,ka,ob,rs,n⟩:=r2
 obtain ⟨e0,k1⟩:=r0
 obtain ⟨e1,k2⟩:=r1
 have e3:u3=.int x.2.2.2.1:=r3
 have e5:u5=.int x.2.2.2.2.2.1:=r5
 subst e0 e1 e2 e3 e5
 have hl:∀ b∈[a],∃ us,H b=some (.lst us):=fun b m=>by rw [jD.mp m]; exact ⟨us,ob⟩
 have st':Step [] cc Hc (paint c [a] a) H:=st.paint (fun b m=>by rw [jD.mp m]; exact ⟨n,us,ob⟩) ⟨_,ob⟩
 have nt:t∉[a]:=fun m=>by
  rw [jD.mp m] at rd
  rcases rd with rd | ⟨d,rd⟩<;>(rw [ob] at rd; cases rd)
 exact ⟨t,a,us,u4,u6,e,st',g.pB st',⟨by rw [xq nt]; exact kt,rd,k1,k2,El r4,El r6⟩,⟨Gn j6,ob,Dk hl rs,g.fresh n⟩,n⟩
theorem QX.dp {u4 u6:V} {x:iI} (h:QX c H p a u4 u6 x) (o:Own Bv H0 c H a us x.2.2.1):Dp K H (.ref p) ((yh jV jV v5 jB jC jB jC).enc x)∧SeqAt.shaped ((yh jV jV v5 jB jC jB jC).enc x)=true:=by
 have s1:jV.r c H (.str x.1) x.1:=⟨rfl,h.k1⟩
 have s2:jV.r c H (.str x.2.1) x.2.1:=⟨rfl,h.k2⟩
 have rb:rB K Bv c H (.ref a) x.2.2.1:=⟨a,us,rfl,.inl (.inl o.obj),o.rs⟩
 obtain ⟨g1,g2⟩:=rb.shape (K:=K) iW
 have l3:PyData.canLay0 (v5.enc x.2.2.1)=true:=(Bool.and_eq_true_iff.mp g2).1
 refine ⟨.tup (.inl h.rd) (.cons (jV.dp iW s1) (.cons (jV.dp iW s2) (.cons g1 (.cons (jB.dp (c:=c) iW rfl) (.cons (jC.dp iW h.r4) (.cons (jB.dp (c:=c) iW rfl) (.cons (jC.dp iW h.r6) .nil))))))),?_⟩
 unfold SeqAt.shaped
 rw [show PyData.canLay0 ((yh jV jV v5 jB jC jB jC).enc x)=true from by
  show (PyData.canLay0 _&&(PyData.canLay0 _&&(PyData.canLay0 _&&(PyData.canLay0 _&&(PyData.canLay0 _&&(PyData.canLay0 _&&(PyData.canLay0 _&&true)))))))=true
  rw [jV.lay iW s1,jV.lay iW s2,l3,jB.lay (c:=c) (H:=H) (v:=.int x.2.2.2.1) iW rfl,jC.lay iW h.r4,jB.lay (c:=c) (H:=H) (v:=.int x.2.2.2.2.2.1) iW rfl,jC.lay iW h.r6]
  rfl,k_ (Nat.le_trans ((yh jV jV v5 jB jC jB jC).lJ iW x) iW)]
 rfl
theorem zp {u4 u6:V} {x y:iI} {z:V} (h:QX c H p a u4 u6 x) (o:Own Bv H0 c H a us x.2.2.1) (h2:(yh jV jV v5 jB jC jB jC).r c H z y):Rv (rNeD K) (.ref p) z H (.bl (!decide (x=y))):=fun Q q=>by
 obtain ⟨d1,s1⟩:=h.dp (K:=K) o
 have hd:(yh jV jV v5 jB jC jB jC).dep≤64:=by decide
 refine ⟨_,_,d1,(yh jV jV v5 jB jC jB jC).dp hd h2,s1,?_,?_⟩
 ·unfold SeqAt.shaped
  rw [(yh jV jV v5 jB jC jB jC).lay hd h2,k_ (Nat.le_trans ((yh jV jV v5 jB jC jB jC).lJ hd y) hd)]
  rfl
 rw [(yh jV jV v5 jB jC jB jC).eqv hd]
 exact q
theorem Px {u4 u6:V} {x:iI} (h:QX c H p a u4 u6 x):Rv (rIxT K) (.ref p) (.int 2) H (.ref a):=fun Q q=>⟨p,_,2,_,rfl,rfl,.inl h.rd,rfl,q⟩
end
section
variable {c c' c0 cc:Cl} {H H' H0 Hc:Hp} {S T:List Addr} {e p q s a t:Addr} {v:V} {K:iV} {us vs:List V} {i:Nat}
structure NZ (Hc:Hp) (c:Cl) (H:Hp) (p:Addr) (us:List V) (i:Nat):Prop where
 col:c p=some p
 obj:H p=some (.lst us)
 el:∀ v∈us,∃ t w0 w1 w2 a vs,v=.ref t∧c t=none∧Rd H t (.tup [w0,w1,w2,.ref a])∧Hc a=none∧a≠p∧c a=none∧H a=some (.lst vs)∧vs.length+us.length<sizeLine+i
theorem NZ.keep (h:NZ Hc c H p us i) (st:Step [] c H c' H'):NZ Hc c' H' p us i:=by
 refine ⟨(st.col _ _ h.obj).trans h.col,st.mJ _ _ _ h.obj h.col j6,fun v m=>?_⟩
 obtain ⟨t,w0,w1,w2,a,vs,e,ct,ht,n,ne,ca,ha,l⟩:=h.el v m
 exact ⟨t,w0,w1,w2,a,vs,e,st.up.Ay ct ht,st.up.rd ct ht,n,ne,(st.col _ _ ha).trans ca,st.keep _ _ ha (fun r z=>by rw [ca] at z; cases z),l⟩
theorem NZ.at (h:NZ Hc c H p us i) {j:Nat} (e:us[j]?=some v):∃ t a vs,v=.ref t∧Rv (rIxT K) v (.int 3) H (.ref a)∧Hc a=none∧a≠p∧c a=none∧H a=some (.lst vs)∧vs.length+us.length<sizeLine+i:=by
 obtain ⟨t,w0,w1,w2,a,vs,rfl,ct,ht,n,ne,ca,ha,l⟩:=h.el v (tH e)
 exact ⟨t,a,vs,rfl,fun Q q=>⟨t,_,3,_,rfl,rfl,.inl ht,rfl,q⟩,n,ne,ca,ha,l⟩
theorem NZ.push (h:NZ Hc c H p us i) (ha:H a=some (.lst vs)) (np:a≠p) (l:vs.length+us.length<sizeLine+i):NZ Hc c (upd H a (.lst (vs++[v]))) p us (i+1):=by
 refine ⟨h.col,by rw [jH (iZ np)]; exact h.obj,fun w m=>?_⟩
 obtain ⟨t,w0,w1,w2,b,ws,e,ct,ht,n,ne,ca,hb,l'⟩:=h.el w m
 have nt:t≠a:=fun z=>by
  rw [z] at ht
  rcases ht with ht | ⟨d,ht⟩<;>(rw [ha] at ht; cases ht)
 have ht2:Rd (upd H a (.lst (vs++[v]))) t (.tup [w0,w1,w2,.ref b]):=ht.imp (fun q=>by rw [jH nt]; exact q) (fun ⟨d,q⟩=>⟨d,by rw [jH nt]; exact q⟩)
 refine ⟨t,w0,w1,w2,b,?_⟩
 by_cases z:b=a
 ·subst z
  exact ⟨vs++[v],e,ct,ht2,n,ne,ca,j8,by rw [o_]; simp; omega⟩
 exact ⟨ws,e,ct,ht2,n,ne,ca,by rw [jH z]; exact hb,iJ⟩
abbrev JX (H0:Hp):Ty (Int×PySem.Str×PySem.Str×List Row3):=wz jB jV jV (zY H0 Bv)
abbrev Mz:Ty (Int×PySem.Str×PySem.Str×List Row3):=wz jB jV jV (uK Bv)
theorem WY {x:Int×PySem.Str×PySem.Str×List Row3} (h:(JX Hc).r c H v x):Mz.r c H v x:=by
 obtain ⟨a,u0,u1,u2,u3,e,k,q,h0,h1,h2,h3⟩:=h
 exact ⟨a,u0,u1,u2,u3,e,k,q,h0,h1,h2,R4 h3⟩
theorem QZ:∀ {us:List V} {xs:List (Int×PySem.Str×PySem.Str×List Row3)},Rs (JX Hc) c H us xs→Rs Mz c H us xs
 | [],[],_=>trivial
 | _::_,_::_,r=>⟨WY r.1,QZ r.2⟩
 | [],_::_,r=>r.elim
 | _::_,[],r=>r.elim
variable {xs:List (Int×PySem.Str×PySem.Str×List Row3)}
theorem Ie (o:Own (JX Hc) H0 c H p us xs):rB K Mz c H (.ref p) xs:=⟨p,us,rfl,.inl (.inl o.obj),QZ o.rs⟩
theorem R5 (o:Own (JX Hc) H0 c H p us xs) (l:xs.all (fun x=>decide (x.2.2.2.length+xs.length<sizeLine))=true):NZ Hc c H p us 0:=by
 refine ⟨o.col,o.obj,fun v m=>?_⟩
 have gen:∀ {us:List V} {ys:List (Int×PySem.Str×PySem.Str×List Row3)},(∀ y∈ys,y∈xs)→Rs (JX Hc) c H us ys→∀ v∈us,∃ x∈xs,(JX Hc).r c H v x:=by
  intro us
  induction us with
  | nil=>intro ys _ _ v m; cases m
  | cons u us ih =>
   intro ys hy r v m
   cases ys with
   | nil=>exact r.elim
   | cons y ys =>
    rcases lA.mp m with rfl | m
    ·exact ⟨y,hy y kE,r.1⟩
    exact ih (fun z mz=>hy z (lQ _ mz)) r.2 v m
 obtain ⟨x,mx,r⟩:=gen (fun y m=>m) o.rs v m
 obtain ⟨t,u0,u1,u2,u3,e,ct,q,h0,h1,h2,a,vs,e3,ca,ha,rs,na⟩:=r
 subst e3
 have lx:=jQ (uJ.mp l x mx)
 have ht:Rd H t (.tup [u0,u1,u2,.ref a]):=q
 refine ⟨t,u0,u1,u2,a,vs,e,ct,ht,na,fun z=>?_,ca,ha,?_⟩
 ·rw [z,o.col] at ca; cases ca
 rw [rs.len,o.rs.len]
 exact lx
end
end Kb
namespace Kb
open PySem L2
theorem Kont.Py {β σ ρ:Type} {P:β→Cl→Hp→Prop} {PE:Err→Cl→Hp→Prop} {S:List Addr} {c0:Cl} {H0:Hp} {s:σ} {f:σ→Res β} {g:ρ→Res β} (k:Kont P PE S c0 H0 (Qv (.nx s) f g)):Kont P PE S c0 H0 (f s):=k
end Kb
namespace Lw
open PySem L2 Kb
def rM (i:Nat):Stmt:=PySem.Challenge.pw_kerbmark_k60_events_in_force.main.body.getD i (.Pass ⟨0,0,0,0⟩)
abbrev uZ:Stmt:=rM 9
abbrev wJ:Stmt:=rM 10
abbrev qK:Stmt:=(inClass (rM 11) 0)
abbrev oR:Stmt:=(inClass (rM 11) 1)
abbrev pF:Stmt:=(inClass (rM 12) 0)
abbrev m_:Stmt:=(inClass (rM 12) 1)
abbrev qL:Stmt:=(inClass (rM 12) 2)
abbrev nj:Stmt:=(inClass (rM 12) 6)
abbrev qM:Stmt:=(inClass (rM 12) 3)
abbrev oU:Stmt:=(inClass (rM 12) 4)
abbrev oV:Stmt:=(inClass (rM 12) 5)
abbrev rN:Stmt:=rM 14
abbrev tW:Stmt:=rM 15
abbrev qb:Stmt:=rM 16
abbrev tX:Stmt:=rM 17
abbrev o9:Stmt:=rM 19
abbrev u9:Stmt:=rM 20
abbrev qd:Stmt:=rM 21
abbrev oh:Stmt:=rM 22
abbrev u_:Stmt:=rM 23
abbrev vf:Stmt:=rM 24
abbrev vg:Stmt:=rM 25
abbrev pG:Stmt:=rM 26
abbrev pH:Stmt:=rM 28
abbrev pJ:Stmt:=rM 27
abbrev Dm:Stmt:=rM 29
end Lw
namespace Lw
open PySem PySem.Spec PyProof.Rows L2 Kb
abbrev vo:PySem.W.OpenRow:=PySem.W.OpenLaw.row PySem.Challenge.rw_kerbmark_k60_events_in_force
def hA:List Addr:=[3,89,152,37,24,49,88,151,36,23,48,58,57,65,64,79,78,86,85,107,106,114,113,121,120,149,148,128,127,135,134,142,141,163,162,170,169,175,174,182,181,192,191,199,198,204,203,209,208,216,215,223,222,230,229,237,236,251,250,244,243,256,255]
def hnames:List Str:=vo.prog.boundNames.filter fun x=>!(x==("law" : Str))
def MF:List Kb.v9:=[⟨("is_word", none), "is_word", "is_word", defArgs uZ, defBody uZ, defScope uZ, none⟩,
 ⟨("is_day", none), "is_day", "is_day", defArgs wJ, defBody wJ, defScope wJ, none⟩,
 ⟨("Event", some ("__init__" : Str)), "__init__", "Event.__init__", defArgs qK, defBody qK, defScope qK, none⟩,
 ⟨("Event", some ("stands" : Str)), "stands", "Event.stands", defArgs oR, defBody oR, defScope oR, none⟩,
 ⟨("Events", some ("__init__" : Str)), "__init__", "Events.__init__", defArgs pF, defBody pF, defScope pF, none⟩,
 ⟨("Events", some ("entries" : Str)), "entries", "Events.entries", defArgs m_, defBody m_, defScope m_, none⟩,
 ⟨("Events", some ("add" : Str)), "add", "Events.add", defArgs qL, defBody qL, defScope qL, none⟩,
 ⟨("Events", some ("_found" : Str)), "_found", "Events._found", defArgs nj, defBody nj, defScope nj, none⟩,
 ⟨("Events", some ("end" : Str)), "end", "Events.end", defArgs qM, defBody qM, defScope qM, none⟩,
 ⟨("Events", some ("event" : Str)), "event", "Events.event", defArgs oU, defBody oU, defScope oU, none⟩,
 ⟨("Events", some ("known" : Str)), "known", "Events.known", defArgs oV, defBody oV, defScope oV, none⟩,
 ⟨("_law_mixed", none), "_law_mixed", "_law_mixed", defArgs rN, defBody rN, defScope rN, none⟩,
 ⟨("_law_take", none), "_law_take", "_law_take", defArgs tW, defBody tW, defScope tW, none⟩,
 ⟨("_law_state", none), "_law_state", "_law_state", defArgs qb, defBody qb, defScope qb, none⟩,
 ⟨("_law_runs", none), "_law_runs", "_law_runs", defArgs tX, defBody tX, defScope tX, none⟩,
 ⟨("_law_ground", none), "_law_ground", "_law_ground", defArgs o9, defBody o9, defScope o9, none⟩,
 ⟨("_law_day", none), "_law_day", "_law_day", defArgs u9, defBody u9, defScope u9, none⟩,
 ⟨("_law_words", none), "_law_words", "_law_words", defArgs qd, defBody qd, defScope qd, none⟩,
 ⟨("_law_is_word", none), "_law_is_word", "_law_is_word", defArgs oh, defBody oh, defScope oh, none⟩,
 ⟨("_law_add", none), "_law_add", "_law_add", defArgs u_, defBody u_, defScope u_, none⟩,
 ⟨("_law_end", none), "_law_end", "_law_end", defArgs vf, defBody vf, defScope vf, none⟩,
 ⟨("_law_due", none), "_law_due", "_law_due", defArgs vg, defBody vg, defScope vg, none⟩,
 ⟨("_law_unknown", none), "_law_unknown", "_law_unknown", defArgs pG, defBody pG, defScope pG, none⟩,
 ⟨("_law_refuses", none), "_law_refuses", "_law_refuses", defArgs pH, defBody pH, defScope pH, none⟩,
 ⟨("_law_between", none), "_law_between", "_law_between", defArgs pJ, defBody pJ, defScope pJ, none⟩,
 ⟨("law", none), "law", "law", defArgs Dm, defBody Dm, defScope Dm, none⟩]
abbrev R6:List (List Kb.v9):=[MF]
abbrev hfn:List Kb.v9:=R6.flatten
def hq0 (x0:Str) (K:iV):Bool:=decide (PySem.W.nsIn K mainGlobals x0=some (some (.ref (He.fAd K (x0,none)))))
def hq1 (x0:Str) (K:iV):Bool:=decide (PySem.W.keepIn K (.ref (He.fAd K (x0,none)))=true)
def hq2 (x0 x1:Str) (K:iV):Bool:=decide (PySem.W.findIn K (.ref (He.ga K x0)) x1=some none)
def N5 (x0:Str) (K:iV):Bool:=decide (PySem.W.nsIn K mainGlobals x0=some none)
def PB (x0 x1:Str) (K:iV):Bool:=decide (PySem.W.findIn K (.ref (He.ga K x0)) x1=some (some (.ref (He.fAd K (x0,some (x1:Str))))))
def PL (x0 x1:Str) (K:iV):Bool:=decide (PySem.W.isFn K (.ref (He.fAd K (x0,some (x1:Str))))=true)
def hq6 (x0 x1:Str) (K:iV):Bool:=decide (PySem.W.keepIn K (.ref (He.fAd K (x0,some (x1:Str))))=true)
def Vh (x0:Str) (K:iV):Bool:=decide (PySem.W.nsIn K mainGlobals x0=some (some (.ref (He.ga K x0))))
def Vi (x0:Str) (K:iV):Bool:=decide (PySem.W.hasDictIn K (He.ga K x0)=true)
def Wg (x0:Str) (K:iV):Bool:=decide (PySem.W.keepIn K (.ref (He.ga K x0))=true)
def R7 (x0:Str) (K:iV):Bool:=decide (PySem.W.subIn K (.ref (He.ga K x0)) (.type "BaseException")=some true)
def R8 (x0:Str) (K:iV):Bool:=decide (PySem.W.typeIn K (.ref (He.ga K x0))=some (.type "type"))
def R9 (x0:Str) (K:iV):Bool:=decide (PySem.W.isClsIn K (He.ga K x0)=true)
def R_ (x0:Str) (K:iV):Bool:=decide (PySem.W.subIn K (.ref (He.ga K x0)) (.type "ValueError")=some true)
def Vj (x0:Str) (K:iV):Bool:=decide (PySem.W.plainGet K (He.ga K x0) Str.empty=true)
def Vk (x0:Str) (K:iV):Bool:=decide (PySem.W.plainOver K (He.ga K x0)=true)
def Vl (x0 x1:Str) (K:iV):Bool:=decide (PySem.W.findIn K (.ref (He.ga K x0)) x1=some (some (.builtin "object.__setattr__")))
def Vm (x0:Str) (K:iV):Bool:=decide (PySem.W.makesIn K (He.ga K x0)=true)
def Vn (x0:Str) (K:iV):Bool:=decide (PySem.W.excIn K (He.ga K x0) [.type "ValueError", .type "Exception", .type "BaseException", .type "object"] "ValueError.__new__" = true)
def Vo (x0 x1:Str) (K:iV):Bool:=decide (PySem.W.findIn K (.ref (He.ga K x0)) x1=some (some (.builtin "BaseException.__getattribute__")))
def Vp (x0 x1:Str) (K:iV):Bool:=decide (PySem.W.findIn K (.ref (He.ga K x0)) x1=some (some (.builtin "object.__class__")))
def Vq (x0:Str) (K:iV):Bool:=decide (PySem.W.mroIn K (He.ga K x0) (.type "object")=some true)
def Vr (x0:Str) (K:iV):Bool:=decide (PySem.W.subIn K (.ref (He.ga K x0)) (.ref (He.ga K x0))=some true)
def Vs (x0 x1:Str) (K:iV):Bool:=decide (PySem.W.subIn K (.ref (He.ga K x0)) (.ref (He.ga K x1))=some true)
def Vt (x0 x1:Str) (K:iV):Bool:=decide (PySem.W.subIn K (.ref (He.ga K x0)) (.ref (He.ga K x1))=some false)
def Vu (x0 x1:Str) (K:iV):Bool:=decide (PySem.W.nsIn K mainGlobals x0=some (some (.str x1 (Kb.Q_ K x0))))
def Sd:List (iV→Bool):=[Vh "Event", Vj "Event", Vi "Event", Vk "Event", Vl "Event" "__setattr__", Vm "Event", Wg "Event", Vh "Events", Vj "Events", Vi "Events", Vk "Events", Vl "Events" "__setattr__", Vm "Events", Wg "Events", hq0 "is_word", hq1 "is_word", hq0 "is_day", hq1 "is_day", PB "Event" "__init__", PL "Event" "__init__", hq6 "Event" "__init__", PB "Event" "stands", PL "Event" "stands", hq6 "Event" "stands", PB "Events" "__init__", PL "Events" "__init__", hq6 "Events" "__init__", PB "Events" "entries", PL "Events" "entries", hq6 "Events" "entries", PB "Events" "add", PL "Events" "add", hq6 "Events" "add", PB "Events" "_found", PL "Events" "_found", hq6 "Events" "_found", PB "Events" "end", PL "Events" "end", hq6 "Events" "end", PB "Events" "event", PL "Events" "event", hq6 "Events" "event", PB "Events" "known", PL "Events" "known", hq6 "Events" "known", hq0 "_law_mixed", hq1 "_law_mixed", hq0 "_law_take", hq1 "_law_take", hq0 "_law_state", hq1 "_law_state", hq0 "_law_runs", hq1 "_law_runs", hq0 "_law_ground", hq1 "_law_ground", hq0 "_law_day", hq1 "_law_day", hq0 "_law_words", hq1 "_law_words", hq0 "_law_is_word", hq1 "_law_is_word", hq0 "_law_add", hq1 "_law_add", hq0 "_law_end", hq1 "_law_end", hq0 "_law_due", hq1 "_law_due", hq0 "_law_unknown", hq1 "_law_unknown", hq0 "_law_refuses", hq1 "_law_refuses", hq0 "_law_between", hq1 "_law_between", hq0 "law", hq1 "law", hq2 "Event" "ended", hq2 "Event" "entry", hq2 "Event" "first", hq2 "Event" "ground", hq2 "Event" "kind", hq2 "Event" "last", hq2 "Event" "value", hq2 "Events" "_entries", hq2 "Events" "_events", Vh "InvalidEvent", Vn "InvalidEvent", Wg "InvalidEvent", Vo "InvalidEvent" "__getattribute__", hq2 "InvalidEvent" "__getattr__", Vp "InvalidEvent" "__class__", Vq "InvalidEvent", R7 "InvalidEvent", R8 "InvalidEvent", Vi "InvalidEvent", R9 "InvalidEvent", R_ "InvalidEvent", Vh "UnknownEvent", Vn "UnknownEvent", Wg "UnknownEvent", Vo "UnknownEvent" "__getattribute__", hq2 "UnknownEvent" "__getattr__", Vp "UnknownEvent" "__class__", Vq "UnknownEvent", R7 "UnknownEvent", R8 "UnknownEvent", Vi "UnknownEvent", R9 "UnknownEvent", R_ "UnknownEvent", Vh "KerbError", R7 "KerbError", R8 "KerbError", Vi "KerbError", R9 "KerbError", R_ "KerbError", fun K=>decide (PySem.W.specialIn K (.builtin "object.__class__") "__get__" = some (some (.builtin "getset_descriptor.__get__"))), fun K=>decide (PySem.W.takesIn K (.builtin "object.__class__")=some true), Vr "InvalidEvent", Vs "InvalidEvent" "KerbError", Vt "InvalidEvent" "UnknownEvent", Vs "UnknownEvent" "KerbError", Vr "UnknownEvent", Vt "UnknownEvent" "InvalidEvent", N5 "abs", N5 "enumerate", N5 "int", N5 "isinstance", N5 "len", N5 "list", N5 "range", N5 "set", N5 "sorted", N5 "tuple", Vu "DIGITS" "0123456789", fun K=>decide (PySem.W.nsIn K mainGlobals "LAST_DAY" = some (some (.int 1000000 (Kb.Q_ K "LAST_DAY")))), Vu "LETTERS" "abcdefghijklmnopqrstuvwxyz", fun K=>decide (PySem.W.nsIn K mainGlobals "LONGEST" = some (some (.int 12 (Kb.Q_ K "LONGEST"))))]
def hfa:Kb.JG:=[Sd]
def hds:List (Str×List (Str×Str)):=[]
theorem W0 (w:World) (os:OsState):(HandSHeadRun.endF (HandSHeadRun.stepQ (HandSHeadRun.denQ HandSHeadRun.tabQ) vo.prog (w.withFollow "special-get-raises" false)) 60000 vo.prog (w.withFollow "special-get-raises" false) os).map (fun s=>((HandSHeadRun.looksF vo.prog (PySem.W.boot_heap (w.withFollow "special-get-raises" false).params) s.abs, HandSHeadRun.seenQ (PySem.W.view vo.prog [29]) hnames (importedModules vo.prog.main.body) (fun s=>PySem.W.xlAt (PySem.W.view vo.prog [29]) [] s&&PySem.W.recOk vo.toRowW.records s) s.abs), Kb.Aa (HandSHeadRun.getT s) hA fun K=>Kb.wg [] hds K))=some ((true, PySem.W.openGood (PySem.W.view vo.prog [29]) hnames), Kb.xr [] hds (w.withFollow "special-get-raises" false)):=by kernel_rfl
theorem Vv (w:World) (os:OsState):(HandSHeadRun.endF (HandSHeadRun.stepQ (HandSHeadRun.denQ HandSHeadRun.tabQ) vo.prog (w.withFollow "special-get-raises" false)) 60000 vo.prog (w.withFollow "special-get-raises" false) os).map (fun s=>Kb.Aa (HandSHeadRun.getT s) hA fun K=>Kb.wg MF [] K)=some (Kb.xr MF [] (w.withFollow "special-get-raises" false)):=by kernel_rfl
theorem Vw (w:World) (os:OsState):(HandSHeadRun.endF (HandSHeadRun.stepQ (HandSHeadRun.denQ HandSHeadRun.tabQ) vo.prog (w.withFollow "special-get-raises" false)) 60000 vo.prog (w.withFollow "special-get-raises" false) os).map (fun s=>Kb.Aa (HandSHeadRun.getT s) hA fun K=>Sd.all fun f=>f K)=some true:=by kernel_rfl
theorem Vx (w:World):HandSHeadRun.RunEq vo (PySem.W.view vo.prog [29]) (Kb.yJ hA hfa hfn hds) (Kb.zX hA hfa hfn hds) 60000 hnames (w.withFollow "special-get-raises" false):=Kb.Bt (fns:=R6) (W0 w) (List.forall_mem_cons.mpr ⟨Vv w, (fun _ z=>nomatch z)⟩) (List.forall_mem_cons.mpr ⟨Vw w, (fun _ z=>nomatch z)⟩)
theorem W3 (w:World) (os:OsState):(HandSHeadRun.endF (HandSHeadRun.stepQ (HandSHeadRun.denQ HandSHeadRun.tabQ) vo.prog (w.withFollow "special-get-raises" true)) 60000 vo.prog (w.withFollow "special-get-raises" true) os).map (fun s=>((HandSHeadRun.looksF vo.prog (PySem.W.boot_heap (w.withFollow "special-get-raises" true).params) s.abs, HandSHeadRun.seenQ (PySem.W.view vo.prog [29]) hnames (importedModules vo.prog.main.body) (fun s=>PySem.W.xlAt (PySem.W.view vo.prog [29]) [] s&&PySem.W.recOk vo.toRowW.records s) s.abs), Kb.Aa (HandSHeadRun.getT s) hA fun K=>Kb.wg [] hds K))=some ((true, PySem.W.openGood (PySem.W.view vo.prog [29]) hnames), Kb.xr [] hds (w.withFollow "special-get-raises" true)):=by kernel_rfl
theorem Vy (w:World) (os:OsState):(HandSHeadRun.endF (HandSHeadRun.stepQ (HandSHeadRun.denQ HandSHeadRun.tabQ) vo.prog (w.withFollow "special-get-raises" true)) 60000 vo.prog (w.withFollow "special-get-raises" true) os).map (fun s=>Kb.Aa (HandSHeadRun.getT s) hA fun K=>Kb.wg MF [] K)=some (Kb.xr MF [] (w.withFollow "special-get-raises" true)):=by kernel_rfl
theorem Vz (w:World) (os:OsState):(HandSHeadRun.endF (HandSHeadRun.stepQ (HandSHeadRun.denQ HandSHeadRun.tabQ) vo.prog (w.withFollow "special-get-raises" true)) 60000 vo.prog (w.withFollow "special-get-raises" true) os).map (fun s=>Kb.Aa (HandSHeadRun.getT s) hA fun K=>Sd.all fun f=>f K)=some true:=by kernel_rfl
theorem VB (w:World):HandSHeadRun.RunEq vo (PySem.W.view vo.prog [29]) (Kb.yJ hA hfa hfn hds) (Kb.zX hA hfa hfn hds) 60000 hnames (w.withFollow "special-get-raises" true):=Kb.Bt (fns:=R6) (W3 w) (List.forall_mem_cons.mpr ⟨Vy w, (fun _ z=>nomatch z)⟩) (List.forall_mem_cons.mpr ⟨Vz w, (fun _ z=>nomatch z)⟩)
theorem zN:Kb.WW vo (PySem.W.view vo.prog [29]) (HandSHeadRun.topDef vo.prog 29) []:=⟨by kernel_rfl,fun s=>by kernel_rfl,by kernel_rfl,by kernel_rfl,by kernel_rfl,by rfl,jc,⟨rfl,rfl,rfl,rfl,rfl,jc⟩⟩
theorem hrun (w:World):HandSHeadRun.RunEq vo (PySem.W.view vo.prog [29]) (Kb.yJ hA hfa hfn hds) (Kb.zX hA hfa hfn hds) 60000 hnames w :=
 PySem.W.byRow2 "special-get-raises" (P:=fun w=>HandSHeadRun.RunEq vo (PySem.W.view vo.prog [29]) (Kb.yJ hA hfa hfn hds) (Kb.zX hA hfa hfn hds) 60000 hnames w) Vx VB w
end Lw
namespace Lw
open PySem L2 Kb
abbrev Am:Type:=List (PySem.Str×Int×Int×Bool)×Int×List (Int×(Int×Int))
@[irreducible] def zP (a0:Int):Res PySem.Str:=(Kw (((a0).toNat+1)) ((a0, ([]:List PySem.Str)):Int×List PySem.Str) (fun En=>br (decide ((1000000000000000000:Int)≤En.1)) (.ok true) (.ok false)) (fun En=>chk (decide ((18:Int)<1000000))<|chk (decide (-1000000<(18:Int)))<|chk (decide (("0" : jO).length*(Int.toNat (18:Int))≤1000000))<|chk (decide (0<(1000000000000000000:Int)))<|chk (UW (En.1%(1000000000000000000:Int)))<|chk (decide ((Lp ("0" : jO) (18:Int)).length+(Hr (En.1%(1000000000000000000:Int))).length≤sizeLine))<|chk (decide (((Lp ("0" : jO) (18:Int))++(Hr (En.1%(1000000000000000000:Int)))).length≤sizeLine))<|chk (decide (((Lp ("0" : jO) (18:Int))++(Hr (En.1%(1000000000000000000:Int)))).length≤sizeLine))<|chk (decide (En.2.length<sizeLine))<|chk (CQ (1000000000000000000:Int))<|.ok ((En.1/(1000000000000000000:Int)), (En.2++[(cutS ((Lp ("0" : jO) (18:Int))++(Hr (En.1%(1000000000000000000:Int)))) (some ((((Lp ("0" : jO) (18:Int))++(Hr (En.1%(1000000000000000000:Int)))).length:Int) - (18:Int))) none)])))).bind fun En=>chk (UW En.1)<|chk (decide ((List.map (fun z:PySem.Str=>z.length) En.2).sum+En.2.length*("" : jO).length≤16777216))<|chk (decide ((Hr En.1).length+(oE ("" : jO) (En.2).reverse).length≤sizeLine))<|.ok ((Hr En.1)++(oE ("" : jO) (En.2).reverse))
@[irreducible] def Bw (a0:(Int×Int)):Res PySem.Str:=(zP (if a0.1<0 then -a0.1 else a0.1)).bind fun W4=>(br (decide (a0.1<(0:Int))) (chk (decide (("-" : jO).length+W4.length≤sizeLine))<|.ok ((("-" : jO)++W4))) (.ok (W4))).bind fun Wh=>br (decide (a0.2=(1:Int))) (.ok Wh) (chk (decide (Wh.length+("/" : jO).length≤sizeLine))<|(zP a0.2).bind fun Yw=>chk (decide ((Wh++("/" : jO)).length+Yw.length≤sizeLine))<|.ok ((Wh++("/" : jO))++Yw))
@[irreducible] def qj (a0:PySem.Str):Res Bool:=chk (decide (a0.length≤sizeLine))<|br (!((decide ((1:Int)≤(a0.length:Int)))&&(decide ((a0.length:Int)≤(12:Int))))) (.ok false) ((forR (signs a0) () (fun Yx x25=>br ((!Fw x25 ("abcdefghijklmnopqrstuvwxyz" : jO))&&(!Fw x25 ("0123456789" : jO))) (.ok (.ret false)) (.ok (.nx ())))).bind fun cc=>Qv cc (fun Yx=>.ok true) (fun r=>.ok r))
@[irreducible] def rQ (a0:Int):Res Bool:=.ok ((decide ((0:Int)≤a0))&&(decide (a0≤(1000000:Int))))
@[irreducible] def mK (a0:PySem.Str) (a1:PySem.Str) (a2:List (PySem.Str×Int×Int)) (a3:Int) (a4:Option Int) (a5:Int):Res iI:=.ok (a0,a1,a2,a3,a4,a5,none)
@[irreducible] def mD (a0:iI) (a1:Int) (a2:Int):Res Bool:=br (decide (a1<a0.2.2.2.2.2.1)) (.ok false) (br (!Option.isNone a0.2.2.2.2.2.2) (opt a0.2.2.2.2.2.2 fun n56=>br (decide (n56≤a1)) (.ok false) ((br (decide (a0.2.2.2.1≤a2)) ((br (Option.isNone a0.2.2.2.2.1) (.ok true) (opt a0.2.2.2.2.1 fun Ze=>.ok (decide (a2≤Ze)))).bind fun W6=>.ok W6) (.ok false)).bind fun W7=>.ok W7)) ((br (decide (a0.2.2.2.1≤a2)) ((br (Option.isNone a0.2.2.2.2.1) (.ok true) (opt a0.2.2.2.2.1 fun n143=>.ok (decide (a2≤n143)))).bind fun W8=>.ok W8) (.ok false)).bind fun W9=>.ok W9))
@[irreducible] def rF:Res jx:=.ok ([],(0:Int))
@[irreducible] def jK (a0:jx):Res Int:=.ok a0.2
@[irreducible] def nU (a0:jx) (a1:PySem.Str) (a2:PySem.Str) (a3:List (PySem.Str×Int×Int)) (a4:Int) (a5:Option Int):Res (Int×jx):=(nx (qj a1)).bind fun vR=>br vR ((nx (qj a2)).bind fun Jw=>br Jw (br (!a3.isEmpty) ((nx (rQ a4)).bind fun Zf=>br Zf (br (!Option.isNone a5) (opt a5 fun n50=>(nx (rQ n50)).bind fun Zg=>br Zg (br (decide (n50<a4)) (.err .event) ((nx (mK a1 a2 a3 a4 (some n50) ((a0.1,a0.2+1).2))).bind fun Yy=>chk (decide ((a0.1,a0.2+1).1.length<sizeLine))<|.ok ((((a0.1,a0.2+1).1++[Yy],(a0.1,a0.2+1).2).1.length:Int),((a0.1,a0.2+1).1++[Yy],(a0.1,a0.2+1).2)))) (.err .event)) ((nx (mK a1 a2 a3 a4 a5 ((a0.1,a0.2+1).2))).bind fun VD=>chk (decide ((a0.1,a0.2+1).1.length<sizeLine))<|.ok ((((a0.1,a0.2+1).1++[VD],(a0.1,a0.2+1).2).1.length:Int),((a0.1,a0.2+1).1++[VD],(a0.1,a0.2+1).2)))) (.err .event)) (.err .event)) (.err .event)) (.err .event)
@[irreducible] def lO (a0:jx) (a1:Int):Res Nat:=br (!((decide ((1:Int)≤a1))&&(decide (a1≤(a0.1.length:Int))))) (.err .j7) (opt (ixN a0.1.length (a1 - (1:Int))) fun Yz=>chk (decide (Yz<a0.1.length))<|.ok Yz)
@[irreducible] def sX (a0:jx) (a1:Int):Res (Unit×jx):=(lO a0 a1).bind fun vR=>opt (a0.1[vR]?) fun Gp=>br (!Option.isNone Gp.2.2.2.2.2.2) (.err .event) (.ok ((),((a0.1,a0.2+1).1.set vR (Gp.1,Gp.2.1,Gp.2.2.1,Gp.2.2.2.1,Gp.2.2.2.2.1,Gp.2.2.2.2.2.1,some ((a0.1,a0.2+1).2)),(a0.1,a0.2+1).2)))
@[irreducible] def lF (a0:jx) (a1:Int):Res (PySem.Str×PySem.Str×List (PySem.Str×Int×Int)×Int×Option Int×Int×Option Int):=(lO a0 a1).bind fun vR=>opt (a0.1[vR]?) fun Gp=>.ok (Gp.1,Gp.2.1,Gp.2.2.1,Gp.2.2.2.1,Gp.2.2.2.2.1,Gp.2.2.2.2.2.1,Gp.2.2.2.2.2.2)
@[irreducible] def kZ (a0:jx) (a1:Int) (a2:Int):Res (List (Int×PySem.Str×PySem.Str×List (PySem.Str×Int×Int))):=br (!((decide ((0:Int)≤a1))&&(decide (a1≤a0.2)))) (.err .j7) ((qU (xJ 1 (List.range a0.1.length)) (([]:List (Int×PySem.Str×PySem.Str×List (PySem.Str×Int×Int)))) (fun PN x41=>opt (a0.1[x41.2]?) fun Kr=>((nx (mD Kr a1 a2)).bind fun W_=>br W_ (chk (decide (PN.length<sizeLine))<|.ok ((PN++[(x41.1,Kr.1,Kr.2.1,Kr.2.2.1)]))) (.ok (PN))).bind fun Xa=>.ok (Xa))).bind fun PN=>.ok PN)
@[irreducible] def rR (a0:Int):Res Int:=chk (sS (6:Int))<|(qU (rng 0 (6:Int).toNat) ((a0%(1000000007:Int)),(0:Int)) (fun Sh x24=>chk (xH Sh.1 (48271:Int))<|chk (xH (7:Int) x24)<|chk (xH Sh.2 (1000000007:Int))<|.ok (((((Sh.1*(48271:Int))+(12820163:Int))+((7:Int)*x24))%(1000000007:Int)),((Sh.2*(1000000007:Int))+((((Sh.1*(48271:Int))+(12820163:Int))+((7:Int)*x24))%(1000000007:Int)))))).bind fun Sh=>.ok Sh.2
@[irreducible] def jk (a0:mj) (a1:Int):Res (Int×mj):=((Oa (.ok (decide (a0.2<a1))) (.ok (decide ((0:Int)<(a0.1.length:Int))))).bind fun Zh=>br Zh (opt (List.head? a0.1) fun x45=>(br (decide ((if x45<0 then -x45 else x45)<((10:Int)^(18:Int).toNat))) ((rR (if x45<0 then -x45 else x45)).bind fun Zi=>.ok (Zi)) (.ok ((if x45<0 then -x45 else x45)))).bind fun Zj=>.ok (((List.tail a0.1,a0.2).1,Zj))) (.ok (a0))).bind fun Xb=>chk (decide (0<a1))<|chk (CQ a1)<|.ok ((Xb.2%a1),(Xb.1,(Xb.2/a1)))
@[irreducible] def rW (a0:List Int):Res mj:=chk (decide ((yX a0 none (some (63:Int))).length≤sizeLine))<|(vN (yX a0 none (some (63:Int))) (fun x29=>.ok x29)).bind fun Zk=>.ok (Zk,(0:Int))
@[irreducible] def rY (a0:List (PySem.Str×Int)):Res (List (PySem.Str×Int×Int)):=chk (decide (a0.length<64))<|(qU (wA zL (uniq a0)) (([]:List (PySem.Str×Int×Int))) (fun zq x44=>(br (!decide (zq=([]:List (PySem.Str×Int×Int)))) (opt (atI zq (-(1:Int))) fun x80=>br (decide (x80.1=x44.1)) (opt (atI zq (-(1:Int))) fun x89=>br (decide (x89.2.2=x44.2)) (opt (atI zq (-(1:Int))) fun x98=>opt (ixN zq.length (-(1:Int))) fun Sq=>.ok ((zq.set Sq (x44.1,x98.2.1,(x44.2+(1:Int)))))) (chk (decide (zq.length<sizeLine))<|.ok ((zq++[(x44.1,x44.2,(x44.2+(1:Int)))])))) (chk (decide (zq.length<sizeLine))<|.ok ((zq++[(x44.1,x44.2,(x44.2+(1:Int)))])))) (chk (decide (zq.length<sizeLine))<|.ok ((zq++[(x44.1,x44.2,(x44.2+(1:Int)))])))).bind fun Xc=>.ok (Xc))).bind fun zq=>.ok zq
@[irreducible] def qN (a0:mj) (a1:Int):Res ((List (PySem.Str×Int×Int))×mj):=(jk a0 a1).bind fun Xd=>chk (sS ((1:Int)+Xd.1))<|(qU (rng 0 ((1:Int)+Xd.1).toNat) (Xd.2, ([]:List (PySem.Str×Int))) (fun Tz x50=>(jk Tz.1 (3:Int)).bind fun Ks=>opt (atI ([("a" : jO), ("b" : jO), ("c1" : jO)]:List PySem.Str) Ks.1) fun x81=>(jk Ks.2 (30:Int)).bind fun P0=>(jk P0.2 (12:Int)).bind fun Wi=>chk (sS P0.1)<|chk (sS ((P0.1+(1:Int))+Wi.1))<|chk (decide ((rng P0.1 (((P0.1+(1:Int))+Wi.1) - P0.1).toNat).length≤sizeLine))<|(vN (rng P0.1 (((P0.1+(1:Int))+Wi.1) - P0.1).toNat) (fun x104=>.ok (x81, x104))).bind fun VF=>chk (decide (Tz.2.length+VF.length≤sizeLine))<|.ok (Wi.2, (Tz.2++VF)))).bind fun Tz=>(rY Tz.2).bind fun Xe=>.ok (Xe, Tz.1)
@[irreducible] def nD (a0:mj):Res (Int×mj):=(jk a0 (12:Int)).bind fun vR=>(jk vR.2 (12:Int)).bind fun Jw=>(jk Jw.2 (3:Int)).bind fun Ss=>(jk Ss.2 (3:Int)).bind fun Kr=>opt (atI ([vR.1,Jw.1,((1000000:Int) - Ss.1)]:List Int) Kr.1) fun x71=>.ok (x71,Kr.2)
@[irreducible] def ou (a0:mj):Res (PySem.Str×mj):=(jk a0 (12:Int)).bind fun vR=>(jk vR.2 (4:Int)).bind fun YB=>opt (atI ([(1:Int), (4:Int), (12:Int), ((1:Int)+vR.1)]:List Int) YB.1) fun x53=>chk (sS x53)<|chk (decide ((rng 0 x53.toNat).length≤sizeLine))<|(wG (rng 0 x53.toNat) YB.2 (fun Zm x57=>(jk Zm (36:Int)).bind fun YC=>chk (decide (("abcdefghijklmnopqrstuvwxyz0123456789" : jO).length≤sizeLine))<|opt (atI ("abcdefghijklmnopqrstuvwxyz0123456789" : jO).cps.toList YC.1) fun x77=>.ok ((⟨#[x77]⟩:PySem.Str), YC.2))).bind fun JZ=>chk (decide ((List.map (fun z:PySem.Str=>z.length) JZ.1).sum+JZ.1.length*("" : jO).length≤16777216))<|(jk JZ.2 (24:Int)).bind fun VG=>br (decide (VG.1=(0:Int))) (chk (decide ((oE ("" : jO) JZ.1).length+("abcdefghijkl" : jO).length≤sizeLine))<|(jk VG.2 (2:Int)).bind fun J5=>opt (atI ([("" : jO), ((oE ("" : jO) JZ.1)++("abcdefghijkl" : jO))]:List PySem.Str) J5.1) fun x124=>.ok (x124, J5.2)) (br (decide (VG.1=(1:Int))) ((jk VG.2 x53).bind fun J8=>chk (decide ((oE ("" : jO) JZ.1).length≤sizeLine))<|chk (decide (("AEVZ -_.+@:=`{/;,~[]|^!#$&*()?<>\"'\\}\n\t" : jO).length≤sizeLine))<|(jk J8.2 (("AEVZ -_.+@:=`{/;,~[]|^!#$&*()?<>\"'\\}\n\t" : jO).length:Int)).bind fun VH=>chk (decide (("AEVZ -_.+@:=`{/;,~[]|^!#$&*()?<>\"'\\}\n\t" : jO).length≤sizeLine))<|opt (atI ("AEVZ -_.+@:=`{/;,~[]|^!#$&*()?<>\"'\\}\n\t" : jO).cps.toList VH.1) fun x151=>chk (decide ((cutS (oE ("" : jO) JZ.1) none (some J8.1)).length+(⟨#[x151]⟩:PySem.Str).length≤sizeLine))<|chk (decide ((oE ("" : jO) JZ.1).length≤sizeLine))<|chk (decide (((cutS (oE ("" : jO) JZ.1) none (some J8.1))++(⟨#[x151]⟩:PySem.Str)).length+(cutS (oE ("" : jO) JZ.1) (some (J8.1+(1:Int))) none).length≤sizeLine))<|.ok ((((cutS (oE ("" : jO) JZ.1) none (some J8.1))++(⟨#[x151]⟩:PySem.Str))++(cutS (oE ("" : jO) JZ.1) (some (J8.1+(1:Int))) none)), VH.2)) (.ok ((oE ("" : jO) JZ.1), VG.2)))
@[irreducible] def lB (a0:PySem.Str):Res Bool:=(chk (decide (a0.length≤sizeLine))<|br ((decide ((1:Int)≤(a0.length:Int)))&&(decide ((a0.length:Int)≤(12:Int)))) (chk (decide ((signs a0).length≤sizeLine))<|(vO (signs a0) (fun x30=>br (!Fw x30 ("abcdefghijklmnopqrstuvwxyz0123456789" : jO)) (.ok (some x30)) (.ok none))).bind fun Xf=>.ok (decide ((Xf.length:Int)=(0:Int)))) (.ok false)).bind fun Zo=>.ok Zo
@[irreducible] def rZ (a0:mj) (a1:jx) (a2:nR) (a3:Int):Res (Bool×mj×jx×nR):=(ou a0).bind fun vR=>(ou vR.2).bind fun Jw=>(qN Jw.2 (3:Int)).bind fun Ss=>((jk Ss.2 (15:Int)).bind fun Xg=>br (decide (Xg.1=(0:Int))) (.ok (([]:List (PySem.Str×Int×Int)),Xg.2)) (.ok (Ss.1,Xg.2))).bind fun MJ=>(nD MJ.2).bind fun Xh=>(nD Xh.2).bind fun VJ=>(jk VJ.2 (9:Int)).bind fun VL=>(jk VL.2 (8:Int)).bind fun P_=>opt (atI ([(0:Int),(1:Int),(2:Int),(2:Int),(2:Int),(2:Int),(0:Int),(3:Int)]:List Int) P_.1) fun x157=>opt (atI ([(none:Option Int),(some VJ.1),(some (Xh.1+VL.1)),(some (1000001:Int))]:List (Option Int)) x157) fun x162=>((jk P_.2 (15:Int)).bind fun Sv=>br (decide (Sv.1=(0:Int))) ((jk Sv.2 (3:Int)).bind fun VN=>opt (atI ([(-(1:Int)),(1000001:Int),((10:Int)^(7:Int).toNat)]:List Int) VN.1) fun x204=>.ok (x204,VN.2)) (.ok (Xh.1,Sv.2))).bind fun Eo=>((lB vR.1).bind fun MK=>br MK ((lB Jw.1).bind fun MN=>br MN (br (!decide (MJ.1=([]:List (PySem.Str×Int×Int)))) (br (decide ((0:Int)≤Eo.1)) (.ok (decide (Eo.1≤(1000000:Int)))) (.ok false)) (.ok false)) (.ok false)) (.ok false)).bind fun MP=>(br (!Option.isNone x162) (opt x162 fun M4=>br (decide (M4<Eo.1)) (.ok (false)) (br (decide ((1000000:Int)<M4)) (.ok (false)) (.ok (MP)))) (.ok (MP))).bind fun Sw=>zW ((nU a1 vR.1 Jw.1 MJ.1 Eo.1 x162).bind fun M5=>.ok M5) (fun e=>match e with | .event=>some (.ok (((!Sw)&&(true&&((!false)&&(decide (MJ.1=MJ.1))))),Eo.2,a1,a2)) | .j7=>some (.ok (((!Sw)&&(false&&((!true)&&(decide (MJ.1=MJ.1))))),Eo.2,a1,a2)) | _=>some .stk) (fun M5=>br ((!Sw)||((!decide (M5.1=((a2.length:Int)+(1:Int))))||(!decide (MJ.1=MJ.1)))) (.ok (false,Eo.2,M5.2,a2)) (chk (decide (MJ.1.length<sizeLine))<|chk (decide (a2.length<sizeLine))<|.ok (true,Eo.2,M5.2,(a2++[(vR.1,Jw.1,MJ.1,Eo.1,x162,(a3+(1:Int)),none)]))))
@[irreducible] def sE (a0:mj) (a1:jx) (a2:nR) (a3:Int):Res (Bool×mj×jx×nR):=(jk a0 ((a2.length:Int)+(3:Int))).bind fun vR=>zW ((sX a1 vR.1).bind fun Jw=>.ok Jw) (fun e=>match e with | .event=>some ((br (decide ((1:Int)≤vR.1)) (br (decide (vR.1≤(a2.length:Int))) (opt (ixN a2.length (vR.1 - (1:Int))) fun Zq=>opt (a2[Zq]?) fun Zr=>.ok (!Option.isNone Zr.2.2.2.2.2.2)) (.ok false)) (.ok false)).bind fun Zt=>.ok (Zt,vR.2,a1,a2)) | .j7=>some (.ok (((decide (vR.1<(1:Int)))||(decide ((a2.length:Int)<vR.1))),vR.2,a1,a2)) | _=>some .stk) (fun Jw=>(Wb (.ok (decide (vR.1<(1:Int)))) (Wb (.ok (decide ((a2.length:Int)<vR.1))) (opt (ixN a2.length (vR.1 - (1:Int))) fun Zu=>opt (a2[Zu]?) fun Wj=>.ok (!Option.isNone Wj.2.2.2.2.2.2)))).bind fun Zv=>br Zv (.ok (false,vR.2,Jw.2,a2)) (opt (ixN a2.length (vR.1 - (1:Int))) fun YD=>opt (a2[YD]?) fun J9=>.ok (true,vR.2,Jw.2,(a2.set YD (J9.1,J9.2.1,J9.2.2.1,J9.2.2.2.1,J9.2.2.2.2.1,J9.2.2.2.2.2.1,some (a3+(1:Int)))))))
@[irreducible] def oW (a0:nR) (a1:Int) (a2:Int):Res (List (Int×PySem.Str×PySem.Str×List (PySem.Str×Int×Int))):=chk (sS (a0.length:Int))<|(qU (rng 0 (a0.length:Int).toNat) (([]:List (Int×PySem.Str×PySem.Str×List (PySem.Str×Int×Int)))) (fun t_ x43=>opt (ixN a0.length x43) fun VP=>opt (a0[VP]?) fun pK=>(br (decide (pK.2.2.2.2.2.1≤a1)) (br (Option.isNone pK.2.2.2.2.2.2) (br (decide (pK.2.2.2.1≤a2)) (br (Option.isNone pK.2.2.2.2.1) (chk (decide (t_.length<sizeLine))<|.ok ((t_++[((x43+(1:Int)),pK.1,pK.2.1,pK.2.2.1)]))) (opt pK.2.2.2.2.1 fun VR=>br (decide (a2≤VR)) (chk (decide (t_.length<sizeLine))<|.ok ((t_++[((x43+(1:Int)),pK.1,pK.2.1,pK.2.2.1)]))) (.ok (t_)))) (.ok (t_))) (opt pK.2.2.2.2.2.2 fun M6=>br (decide (a1<M6)) (br (decide (pK.2.2.2.1≤a2)) (br (Option.isNone pK.2.2.2.2.1) (chk (decide (t_.length<sizeLine))<|.ok ((t_++[((x43+(1:Int)),pK.1,pK.2.1,pK.2.2.1)]))) (opt pK.2.2.2.2.1 fun M7=>br (decide (a2≤M7)) (chk (decide (t_.length<sizeLine))<|.ok ((t_++[((x43+(1:Int)),pK.1,pK.2.1,pK.2.2.1)]))) (.ok (t_)))) (.ok (t_))) (.ok (t_)))) (.ok (t_))).bind fun Sy=>.ok (Sy))).bind fun t_=>.ok t_
@[irreducible] def lX (a0:jx) (a1:Int):Res Bool:=zW ((lF a0 a1).bind fun vR=>.ok ()) (fun e=>match e with | .j7=>some (.ok true) | _=>some .stk) (fun _=>.ok false)
@[irreducible] def mX (a0:jx) (a1:Int):Res Bool:=zW ((kZ a0 a1 (5:Int)).bind fun vR=>.ok ()) (fun e=>match e with | .j7=>some (.ok true) | _=>some .stk) (fun _=>.ok false)
@[irreducible] def n_ (a0:mj) (a1:jx) (a2:nR):Res (Bool×mj):=(jK a1).bind fun vR=>(mX a1 (vR+(1:Int))).bind fun Gp=>br Gp ((lX a1 ((a2.length:Int)+(1:Int))).bind fun Xf=>br Xf (br (decide (a2=[])) ((lX a1 (0:Int)).bind fun Zw=>.ok (Zw,a0)) ((jk a0 (a2.length:Int)).bind fun Ks=>(lF a1 ((1:Int)+Ks.1)).bind fun YF=>opt (ixN a2.length (((1:Int)+Ks.1) - (1:Int))) fun Zx=>opt (a2[Zx]?) fun Xi=>br (!decide (YF=Xi)) (.ok (false,Ks.2)) (chk (decide (YF.2.2.1.length<sizeLine))<|(lF a1 ((1:Int)+Ks.1)).bind fun Xj=>opt (ixN a2.length (((1:Int)+Ks.1) - (1:Int))) fun Xk=>opt (a2[Xk]?) fun Xl=>br (!decide (Xj=Xl)) (.ok (false,Ks.2)) ((jK a1).bind fun Xm=>opt (ixN a2.length (((1:Int)+Ks.1) - (1:Int))) fun Xn=>opt (a2[Xn]?) fun Xo=>(kZ a1 Xm Xo.2.2.2.1).bind fun Xp=>(jK a1).bind fun Xq=>opt (ixN a2.length (((1:Int)+Ks.1) - (1:Int))) fun Xr=>opt (a2[Xr]?) fun Xu=>(oW a2 Xq Xu.2.2.2.1).bind fun Xv=>.ok ((decide (Xp=Xv)),Ks.2))))) (.ok (false,a0))) (.ok (false,a0))
@[irreducible] def Gq (a0:List Int):Res Bool:=(rW a0).bind fun vR=>(rF).bind fun Ss=>(jk vR (41:Int)).bind fun Xw=>chk (sS Xw.1)<|(forR (rng 0 Xw.1.toNat) (Xw.2,Ss,([]:nR)) (fun zu x77=>(n_ zu.1 zu.2.1 zu.2.2).bind fun Wj=>br Wj.1 ((jK zu.2.1).bind fun VJ=>((jk Wj.2 (4:Int)).bind fun J5=>br (decide (J5.1=(0:Int))) ((sE J5.2 zu.2.1 zu.2.2 VJ).bind fun Qa=>.ok (Qa.1,(Qa.2.1,Qa.2.2.1,Qa.2.2.2))) ((rZ J5.2 zu.2.1 zu.2.2 VJ).bind fun Qc=>.ok (Qc.1,(Qc.2.1,Qc.2.2.1,Qc.2.2.2)))).bind fun Ep=>br Ep.1 ((jK Ep.2.2.1).bind fun P_=>chk (decide ((List.range Ep.2.2.2.length).length≤sizeLine))<|(vO (List.range Ep.2.2.2.length) (fun x159=>opt (Ep.2.2.2[x159]?) fun SJ=>br (!Option.isNone SJ.2.2.2.2.2.2) (.ok (some x159)) (.ok none))).bind fun Xx=>br (!decide (P_=((Ep.2.2.2.length:Int)+(Xx.length:Int)))) (.ok (.ret false)) (.ok (.nx (Ep.2.1,Ep.2.2.1,Ep.2.2.2)))) (.ok (.ret false))) (.ok (.ret false)))).bind fun cc=>Qv cc (fun zu=>chk (sS (zu.2.2.length:Int))<|(forR (rng 0 (zu.2.2.length:Int).toNat) () (fun Xy x196=>(lF zu.2.1 (x196+(1:Int))).bind fun Xz=>opt (ixN zu.2.2.length x196) fun XC=>opt (zu.2.2[XC]?) fun XD=>br (!decide (Xz=XD)) (.ok (.ret false)) (.ok (.nx ())))).bind fun cc=>Qv cc (fun Xy=>(jK zu.2.1).bind fun V1=>chk (sS (V1+(1:Int)))<|(forR (rng 0 (V1+(1:Int)).toNat) (zu.1) (fun V2 x261=>(jk V2 (6:Int)).bind fun V3=>opt (atI ([(-(1:Int)),((0:Int) - ((10:Int)^(6:Int).toNat)),(1000001:Int),((10:Int)^(9:Int).toNat),((10:Int)^(17:Int).toNat),((0:Int) - ((10:Int)^(20:Int).toNat))]:List Int) V3.1) fun x293=>(nD V3.2).bind fun V4=>(nD V4.2).bind fun V5=>(forR ([V4.1,V5.1,x293]:List Int) () (fun XF x330=>(kZ zu.2.1 x261 x330).bind fun SM=>(oW zu.2.2 x261 x330).bind fun XH=>br (!decide (SM=XH)) (.ok (.ret false)) (chk (List.all SM (fun x=>decide (x.2.2.2.length+SM.length<sizeLine)))<|(kZ zu.2.1 x261 x330).bind fun XJ=>(oW zu.2.2 x261 x330).bind fun XM=>br (!decide (XJ=XM)) (.ok (.ret false)) (.ok (.nx ()))))).bind fun cc=>Qv cc (fun XF=>.ok (.nx (V5.2))) (fun r=>.ok (.ret r)))).bind fun cc=>Qv cc (fun V2=>(lX zu.2.1 (0:Int)).bind fun XQ=>br XQ ((lX zu.2.1 (-(1:Int))).bind fun XR=>br XR ((lX zu.2.1 ((zu.2.2.length:Int)+(1:Int))).bind fun XS=>br XS (((jK zu.2.1).bind fun X3=>(mX zu.2.1 (X3+(1:Int))).bind fun X4=>br X4 ((mX zu.2.1 (-(1:Int))).bind fun X5=>.ok X5) (.ok false)).bind fun X6=>.ok X6) (.ok false)) (.ok false)) (.ok false)) (fun r=>.ok r)) (fun r=>.ok r)) (fun r=>.ok r)
structure Ad where
 ea:Err→Addr
 SN:Addr
 nW:Addr
 mF:Addr
 is_word:Addr
 Bx:FuncData
 is_day:Addr
 Dq:FuncData
 pW:Addr
 xP:FuncData
 nY:Addr
 vU:FuncData
 oX:Addr
 wL:FuncData
 jo:Addr
 uh:FuncData
 pX:Addr
 xQ:FuncData
 lG:Addr
 uo:FuncData
 pY:Addr
 xR:FuncData
 j9:Addr
 vW:FuncData
 j_:Addr
 vX:FuncData
 qm:Addr
 yK:FuncData
 iG:Addr
 zQ:FuncData
 qp:Addr
 yL:FuncData
 sG:Addr
 zR:FuncData
 oY:Addr
 xT:FuncData
 mO:Addr
 BJ:FuncData
 nu:Addr
 yM:FuncData
 lZ:Addr
 wM:FuncData
 uw:Addr
 BK:FuncData
 rA:Addr
 BL:FuncData
 oF:Addr
 BP:FuncData
 jG:Addr
 wN:FuncData
 kJ:Addr
 wO:FuncData
 nJ:Addr
 wQ:FuncData
 law:Addr
 Ig:FuncData
@[reducible] def M8 (a:Ad):Mu iI:=LQ a.nW
@[reducible] def h_ (a:Ad):Mu jx:=nQ a.mF a.nW
structure Txt (K:iV) (mg:Str→Option Value) (a:Ad):Prop where
 is_word:Df K mg "is_word" uZ a.is_word a.Bx ["text"]
 is_day:Df K mg "is_day" wJ a.is_day a.Dq ["day"]
 pW:Mt K a.nW "__init__" "Event.__init__" qK a.pW a.xP ["self", "kind", "value", "ground", "first", "last", "entry"]
 nY:Mt K a.nW "stands" "Event.stands" oR a.nY a.vU ["self", "entry", "day"]
 oX:Mt K a.mF "__init__" "Events.__init__" pF a.oX a.wL ["self"]
 jo:Mt K a.mF "entries" "Events.entries" m_ a.jo a.uh ["self"]
 pX:Mt K a.mF "add" "Events.add" qL a.pX a.xQ ["self", "kind", "value", "ground", "first", "last"]
 lG:Mt K a.mF "_found" "Events._found" nj a.lG a.uo ["self", "number"]
 pY:Mt K a.mF "end" "Events.end" qM a.pY a.xR ["self", "number"]
 j9:Mt K a.mF "event" "Events.event" oU a.j9 a.vW ["self", "number"]
 j_:Mt K a.mF "known" "Events.known" oV a.j_ a.vX ["self", "entry", "day"]
 qm:Df K mg "_law_mixed" rN a.qm a.yK ["_law_cell"]
 iG:Df K mg "_law_take" tW a.iG a.zQ ["_law_state_here", "_law_limit"]
 qp:Df K mg "_law_state" qb a.qp a.yL ["_law_script"]
 sG:Df K mg "_law_runs" tX a.sG a.zR ["_law_cells_here"]
 oY:Df K mg "_law_ground" o9 a.oY a.xT ["_law_state_here", "_law_many"]
 mO:Df K mg "_law_day" u9 a.mO a.BJ ["_law_state_here"]
 nu:Df K mg "_law_words" qd a.nu a.yM ["_law_state_here"]
 lZ:Df K mg "_law_is_word" oh a.lZ a.wM ["_law_text"]
 uw:Df K mg "_law_add" u_ a.uw a.BK ["_law_state_here", "_law_events", "_law_rows", "_law_entries"]
 rA:Df K mg "_law_end" vf a.rA a.BL ["_law_state_here", "_law_events", "_law_rows", "_law_entries"]
 oF:Df K mg "_law_due" vg a.oF a.BP ["_law_rows", "_law_entry", "_law_day_here"]
 jG:Df K mg "_law_unknown" pG a.jG a.wN ["_law_events", "_law_number"]
 kJ:Df K mg "_law_refuses" pH a.kJ a.wO ["_law_events", "_law_entry"]
 nJ:Df K mg "_law_between" pJ a.nJ a.wQ ["_law_state_here", "_law_events", "_law_rows"]
 law:Df K mg "law" Dm a.law a.Ig ["_law_script"]
 jR:RB K mg "Event" a.nW a.pW
 mG:NoAttr K a.nW "ended"
 qO:NoAttr K a.nW "entry"
 oZ:NoAttr K a.nW "first"
 pO:NoAttr K a.nW "ground"
 rG:NoAttr K a.nW "kind"
 mY:NoAttr K a.nW "last"
 qP:NoAttr K a.nW "value"
 jr:RB K mg "Events" a.mF a.oX
 jL:NoAttr K a.mF "_entries"
 jZ:NoAttr K a.mF "_events"
 mQ:KY K mg "InvalidEvent" (a.ea .event) [.type "ValueError", .type "Exception", .type "BaseException", .type "object"]
 lu:KY K mg "UnknownEvent" (a.ea .j7) [.type "ValueError", .type "Exception", .type "BaseException", .type "object"]
 vY:PySem.W.exmOne K (.ref (a.ea .event)) (.ref (a.ea .event))=some true
 wR:PySem.W.exmOne K (.ref (a.ea .event)) (.ref a.SN)=some true
 tY:PySem.W.exmOne K (.ref (a.ea .event)) (.ref (a.ea .j7))=some false
 ux:PySem.W.exmOne K (.ref (a.ea .j7)) (.ref a.SN)=some true
 mH:PySem.W.exmOne K (.ref (a.ea .j7)) (.ref (a.ea .j7))=some true
 wU:PySem.W.kitOne K (.ref (a.ea .event)) (.ref (a.ea .event))=some true
 uz:PySem.W.kitOne K (.ref (a.ea .event)) (.ref (a.ea .j7))=some false
 uD:PySem.W.kitOne K (.ref (a.ea .j7)) (.ref (a.ea .event))=some false
 sH:PySem.W.kitOne K (.ref (a.ea .j7)) (.ref (a.ea .j7))=some true
 M9:mg "KerbError" = some (.ref a.SN)
 Q5:mg "abs" = none
 zU:mg "enumerate" = none
 Dr:mg "int" = none
 vJ:mg "isinstance" = none
 qu:mg "len" = none
 BR:mg "list" = none
 sY:mg "range" = none
 Q6:mg "set" = none
 Gr:mg "sorted" = none
 Ao:mg "tuple" = none
 Gu:∃ t, mg "DIGITS" = some (.str "0123456789" t)
 BW:∃ t, mg "LAST_DAY" = some (.int 1000000 t)
 Ds:∃ t, mg "LETTERS" = some (.str "abcdefghijklmnopqrstuvwxyz" t)
 Dt:∃ t, mg "LONGEST" = some (.int 12 t)
def Ih (K:iV) (a:Ad):Sp:=fun vs H Q E=>∃ (c:Cl) (w0:V) (a0:PySem.Str),vs=[w0]∧Wf c H∧jV.r c H w0 a0∧Kont (fun y c' H'=>∀ v,tyB.r c' H' v y→Q v H') (fun _ _ _=>False) [] c H (qj a0)
def J_ (K:iV) (a:Ad):Sp:=fun vs H Q E=>∃ (c:Cl) (w0:V) (a0:Int),vs=[w0]∧Wf c H∧jB.r c H w0 a0∧Kont (fun y c' H'=>∀ v,tyB.r c' H' v y→Q v H') (fun _ _ _=>False) [] c H (rQ a0)
def Cu (K:iV) (a:Ad):Sp:=fun vs H1 Q E=>∃ (c:Cl) (H:Hp) (c1:Cl) (p dx:Addr) (w0:V) (a0:PySem.Str) (w1:V) (a1:PySem.Str) (w2:V) (a2:List (PySem.Str×Int×Int)) (w3:V) (a3:Int) (w4:V) (a4:Option Int) (w5:V) (a5:Int),vs=[V.ref p,w0,w1,w2,w3,w4,w5]∧Wf c H∧Step [] c H c1 H1∧H p=none∧pU a.nW c1 H1 p dx []∧jV.r c H w0 a0∧jV.r c H w1 a1∧(uK (mV jV jB jB)).r c H w2 a2∧jB.r c H w3 a3∧jC.r c H w4 a4∧jB.r c H w5 a5∧Kont (fun y c' H'=>(M8 a).r c' H' p y→Q .non H') (fun _ _ _=>False) [] c H (mK a0 a1 a2 a3 a4 a5)
def z7 (K:iV) (a:Ad):Sp:=fun vs H Q E=>∃ (c:Cl) (w0:V) (a0:iI) (w1:V) (a1:Int) (w2:V) (a2:Int),vs=[w0,w1,w2]∧Wf c H∧G6 a.nW c H w0 a0∧jB.r c H w1 a1∧jB.r c H w2 a2∧Kont (fun y c' H'=>∀ v,tyB.r c' H' v y→Q v H') (fun _ _ _=>False) [] c H (mD a0 a1 a2)
def BX (K:iV) (a:Ad):Sp:=fun vs H1 Q E=>∃ (c:Cl) (H:Hp) (c1:Cl) (p dx:Addr) ,vs=[V.ref p]∧Wf c H∧Step [] c H c1 H1∧H p=none∧pU a.mF c1 H1 p dx []∧Kont (fun y c' H'=>(h_ a).r c' H' p y→Q .non H') (fun _ _ _=>False) [] c H (rF)
def yN (K:iV) (a:Ad):Sp:=fun vs H Q E=>∃ (c:Cl) (oA:Addr) (a0:jx),vs=[V.ref oA]∧Wf c H∧(h_ a).r c H oA a0∧Kont (fun y c' H'=>∀ v,jB.r c' H' v y→Q v H') (fun _ _ _=>False) [] c H (jK a0)
def Cv (K:iV) (a:Ad):Sp:=fun vs H Q E=>∃ (c:Cl) (oA:Addr) (a0:jx) (w1:V) (a1:PySem.Str) (w2:V) (a2:PySem.Str) (w3:V) (a3:List (PySem.Str×Int×Int)) (w4:V) (a4:Int) (w5:V) (a5:Option Int),vs=[V.ref oA,w1,w2,w3,w4,w5]∧Wf c H∧(h_ a).r c H oA a0∧jV.r c H w1 a1∧jV.r c H w2 a2∧WL [oA] (mV jV jB jB) c H w3 a3∧jB.r c H w4 a4∧jC.r c H w5 a5∧Kont (fun y c' H'=>∀ v,(jB.r c' H' v y.1∧(h_ a).r c' H' oA y.2)→Q v H') (fun e c' H'=>(h_ a).r c' H' oA a0→E (.ref (a.ea e)) none H') [oA] c H (nU a0 a1 a2 a3 a4 a5)
def yO (K:iV) (a:Ad):Sp:=fun vs H Q E=>∃ (c:Cl) (oA:Addr) (a0:jx) (w1:V) (a1:Int),vs=[V.ref oA,w1]∧Wf c H∧(h_ a).r c H oA a0∧jB.r c H w1 a1∧Kont (fun y c' H'=>∀ v,uO a.mF H' oA v y→Q v H') (fun e _ H'=>E (.ref (a.ea e)) none H') [] c H (lO a0 a1)
def Cy (K:iV) (a:Ad):Sp:=fun vs H Q E=>∃ (c:Cl) (oA:Addr) (a0:jx) (w1:V) (a1:Int),vs=[V.ref oA,w1]∧Wf c H∧(h_ a).r c H oA a0∧jB.r c H w1 a1∧Kont (fun y c' H'=>∀ v,(YK.r c' H' v y.1∧(h_ a).r c' H' oA y.2)→Q v H') (fun e c' H'=>(h_ a).r c' H' oA a0→E (.ref (a.ea e)) none H') [oA] c H (sX a0 a1)
def z8 (K:iV) (a:Ad):Sp:=fun vs H Q E=>∃ (c:Cl) (oA:Addr) (a0:jx) (w1:V) (a1:Int),vs=[V.ref oA,w1]∧Wf c H∧(h_ a).r c H oA a0∧jB.r c H w1 a1∧Kont (fun y c' H'=>∀ v,(yh jV jV (zY H (mV jV jB jB)) jB jC jB jC).r c' H' v y→Q v H') (fun e _ H'=>E (.ref (a.ea e)) none H') [] c H (lF a0 a1)
def z9 (K:iV) (a:Ad):Sp:=fun vs H Q E=>∃ (c:Cl) (oA:Addr) (a0:jx) (w1:V) (a1:Int) (w2:V) (a2:Int),vs=[V.ref oA,w1,w2]∧Wf c H∧(h_ a).r c H oA a0∧jB.r c H w1 a1∧jB.r c H w2 a2∧Kont (fun y c' H'=>∀ v,rO (wz jB jV jV (zY H (mV jV jB jB))) H c' H' v y→Q v H') (fun e _ H'=>E (.ref (a.ea e)) none H') [] c H (kZ a0 a1 a2)
def Es (K:iV) (a:Ad):Sp:=fun vs H Q E=>∃ (c:Cl) (w0:V) (a0:Int),vs=[w0]∧Wf c H∧jB.r c H w0 a0∧Kont (fun y c' H'=>∀ v,jB.r c' H' v y→Q v H') (fun _ _ _=>False) [] c H (rR a0)
def Gx (K:iV) (a:Ad):Sp:=fun vs H Q E=>∃ (c:Cl) (oA:Addr) (a0:mj) (w1:V) (a1:Int),vs=[V.ref oA,w1]∧Wf c H∧iU.r c H oA a0∧jB.r c H w1 a1∧Kont (fun y c' H'=>∀ v,(jB.r c' H' v y.1∧iU.r c' H' oA y.2)→Q v H') (fun _ _ _=>False) [oA] c H (jk a0 a1)
def Et (K:iV) (a:Ad):Sp:=fun vs H Q E=>∃ (c:Cl) (w0:V) (a0:List Int),vs=[w0]∧Wf c H∧rB K jB c H w0 a0∧Kont (fun y c' H'=>∀ v,(∃ p:Addr,v=V.ref p∧H p=none∧iU.r c' H' p y)→Q v H') (fun _ _ _=>False) [] c H (rW a0)
def Gy (K:iV) (a:Ad):Sp:=fun vs H Q E=>∃ (c:Cl) (w0:V) (a0:List (PySem.Str×Int)),vs=[w0]∧Wf c H∧rP (wu jV jB) c H w0 a0∧Kont (fun y c' H'=>∀ v,rO (mV jV jB jB) H c' H' v y→Q v H') (fun _ _ _=>False) [] c H (rY a0)
def Cz (K:iV) (a:Ad):Sp:=fun vs H Q E=>∃ (c:Cl) (oA:Addr) (a0:mj) (w1:V) (a1:Int),vs=[V.ref oA,w1]∧Wf c H∧iU.r c H oA a0∧jB.r c H w1 a1∧Kont (fun y c' H'=>∀ v,(rO (mV jV jB jB) H c' H' v y.1∧iU.r c' H' oA y.2)→Q v H') (fun _ _ _=>False) [oA] c H (qN a0 a1)
def Ii (K:iV) (a:Ad):Sp:=fun vs H Q E=>∃ (c:Cl) (oA:Addr) (a0:mj),vs=[V.ref oA]∧Wf c H∧iU.r c H oA a0∧Kont (fun y c' H'=>∀ v,(jB.r c' H' v y.1∧iU.r c' H' oA y.2)→Q v H') (fun _ _ _=>False) [oA] c H (nD a0)
def Eu (K:iV) (a:Ad):Sp:=fun vs H Q E=>∃ (c:Cl) (oA:Addr) (a0:mj),vs=[V.ref oA]∧Wf c H∧iU.r c H oA a0∧Kont (fun y c' H'=>∀ v,(jV.r c' H' v y.1∧iU.r c' H' oA y.2)→Q v H') (fun _ _ _=>False) [oA] c H (ou a0)
def BZ (K:iV) (a:Ad):Sp:=fun vs H Q E=>∃ (c:Cl) (w0:V) (a0:PySem.Str),vs=[w0]∧Wf c H∧jV.r c H w0 a0∧Kont (fun y c' H'=>∀ v,tyB.r c' H' v y→Q v H') (fun _ _ _=>False) [] c H (lB a0)
def Ij (K:iV) (a:Ad):Sp:=fun vs H Q E=>∃ (c:Cl) (oA:Addr) (a0:mj) (pm1:Addr) (a1:jx) (pm2:Addr) (a2:nR) (w3:V) (a3:Int),vs=[V.ref oA,V.ref pm1,V.ref pm2,w3]∧Wf c H∧iU.r c H oA a0∧(h_ a).r c H pm1 a1∧oA≠pm1∧iz.r c H pm2 a2∧oA≠pm2∧pm1≠pm2∧jB.r c H w3 a3∧Kont (fun y c' H'=>∀ v,(tyB.r c' H' v y.1∧iU.r c' H' oA y.2.1∧(h_ a).r c' H' pm1 y.2.2.1∧iz.r c' H' pm2 y.2.2.2)→Q v H') (fun _ _ _=>False) [oA,pm1,pm2] c H (rZ a0 a1 a2 a3)
def Ik (K:iV) (a:Ad):Sp:=fun vs H Q E=>∃ (c:Cl) (oA:Addr) (a0:mj) (pm1:Addr) (a1:jx) (pm2:Addr) (a2:nR) (w3:V) (a3:Int),vs=[V.ref oA,V.ref pm1,V.ref pm2,w3]∧Wf c H∧iU.r c H oA a0∧(h_ a).r c H pm1 a1∧oA≠pm1∧iz.r c H pm2 a2∧oA≠pm2∧pm1≠pm2∧jB.r c H w3 a3∧Kont (fun y c' H'=>∀ v,(tyB.r c' H' v y.1∧iU.r c' H' oA y.2.1∧(h_ a).r c' H' pm1 y.2.2.1∧iz.r c' H' pm2 y.2.2.2)→Q v H') (fun _ _ _=>False) [oA,pm1,pm2] c H (sE a0 a1 a2 a3)
def Il (K:iV) (a:Ad):Sp:=fun vs H Q E=>∃ (c:Cl) (oA:Addr) (a0:nR) (w1:V) (a1:Int) (w2:V) (a2:Int),vs=[V.ref oA,w1,w2]∧Wf c H∧iz.r c H oA a0∧jB.r c H w1 a1∧jB.r c H w2 a2∧Kont (fun y c' H'=>∀ v,rO (wz jB jV jV (uK (mV jV jB jB))) H c' H' v y→Q v H') (fun _ _ _=>False) [] c H (oW a0 a1 a2)
def B_ (K:iV) (a:Ad):Sp:=fun vs H Q E=>∃ (c:Cl) (oA:Addr) (a0:jx) (w1:V) (a1:Int),vs=[V.ref oA,w1]∧Wf c H∧(h_ a).r c H oA a0∧jB.r c H w1 a1∧Kont (fun y c' H'=>∀ v,tyB.r c' H' v y→Q v H') (fun _ _ _=>False) [] c H (lX a0 a1)
def Ca (K:iV) (a:Ad):Sp:=fun vs H Q E=>∃ (c:Cl) (oA:Addr) (a0:jx) (w1:V) (a1:Int),vs=[V.ref oA,w1]∧Wf c H∧(h_ a).r c H oA a0∧jB.r c H w1 a1∧Kont (fun y c' H'=>∀ v,tyB.r c' H' v y→Q v H') (fun _ _ _=>False) [] c H (mX a0 a1)
def Cd (K:iV) (a:Ad):Sp:=fun vs H Q E=>∃ (c:Cl) (oA:Addr) (a0:mj) (pm1:Addr) (a1:jx) (pm2:Addr) (a2:nR),vs=[V.ref oA,V.ref pm1,V.ref pm2]∧Wf c H∧iU.r c H oA a0∧(h_ a).r c H pm1 a1∧oA≠pm1∧iz.r c H pm2 a2∧oA≠pm2∧Kont (fun y c' H'=>∀ v,(tyB.r c' H' v y.1∧iU.r c' H' oA y.2)→Q v H') (fun _ _ _=>False) [oA] c H (n_ a0 a1 a2)
def sp_law (K:iV):Sp:=fun vs H Q E=>∃ (c:Cl) (w0:V) (a0:List Int),vs=[w0]∧Wf c H∧rB K jB c H w0 a0∧Kont (fun y c' H'=>∀ v,tyB.r c' H' v y→Q v H') (fun _ _ _=>False) [] c H (Gq a0)
section
variable {P:Program} {w:World} {K:iV} {mg:Str→Option Value} {base:Heap} {a:Ad} (T:Txt K mg a) (ND:base.NoDigits)
include T ND
theorem Ce:FnOk P w K mg base CX0 1 a.is_word a.Bx ["text"] (Ih K a):=by
 have sc:FnScope ["text", "sign"] ["text"] (defScope uZ):=⟨rfl, rfl, rfl, jc, rfl, jc, jc⟩
 refine T.is_word.F.ok sc (fun vs H Q E h=>?_) (fun cdv A outer s H0 vs Q E hr h=>?_)
 ·obtain ⟨_,_,_,rfl,_⟩:=h
  rfl
 obtain ⟨j,B,d,rfl,u,l,k⟩:=h
 refine ⟨_,(je (ps_if (pt_not (pt_chain op_le op_le iK (pe_callB call_len_str jf T.qu nM (ig (pv 0) iH)) (QL jf T.Dt))) (i_ (jJ pe_bl)) pss_nil) (je (ps_for PassesOwn.never rfl (pi_str (pv 0)) (pg_name (i:=1) sc.nd rfl (Or.inl rfl)) (i_ (ps_if (PW.pt (pw_and (jN op_notin_str (pv 1) (QM jf T.Ds) (by first | exact jw _ | rfl)) (pw_and1 (jN op_notin_str (pv 1) (QM jf T.Gu) (by first | exact jw _ | rfl))))) (i_ (jJ pe_bl)) pss_nil))) (i_ (jJ pe_bl)))),?_⟩
 obtain ⟨l,x⟩:=l
 subst l
 have q:Step [] j H0 j H0:=Step.refl u
 unfold qj at k
 refine jd ?_
 obtain ⟨y,k⟩:=k.chk
 refine oG.K7 (b:=(!((decide ((1:Int)≤(d.length:Int)))&&(decide ((d.length:Int)≤(12:Int)))))) ?_ (fun m=>?_) (fun m=>?_)
 ·exact (show oG _ _ _ (!((decide ((1:Int)≤(d.length:Int)))&&(decide ((d.length:Int)≤(12:Int))))) from (pt_not (oH (Fg iT (uV (iQ (iw rfl) jm) (DP (jQ y))) jW (fun _=>iT) (fun _=>jW)))))
 ·have k:=k.o8 m
  refine jT (Pv.go iT ?_)
  exact (k.done q) _ rfl
 rw [jh m] at k
 refine jX (iY (jd (wB (La (Pv.go (iw rfl) (Ld ?_))))))
 refine Rq (A:=jV) (s0:=(():Unit)) (Rr:=tyB.r) k (fun (t:Unit) (c:Cl) (H:Hp) (σ:L2.St)=>∃ (e:Option V),σ=[some (V.str d),e]∧Step [] j H0 c H) ⟨_,rfl,q⟩ ?_ ?_ (fun r k c H g v hv=>(k.done g) v hv) ?_
 ·exact fun s c H σ ⟨e,_,g⟩=>QH x
 ·intro t f C D F σ N i n k
  obtain ⟨e,rfl,o⟩:=i
  obtain ⟨n,G⟩:=n
  subst n
  refine uf ?_
  refine oG.K7 (b:=((!Fw f ("abcdefghijklmnopqrstuvwxyz" : jO))&&(!Fw f ("0123456789" : jO)))) ?_ (fun p=>?_) (fun p=>?_)
  ·exact (show oG _ _ _ ((!Fw f ("abcdefghijklmnopqrstuvwxyz" : jO))&&(!Fw f ("0123456789" : jO))) from (Rg (oH (jt (iw rfl) iT Eb)) (fun _=>(oH (jt (iw rfl) iT Eb)))))
  ·have k:=k.o8 p
   refine jT (Pv.go iT ?_)
   exact (k.done o) _ rfl
  rw [jh p] at k
  refine jX (iY ?_)
  exact (k.done o) _ ⟨_,rfl,o⟩
 intro t I J σ i k
 obtain ⟨e,rfl,z⟩:=i
 refine iY (jT (Pv.go iT ?_))
 exact (k.done z) _ rfl
theorem Du:FnOk P w K mg base CX0 1 a.is_day a.Dq ["day"] (J_ K a):=by
 have sc:FnScope ["day"] ["day"] (defScope wJ):=⟨rfl, rfl, rfl, jc, rfl, jc, jc⟩
 refine T.is_day.F.ok sc (fun vs H Q E h=>?_) (fun cdv A outer s H0 vs Q E hr h=>?_)
 ·obtain ⟨_,_,_,rfl,_⟩:=h
  rfl
 obtain ⟨c,d,e,rfl,f,b,k⟩:=h
 refine ⟨_,(i_ (jJ (pe_chain op_le op_le iK (pv 0) (QL jf T.BW)))),?_⟩
 have b:d=(V.int e):=b
 subst b
 have g:Step [] c H0 c H0:=Step.refl f
 unfold rQ at k
 refine jT ?_
 refine Pv.go (Fg iT (iw rfl) jW (fun _=>iT) (fun _=>jW)) ?_
 exact (k.done g) _ rfl
theorem CG:FnOk P w K mg base CX0 1 a.pW a.xP ["self", "kind", "value", "ground", "first", "last", "entry"] (Cu K a):=by
 have sc:FnScope ["self", "kind", "value", "ground", "first", "last", "entry"] ["self", "kind", "value", "ground", "first", "last", "entry"] (defScope qK):=⟨rfl, rfl, rfl, jc, rfl, jc, jc⟩
 refine T.pW.F.ok sc (fun vs H Q E h=>?_) (fun cdv A outer s H1 vs Q E hr h=>?_)
 ·obtain ⟨_,_,_,_,_,_,_,_,_,_,_,_,_,_,_,_,_,rfl,_⟩:=h
  rfl
 obtain ⟨ab,H0,ac,pS,Zy,ad,d,ae,e,f,af,U,g,j,ag,W,l,rfl,ah,m,i,X,n,o,b,p,c,q,k⟩:=h
 refine ⟨_,(je (ps_fld (pv 0) (pv 1) rfl) (je (ps_fld (pv 0) (pv 2) rfl) (je (ps_fld (pv 0) (pv 3) rfl) (je (ps_fld (pv 0) (pv 4) rfl) (je (ps_fld (pv 0) (pv 5) rfl) (je (ps_fld (pv 0) (pv 6) rfl) (i_ (ps_fld (pv 0) pe_non rfl)))))))),?_⟩
 obtain ⟨n,Y⟩:=n
 subst n
 obtain ⟨o,Z⟩:=o
 subst o
 have p:U=(V.int g):=p
 subst p
 have q:W=(V.int l):=q
 subst q
 have b:=lift b m
 have c:=lift c m
 unfold mK at k
 refine jd (uM (Pv.go (iw rfl) (Pv.go (iw rfl) ?_)))
 refine qH X m.wf T.jR.cl T.rG lK fun ai r J=>?_
 have L:=m.tr1 r (.inr i)
 have b:=lift b r
 have c:=lift c r
 change pU _ _ _ _ _ (List.zip ["kind"] [(V.str d)]) at J
 refine iY (jd (uM (Pv.go (iw rfl) (Pv.go (iw rfl) ?_))))
 refine qH J L.wf T.jR.cl T.qP lK fun aj t u=>?_
 have M:=L.tr1 t (.inr i)
 have b:=lift b t
 have c:=lift c t
 rw [rJ (ns:=["kind"]) (us:=[(V.str d)]) jc rfl] at u
 change pU _ _ _ _ _ (List.zip ["kind", "value"] [(V.str d), (V.str e)]) at u
 refine iY (jd (uM (Pv.go (iw rfl) (Pv.go (iw rfl) ?_))))
 refine qH u M.wf T.jR.cl T.pO lK fun ak v x=>?_
 have N:=M.tr1 v (.inr i)
 have b:=lift b v
 have c:=lift c v
 rw [rJ (ns:=["kind", "value"]) (us:=[(V.str d), (V.str e)]) jc rfl] at x
 change pU _ _ _ _ _ (List.zip ["kind", "value", "ground"] [(V.str d), (V.str e), f]) at x
 refine iY (jd (uM (Pv.go (iw rfl) (Pv.go (iw rfl) ?_))))
 refine qH x N.wf T.jR.cl T.oZ lK fun al y z=>?_
 have O:=N.tr1 y (.inr i)
 have b:=lift b y
 have c:=lift c y
 rw [rJ (ns:=["kind", "value", "ground"]) (us:=[(V.str d), (V.str e), f]) jc rfl] at z
 change pU _ _ _ _ _ (List.zip ["kind", "value", "ground", "first"] [(V.str d), (V.str e), f, (V.int g)]) at z
 refine iY (jd (uM (Pv.go (iw rfl) (Pv.go (iw rfl) ?_))))
 refine qH z O.wf T.jR.cl T.mY lK fun am B C=>?_
 have R:=O.tr1 B (.inr i)
 have b:=lift b B
 have c:=lift c B
 rw [rJ (ns:=["kind", "value", "ground", "first"]) (us:=[(V.str d), (V.str e), f, (V.int g)]) jc rfl] at C
 change pU _ _ _ _ _ (List.zip ["kind", "value", "ground", "first", "last"] [(V.str d), (V.str e), f, (V.int g), j]) at C
 refine iY (jd (uM (Pv.go (iw rfl) (Pv.go (iw rfl) ?_))))
 refine qH C R.wf T.jR.cl T.qO lK fun an D F=>?_
 have S:=R.tr1 D (.inr i)
 have b:=lift b D
 have c:=lift c D
 rw [rJ (ns:=["kind", "value", "ground", "first", "last"]) (us:=[(V.str d), (V.str e), f, (V.int g), j]) jc rfl] at F
 change pU _ _ _ _ _ (List.zip ["kind", "value", "ground", "first", "last", "entry"] [(V.str d), (V.str e), f, (V.int g), j, (V.int l)]) at F
 refine iY (uM (Pv.go iT (Pv.go (iw rfl) ?_)))
 refine qH F S.wf T.jR.cl T.mG lK fun ao G I=>?_
 have aa:=S.tr1 G (.inr i)
 have b:=lift b G
 have c:=lift c G
 rw [rJ (ns:=["kind", "value", "ground", "first", "last", "entry"]) (us:=[(V.str d), (V.str e), f, (V.int g), j, (V.int l)]) jc rfl] at I
 change pU _ _ _ _ _ (List.zip ["kind", "value", "ground", "first", "last", "entry", "ended"] [(V.str d), (V.str e), f, (V.int g), j, (V.int l), V.non]) at I
 refine iY ?_
 have hz:=O5 I Y Z b c (show jC.r _ _ _ (none:Option Int) from rfl)
 exact k.done aa hz
theorem z_:FnOk P w K mg base CX0 1 a.nY a.vU ["self", "entry", "day"] (z7 K a):=by
 have sc:FnScope ["self", "entry", "day"] ["self", "entry", "day"] (defScope oR):=⟨rfl, rfl, rfl, jc, rfl, jc, jc⟩
 refine T.nY.F.ok sc (fun vs H Q E h=>?_) (fun cdv A outer s H0 vs Q E hr h=>?_)
 ·obtain ⟨_,_,_,_,_,_,_,rfl,_⟩:=h
  rfl
 obtain ⟨l,m,e,L,j,M,f,rfl,N,g,n,o,k⟩:=h
 refine ⟨_,(je (ps_if (PW.pt (pw_or (jN op_gt (pe_fld (pv 0) rfl) (pv 1) (by first | exact jw _ | rfl)) (pw_or1 (PW.pt (pw_and (jN op_notN (pe_fld (pv 0) rfl) pe_non (by first | exact jw _ | rfl)) (pw_and1 (jN op_le (pe_fld (pv 0) rfl) (pv 1) (by first | exact jw _ | rfl)))))))) (i_ (jJ pe_bl)) pss_nil) (i_ (jJ (pe_and (pe_cmpR op_le (pe_fld (pv 0) rfl) (pv 2) (by first | exact jw _ | rfl)) (pe_one (pe_or (pe_cmpR op_isN (pe_fld (pv 0) rfl) pe_non (by first | exact jw _ | rfl)) (pe_one (pe_cmpR op_le (pv 2) (pe_fld (pv 0) rfl) (by first | exact jw _ | rfl))))))))),?_⟩
 have n:L=(V.int j):=n
 subst n
 have o:M=(V.int f):=o
 subst o
 have d:Step [] l H0 l H0:=Step.refl N
 unfold mD at k
 refine jd (qF (zf ?_))
 obtain ⟨O,p,R⟩:=FJ (d.Cr g) T.jR.cl T.qO
 have p:O=(V.int e.2.2.2.2.2.1):=p
 subst p
 refine oG.go (oH (jt (pD (iw rfl) R) (iw rfl) jW)) ?_
 refine jM (b:=(decide (j<e.2.2.2.2.2.1))) (fun q=>?_) (fun q=>?_)
 ·have k:=k.o8 q
  refine jT (Pv.go iT ?_)
  exact (k.done d) _ rfl
 rw [jh q] at k
 refine yu ?_
 obtain ⟨av,S,U⟩:=yD (d.Cr g) T.jR.cl T.mG
 refine oG.go (oH (jt (pD (iw rfl) U) iT (vC S))) ?_
 refine jM (b:=(!Option.isNone e.2.2.2.2.2.2)) (fun r=>?_) (fun r=>?_)
 ·have k:=k.o8 r
  refine sO (mZ ?_)
  obtain ⟨W,X,Y⟩:=yD (d.Cr g) T.jR.cl T.mG
  refine Pv.go (pD (iw rfl) Y) (Pv.go (iw rfl) ?_)
  obtain ⟨G,Z,k⟩:=k.opt
  have t:=some_of X Z
  have t:W=(V.int G):=t
  subst t
  refine jW _ ?_
  refine ⟨_,rfl,?_⟩
  refine jM (b:=(decide (G≤j))) (fun u=>?_) (fun u=>?_)
  ·have k:=k.o8 u
   refine jT (Pv.go iT ?_)
   exact (k.done d) _ rfl
  rw [jh u] at k
  refine jX (iY (jT ?_))
  refine wF k (fun (aw:Unit) (c:Cl) (H:Hp) (σ:L2.St)=>σ=[some m,some (V.int j),some (V.int f)]∧Step [] l H0 c H) ?_ ?_
  rotate_left
  ·intro k
   refine uL ?_
   obtain ⟨aa,v,ab⟩:=Bm (d.Cr g) T.jR.cl T.oZ
   have v:aa=(V.int e.2.2.2.1):=v
   subst v
   refine Pv.go (jt (pD (iw rfl) ab) (iw rfl) jW) ?_
   refine ⟨(decide (e.2.2.2.1≤f)),rfl,jM (b:=(decide (e.2.2.2.1≤f))) (fun x=>?_) (fun x=>?_)⟩
   ·have k:=k.o8 x
    refine wF k (fun (ax:Unit) (c:Cl) (H:Hp) (σ:L2.St)=>σ=[some m,some (V.int j),some (V.int f)]∧Step [] l H0 c H) ?_ ?_
    rotate_left
    ·intro k
     refine QC ?_
     obtain ⟨ay,ac,ad⟩:=yC (d.Cr g) T.jR.cl T.mY
     refine Pv.go (jt (pD (iw rfl) ad) iT (Bg ac)) ?_
     refine ⟨(Option.isNone e.2.2.2.2.1),rfl,jM (b:=(Option.isNone e.2.2.2.2.1)) (fun y=>?_) (fun y=>?_)⟩
     ·have k:=k.o8 y
      exact k.done d ⟨rfl,d⟩
     rw [jh y] at k
     refine mZ (Pv.go (iw rfl) ?_)
     obtain ⟨ae,af,ag⟩:=yC (d.Cr g) T.jR.cl T.mY
     refine Pv.go (pD (iw rfl) ag) ?_
     obtain ⟨ah,ai,k⟩:=k.opt
     have z:=some_of af ai
     have z:ae=(V.int ah):=z
     subst z
     refine jW _ ?_
     exact k.done d ⟨rfl,d⟩
    intro az aA aB i k
    obtain ⟨_,I⟩:=i
    exact k.done I ⟨rfl,I⟩
   rw [jh x] at k
   exact k.done d ⟨rfl,d⟩
  intro aC aD aE i k
  obtain ⟨_,aj⟩:=i
  exact (k.done aj) _ rfl
 rw [jh r] at k
 refine jX (iY (jT ?_))
 refine wF k (fun (aF:Unit) (c:Cl) (H:Hp) (σ:L2.St)=>σ=[some m,some (V.int j),some (V.int f)]∧Step [] l H0 c H) ?_ ?_
 rotate_left
 ·intro k
  refine uL ?_
  obtain ⟨ak,B,al⟩:=Bm (d.Cr g) T.jR.cl T.oZ
  have B:ak=(V.int e.2.2.2.1):=B
  subst B
  refine Pv.go (jt (pD (iw rfl) al) (iw rfl) jW) ?_
  refine ⟨(decide (e.2.2.2.1≤f)),rfl,jM (b:=(decide (e.2.2.2.1≤f))) (fun C=>?_) (fun C=>?_)⟩
  ·have k:=k.o8 C
   refine wF k (fun (aG:Unit) (c:Cl) (H:Hp) (σ:L2.St)=>σ=[some m,some (V.int j),some (V.int f)]∧Step [] l H0 c H) ?_ ?_
   rotate_left
   ·intro k
    refine QC ?_
    obtain ⟨aH,am,an⟩:=yC (d.Cr g) T.jR.cl T.mY
    refine Pv.go (jt (pD (iw rfl) an) iT (Bg am)) ?_
    refine ⟨(Option.isNone e.2.2.2.2.1),rfl,jM (b:=(Option.isNone e.2.2.2.2.1)) (fun D=>?_) (fun D=>?_)⟩
    ·have k:=k.o8 D
     exact k.done d ⟨rfl,d⟩
    rw [jh D] at k
    refine mZ (Pv.go (iw rfl) ?_)
    obtain ⟨ao,ap,aq⟩:=yC (d.Cr g) T.jR.cl T.mY
    refine Pv.go (pD (iw rfl) aq) ?_
    obtain ⟨ar,as,k⟩:=k.opt
    have F:=some_of ap as
    have F:ao=(V.int ar):=F
    subst F
    refine jW _ ?_
    exact k.done d ⟨rfl,d⟩
   intro aI aJ aK i k
   obtain ⟨_,J⟩:=i
   exact k.done J ⟨rfl,J⟩
  rw [jh C] at k
  exact k.done d ⟨rfl,d⟩
 intro aL aM aN i k
 obtain ⟨_,au⟩:=i
 exact (k.done au) _ rfl
theorem Cg:FnOk P w K mg base CX0 1 a.oX a.wL ["self"] (BX K a):=by
 have sc:FnScope ["self"] ["self"] (defScope pF):=⟨rfl, rfl, rfl, jc, rfl, jc, jc⟩
 refine T.oX.F.ok sc (fun vs H Q E h=>?_) (fun cdv A outer s H1 vs Q E hr h=>?_)
 ·obtain ⟨_,_,_,_,_,rfl,_⟩:=h
  rfl
 obtain ⟨C,H0,D,pS,Zy,rfl,F,f,i,d,k⟩:=h
 refine ⟨_,(je (ps_fld (pv 0) (pe_lst iH) rfl) (i_ (ps_fld (pv 0) iK rfl))),?_⟩
 unfold rF at k
 refine jd (uM (pC (lM.go jm ?_)))
 refine lW lK f.wf fun b u v j x y l=>?_
 have g:pS≠b:=kW d.obj l
 have z:=f.fresh l
 have m:=f.pB j
 have d:=d.step0 j
 have c:Own CV H0 u v b [] ([]:List Unit):=⟨x,y,trivial,z⟩
 refine Pv.go (iw rfl) ?_
 refine qH d m.wf T.jr.cl T.jZ lK fun G n o=>?_
 have r:=m.tr1 n (.inr i)
 have c:=c.step1 n (iZ g)
 change pU _ _ _ _ _ (List.zip ["_events"] [(V.ref b)]) at o
 refine iY (uM (Pv.go iT (Pv.go (iw rfl) ?_)))
 refine qH o r.wf T.jr.cl T.jL lK fun I t e=>?_
 have B:=r.tr1 t (.inr i)
 have c:=c.step1 t (iZ g)
 rw [rJ (ns:=["_events"]) (us:=[(V.ref b)]) jc rfl] at e
 change pU _ _ _ _ _ (List.zip ["_events", "_entries"] [(V.ref b), (V.int (0:Int))]) at e
 refine iY ?_
 have hz:=LR (CE:=a.nW) e c (iZ g)
 have gz:=B.lU (q:=b) (p:=pS) c.new ⟨_,e.obj⟩
 exact k.done gz hz
theorem lH:FnOk P w K mg base CX0 1 a.jo a.uh ["self"] (yN K a):=by
 have sc:FnScope ["self"] ["self"] (defScope m_):=⟨rfl, rfl, rfl, jc, rfl, jc, jc⟩
 refine T.jo.F.ok sc (fun vs H Q E h=>?_) (fun cdv A outer s H0 vs Q E hr h=>?_)
 ·obtain ⟨_,_,_,rfl,_⟩:=h
  rfl
 obtain ⟨b,f,g,rfl,c,d,k⟩:=h
 refine ⟨_,(i_ (jJ (pe_fld (pv 0) rfl))),?_⟩
 have e:Step [] b H0 b H0:=Step.refl c
 unfold jK at k
 refine jT (Pv.go (pD (iw rfl) (yE d T.jr.cl T.jL)) ?_)
 exact (k.done e) _ rfl
theorem CJ:FnOk P w K mg base (L2N.CX P w) 3 a.pX a.xQ ["self", "kind", "value", "ground", "first", "last"] (Cv K a):=by
 have sc:FnScope ["self", "kind", "value", "ground", "first", "last"] ["self", "kind", "value", "ground", "first", "last"] (defScope qL):=⟨rfl, rfl, rfl, jc, rfl, jc, jc⟩
 refine okN T.pX.F sc (fun vs H Q E h=>?_) (fun cdv A outer s H0 vs Q E hr h=>?_)
 ·obtain ⟨_,_,_,_,_,_,_,_,_,_,_,_,_,rfl,_⟩:=h
  rfl
 obtain ⟨F,g,t,bL,G,bM,I,bN,J,aJ,m,aK,an,rfl,aL,c,L,M,N,O,d,k⟩:=h
 refine ⟨_,(je (ps_if (PW.pt (pw_or (pt_not (pt_val (jy (Ce T ND) (hr.mono iW) jf T.is_word.g T.is_word.F.kp T.is_word.b .nil jj (ig (pv 1) iH)))) (pw_or (pt_not (pt_val (jy (Ce T ND) (hr.mono iW) jf T.is_word.g T.is_word.F.kp T.is_word.b .nil jj (ig (pv 2) iH)))) (pw_or1 (pt_not (pt_truth (pv 3) (by intro _; rfl))))))) (i_ (L2N.ps_raise rfl (L2N.takes_of rfl rfl rfl rfl) (L2N.pmk_own PySem.F.excBase_ValueError T.mQ.ex T.mQ.g T.mQ.kp T.mQ.raises jf))) pss_nil) (je (ps_if (PW.pt (pw_or (pt_not (pt_val (jy (Du T ND) (hr.mono iW) jf T.is_day.g T.is_day.F.kp T.is_day.b .nil jj (ig (pv 4) iH)))) (pw_or1 (PW.pt (pw_and (jN op_notN (pv 5) pe_non (by first | exact jw _ | rfl)) (pw_and1 (PW.pt (pw_or (pt_not (pt_val (jy (Du T ND) (hr.mono iW) jf T.is_day.g T.is_day.F.kp T.is_day.b .nil jj (ig (pv 5) iH)))) (pw_or1 (jN op_lt (pv 5) (pv 4) (by first | exact jw _ | rfl))))))))))) (i_ (L2N.ps_raise rfl (L2N.takes_of rfl rfl rfl rfl) (L2N.pmk_own PySem.F.excBase_ValueError T.mQ.ex T.mQ.g T.mQ.kp T.mQ.raises jf))) pss_nil) (je (ps_fldaug (pv 0) iK in_add) (je (ps_expr (pe_bm vp v7 v8 mt_append (pe_fld (pv 0) rfl) (ig (pe_make T.jR.maker (CG T ND) hr jf T.jR.g T.pW.b .nil jj (ig (pv 1) (ig (pv 2) (ig (pe_callTy Ae jf T.BR jc (ig (pv 3) iH)) (ig (pv 4) (ig (pv 5) (ig (pe_fld (pv 0) rfl) iH))))))) iH))) (i_ (jJ (pe_callB call_len_seq jf T.qu nM (ig (pe_fld (pv 0) rfl) iH)))))))),?_⟩
 obtain ⟨L,R⟩:=L
 subst L
 obtain ⟨M,S⟩:=M
 subst M
 have O:aJ=(V.int m):=O
 subst O
 have ao:Step [g] F H0 F H0:=Step.refl aL
 unfold nU at k
 refine jd (qF (zf (vP (Bb (jA (lM.go (iQ (iw rfl) jm) ?_))))))
 refine ⟨F,_,G,rfl,ao.wf,⟨rfl,R⟩,?_⟩
 refine Kont.Ax k ao (fun _ z=>by cases z) (fun ap bO k aM bP aq U aN W=>?_)
 have W:aN=(V.bl ap):=W
 subst W
 have c:=Mu.iD (h_ a) aq c
 have d:=lift d aq
 refine ⟨_,rfl,?_⟩
 refine jM (b:=ap) (fun X=>?_) (fun X=>?_)
 ·have k:=k.o8 X
  refine zf (vP (Bb (jA (lM.go (iQ (iw rfl) jm) ?_))))
  refine ⟨aM,_,I,rfl,U.wf,⟨rfl,S⟩,?_⟩
  refine Kont.Ax k U (fun _ z=>by cases z) (fun ar bQ k aO bR as o aP Y=>?_)
  have Y:aP=(V.bl ar):=Y
  subst Y
  have c:=Mu.iD (h_ a) as c
  have d:=lift d as
  refine ⟨_,rfl,?_⟩
  refine jM (b:=ar) (fun Z=>?_) (fun Z=>?_)
  ·have k:=k.o8 Z
   refine vP (oG.go (Oj (o.plx N).b (iw rfl)) ?_)
   refine jM (b:=(!J.isEmpty)) (fun aa=>?_) (fun aa=>?_)
   ·have k:=k.o8 aa
    refine jX (iY (jd (qF (zf (vP (Bb (jA (lM.go (iQ (iw rfl) jm) ?_))))))))
    refine ⟨aO,_,m,rfl,o.wf,rfl,?_⟩
    refine Kont.Ax k o (fun _ z=>by cases z) (fun au bS k av bT aw r aQ ab=>?_)
    have ab:aQ=(V.bl au):=ab
    subst ab
    have c:=Mu.iD (h_ a) aw c
    have d:=lift d aw
    refine ⟨_,rfl,?_⟩
    refine jM (b:=au) (fun ac=>?_) (fun ac=>?_)
    ·have k:=k.o8 ac
     refine yu (oG.go (oH (jt (iw rfl) iT (vC d))) ?_)
     refine jM (b:=(!Option.isNone an)) (fun ad=>?_) (fun ad=>?_)
     ·have k:=k.o8 ad
      refine zf (vP (Bb ?_))
      obtain ⟨l,aR,k⟩:=k.opt
      have aS:aK=V.int l:=some_of d aR
      subst aS
      refine jA (lM.go (iQ (iw rfl) jm) ?_)
      refine ⟨av,_,l,rfl,r.wf,rfl,?_⟩
      refine Kont.Ax k r (fun _ z=>by cases z) (fun ax bU k aT bV aU u aV ae=>?_)
      have ae:aV=(V.bl ax):=ae
      subst ae
      have c:=Mu.iD (h_ a) aU c
      refine ⟨_,rfl,?_⟩
      refine jM (b:=ax) (fun af=>?_) (fun af=>?_)
      ·have k:=k.o8 af
       refine oG.go (oH (jt (iw rfl) (iw rfl) jW)) ?_
       refine jM (b:=(decide (l<m))) (fun ag=>?_) (fun ag=>?_)
       ·have k:=k.o8 ag
        exact k.fail u c
       rw [jh ag] at k
       refine jX (iY (jd (Hz (Pv.go (iw rfl) ?_))))
       refine Bp (n:=1) c u.wf T.jr.cl T.jL fun aW aX e bW=>?_
       have v:=u.tr1 aX (.inl j6)
       refine iY (jd (oM (xV ?_)))
       obtain ⟨aY,bX,aZ,a0,bY,bZ,a1⟩:=xg e T.jr.cl T.jZ
       refine Pv.go (pD (iw rfl) aZ) ?_
       refine ⟨ty_list (.inl a0),?_⟩
       have X7:=e.1
       have X8:=a1
       have i:QT a.mF aT aW g aY:=⟨X7,X8⟩
       refine jg (Hl (jg (Pv.go (iw rfl) (jg (Pv.go (iw rfl) (jg (Ba (lM.go (iQ (iw rfl) jm) ?_))))))))
       refine tQ (H0:=H0) (v.plx N).b v.wf (fun _ n=>v.fresh n) fun ah b0 a2 a3 a4 ai ay=>?_
       have az:g≠ah:=Mu.ne (h_ a) e a4
       have a5:=v.pB ai
       have e:=Mu.iD (h_ a) ai e
       have i:=i.keep ai j6
       refine jg (Pv.go (iw rfl) (jg (Pv.go (iw rfl) (jg (Pv.go (pD (iw rfl) (yE e T.jr.cl T.jL)) (lg ?_))))))
       have a6:=ay.frz
       have x:=a5.frz (p:=ah) ay.new
       have e:=Mu.pA (h_ a) e az
       have i:=i.frz az
       refine Ho x.wf fun aj a7 a8 b1 ak a9 a_=>?_
       refine ⟨(frz a2 ah),a3,a8,aj,a7,_,G,_,I,_,J,_,m,_,(some l),_,((t.1,t.2+1).2),rfl,x.wf,a9,ak,a_,⟨rfl,R⟩,⟨rfl,S⟩,a6,rfl,(show (jC).r _ _ (V.int l) (some l) from rfl),rfl,?_⟩
       refine Kont.Ax k x (fun _ z=>by cases z) (fun b2 b3 k b4 b5 aA aB ba=>?_)
       refine ⟨rfl,?_⟩
       have bb:g≠aj:=Mu.ne (h_ a) e ak
       have bc:=x.fresh ak
       have e:=Mu.iD (h_ a) aA e
       have i:=i.keep aA j6
       refine lg ?_
       obtain ⟨bd,k⟩:=k.chk
       refine FP e aB.wf i.2 ba (iZ bb) (jQ bd) fun b6 be bf aC=>?_
       have bg:=aB.tr1 be (.inl j6)
       have bh:=bg.lU (q:=aj) (p:=g) bc bf
       refine iY (jT ?_)
       obtain ⟨b7,b8,bi,bj,b9,bk,b_⟩:=xg aC T.jr.cl T.jZ
       refine Pv.go (Aj bj bk (pD (iw rfl) bi)) ?_
       exact (k.done bh) _ ⟨rfl,aC⟩
      rw [jh af] at k
      exact k.fail u c
     rw [jh ad] at k
     refine jX (iY (jd (Hz (Pv.go (iw rfl) ?_))))
     refine Bp (n:=1) c r.wf T.jr.cl T.jL fun bl aD f ca=>?_
     have y:=r.tr1 aD (.inl j6)
     have d:=lift d aD
     refine iY (jd (oM (xV ?_)))
     obtain ⟨bm,cb,bn,bo,cc,cd,bp⟩:=xg f T.jr.cl T.jZ
     refine Pv.go (pD (iw rfl) bn) ?_
     refine ⟨ty_list (.inl bo),?_⟩
     have X7:=f.1
     have X8:=bp
     have j:QT a.mF av bl g bm:=⟨X7,X8⟩
     refine jg (Hl (jg (Pv.go (iw rfl) (jg (Pv.go (iw rfl) (jg (Ba (lM.go (iQ (iw rfl) jm) ?_))))))))
     refine tQ (H0:=H0) (y.plx N).b y.wf (fun _ n=>y.fresh n) fun B ce bq br bs C aE=>?_
     have aF:g≠B:=Mu.ne (h_ a) f bs
     have bt:=y.pB C
     have f:=Mu.iD (h_ a) C f
     have d:=lift d C
     have j:=j.keep C j6
     refine jg (Pv.go (iw rfl) (jg (Pv.go (iw rfl) (jg (Pv.go (pD (iw rfl) (yE f T.jr.cl T.jL)) (lg ?_))))))
     have bu:=aE.frz
     have D:=bt.frz (p:=B) aE.new
     have f:=Mu.pA (h_ a) f aF
     have d:=KZ (p:=B) d
     have j:=j.frz aF
     refine Ho D.wf fun al bv bw cf am bx bz=>?_
     refine ⟨(frz bq B),br,bw,al,bv,_,G,_,I,_,J,_,m,_,an,_,((t.1,t.2+1).2),rfl,D.wf,bx,am,bz,⟨rfl,R⟩,⟨rfl,S⟩,bu,rfl,d,rfl,?_⟩
     refine Kont.Ax k D (fun _ z=>by cases z) (fun cg ch k ci cj aG aH bA=>?_)
     refine ⟨rfl,?_⟩
     have bB:g≠al:=Mu.ne (h_ a) f am
     have bC:=D.fresh am
     have f:=Mu.iD (h_ a) aG f
     have j:=j.keep aG j6
     refine lg ?_
     obtain ⟨bD,k⟩:=k.chk
     refine FP f aH.wf j.2 bA (iZ bB) (jQ bD) fun ck bE bF aI=>?_
     have bG:=aH.tr1 bE (.inl j6)
     have bH:=bG.lU (q:=al) (p:=g) bC bF
     refine iY (jT ?_)
     obtain ⟨cl,cm,bI,bJ,cn,bK,co⟩:=xg aI T.jr.cl T.jZ
     refine Pv.go (Aj bJ bK (pD (iw rfl) bI)) ?_
     exact (k.done bH) _ ⟨rfl,aI⟩
    rw [jh ac] at k
    exact k.fail r c
   rw [jh aa] at k
   exact k.fail o c
  rw [jh Z] at k
  exact k.fail o c
 rw [jh X] at k
 exact k.fail U c
theorem uE:FnOk P w K mg base (L2N.CX P w) 1 a.lG a.uo ["self", "number"] (yO K a):=by
 have sc:FnScope ["self", "number"] ["self", "number"] (defScope nj):=⟨rfl, rfl, rfl, jc, rfl, jc, jc⟩
 refine okN T.lG.F sc (fun vs H Q E h=>?_) (fun cdv A outer s H0 vs Q E hr h=>?_)
 ·obtain ⟨_,_,_,_,_,rfl,_⟩:=h
  rfl
 obtain ⟨f,B,g,l,c,rfl,m,i,d,k⟩:=h
 refine ⟨_,(je (ps_if (pt_not (pt_chain op_le op_le iK (pv 1) (pe_callB call_len_seq jf T.qu nM (ig (pe_fld (pv 0) rfl) iH)))) (i_ (L2N.ps_raise rfl (L2N.takes_of rfl rfl rfl rfl) (L2N.pmk_own PySem.F.excBase_ValueError T.lu.ex T.lu.g T.lu.kp T.lu.raises jf))) pss_nil) (i_ (jJ (pe_ix ix_list (pe_fld (pv 0) rfl) (pe_op op_sub (pv 1) iK) (fun _ _=>rfl))))),?_⟩
 have d:l=(V.int c):=d
 subst d
 have j:Step [] f H0 f H0:=Step.refl m
 unfold lO at k
 refine jd ?_
 obtain ⟨C,D,n,o,F,p,G⟩:=xg i T.jr.cl T.jZ
 refine oG.K7 (b:=(!((decide ((1:Int)≤c))&&(decide (c≤(g.1.length:Int)))))) ?_ (fun e=>?_) (fun e=>?_)
 ·exact (show oG _ _ _ (!((decide ((1:Int)≤c))&&(decide (c≤(g.1.length:Int))))) from (pt_not (oH (Fg iT (iw rfl) jW (fun _=>(Aj o p (pD (iw rfl) n))) (fun _=>jW)))))
 ·have k:=k.o8 e
  exact k.fail j
 rw [jh e] at k
 refine jX (iY (jT ?_))
 obtain ⟨I,J,q,r,L,t,u⟩:=xg i T.jr.cl T.jZ
 obtain ⟨M,v,k⟩:=k.opt
 obtain ⟨x,k⟩:=k.chk
 obtain ⟨N,y,z⟩:=O6 (K:=K) u r t v x
 refine mZ (Pv.go (pD (iw rfl) q) (Pv.go (jt (iw rfl) iT jW) (y _ ?_)))
 exact (k.done j) _ z
theorem CK:FnOk P w K mg base (L2N.CX P w) 2 a.pY a.xR ["self", "number"] (Cy K a):=by
 have sc:FnScope ["self", "number", "found"] ["self", "number"] (defScope qM):=⟨rfl, rfl, rfl, jc, rfl, jc, jc⟩
 refine okN T.pY.F sc (fun vs H Q E h=>?_) (fun cdv A outer s H0 vs Q E hr h=>?_)
 ·obtain ⟨_,_,_,_,_,rfl,_⟩:=h
  rfl
 obtain ⟨g,v,x,y,o,rfl,B,c,j,k⟩:=h
 refine ⟨_,(je (jF (i:=2) sc.nd rfl (Or.inl rfl) (pe_meth (pv 0) T.jr.cl T.lG.m (uE T ND) hr T.lG.b .nil (L2N.passes_call (L2N.takes_of rfl rfl rfl rfl) (fun _ _ _ _ h=>h)) (ig (pv 1) iH))) (je (ps_if (jN op_notN (pe_fld (pv 2) rfl) pe_non (by first | exact jw _ | rfl)) (i_ (L2N.ps_raise rfl (L2N.takes_of rfl rfl rfl rfl) (L2N.pmk_own PySem.F.excBase_ValueError T.mQ.ex T.mQ.g T.mQ.kp T.mQ.raises jf))) pss_nil) (je (ps_fldaug (pv 0) iK in_add) (i_ (ps_fld (pv 2) (pe_fld (pv 0) rfl) rfl))))),?_⟩
 have j:y=(V.int o):=j
 subst j
 have p:Step [v] g H0 g H0:=Step.refl B
 unfold sX at k
 refine jd (jU (pq (Pv.go (iw rfl) (lE c jc (lM.go (iQ (iw rfl) jm) ?_)))))
 refine ⟨g,_,x,_,o,rfl,p.wf,c,rfl,?_⟩
 refine Kont.call k p (fun _ z=>by cases z) (fun R C k D F l d S f=>?_) (fun e C D F l d pe=>?_)
 rotate_left
 ·skip
  have c:=Mu.iD (h_ a) l c
  exact pe c
 obtain ⟨q,r,k⟩:=k.opt
 have c:=Mu.iD (h_ a) l c
 refine qJ (iY (jd ?_))
 obtain ⟨U,G,I⟩:=yD (uO.at c f r) T.jR.cl T.mG
 refine oG.K7 (b:=(!Option.isNone q.2.2.2.2.2.2)) ?_ (fun m=>?_) (fun m=>?_)
 ·exact (show oG _ _ _ (!Option.isNone q.2.2.2.2.2.2) from (oH (jt (pD (iw rfl) I) iT (vC G))))
 ·have k:=k.o8 m
  exact k.fail d c
 rw [jh m] at k
 refine jX (iY (jd (Hz (Pv.go (iw rfl) ?_))))
 refine Bp (n:=1) c d.wf T.jr.cl T.jL fun W J t L=>?_
 have f:=L _ _ f
 have u:=d.tr1 J (.inl j6)
 refine iY (uM (Pv.go (pD (iw rfl) (yE t T.jr.cl T.jL)) (Pv.go (iw rfl) ?_)))
 refine O4 t u.wf f T.jR.cl T.mG r fun X M N=>?_
 have O:=u.tr1 M (.inl j6)
 refine iY ?_
 exact (k.done O) _ ⟨rfl,N⟩
theorem pP:FnOk P w K mg base (L2N.CX P w) 2 a.j9 a.vW ["self", "number"] (z8 K a):=by
 have sc:FnScope ["self", "number", "found", "told"] ["self", "number"] (defScope oU):=⟨rfl, rfl, rfl, jc, rfl, jc, jc⟩
 refine okN T.j9.F sc (fun vs H Q E h=>?_) (fun cdv A outer s H0 vs Q E hr h=>?_)
 ·obtain ⟨_,_,_,_,_,rfl,_⟩:=h
  rfl
 obtain ⟨l,aZ,S,U,F,rfl,W,m,o,k⟩:=h
 refine ⟨_,(je (jF (i:=2) sc.nd rfl (Or.inl rfl) (pe_meth (pv 0) T.jr.cl T.lG.m (uE T ND) hr T.lG.b .nil (L2N.passes_call (L2N.takes_of rfl rfl rfl rfl) (fun _ _ _ _ h=>h)) (ig (pv 1) iH))) (je (jF (i:=3) sc.nd rfl (Or.inl rfl) (pe_tup (ig (pe_fld (pv 2) rfl) (ig (pe_fld (pv 2) rfl) (ig (pe_callTy Ae jf T.BR jc (ig (pe_fld (pv 2) rfl) iH)) (ig (pe_fld (pv 2) rfl) (ig (pe_fld (pv 2) rfl) iH))))))) (i_ (jJ (pe_op op_catT (pv 3) (pe_tup (ig (pe_fld (pv 2) rfl) (ig (pe_fld (pv 2) rfl) iH)))))))),?_⟩
 have X:=m
 have o:U=(V.int F):=o
 subst o
 have G:Step [] l H0 l H0:=Step.refl W
 unfold lF at k
 refine jd (jU (pq (Pv.go (iw rfl) (lE m jc (lM.go (iQ (iw rfl) jm) ?_)))))
 refine ⟨l,_,S,_,F,rfl,G.wf,m,rfl,?_⟩
 refine Kont.call k G (fun _ z=>by cases z) (fun a0 Y k Z aa ab c a1 ac=>?_) (fun e Y Z aa ab c pe=>?_)
 rotate_left
 ·exact pe
 obtain ⟨b,ad,k⟩:=k.opt
 have f:=uO.at0 c X ac ad
 refine qJ (iY (jd (jU (tO (jg ?_)))))
 obtain ⟨a2,q,ae⟩:=Jo (c.Cr f) T.jR.cl T.rG
 obtain ⟨q,af⟩:=q
 subst q
 refine Pv.go (pD (iw rfl) ae) (jg ?_)
 obtain ⟨a3,r,ag⟩:=Fy (c.Cr f) T.jR.cl T.qP
 obtain ⟨r,ah⟩:=r
 subst r
 refine Pv.go (pD (iw rfl) ag) (jg (Ba ?_))
 obtain ⟨a4,ai,aj⟩:=Dc (c.Cr f) T.jR.cl T.pO
 refine lM.go (iQ (pD (iw rfl) aj) jm) ?_
 refine tQ (H0:=H0) (Az ai) c.wf (fun _ n=>c.fresh n) fun I a5 a6 a7 a8 ak J=>?_
 have t:=c.pB ak
 refine jg ?_
 obtain ⟨al,u,am⟩:=Bm (t.Cr f) T.jR.cl T.oZ
 have u:al=(V.int b.2.2.2.1):=u
 subst u
 refine Pv.go (pD (iw rfl) am) (jg ?_)
 obtain ⟨a9,g,an⟩:=yC (t.Cr f) T.jR.cl T.mY
 refine Pv.go (pD (iw rfl) an) (lg ?_)
 have v:=J.Vg
 have L:=t.frz (p:=I) J.new
 have g:=KZ (p:=I) g
 refine nO lK L.wf fun M ao ap x aq ar a_=>?_
 have j:=L.pB x
 have v:=lift v x
 have g:=lift g x
 have y:(T8 jV jV (zY H0 (mV jV jB jB)) jB jC).r ao ap (V.ref M) (b.1,b.2.1,b.2.2.1,b.2.2.2.1,b.2.2.2.2.1):=⟨M,_,_,_,_,_,rfl,aq,.inl ar,⟨rfl,af⟩,⟨rfl,ah⟩,v,rfl,g⟩
 refine rE (iY (jT (mZ (Pv.go (iw rfl) (tO ?_)))))
 obtain ⟨as,B,au⟩:=FJ (j.Cr f) T.jR.cl T.qO
 have B:as=(V.int b.2.2.2.2.2.1):=B
 subst B
 obtain ⟨ba,C,av⟩:=yD (j.Cr f) T.jR.cl T.mG
 refine lM.go (iQ (pD (iw rfl) au) (iQ (pD (iw rfl) av) jm)) ?_
 refine nO lK j.wf fun N aw ax D ay az bb=>?_
 have O:=j.pB D
 have y:=lift y D
 have C:=lift C D
 have aA:(wu jB jC).r aw ax (V.ref N) (b.2.2.2.2.2.1,b.2.2.2.2.2.2):=⟨N,_,_,rfl,ay,az,rfl,C⟩
 obtain ⟨bc,aB,aC,aD,aE,aF,aG,aH,aI,aJ,aK,aL,aM⟩:=Uo y
 cases aG
 obtain ⟨bd,aN,aO,aP,aQ,aR,aS⟩:=K8 aA
 cases aP
 refine Ma O.wf aH aQ j6 j6 (show (7:Nat)≤sizeLine by decide) fun R aT aU d aV aW be=>?_
 have aX:=O.pB d
 have aY:(yh jV jV (zY H0 (mV jV jB jB)) jB jC jB jC).r aT aU (V.ref R) (b.1,b.2.1,b.2.2.1,b.2.2.2.1,b.2.2.2.2.1,b.2.2.2.2.2.1,b.2.2.2.2.2.2):=⟨R,aB,aC,aD,aE,aF,aN,aO,rfl,aV,aW,(lift aI d),(lift aJ d),(lift aK d),(lift aL d),(lift aM d),(lift aR d),(lift aS d)⟩
 exact (k.done aX) _ aY
theorem pQ:FnOk P w K mg base (L2N.CX P w) 2 a.j_ a.vX ["self", "entry", "day"] (z9 K a):=by
 have sc:FnScope ["self", "entry", "day", "rows", "number", "found"] ["self", "entry", "day"] (defScope oV):=⟨rfl, rfl, rfl, jc, rfl, jc, jc⟩
 refine okN T.j_.F sc (fun vs H Q E h=>?_) (fun cdv A outer s H0 vs Q E hr h=>?_)
 ·obtain ⟨_,_,_,_,_,_,_,rfl,_⟩:=h
  rfl
 obtain ⟨q,m,r,ar,f,as,t,rfl,au,d,G,I,k⟩:=h
 refine ⟨_,(je (ps_if (pt_not (pt_chain op_le op_le iK (pv 1) (pe_fld (pv 0) rfl))) (i_ (L2N.ps_raise rfl (L2N.takes_of rfl rfl rfl rfl) (L2N.pmk_own PySem.F.excBase_ValueError T.lu.ex T.lu.g T.lu.kp T.lu.raises jf))) pss_nil) (je (jF (i:=3) sc.nd rfl (Or.inl rfl) (pe_lst iH)) (je (ps_for (passes_of rfl) rfl (Hv jf T.zU (ig (pe_fld (pv 0) rfl) (ig iK iH))) (pg_tup (n:=2) jf (pgs_cons (pg_name (i:=4) sc.nd rfl (Or.inl rfl)) (pgs_cons (pg_name (i:=5) sc.nd rfl (Or.inl rfl)) pgs_nil))) (i_ (ps_if (pt_val (pe_meth (pv 5) T.jR.cl T.nY.m (z_ T ND) hr T.nY.b .nil jj (ig (pv 1) (ig (pv 2) iH)))) (i_ (ps_expr (pe_bm vp v7 v8 mt_append (pv 3) (ig (pe_tup (ig (pv 4) (ig (pe_fld (pv 5) rfl) (ig (pe_fld (pv 5) rfl) (ig (pe_callTy Ae jf T.BR jc (ig (pe_fld (pv 5) rfl) iH)) iH))))) iH)))) pss_nil))) (i_ (jJ (pv 3)))))),?_⟩
 have av:=d
 have G:ar=(V.int f):=G
 subst G
 have I:as=(V.int t):=I
 subst I
 have u:Step [] q H0 q H0:=Step.refl au
 unfold kZ at k
 refine jd ?_
 refine oG.K7 (b:=(!((decide ((0:Int)≤f))&&(decide (f≤r.2))))) ?_ (fun J=>?_) (fun J=>?_)
 ·exact (show oG _ _ _ (!((decide ((0:Int)≤f))&&(decide (f≤r.2)))) from (pt_not (oH (Fg iT (iw rfl) jW (fun _=>(pD (iw rfl) (yE d T.jr.cl T.jL))) (fun _=>jW)))))
 ·have k:=k.o8 J
  exact k.fail u
 rw [jh J] at k
 refine jX (iY (jd (jU (pC (lM.go jm ?_)))))
 refine lW lK u.wf fun l aw ax ac ay az ad=>?_
 have aA:m≠l:=Mu.ne (h_ a) d ad
 have aB:=u.fresh ad
 have L:=u.pB ac
 have d:=Mu.iD (h_ a) ac d
 have aC:Own (wz jB jV jV (zY H0 (mV jV jB jB))) H0 aw ax l [] ([]:List (Int×PySem.Str×PySem.Str×List (PySem.Str×Int×Int))):=⟨ay,az,trivial,aB⟩
 refine rE (iY (jd (wB ?_)))
 obtain ⟨a7,aD,v,aE⟩:=L_ av
 refine RK (lM.go (iQ (pD (iw rfl) (aE L T.jr.cl T.jZ)) (iQ iT jm)) ?_)
 refine RL (k:=1) ⟨iW,iW⟩ (v.now L) ?_
 refine RJ (A:=(wu jB (Hw aD))) (s0:=((([]:List (Int×PySem.Str×PySem.Str×List (PySem.Str×Int×Int)))):List (Int×PySem.Str×PySem.Str×List (PySem.Str×Int×Int)))) k (fun (M:List (Int×PySem.Str×PySem.Str×List (PySem.Str×Int×Int))) (c:Cl) (H:Hp) (σ:L2.St)=>∃ (x:List V) (y:Option V) (B:Option V),σ=[some (V.ref m),some (V.int f),some (V.int t),some (V.ref l),y,B]∧Step [] q H0 c H∧Own (wz jB jV jV (zY H0 (mV jV jB jB))) H0 c H l x M∧(h_ a).r c H m r) ⟨_,_,_,rfl,L,aC,d⟩ ?_ ?_ ?_
 ·exact fun s c H σ ⟨x,y,B,_,g,_,_⟩=>O7 g.wf (v.now g) v.len
 ·intro M O a8 a9 a_ σ aF ba N i R aG k
  obtain ⟨x,y,B,rfl,aH,e,d⟩:=i
  have C:=aH.pB R
  have d:=Mu.iD (h_ a) R d
  have e:=e.step0 R
  obtain ⟨bb,aI,aJ,aK,aL,S,aM⟩:=K8 aG
  subst aK
  refine KN aL rfl ?_
  have S:aI=(V.int O.1):=S
  subst S
  refine qG (sV (qG ?_))
  obtain ⟨D,aN,k⟩:=k.opt
  have o:=EvL.at v aM aN
  refine vH (G_ ?_)
  refine wD k (fun (ae:List (Int×PySem.Str×PySem.Str×List (PySem.Str×Int×Int))) (c:Cl) (H:Hp) (σ:L2.St)=>∃ (af:List V),σ=[some (V.ref m),some (V.int f),some (V.int t),some (V.ref l),some (V.int O.1),some aJ]∧Step [] q H0 c H∧Own (wz jB jV jV (zY H0 (mV jV jB jB))) H0 c H l af ae∧(h_ a).r c H m r) ?_ ?_
  rotate_left
  ·intro k
   refine qF (Bb (pq (Pv.go (iw rfl) (O2 (C.Cr o) jc (lM.go (iQ (iw rfl) (iQ (iw rfl) jm)) ?_)))))
   refine ⟨aF,_,D,_,f,_,t,rfl,C.wf,(C.Cr o),rfl,rfl,?_⟩
   refine Kont.Ax k C (fun _ z=>by cases z) (fun ag bc k bd be ah j aO U=>?_)
   have U:aO=(V.bl ag):=U
   subst U
   have d:=Mu.iD (h_ a) ah d
   have e:=e.step0 ah
   refine ⟨_,rfl,?_⟩
   refine jM (b:=ag) (fun W=>?_) (fun W=>?_)
   ·have k:=k.o8 W
    refine oM (xV (Pv.go (iw rfl) ?_))
    refine ⟨ty_list (.inl e.obj),?_⟩
    refine jg (tO (jg (Pv.go (iw rfl) (jg ?_))))
    obtain ⟨bf,X,aP⟩:=Jo (j.Cr o) T.jR.cl T.rG
    obtain ⟨X,aQ⟩:=X
    subst X
    refine Pv.go (pD (iw rfl) aP) (jg ?_)
    obtain ⟨bg,Y,aR⟩:=Fy (j.Cr o) T.jR.cl T.qP
    obtain ⟨Y,aS⟩:=Y
    subst Y
    refine Pv.go (pD (iw rfl) aR) (jg (Ba ?_))
    obtain ⟨bh,aT,aU⟩:=Dc (j.Cr o) T.jR.cl T.pO
    refine lM.go (iQ (pD (iw rfl) aU) jm) ?_
    refine tQ (H0:=H0) (Az aT) j.wf (fun _ n=>j.fresh n) fun Z bi bj bk ai aa aj=>?_
    have aV:m≠Z:=Mu.ne (h_ a) d ai
    have aW:l≠Z:=kW e.obj ai
    have aX:=j.pB aa
    have d:=Mu.iD (h_ a) aa d
    have e:=e.step0 aa
    refine lg ?_
    have ab:=aj.Vg
    have ak:=aX.frz (p:=Z) aj.new
    have d:=Mu.pA (h_ a) d aV
    have e:=e.other aW
    refine nO lK ak.wf fun al aY aZ F a0 a1 bl=>?_
    have am:=ak.pB F
    have d:=Mu.iD (h_ a) F d
    have e:=e.step0 F
    have ab:=lift ab F
    have a2:(wz jB jV jV (zY H0 (mV jV jB jB))).r aY aZ (V.ref al) (O.1,D.1,D.2.1,D.2.2.1):=⟨al,_,_,_,_,rfl,a0,.inl a1,rfl,⟨rfl,aQ⟩,⟨rfl,aS⟩,ab⟩
    refine lg ?_
    obtain ⟨a3,k⟩:=k.chk
    refine mW e am.wf a2 (jQ a3) fun bm an ao=>?_
    have ap:=am.tr1 an (.inr ao.new)
    have d:=Mu.jE (h_ a) an aA d
    exact k.done ap _ ⟨_,rfl,ap,ao,d⟩
   rw [jh W] at k
   refine jX ?_
   exact k.done j _ ⟨_,rfl,j,e,d⟩
  intro ae bn bo σ i k
  obtain ⟨af,rfl,aq,a4,d⟩:=i
  refine iY ?_
  exact (k.done aq) _ ⟨_,_,_,rfl,aq,a4,d⟩
 intro M bp bq σ i k
 obtain ⟨x,y,B,rfl,a5,a6,d⟩:=i
 refine iY (jT (Pv.go (iw rfl) ?_))
 exact (k.done a5) _ ⟨_,_,rfl,a6⟩
theorem Ew:FnOk P w K mg base CX0 1 a.qm a.yK ["_law_cell"] (Es K a):=by
 have sc:FnScope ["_law_cell", "_law_seed", "_law_number", "_law_k"] ["_law_cell"] (defScope rN):=⟨rfl, rfl, rfl, jc, rfl, jc, jc⟩
 refine T.qm.F.ok sc (fun vs H Q E h=>?_) (fun cdv A outer s H0 vs Q E hr h=>?_)
 ·obtain ⟨_,_,_,rfl,_⟩:=h
  rfl
 obtain ⟨d,l,e,rfl,m,f,k⟩:=h
 refine ⟨_,(je (jF (i:=1) sc.nd rfl (Or.inl rfl) (pe_op op_mod (pe_callTy call_int1 jf T.Dr jc (ig (pv 0) iH)) iK)) (je (jF (i:=2) sc.nd rfl (Or.inl rfl) iK) (je (ps_for PassesOwn.never rfl (pi_range1 jf T.sY (ig iK iH)) (pg_name (i:=3) sc.nd rfl (Or.inl rfl)) (je (jF (i:=1) sc.nd rfl (Or.inl rfl) (pe_op op_mod (pe_callTy call_int1 jf T.Dr jc (ig (pe_op op_add (pe_op op_add (pe_op op_mulW (pv 1) iK) iK) (pe_op op_mulW iK (pv 3))) iH)) iK)) (i_ (jF (i:=2) sc.nd rfl (Or.inl rfl) (pe_op op_add (pe_op op_mulW (pv 2) iK) (pv 1)))))) (i_ (jJ (pv 2)))))),?_⟩
 have f:l=(V.int e):=f
 subst f
 have n:Step [] d H0 d H0:=Step.refl m
 unfold rR at k
 refine jd (jU (Pv.go (jt (uV (iQ (iw rfl) jm) DN) iT (Jf iW)) (uf (iY (jd (jU (Pv.go iT (qJ (iY (jd (wB (vA (lM.go (iQ iT jm) ?_)))))))))))))
 obtain ⟨o,k⟩:=k.chk
 refine vB o ?_
 refine DW (s0:=(((e%(1000000007:Int)),(0:Int)):Int×Int)) k (fun (b:Int×Int) (c:Cl) (H:Hp) (σ:L2.St)=>∃ (g:Option V),σ=[some (V.int e),some (V.int b.1),some (V.int b.2),g]∧Step [] d H0 c H) ⟨_,rfl,n⟩ ?_ ?_
 ·intro b u v x σ N i k
  obtain ⟨g,rfl,j⟩:=i
  refine rE (jd (jU ?_))
  obtain ⟨p,k⟩:=k.chk
  obtain ⟨q,k⟩:=k.chk
  refine Pv.go (jt (uV (iQ (jt (jt (jt (iw rfl) iT (Hg p)) iT jW) (jt iT (iw rfl) (Hg q)) jW) jm) DN) iT (Jf iW)) (uf (iY (jU ?_)))
  obtain ⟨r,k⟩:=k.chk
  refine Pv.go (jt (jt (iw rfl) iT (Hg r)) (iw rfl) jW) (qJ (iY ?_))
  exact (k.done j) _ ⟨_,rfl,j⟩
 intro b y z σ i k
 obtain ⟨g,rfl,t⟩:=i
 refine iY (jT (Pv.go (iw rfl) ?_))
 exact (k.done t) _ rfl
theorem ju:FnOk P w K mg base CX0 2 a.iG a.zQ ["_law_state_here", "_law_limit"] (Gx K a):=by
 have sc:FnScope ["_law_state_here", "_law_limit", "_law_cell", "_law_digit"] ["_law_state_here", "_law_limit"] (defScope tW):=⟨rfl, rfl, rfl, jc, rfl, jc, jc⟩
 refine T.iG.F.ok sc (fun vs H Q E h=>?_) (fun cdv A outer s H0 vs Q E hr h=>?_)
 ·obtain ⟨_,_,_,_,_,rfl,_⟩:=h
  rfl
 obtain ⟨g,e,u,I,n,rfl,J,j,o,k⟩:=h
 refine ⟨_,(je (ps_if (PW.pt (pw_and (jN op_lt (pe_ix ix_list (pv 0) iK (fun _ _=>rfl)) (pv 1) (by first | exact jw _ | rfl)) (pw_and1 (jN op_gt (pe_callB call_len_seq jf T.qu nM (ig (pe_ix ix_list (pv 0) iK (fun _ _=>rfl)) iH)) iK (by first | exact jw _ | rfl))))) (je (jF (i:=2) sc.nd rfl (Or.inl rfl) (pe_callB call_abs jf T.Q5 jc (ig (pe_callTy call_int1 jf T.Dr jc (ig (pe_bm vp PySem.F.slot_list_pop PySem.F.type_list_pop mt_popAt (pe_ix ix_list (pv 0) iK (fun _ _=>rfl)) (ig iK iH)) iH)) iH))) (je (ps_if (jN op_lt (pv 2) (pe_op op_pow iK iK) (by first | exact jw _ | rfl)) (i_ (jF (i:=2) sc.nd rfl (Or.inl rfl) (jy (Ew T ND) hr jf T.qm.g T.qm.F.kp T.qm.b .nil jj (ig (pv 2) iH)))) pss_nil) (i_ (ps_asg (pv 2) (pg_sub (pv 0) iK set_list))))) pss_nil) (je (jF (i:=3) sc.nd rfl (Or.inl rfl) (pe_op op_mod (pe_callTy call_int1 jf T.Dr jc (ig (pe_ix ix_list (pv 0) iK (fun _ _=>rfl)) iH)) (pv 1))) (je (ps_asg (pe_op op_fdivW (pe_ix ix_list (pv 0) iK (fun _ _=>rfl)) (pv 1)) (pg_sub (pv 0) iK set_list)) (i_ (jJ (pv 3)))))),?_⟩
 have o:I=(V.int n):=o
 subst o
 have l:Step [e] g H0 g H0:=Step.refl J
 unfold jk at k
 refine jd ?_
 refine wD k (fun (v:mj) (c:Cl) (H:Hp) (σ:L2.St)=>∃ (x:Option V),σ=[some (V.ref e),some (V.int n),x,none]∧Step [e] g H0 c H∧iU.r c H e v) ?_ ?_
 rotate_left
 ·intro k
  obtain ⟨y,L,k⟩:=k.Qz (Od Fl Fl)
  refine oG.K7 (b:=y) ?_ (fun p=>?_) (fun p=>?_)
  ·exact (show oG _ _ _ y from (Oc L (fun _ h=>(by have h:=h; exact oG.is (oH (jt (jt (iw rfl) iT (Wv j)) (iw rfl) jW)) (Res.ok.inj h))) (fun _ h=>(by have h:=h; obtain ⟨ah,M,N,ai,aj⟩:=Ea j; exact oG.is (oH (jt (Ug N (jt (iw rfl) iT M)) iT jW)) (Res.ok.inj h)))))
  ·have k:=k.o8 p
   refine jd (jU (Ba (jg (Ba (jg ?_)))))
   obtain ⟨ak,O,R,al,S⟩:=Ea j
   refine xV (Pv.go (jt (iw rfl) iT O) ?_)
   refine ⟨Fq (K:=K) R,?_⟩
   refine lM.go (iQ iT jm) ?_
   obtain ⟨d,U,k⟩:=k.opt
   refine Oo j l.wf S U fun am W f=>?_
   have m:=l.tr1 W (.inl j6)
   refine lg ?_
   refine .inl ⟨_,rfl,?_⟩
   refine lg ?_
   refine ⟨_,rfl,?_⟩
   refine qJ (iY (jd ?_))
   refine wD k (fun (B:Int) (c:Cl) (H:Hp) (σ:L2.St)=>σ=[some (V.ref e),some (V.int n),some (V.int B),none]∧Step [e] g H0 c H∧iU.r c H e (List.tail u.1,u.2)) ?_ ?_
   rotate_left
   ·intro k
    refine oG.K7 (b:=(decide ((if d<0 then -d else d)<((10:Int)^(18:Int).toNat)))) ?_ (fun q=>?_) (fun q=>?_)
    ·exact (show oG _ _ _ (decide ((if d<0 then -d else d)<((10:Int)^(18:Int).toNat))) from (oH (jt (iw rfl) (jt iT iT (za ⟨iW,iW,iW⟩)) jW)))
    ·have k:=k.o8 q
     refine jU (jA (lM.go (iQ (iw rfl) jm) ?_))
     refine ⟨g,_,(if d<0 then -d else d),rfl,m.wf,rfl,?_⟩
     refine Kont.call k m (fun _ z=>by cases z) (fun X an k ao ap Y C Z r=>?_) (fun _ _ _ _ _ _ z=>z)
     have r:Z=(V.int X):=r
     subst r
     have f:=Mu.iD iU Y f
     refine qJ ?_
     exact k.done C _ ⟨rfl,C,f⟩
    rw [jh q] at k
    refine jX ?_
    exact k.done m _ ⟨rfl,m,f⟩
   intro B aq ar σ i k
   obtain ⟨rfl,D,f⟩:=i
   refine iY (jU (Pv.go (iw rfl) (DQ (Pv.go (iw rfl) (Pv.go iT ?_)))))
   refine CW f D.wf fun as aa ab=>?_
   have F:=D.tr1 aa (.inl j6)
   exact k.done F _ ⟨_,rfl,F,ab⟩
  rw [jh p] at k
  refine jX ?_
  exact k.done l _ ⟨_,rfl,l,j⟩
 intro v au av σ i k
 obtain ⟨x,rfl,G,t⟩:=i
 refine iY (jd (jU ?_))
 obtain ⟨ac,k⟩:=k.chk
 refine Pv.go (jt (uV (iQ (jt (iw rfl) iT (Wv t)) jm) DN) (iw rfl) (Rp ac)) (rE (iY (jd (jU ?_))))
 obtain ⟨ad,k⟩:=k.chk
 refine Pv.go (jt (jt (iw rfl) iT (Wv t)) (iw rfl) (Ro ad)) (DQ (Pv.go (iw rfl) (Pv.go iT ?_)))
 refine CW t G.wf fun aw ae af=>?_
 have ag:=G.tr1 ae (.inl j6)
 refine iY (jT (Pv.go (iw rfl) ?_))
 exact (k.done ag) _ ⟨rfl,af⟩
theorem Ey:FnOk P w K mg base CX0 1 a.qp a.yL ["_law_script"] (Et K a):=by
 have sc:FnScope ["_law_script", "_law_cell"] ["_law_script"] (defScope qb):=⟨rfl, rfl, rfl, jc, rfl, jc, jc⟩
 refine T.qp.F.ok sc (fun vs H Q E h=>?_) (fun cdv A outer s H0 vs Q E hr h=>?_)
 ·obtain ⟨_,_,_,rfl,_⟩:=h
  rfl
 obtain ⟨g,S,j,rfl,y,z,k⟩:=h
 refine ⟨_, (i_ (jJ (pe_lst (ig (pe_lc jf sc.nd (pi_list (pe_slice sl_list (pv 0) po_none (po_some iK))) (blkOk_by (own:=[("_law_cell", 1)]) (N:=["_law_script", "_law_cell"]) (sc:=defScope qb) jc) (fun _ _ _ _ _=>(pg_name (i:=1) sc.nd rfl (Or.inl rfl))) (fun _ _ _ _ _=>pts_nil) (fun _ _ _ _ _=>(pe_callTy call_int1 jf T.Dr jc (ig (pv 1) iH)))) (ig iK iH))))), ?_⟩
 have c:Step [] g H0 g H0:=Step.refl y
 unfold rW at k
 refine jT (pC (jg (K_ (yr (Wo (Pv.go (iw rfl) (Qx.go Rh (Qx.go (Ri iT) ?_))))))))
 refine JH (H0:=H0) (c.b0 z) c.wf (fun _ n=>c.fresh n) fun U W X Y Z C d=>?_
 change Own _ H0 _ _ _ _ (yX j none (some (63:Int))) at d
 have l:=c.pB C
 refine yt ((.inl (.inl d.obj))) ?_
 obtain ⟨D,k⟩:=k.chk
 refine Jh (A:=jB) (B:=jB) (xs:=(yX j none (some (63:Int)))) k l D (fun ci Hi st=>QF (.inl (.inl (d.step0 st).obj)) (d.step0 st).rs) ?_ ?_
 ·intro F G m o Qe Qn aa gi_ e k
  have I:Step [] m o m o:=Step.refl gi_.wf
  have e:G=(V.int F):=e
  subst e
  refine yj ?_
  refine ⟨rfl,KQ ?_⟩
  refine Pv.go (uV (iQ (iw rfl) jm) DN) ?_
  exact (k.done I) _ rfl
 intro ab r ac ad ae af J b k
 have f:=l.pB J
 refine jg (Pv.go iT (lg ?_))
 refine lW lK f.wf fun t ag ah u L v x=>?_
 have M:r≠t:=kW b.obj x
 have O:=f.fresh x
 have R:=f.pB u
 have b:=b.step0 u
 have X_:=Oq b L v M
 have Yb:=R.lU (q:=r) (p:=t) b.new ⟨_,v⟩
 exact (k.done Yb) _ ⟨_,rfl,O,X_⟩
theorem Gz:FnOk P w K mg base CX0 1 a.sG a.zR ["_law_cells_here"] (Gy K a):=by
 have sc:FnScope ["_law_cells_here", "_law_rows", "_law_piece", "_law_k"] ["_law_cells_here"] (defScope tX):=⟨rfl, rfl, rfl, jc, rfl, jc, jc⟩
 refine T.sG.F.ok sc (fun vs H Q E h=>?_) (fun cdv A outer s H0 vs Q E hr h=>?_)
 ·obtain ⟨_,_,_,rfl,_⟩:=h
  rfl
 obtain ⟨m,Y,Z,rfl,aB,aC,k⟩:=h
 refine ⟨_,(je (jF (i:=1) sc.nd rfl (Or.inl rfl) (pe_lst iH)) (je (ps_for PassesOwn.never rfl (pi_list (pe_callB (JM (K:=K) (P:=P) (w:=w) jf jf jf jf) jf T.Gr jc (ig (pe_callTy (Mv (K:=K) (P:=P) (w:=w) jf jf jf jf hr.units) jf T.Q6 jc (ig (pv 0) iH)) iH))) (pg_tup (n:=2) jf (pgs_cons (pg_name (i:=2) sc.nd rfl (Or.inl rfl)) (pgs_cons (pg_name (i:=3) sc.nd rfl (Or.inl rfl)) pgs_nil))) (i_ (ps_if (PW.pt (pw_and (jN (op_neD hr.units) (pv 1) (pe_lst iH) (by first | exact jw _ | rfl)) (pw_and (jN op_eq (pe_ix ix_tup (pe_ix ix_list (pv 1) (pe_un un_neg iK) (fun _ _=>rfl)) iK (fun _ _=>rfl)) (pv 2) (by first | exact jw _ | rfl)) (pw_and1 (jN op_eq (pe_ix ix_tup (pe_ix ix_list (pv 1) (pe_un un_neg iK) (fun _ _=>rfl)) iK (fun _ _=>rfl)) (pv 3) (by first | exact jw _ | rfl)))))) (i_ (ps_asg (pe_tup (ig (pv 2) (ig (pe_ix ix_tup (pe_ix ix_list (pv 1) (pe_un un_neg iK) (fun _ _=>rfl)) iK (fun _ _=>rfl)) (ig (pe_op op_add (pv 3) iK) iH)))) (pg_sub (pv 1) (pe_un un_neg iK) set_list))) (i_ (ps_expr (pe_bm vp v7 v8 mt_append (pv 1) (ig (pe_tup (ig (pv 2) (ig (pv 3) (ig (pe_op op_add (pv 3) iK) iH)))) iH))))))) (i_ (jJ (pv 1))))),?_⟩
 have z:Step [] m H0 m H0:=Step.refl aB
 unfold rY at k
 refine jd (jU (pC (lM.go jm ?_)))
 refine lW lK z.wf fun l aD aE aF aG aH aI=>?_
 have aJ:=z.fresh aI
 have o:=z.pB aF
 have p:Own (mV jV jB jB) H0 aD aE l [] ([]:List (PySem.Str×Int×Int)):=⟨aG,aH,trivial,aJ⟩
 refine uf (iY (jd (wB (yr (Ba (jg (Ba (lM.go (iQ (iw rfl) jm) ?_))))))))
 obtain ⟨aK,k⟩:=k.chk
 refine Gh (H0:=H0) Uu (o.YL aC).b o.wf (fun _ n=>o.fresh n) aK fun q B bF bG aL aa d=>?_
 have r:l≠q:=kW p.obj aL
 have aM:=o.pB aa
 have p:=p.step0 aa
 refine yt ((.inl (.inl d.obj))) ?_
 refine Ua (A:=(wu jV jB)) (a:=q) (us:=B) (s0:=((([]:List (PySem.Str×Int×Int))):List (PySem.Str×Int×Int))) k (fun (t:List (PySem.Str×Int×Int)) (c:Cl) (H:Hp) (σ:L2.St)=>∃ (u:List V) (v:Option V) (x:Option V),σ=[some Y,some (V.ref l),v,x]∧Step [] m H0 c H∧Own (mV jV jB jB) H0 c H l u t∧Own (wu jV jB) H0 c H q B (wA zL (uniq Z))) ⟨_,_,_,rfl,aM,p,d⟩ ?_ ?_ ?_
 ·exact fun s c H σ ⟨u,v,x,_,g,_,hit⟩=>⟨.inl (.inl hit.obj),hit.rs⟩
 ·intro t f bH bI bJ σ N i aN k
  obtain ⟨u,v,x,rfl,C,e,d⟩:=i
  obtain ⟨bK,bL,aO,aP,aQ,D,F⟩:=K8 aN
  subst aP
  refine KN aQ rfl ?_
  obtain ⟨D,y⟩:=D
  subst D
  refine qG (qJ ?_)
  have F:aO=(V.int f.2):=F
  subst F
  refine qG (rE (G_ ?_))
  refine wD k (fun (ab:List (PySem.Str×Int×Int)) (c:Cl) (H:Hp) (σ:L2.St)=>∃ (ac:List V),σ=[some Y,some (V.ref l),some (V.str f.1),some (V.int f.2)]∧Step [] m H0 c H∧Own (mV jV jB jB) H0 c H l ac ab∧Own (wu jV jB) H0 c H q B (wA zL (uniq Z))) ?_ ?_
  rotate_left
  ·intro k
   refine qF (yu (sO (mZ (Pv.go (iw rfl) (pC (lM.go jm ?_))))))
   refine lW lK C.wf fun aR aS aT G aU aV aW=>?_
   have aX:=C.fresh aW
   have j:=C.pB G
   have e:=e.step0 G
   have d:=d.step0 G
   have aY:Own (mV jV jB jB) H0 aS aT aR [] ([]:List (PySem.Str×Int×Int)):=⟨aU,aV,trivial,aX⟩
   refine (A_ e.b aY.b iW) _ ?_
   refine ⟨_,rfl,?_⟩
   refine jM (b:=(!decide (t=([]:List (PySem.Str×Int×Int))))) (fun I=>?_) (fun I=>?_)
   ·have k:=k.o8 I
    refine yu ?_
    obtain ⟨aZ,a0,k⟩:=k.opt
    obtain ⟨bM,a1,a2⟩:=tR e.b a0
    obtain ⟨bN,J,a3⟩:=Uk a1
    obtain ⟨J,bO⟩:=J
    subst J
    refine oG.go (oH (jt (jt (jt (iw rfl) (wC iT) (a2)) iT (a3)) (iw rfl) Rj)) ?_
    refine jM (b:=(decide (aZ.1=f.1))) (fun L=>?_) (fun L=>?_)
    ·have k:=k.o8 L
     obtain ⟨ad,a4,k⟩:=k.opt
     obtain ⟨bP,a5,a6⟩:=tR e.b a4
     obtain ⟨a7,M,a8⟩:=Um a5
     have M:a7=(V.int ad.2.2):=M
     subst M
     refine oG.go (oH (jt (jt (jt (iw rfl) (wC iT) (a6)) iT (a8)) (iw rfl) xU)) ?_
     refine jM (b:=(decide (ad.2.2=f.2))) (fun O=>?_) (fun O=>?_)
     ·have k:=k.o8 O
      refine jU (tO ?_)
      obtain ⟨ae,a9,k⟩:=k.opt
      obtain ⟨bQ,a_,ba⟩:=tR e.b a9
      obtain ⟨bb,R,bc⟩:=Ul a_
      have R:bb=(V.int ae.2.1):=R
      subst R
      refine lM.go (iQ (iw rfl) (iQ (jt (jt (iw rfl) (wC iT) (ba)) iT (bc)) (iQ (jt (iw rfl) iT jW) jm))) ?_
      refine nO lK j.wf fun af bd be S bf bg bR=>?_
      have ag:=j.pB S
      have e:=e.step0 S
      have d:=d.step0 S
      have bh:(mV jV jB jB).r bd be (V.ref af) (f.1,ae.2.1,(f.2+(1:Int))):=⟨af,_,_,_,rfl,bf,.inl bg,⟨rfl,y⟩,rfl,rfl⟩
      refine DQ (Pv.go (iw rfl) (Pv.go (wC iT) ?_))
      obtain ⟨bS,bi,k⟩:=k.opt
      refine Oe e ag.wf bh bi fun bT ah ai=>?_
      have aj:=ag.tr1 ah (.inr ai.new)
      have d:=d.step1 ah (iZ r)
      exact k.done aj _ ⟨_,rfl,aj,ai,d⟩
     rw [jh O] at k
     refine oM (xV (Pv.go (iw rfl) ?_))
     refine ⟨ty_list (.inl e.obj),?_⟩
     refine jg (tO (lM.go (iQ (iw rfl) (iQ (iw rfl) (iQ (jt (iw rfl) iT jW) jm))) ?_))
     refine nO lK j.wf fun ak bj bk U bl bm bU=>?_
     have al:=j.pB U
     have e:=e.step0 U
     have d:=d.step0 U
     have bn:(mV jV jB jB).r bj bk (V.ref ak) (f.1,f.2,(f.2+(1:Int))):=⟨ak,_,_,_,rfl,bl,.inl bm,⟨rfl,y⟩,rfl,rfl⟩
     refine lg ?_
     obtain ⟨bo,k⟩:=k.chk
     refine mW e al.wf bn (jQ bo) fun bV am an=>?_
     have ao:=al.tr1 am (.inr an.new)
     have d:=d.step1 am (iZ r)
     exact k.done ao _ ⟨_,rfl,ao,an,d⟩
    rw [jh L] at k
    refine oM (xV (Pv.go (iw rfl) ?_))
    refine ⟨ty_list (.inl e.obj),?_⟩
    refine jg (tO (lM.go (iQ (iw rfl) (iQ (iw rfl) (iQ (jt (iw rfl) iT jW) jm))) ?_))
    refine nO lK j.wf fun ap bp bq W br bs bW=>?_
    have aq:=j.pB W
    have e:=e.step0 W
    have d:=d.step0 W
    have bt:(mV jV jB jB).r bp bq (V.ref ap) (f.1,f.2,(f.2+(1:Int))):=⟨ap,_,_,_,rfl,br,.inl bs,⟨rfl,y⟩,rfl,rfl⟩
    refine lg ?_
    obtain ⟨bu,k⟩:=k.chk
    refine mW e aq.wf bt (jQ bu) fun bX ar as=>?_
    have au:=aq.tr1 ar (.inr as.new)
    have d:=d.step1 ar (iZ r)
    exact k.done au _ ⟨_,rfl,au,as,d⟩
   rw [jh I] at k
   refine oM (xV (Pv.go (iw rfl) ?_))
   refine ⟨ty_list (.inl e.obj),?_⟩
   refine jg (tO (lM.go (iQ (iw rfl) (iQ (iw rfl) (iQ (jt (iw rfl) iT jW) jm))) ?_))
   refine nO lK j.wf fun av bv bw X bx bz bY=>?_
   have aw:=j.pB X
   have e:=e.step0 X
   have d:=d.step0 X
   have bA:(mV jV jB jB).r bv bw (V.ref av) (f.1,f.2,(f.2+(1:Int))):=⟨av,_,_,_,rfl,bx,.inl bz,⟨rfl,y⟩,rfl,rfl⟩
   refine lg ?_
   obtain ⟨bB,k⟩:=k.chk
   refine mW e aw.wf bA (jQ bB) fun bZ ax ay=>?_
   have az:=aw.tr1 ax (.inr ay.new)
   have d:=d.step1 ax (iZ r)
   exact k.done az _ ⟨_,rfl,az,ay,d⟩
  intro ab b0 b1 σ i k
  obtain ⟨ac,rfl,aA,bC,d⟩:=i
  refine iY ?_
  exact (k.done aA) _ ⟨_,_,_,rfl,aA,bC,d⟩
 intro t b2 b3 σ i k
 obtain ⟨u,v,x,rfl,bD,bE,d⟩:=i
 refine iY (jT (Pv.go (iw rfl) ?_))
 exact (k.done bD) _ ⟨_,_,rfl,bE⟩
theorem CN:FnOk P w K mg base CX0 3 a.oY a.xT ["_law_state_here", "_law_many"] (Cz K a):=by
 have sc:FnScope ["_law_state_here", "_law_many", "_law_cells_here", "_law_k", "_law_piece", "_law_begin", "_law_end_here", "_law_j"] ["_law_state_here", "_law_many"] (defScope o9):=⟨rfl, rfl, rfl, jc, rfl, jc, jc⟩
 refine T.oY.F.ok sc (fun vs H Q E h=>?_) (fun cdv A outer s H0 vs Q E hr h=>?_)
 ·obtain ⟨_,_,_,_,_,rfl,_⟩:=h
  rfl
 obtain ⟨y,e,aB,aC,C,rfl,aD,f,D,k⟩:=h
 refine ⟨_, (je (jF (i:=2) sc.nd rfl (Or.inl rfl) (pe_lst iH)) (je (ps_for PassesOwn.never rfl (pi_range1 jf T.sY (ig (pe_op op_add iK (jy (ju T ND) hr jf T.iG.g T.iG.F.kp T.iG.b .nil jj (ig (pv 0) (ig (pv 1) iH)))) iH)) (pg_name (i:=3) sc.nd rfl (Or.inl rfl)) (je (jF (i:=4) sc.nd rfl (Or.inr rfl) (pe_ix ix_list (pe_lst (ig pe_str (ig pe_str (ig pe_str iH)))) (jy (ju T ND) hr jf T.iG.g T.iG.F.kp T.iG.b .nil jj (ig (pv 0) (ig iK iH))) (fun _ _=>rfl))) (je (jF (i:=5) sc.nd rfl (Or.inl rfl) (jy (ju T ND) hr jf T.iG.g T.iG.F.kp T.iG.b .nil jj (ig (pv 0) (ig iK iH)))) (je (jF (i:=6) sc.nd rfl (Or.inl rfl) (pe_op op_add (pe_op op_add (pv 5) iK) (jy (ju T ND) hr jf T.iG.g T.iG.F.kp T.iG.b .nil jj (ig (pv 0) (ig iK iH))))) (i_ (jF (i:=2) sc.nd rfl (Or.inl rfl) (pe_op op_cat (pv 2) (pe_lc jf sc.nd (pi_range2 jf T.sY (ig (pv 5) (ig (pv 6) iH))) (blkOk_by (own:=[("_law_j", 7)]) (N:=["_law_state_here", "_law_many", "_law_cells_here", "_law_k", "_law_piece", "_law_begin", "_law_end_here", "_law_j"]) (sc:=defScope o9) jc) (fun _ _ _ _ _=>(pg_name (i:=7) sc.nd rfl (Or.inl rfl))) (fun _ _ _ _ _=>pts_nil) (fun _ _ _ _ _=>(pe_tup (ig (pv 4) (ig (pv 7) iH)))))))))))) (i_ (jJ (jy (Gz T ND) (hr.mono iW) jf T.sG.g T.sG.F.kp T.sG.b .nil jj (ig (pv 2) iH)))))), ?_⟩
 have D:aC=(V.int C):=D
 subst D
 have F:Step [e] y H0 y H0:=Step.refl aD
 unfold qN at k
 refine jd (jU (pC (lM.go jm ?_)))
 refine lW lK F.wf fun u ab aE ac aF aG ad=>?_
 have aH:e≠u:=Mu.ne iU f ad
 have aI:=F.fresh ad
 have aJ:=F.pB ac
 have f:=Mu.iD iU ac f
 have ae:Own (wu jV jB) H0 ab aE u [] ([]:List (PySem.Str×Int)):=⟨aF,aG,trivial,aI⟩
 have G:=ae.frz
 have af:=aJ.frz (p:=u) ae.new
 have f:=Mu.pA iU f aH
 refine qJ (iY (jd (wB (vA (jg (mZ (Pv.go iT (jA (lM.go (iQ (iw rfl) (iQ (iw rfl) jm)) ?_)))))))))
 refine ⟨(frz ab u),_,aB,_,C,rfl,af.wf,f,rfl,?_⟩
 refine Kont.call k af (fun r z=>by rcases jD.mp z with rfl; exact (.inl j6)) (fun ag br k bs bt aK aL aM j=>?_) (fun _ _ _ _ _ _ z=>z)
 obtain ⟨j,aN⟩:=j
 have j:aM=(V.int ag.1):=j
 subst j
 have G:=lift G aK
 refine jW _ (lg ?_)
 obtain ⟨aO,k⟩:=k.chk
 refine vB aO ?_
 refine DW (s0:=((ag.2,([]:List (PySem.Str×Int))):mj×List (PySem.Str×Int))) k (fun (g:mj×List (PySem.Str×Int)) (c:Cl) (H:Hp) (σ:L2.St)=>∃ (v:V) (I:Option V) (J:Option V) (L:Option V) (M:Option V),σ=[some (V.ref e),some (V.int C),some v,I,J,L,M,none]∧Step [e] y H0 c H∧iU.r c H e g.1∧(uK (wu jV jB)).r c H v g.2) ⟨_,_,_,_,_,rfl,aL,aN,G⟩ ?_ ?_
 ·intro g bu bv bw σ N i k
  obtain ⟨v,I,J,L,M,rfl,O,x,b⟩:=i
  refine rE (jd (jU (mZ (pC (lM.go (iQ iT (iQ iT (iQ iT jm))) ?_)))))
  refine lW lK O.wf fun ah ai aP R aQ aR aj=>?_
  have aS:e≠ah:=Mu.ne iU x aj
  have aT:=O.fresh aj
  have ak:=O.pB R
  have x:=Mu.iD iU R x
  have b:=lift b R
  have S:Own jV H0 ai aP ah [(V.str ("a" : jO)), (V.str ("b" : jO)), (V.str ("c1" : jO))] ([("a" : jO), ("b" : jO), ("c1" : jO)]:List PySem.Str):=⟨aQ, aR, ⟨⟨rfl, (show PyData.strOk ("a" : jO)=true by decide +kernel)⟩, ⟨⟨rfl, (show PyData.strOk ("b" : jO)=true by decide +kernel)⟩, ⟨⟨rfl, (show PyData.strOk ("c1" : jO)=true by decide +kernel)⟩, trivial⟩⟩⟩, aT⟩
  refine jA (lM.go (iQ (iw rfl) (iQ iT jm)) ?_)
  refine ⟨ai,_,g.1,_,(3:Int),rfl,ak.wf,x,rfl,?_⟩
  refine Kont.call k ak (fun r z=>by rcases jD.mp z with rfl; exact (.inl j6)) (fun al bx k aU bz am an aV l=>?_) (fun _ _ _ _ _ _ z=>z)
  obtain ⟨l,aW⟩:=l
  have l:aV=(V.int al.1):=l
  subst l
  have b:=lift b am
  have S:=S.step1 am (iZ aS)
  obtain ⟨aX,aY,k⟩:=k.opt
  obtain ⟨bA,U,aZ⟩:=tR S.b aY
  obtain ⟨U,a0⟩:=U
  subst U
  refine aZ _ (sV (iY (jd (jU (jA (lM.go (iQ (iw rfl) (iQ iT jm)) ?_))))))
  refine ⟨aU,_,al.2,_,(30:Int),rfl,an.wf,aW,rfl,?_⟩
  refine Kont.call k an (fun r z=>by rcases jD.mp z with rfl; exact (.inl j6)) (fun m bB k a1 bC a2 ao a3 o=>?_) (fun _ _ _ _ _ _ z=>z)
  obtain ⟨o,a4⟩:=o
  have o:a3=(V.int m.1):=o
  subst o
  have b:=lift b a2
  refine vH (iY (jd (jU (mZ (Pv.go (jt (iw rfl) iT jW) (jA (lM.go (iQ (iw rfl) (iQ iT jm)) ?_)))))))
  refine ⟨a1,_,m.2,_,(12:Int),rfl,ao.wf,a4,rfl,?_⟩
  refine Kont.call k ao (fun r z=>by rcases jD.mp z with rfl; exact (.inl j6)) (fun ap bD k bE bF a5 aq a6 q=>?_) (fun _ _ _ _ _ _ z=>z)
  obtain ⟨q,d⟩:=q
  have q:a6=(V.int ap.1):=q
  subst q
  have b:=lift b a5
  refine jW _ (yH (iY (jU (mZ (Pv.go (iw rfl) (K_ (Oh (lM.go (iQ (iw rfl) (iQ (iw rfl) jm)) ?_))))))))
  obtain ⟨a7,k⟩:=k.chk
  obtain ⟨a8,k⟩:=k.chk
  refine Oi a7 a8 ?_
  obtain ⟨a9,k⟩:=k.chk
  refine Jh (A:=jB) (B:=(wu jV jB)) (xs:=(rng m.1 (((m.1+(1:Int))+ap.1) - m.1).toNat)) k aq a9 (fun _ _ _=>QG) ?_ ?_
  ·intro ar a_ as au Qe Qn bG gi_ W k
   have av:Step [] as au as au:=Step.refl gi_.wf
   have W:a_=V.int ar:=W
   subst W
   refine yj ?_
   refine ⟨rfl,KQ ?_⟩
   refine tO (lM.go (iQ (iw rfl) (iQ (iw rfl) jm)) ?_)
   refine nO lK av.wf fun aw ba bb bc bd be bH=>?_
   have bf:=av.pB bc
   have bg:(wu jV jB).r ba bb (V.ref aw) (aX,ar):=⟨aw,_,_,rfl,bd,be,⟨rfl,a0⟩,rfl⟩
   exact (k.done bf) _ bg
  intro bI bJ bK bL bM bN X bh k
  have Y:=aq.pB X
  have d:=Mu.iD iU X d
  have b:=lift b X
  obtain ⟨bi,k⟩:=k.chk
  refine Uj (H0:=H0) (Qw b) bh.pl Y.wf (fun _ n=>Y.fresh n) (jQ bi) fun ax bO bP bQ bj ay az=>?_
  have bk:e≠ax:=Mu.ne iU d bj
  have bl:=Y.pB ay
  have d:=Mu.iD iU ay d
  have bm:=az.frz
  have aA:=bl.frz (p:=ax) az.new
  have d:=Mu.pA iU d bk
  refine qJ (iY ?_)
  exact (k.done aA) _ ⟨_,_,_,_,_,rfl,aA,d,bm⟩
 intro g bn bR σ i k
 obtain ⟨v,I,J,L,M,rfl,Z,aa,bo⟩:=i
 refine iY (jT (jA (lM.go (iQ (iw rfl) jm) ?_)))
 refine ⟨bn,_,g.2,rfl,Z.wf,(Qw bo),?_⟩
 refine Kont.call k Z (fun _ z=>by cases z) (fun bS bT k bU bV bp bq bW t=>?_) (fun _ _ _ _ _ _ z=>z)
 obtain ⟨bX,bY,rfl,t⟩:=t
 have t:=t.base Z
 have aa:=Mu.iD iU bp aa
 exact (k.done bq) _ ⟨⟨_,_,rfl,t⟩,aa⟩
theorem vK:FnOk P w K mg base CX0 3 a.mO a.BJ ["_law_state_here"] (Ii K a):=by
 have sc:FnScope ["_law_state_here"] ["_law_state_here"] (defScope u9):=⟨rfl, rfl, rfl, jc, rfl, jc, jc⟩
 refine T.mO.F.ok sc (fun vs H Q E h=>?_) (fun cdv A outer s H0 vs Q E hr h=>?_)
 ·obtain ⟨_,_,_,rfl,_⟩:=h
  rfl
 obtain ⟨l,p,D,rfl,F,G,k⟩:=h
 refine ⟨_,(i_ (jJ (pe_ix ix_list (pe_lst (ig (jy (ju T ND) hr jf T.iG.g T.iG.F.kp T.iG.b .nil jj (ig (pv 0) (ig iK iH))) (ig (jy (ju T ND) hr jf T.iG.g T.iG.F.kp T.iG.b .nil jj (ig (pv 0) (ig iK iH))) (ig (pe_op op_sub iK (jy (ju T ND) hr jf T.iG.g T.iG.F.kp T.iG.b .nil jj (ig (pv 0) (ig iK iH)))) iH)))) (jy (ju T ND) hr jf T.iG.g T.iG.F.kp T.iG.b .nil jj (ig (pv 0) (ig iK iH))) (fun _ _=>rfl)))),?_⟩
 have q:Step [p] l H0 l H0:=Step.refl F
 unfold nD at k
 refine jT (mZ (pC (jg (jA (lM.go (iQ (iw rfl) (iQ iT jm)) ?_)))))
 refine ⟨l,_,D,_,(12:Int),rfl,q.wf,G,rfl,?_⟩
 refine Kont.call k q (fun r z=>by rcases jD.mp z with rfl; exact (.inl j6)) (fun f ai k I aj ak t J b=>?_) (fun _ _ _ _ _ _ z=>z)
 obtain ⟨b,L⟩:=b
 have b:J=(V.int f.1):=b
 subst b
 refine jg (jA (lM.go (iQ (iw rfl) (iQ iT jm)) ?_))
 refine ⟨I,_,f.2,_,(12:Int),rfl,t.wf,L,rfl,?_⟩
 refine Kont.call k t (fun r z=>by rcases jD.mp z with rfl; exact (.inl j6)) (fun g al k M am an u N c=>?_) (fun _ _ _ _ _ _ z=>z)
 obtain ⟨c,O⟩:=c
 have c:N=(V.int g.1):=c
 subst c
 refine jg (mZ (Pv.go iT (jA (lM.go (iQ (iw rfl) (iQ iT jm)) ?_))))
 refine ⟨M,_,g.2,_,(3:Int),rfl,u.wf,O,rfl,?_⟩
 refine Kont.call k u (fun r z=>by rcases jD.mp z with rfl; exact (.inl j6)) (fun i ao k ap aq ar m R d=>?_) (fun _ _ _ _ _ _ z=>z)
 obtain ⟨d,j⟩:=d
 have d:R=(V.int i.1):=d
 subst d
 refine jW _ (lg ?_)
 refine lW lK m.wf fun v x S y U W B=>?_
 have X:p≠v:=Mu.ne iU j B
 have Y:=m.fresh B
 have C:=m.pB y
 have j:=Mu.iD iU y j
 have n:Own jB H0 x S v [(V.int f.1),(V.int g.1),(V.int ((1000000:Int) - i.1))] ([f.1,g.1,((1000000:Int) - i.1)]:List Int):=⟨U,W,⟨rfl,⟨rfl,⟨rfl,trivial⟩⟩⟩,Y⟩
 refine jA (lM.go (iQ (iw rfl) (iQ iT jm)) ?_)
 refine ⟨x,_,i.2,_,(3:Int),rfl,C.wf,j,rfl,?_⟩
 refine Kont.call k C (fun r z=>by rcases jD.mp z with rfl; exact (.inl j6)) (fun Z as k au av aa ab ac e=>?_) (fun _ _ _ _ _ _ z=>z)
 obtain ⟨e,ad⟩:=e
 have e:ac=(V.int Z.1):=e
 subst e
 have n:=n.step1 aa (iZ X)
 obtain ⟨ae,af,k⟩:=k.opt
 obtain ⟨ag,o,ah⟩:=tR n.b af
 have o:ag=(V.int ae):=o
 subst o
 refine ah _ ?_
 exact (k.done ab) _ ⟨rfl,ad⟩
theorem yP:FnOk P w K mg base CX0 3 a.nu a.yM ["_law_state_here"] (Eu K a):=by
 have sc:FnScope ["_law_state_here", "_law_signs", "_law_size", "_law_word", "_law_pick", "_law_at", "_law_k"] ["_law_state_here"] (defScope qd):=⟨rfl, rfl, rfl, jc, rfl, jc, jc⟩
 refine T.nu.F.ok sc (fun vs H Q E h=>?_) (fun cdv A outer s H0 vs Q E hr h=>?_)
 ·obtain ⟨_,_,_,rfl,_⟩:=h
  rfl
 obtain ⟨x,p,an,rfl,ao,ap,k⟩:=h
 refine ⟨_, (je (jF (i:=1) sc.nd rfl (Or.inr rfl) pe_str) (je (jF (i:=2) sc.nd rfl (Or.inl rfl) (pe_ix ix_list (pe_lst (ig iK (ig iK (ig iK (ig (pe_op op_add iK (jy (ju T ND) hr jf T.iG.g T.iG.F.kp T.iG.b .nil jj (ig (pv 0) (ig iK iH)))) iH))))) (jy (ju T ND) hr jf T.iG.g T.iG.F.kp T.iG.b .nil jj (ig (pv 0) (ig iK iH))) (fun _ _=>rfl))) (je (jF (i:=3) sc.nd rfl (Or.inl rfl) (Lr (K:=K) jf pe_str (pe_lc jf sc.nd (pi_range1 jf T.sY (ig (pv 2) iH)) (blkOk_by (own:=[("_law_k", 6)]) (N:=["_law_state_here", "_law_signs", "_law_size", "_law_word", "_law_pick", "_law_at", "_law_k"]) (sc:=defScope qd) jc) (fun _ _ _ _ _=>(pg_name (i:=6) sc.nd rfl (Or.inl rfl))) (fun _ _ _ _ _=>pts_nil) (fun _ _ _ _ _=>(pe_ix ix_str (pv 1) (jy (ju T ND) hr jf T.iG.g T.iG.F.kp T.iG.b .nil jj (ig (pv 0) (ig iK iH))) (fun _ _=>rfl)))))) (je (jF (i:=4) sc.nd rfl (Or.inl rfl) (jy (ju T ND) hr jf T.iG.g T.iG.F.kp T.iG.b .nil jj (ig (pv 0) (ig iK iH)))) (je (ps_if (jN op_eq (pv 4) iK (by first | exact jw _ | rfl)) (i_ (jJ (pe_ix ix_list (pe_lst (ig pe_str (ig (pe_op op_add_str (pv 3) pe_str) iH))) (jy (ju T ND) hr jf T.iG.g T.iG.F.kp T.iG.b .nil jj (ig (pv 0) (ig iK iH))) (fun _ _=>rfl)))) pss_nil) (je (ps_if (jN op_eq (pv 4) iK (by first | exact jw _ | rfl)) (je (jF (i:=5) sc.nd rfl (Or.inl rfl) (jy (ju T ND) hr jf T.iG.g T.iG.F.kp T.iG.b .nil jj (ig (pv 0) (ig (pv 2) iH)))) (je (jF (i:=1) sc.nd rfl (Or.inr rfl) pe_str) (i_ (jJ (pe_op op_add_str (pe_op op_add_str (pe_slice sl_str (pv 3) po_none (po_some (pv 5))) (pe_ix ix_str (pv 1) (jy (ju T ND) hr jf T.iG.g T.iG.F.kp T.iG.b .nil jj (ig (pv 0) (ig (pe_callB call_len_str jf T.qu nM (ig (pv 1) iH)) iH))) (fun _ _=>rfl))) (pe_slice sl_str (pv 3) (po_some (pe_op op_add (pv 5) iK)) po_none)))))) pss_nil) (i_ (jJ (pv 3))))))))), ?_⟩
 have R:Step [p] x H0 x H0:=Step.refl ao
 unfold ou at k
 refine jd (jU (Pv.go iT (uf (iY (jd (jU (mZ (pC (jg (Pv.go iT (jg (Pv.go iT (jg (Pv.go iT (jg (mZ (Pv.go iT (jA (lM.go (iQ (iw rfl) (iQ iT jm)) ?_)))))))))))))))))))
 refine ⟨x,_,an,_,(12:Int),rfl,R.wf,ap,rfl,?_⟩
 refine Kont.call k R (fun r z=>by rcases jD.mp z with rfl; exact (.inl j6)) (fun q bl k bm bn bo y aq f=>?_) (fun _ _ _ _ _ _ z=>z)
 obtain ⟨f,t⟩:=f
 have f:aq=(V.int q.1):=f
 subst f
 refine jW _ (lg ?_)
 refine lW lK y.wf fun S U ar W as au X=>?_
 have av:p≠S:=Mu.ne iU t X
 have aw:=y.fresh X
 have Y:=y.pB W
 have t:=Mu.iD iU W t
 have C:Own jB H0 U ar S [(V.int (1:Int)),(V.int (4:Int)),(V.int (12:Int)),(V.int ((1:Int)+q.1))] ([(1:Int),(4:Int),(12:Int),((1:Int)+q.1)]:List Int):=⟨as,au,⟨rfl,⟨rfl,⟨rfl,⟨rfl,trivial⟩⟩⟩⟩,aw⟩
 refine jA (lM.go (iQ (iw rfl) (iQ iT jm)) ?_)
 refine ⟨U,_,q.2,_,(4:Int),rfl,Y.wf,t,rfl,?_⟩
 refine Kont.call k Y (fun r z=>by rcases jD.mp z with rfl; exact (.inl j6)) (fun ax bp k bq br ay Z az g=>?_) (fun _ _ _ _ _ _ z=>z)
 obtain ⟨g,aA⟩:=g
 have g:az=(V.int ax.1):=g
 subst g
 have C:=C.step1 ay (iZ av)
 obtain ⟨D,aB,k⟩:=k.opt
 obtain ⟨aC,F,aD⟩:=tR C.b aB
 have F:aC=(V.int D):=F
 subst F
 refine aD _ (qJ (iY (jd (jU (Ux iT (K_ (vA (lM.go (iQ (iw rfl) jm) ?_))))))))
 obtain ⟨aE,k⟩:=k.chk
 refine vB aE ?_
 obtain ⟨aF,k⟩:=k.chk
 refine Ov (A:=jB) (B:=jV) (xs:=(rng 0 D.toNat)) iU k Z aF (.inl j6) aA (fun _ _ _=>QG) ?_ ?_
 ·intro aG aH aI G aa Qe Qn bs gi_ aJ I k
  have ab:Step [p] G aa G aa:=Step.refl gi_.wf
  have I:aI=V.int aH:=I
  subst I
  refine yj ?_
  refine ⟨rfl,KQ ?_⟩
  refine mZ (Pv.go (iw rfl) (jA (lM.go (iQ (iw rfl) (iQ iT jm)) ?_)))
  refine ⟨G,_,aG,_,(36:Int),rfl,ab.wf,aJ,rfl,?_⟩
  refine Kont.call k ab (fun r z=>by rcases jD.mp z with rfl; exact (.inl j6)) (fun aK bt k bu bv bw aL aM j=>?_) (fun _ _ _ _ _ _ z=>z)
  obtain ⟨j,aN⟩:=j
  have j:aM=(V.int aK.1):=j
  subst j
  obtain ⟨aO,k⟩:=k.chk
  obtain ⟨bx,ac,k⟩:=k.opt
  refine (KC (jQ aO) ac) _ ?_
  exact (k.done aL) _ ⟨rfl, (QD (show PyData.strOk ("abcdefghijklmnopqrstuvwxyz0123456789" : jO)=true by decide +kernel) ac)⟩ aN
 intro u bz bA aP bB bC aQ ad aR k
 have ae:=Z.tr1 aQ (.inl j6)
 obtain ⟨aS,k⟩:=k.chk
 have v:∀ x_∈u.1,PyData.strOk x_=true:=Uw (K:=K) ad.b
 refine Lq (K:=K) ad.b (jQ aS) (rE (iY (jd (jU (jA (lM.go (iQ (iw rfl) (iQ iT jm)) ?_))))))
 refine ⟨aP,_,u.2,_,(24:Int),rfl,ae.wf,aR,rfl,?_⟩
 refine Kont.call k ae (fun r z=>by rcases jD.mp z with rfl; exact (.inl j6)) (fun c bD k aT bE bF d aU l=>?_) (fun _ _ _ _ _ _ z=>z)
 obtain ⟨l,e⟩:=l
 have l:aU=(V.int c.1):=l
 subst l
 refine sV (iY (jd ?_))
 refine oG.K7 (b:=(decide (c.1=(0:Int)))) ?_ (fun J=>?_) (fun J=>?_)
 ·exact (show oG _ _ _ (decide (c.1=(0:Int))) from (oH (jt (iw rfl) iT xU)))
 ·have k:=k.o8 J
  refine jT (mZ (pC ?_))
  obtain ⟨aV,k⟩:=k.chk
  refine lM.go (iQ iT (iQ (jt (iw rfl) iT (N8 (jQ aV))) jm)) ?_
  refine lW lK d.wf fun af ag aW ah aX aY ai=>?_
  have aZ:p≠af:=Mu.ne iU e ai
  have a0:=d.fresh ai
  have aj:=d.pB ah
  have e:=Mu.iD iU ah e
  have L:Own jV H0 ag aW af [(V.str ("" : jO)), (V.str ((oE ("" : jO) u.1)++("abcdefghijkl" : jO)))] ([("" : jO), ((oE ("" : jO) u.1)++("abcdefghijkl" : jO))]:List PySem.Str):=⟨aX, aY, ⟨⟨rfl, (show PyData.strOk ("" : jO)=true by decide +kernel)⟩, ⟨⟨rfl, (Hh (Ai (show PyData.strOk ("" : jO)=true by decide +kernel) v) (show PyData.strOk ("abcdefghijkl" : jO)=true by decide +kernel))⟩, trivial⟩⟩, a0⟩
  refine jA (lM.go (iQ (iw rfl) (iQ iT jm)) ?_)
  refine ⟨ag,_,c.2,_,(2:Int),rfl,aj.wf,e,rfl,?_⟩
  refine Kont.call k aj (fun r z=>by rcases jD.mp z with rfl; exact (.inl j6)) (fun a1 bG k bH bI a2 a3 a4 m=>?_) (fun _ _ _ _ _ _ z=>z)
  obtain ⟨m,a5⟩:=m
  have m:a4=(V.int a1.1):=m
  subst m
  have L:=L.step1 a2 (iZ aZ)
  obtain ⟨bJ,a6,k⟩:=k.opt
  obtain ⟨bK,M,a7⟩:=tR L.b a6
  obtain ⟨M,a8⟩:=M
  subst M
  refine a7 _ ?_
  exact (k.done a3) _ ⟨⟨rfl,a8⟩,a5⟩
 rw [jh J] at k
 refine jX (iY (jd ?_))
 refine oG.K7 (b:=(decide (c.1=(1:Int)))) ?_ (fun O=>?_) (fun O=>?_)
 ·exact (show oG _ _ _ (decide (c.1=(1:Int))) from (oH (jt (iw rfl) iT xU)))
 ·have k:=k.o8 O
  refine jd (jU (jA (lM.go (iQ (iw rfl) (iQ (iw rfl) jm)) ?_)))
  refine ⟨aT,_,c.2,_,D,rfl,d.wf,e,rfl,?_⟩
  refine Kont.call k d (fun r z=>by rcases jD.mp z with rfl; exact (.inl j6)) (fun ak bL k a9 bM bN al a_ n=>?_) (fun _ _ _ _ _ _ z=>z)
  obtain ⟨n,ba⟩:=n
  have n:a_=(V.int ak.1):=n
  subst n
  refine vH (iY (jd (jU (Pv.go iT (uf (iY (jT (mZ (mZ ?_)))))))))
  obtain ⟨bb,k⟩:=k.chk
  refine Pv.go (Ur (iw rfl) Rh (Ri (iw rfl)) (jQ bb)) (mZ (Pv.go (iw rfl) (jA ?_)))
  obtain ⟨bc,k⟩:=k.chk
  refine lM.go (iQ (iw rfl) (iQ (uV (iQ (iw rfl) jm) (DP (jQ bc))) jm)) ?_
  refine ⟨a9, _, ak.2, _, (("AEVZ -_.+@:=`{/;,~[]|^!#$&*()?<>\"'\\}\n\t" : jO).length:Int), rfl, al.wf, ba, rfl, ?_⟩
  refine Kont.call k al (fun r z=>by rcases jD.mp z with rfl; exact (.inl j6)) (fun bd bO k bP bQ bR be bf o=>?_) (fun _ _ _ _ _ _ z=>z)
  obtain ⟨o,bg⟩:=o
  have o:bf=(V.int bd.1):=o
  subst o
  obtain ⟨bh,k⟩:=k.chk
  obtain ⟨bS,am,k⟩:=k.opt
  refine (KC (jQ bh) am) _ ?_
  obtain ⟨bi,k⟩:=k.chk
  refine ⟨_,_,rfl,rfl,jQ bi,?_⟩
  obtain ⟨bj,k⟩:=k.chk
  refine Pv.go (Ur (iw rfl) (Ri (jt (iw rfl) iT jW)) Rh (jQ bj)) ?_
  obtain ⟨bk,k⟩:=k.chk
  refine ⟨_,_,rfl,rfl,jQ bk,?_⟩
  exact (k.done be) _ ⟨⟨rfl, (Hh (Hh (Le (Ai (show PyData.strOk ("" : jO)=true by decide +kernel) v)) (QD (show PyData.strOk ("AEVZ -_.+@:=`{/;,~[]|^!#$&*()?<>\"'\\}\n\t" : jO)=true by decide +kernel) am)) (Le (Ai (show PyData.strOk ("" : jO)=true by decide +kernel) v)))⟩, bg⟩
 rw [jh O] at k
 refine jX (iY (jT (Pv.go (iw rfl) ?_)))
 exact (k.done d) _ ⟨⟨rfl, (Ai (show PyData.strOk ("" : jO)=true by decide +kernel) v)⟩, e⟩
theorem wV:FnOk P w K mg base CX0 1 a.lZ a.wM ["_law_text"] (BZ K a):=by
 have sc:FnScope ["_law_text", "_law_signs", "_law_sign"] ["_law_text"] (defScope oh):=⟨rfl, rfl, rfl, jc, rfl, jc, jc⟩
 refine T.lZ.F.ok sc (fun vs H Q E h=>?_) (fun cdv A outer s H0 vs Q E hr h=>?_)
 ·obtain ⟨_,_,_,rfl,_⟩:=h
  rfl
 obtain ⟨f,F,d,rfl,r,g,k⟩:=h
 refine ⟨_, (je (jF (i:=1) sc.nd rfl (Or.inr rfl) pe_str) (i_ (jJ (pe_and (pe_chain op_le op_le iK (pe_callB call_len_str jf T.qu nM (ig (pv 0) iH)) iK) (pe_one (pe_cmpR op_eq (pe_callB (rC (K:=K) jf) jf T.qu nM (ig (pe_lc jf sc.nd (pi_str (pv 0)) (blkOk_by (own:=[("_law_sign", 2)]) (N:=["_law_text", "_law_signs", "_law_sign"]) (sc:=defScope oh) jc) (fun _ _ _ _ _=>(pg_name (i:=2) sc.nd rfl (Or.inl rfl))) (fun _ _ _ _ _=>(pts_one (jN op_notin_str (pv 2) (pv 1) (by first | exact jw _ | rfl)))) (fun _ _ _ _ _=>(pv 2))) iH)) iK (by first | exact jw _ | rfl))))))), ?_⟩
 obtain ⟨g,t⟩:=g
 subst g
 have e:Step [] f H0 f H0:=Step.refl r
 unfold lB at k
 refine jd (jU (Pv.go iT (uf (iY (jT ?_)))))
 refine wF k (fun (G:Unit) (c:Cl) (H:Hp) (σ:L2.St)=>σ=[some (V.str d), some (V.str ("abcdefghijklmnopqrstuvwxyz0123456789" : jO)), none]∧Step [] f H0 c H) ?_ ?_
 rotate_left
 ·intro k
  refine uL ?_
  obtain ⟨u,k⟩:=k.chk
  refine Pv.go (Fg iT (uV (iQ (iw rfl) jm) (DP (jQ u))) jW (fun _=>iT) (fun _=>jW)) ?_
  refine ⟨((decide ((1:Int)≤(d.length:Int)))&&(decide ((d.length:Int)≤(12:Int)))),rfl,jM (b:=((decide ((1:Int)≤(d.length:Int)))&&(decide ((d.length:Int)≤(12:Int))))) (fun j=>?_) (fun j=>?_)⟩
  ·have k:=k.o8 j
   refine mZ (Ba (jg (K_ (La (Pv.go (iw rfl) (Ld ?_))))))
   obtain ⟨v,k⟩:=k.chk
   refine Ji (A:=jV) (B:=jV) (xs:=(signs d)) k e v (fun _ _ _=>QH t) ?_ ?_
   ·intro x I n o Qe Qn J gi_ l k
    have p:Step [] n o n o:=Step.refl gi_.wf
    obtain ⟨l,y⟩:=l
    subst l
    refine yj ?_
    refine ⟨rfl,?_⟩
    refine oG.go (oH (jt (iw rfl) (iw rfl) Eb)) ?_
    refine jM (b:=(!Fw x ("abcdefghijklmnopqrstuvwxyz0123456789" : jO))) (fun m=>?_) (fun m=>?_)
    ·have k:=k.o8 m
     refine Pv.go (iw rfl) ?_
     exact (k.done p) _ ⟨rfl,y⟩
    rw [jh m] at k
    exact k.done p
   intro L M O R S U z C k
   have q:=e.pB z
   refine lg ?_
   obtain ⟨p_,Yc,Yd,Ye,Yg⟩:=(show rB K _ _ _ _ _ from C.b)
   refine ⟨p_,Yc,by rw [Yd],.inl Ye,?_⟩
   rw [Yg.len]
   refine Pv.go iT (xU _ ?_)
   exact k.done q ⟨rfl,q⟩
  rw [jh j] at k
  exact k.done e ⟨rfl,e⟩
 intro W X Y i k
 obtain ⟨_,D⟩:=i
 exact (k.done D) _ rfl
theorem Im:FnOk P w K mg base CX0 4 a.uw a.BK ["_law_state_here", "_law_events", "_law_rows", "_law_entries"] (Ij K a):=by
 have sc:FnScope ["_law_state_here", "_law_events", "_law_rows", "_law_entries", "_law_kind", "_law_value", "_law_ground_here", "_law_first", "_law_last", "_law_good", "_law_passed", "_law_told", "e"] ["_law_state_here", "_law_events", "_law_rows", "_law_entries"] (defScope u_):=⟨rfl, rfl, rfl, jc, rfl, jc, jc⟩
 refine T.uw.F.ok sc (fun vs H Q E h=>?_) (fun cdv A outer s H0 vs Q E hr h=>?_)
 ·obtain ⟨_,_,_,_,_,_,_,_,_,rfl,_⟩:=h
  rfl
 obtain ⟨Z,t,cc,u,av,o,ah,cd,ai,rfl,ce,bM,g,D,f,G,aW,a9,k⟩:=h
 refine ⟨_,(je (jF (i:=4) sc.nd rfl (Or.inl rfl) (jy (yP T ND) hr jf T.nu.g T.nu.F.kp T.nu.b .nil jj (ig (pv 0) iH))) (je (jF (i:=5) sc.nd rfl (Or.inl rfl) (jy (yP T ND) hr jf T.nu.g T.nu.F.kp T.nu.b .nil jj (ig (pv 0) iH))) (je (jF (i:=6) sc.nd rfl (Or.inl rfl) (jy (CN T ND) hr jf T.oY.g T.oY.F.kp T.oY.b .nil jj (ig (pv 0) (ig iK iH)))) (je (ps_if (jN op_eq (jy (ju T ND) (hr.mono iW) jf T.iG.g T.iG.F.kp T.iG.b .nil jj (ig (pv 0) (ig iK iH))) iK (by first | exact jw _ | rfl)) (i_ (jF (i:=6) sc.nd rfl (Or.inl rfl) (pe_lst iH))) pss_nil) (je (jF (i:=7) sc.nd rfl (Or.inl rfl) (jy (vK T ND) hr jf T.mO.g T.mO.F.kp T.mO.b .nil jj (ig (pv 0) iH))) (je (jF (i:=8) sc.nd rfl (Or.inl rfl) (pe_ix ix_list (pe_lst (ig pe_non (ig (jy (vK T ND) hr jf T.mO.g T.mO.F.kp T.mO.b .nil jj (ig (pv 0) iH)) (ig (pe_op op_add (pv 7) (jy (ju T ND) (hr.mono iW) jf T.iG.g T.iG.F.kp T.iG.b .nil jj (ig (pv 0) (ig iK iH)))) (ig iK iH))))) (pe_ix ix_list (pe_lst (ig iK (ig iK (ig iK (ig iK (ig iK (ig iK (ig iK (ig iK iH))))))))) (jy (ju T ND) (hr.mono iW) jf T.iG.g T.iG.F.kp T.iG.b .nil jj (ig (pv 0) (ig iK iH))) (fun _ _=>rfl)) (fun _ _=>rfl))) (je (ps_if (jN op_eq (jy (ju T ND) (hr.mono iW) jf T.iG.g T.iG.F.kp T.iG.b .nil jj (ig (pv 0) (ig iK iH))) iK (by first | exact jw _ | rfl)) (i_ (jF (i:=7) sc.nd rfl (Or.inl rfl) (pe_ix ix_list (pe_lst (ig (pe_un un_neg iK) (ig iK (ig (pe_op op_pow iK iK) iH)))) (jy (ju T ND) (hr.mono iW) jf T.iG.g T.iG.F.kp T.iG.b .nil jj (ig (pv 0) (ig iK iH))) (fun _ _=>rfl)))) pss_nil) (je (jF (i:=9) sc.nd rfl (Or.inl rfl) (pe_and (jy (wV T ND) (hr.mono iW) jf T.lZ.g T.lZ.F.kp T.lZ.b .nil jj (ig (pv 4) iH)) (pe_and (jy (wV T ND) (hr.mono iW) jf T.lZ.g T.lZ.F.kp T.lZ.b .nil jj (ig (pv 5) iH)) (pe_and (pe_cmpR (op_neD hr.units) (pv 6) (pe_lst iH) (by first | exact jw _ | rfl)) (pe_and (pe_cmpR op_le iK (pv 7) (by first | exact jw _ | rfl)) (pe_one (pe_cmpR op_le (pv 7) iK (by first | exact jw _ | rfl)))))))) (je (ps_if (PW.pt (pw_and (jN op_notN (pv 8) pe_non (by first | exact jw _ | rfl)) (pw_and1 (PW.pt (pw_or (jN op_lt (pv 8) (pv 7) (by first | exact jw _ | rfl)) (pw_or1 (jN op_gt (pv 8) iK (by first | exact jw _ | rfl)))))))) (i_ (jF (i:=9) sc.nd rfl (Or.inl rfl) pe_bl)) pss_nil) (je (jF (i:=10) sc.nd rfl (Or.inl rfl) (pe_callTy Ae jf T.BR jc (ig (pv 6) iH))) (je (ps_try_as (i:=12) (Wout:=(fun _ _ _ _=>False)) rfl rfl sc.nd rfl rfl ⟨rfl,iW,.inl T.M9⟩ takes0 (fun W pn xe tk _=>(i_ (jF (i:=11) sc.nd rfl (Or.inl rfl) (yw (pv 1) T.jr.cl T.pX.m (Wc (CJ T ND)) hr T.pX.b (fun σ=>passAt tk σ) (ig (pv 4) (ig (pv 5) (ig (pv 10) (ig (pv 7) (ig (pv 8) iH))))))))) (fun xa oe cls d pn hz hf=>(i_ (jJ (pe_and (pe_not (pv 9)) (pe_and (pe_callB (Fo hz hf) jf T.vJ jc (ig (pv 12) (ig (pe_glob jf T.mQ.g (v:=.ref (a.ea .event)) rfl) iH))) (pe_and (pe_not (pe_callB (Fo hz hf) jf T.vJ jc (ig (pv 12) (ig (pe_glob jf T.lu.g (v:=.ref (a.ea .j7)) rfl) iH)))) (pe_one (pe_cmpR (Ol (K:=K) jf hr.units) (pv 10) (pv 6) (by first | exact jw _ | rfl)))))))))) (je (ps_if (PW.pt (pw_or (pt_not (pt_val (pv 9))) (pw_or (jN op_ne (pv 11) (pe_op op_add (pe_callB call_len_seq jf T.qu nM (ig (pv 2) iH)) iK) (by first | exact jw _ | rfl)) (pw_or1 (jN (op_neD hr.units) (pv 10) (pv 6) (by first | exact jw _ | rfl)))))) (i_ (jJ pe_bl)) pss_nil) (je (ps_expr (pe_bm vp v7 v8 mt_append (pv 10) (ig (pe_tup (ig pe_str (ig iK (ig iK iH)))) iH))) (je (ps_expr (pe_bm vp v7 v8 mt_append (pv 2) (ig (pe_lst (ig (pv 4) (ig (pv 5) (ig (pv 6) (ig (pv 7) (ig (pv 8) (ig (pe_op op_add (pv 3) iK) (ig pe_non iH)))))))) iH))) (i_ (jJ pe_bl)))))))))))))))),?_⟩
 have dS:=bM
 have dT:=g
 have dU:=f
 have a9:cd=(V.int ai):=a9
 subst a9
 have bN:Step [t,u,o] Z H0 Z H0:=Step.refl ce
 unfold rZ at k
 refine jd (jU (jA (lM.go (iQ (iw rfl) jm) ?_)))
 refine ⟨Z,_,cc,rfl,bN.wf,bM,?_⟩
 refine Kont.call k bN (fun r z=>by rcases jD.mp z with rfl; exact (.inl j6)) (fun M dV k cf dW bO bP dX aw=>?_) (fun _ _ _ _ _ _ z=>z)
 obtain ⟨aw,cg⟩:=aw
 obtain ⟨aw,a_⟩:=aw
 subst aw
 have g:=Mu.jE (h_ a) bO (iZ D) g
 have f:=Mu.jE iz bO (iZ G) f
 refine sV (iY (jd (jU (jA (lM.go (iQ (iw rfl) jm) ?_)))))
 refine ⟨cf,_,M.2,rfl,bP.wf,cg,?_⟩
 refine Kont.call k bP (fun r z=>by rcases jD.mp z with rfl; exact (.inl j6)) (fun N dY k ch dZ bQ ba d0 ax=>?_) (fun _ _ _ _ _ _ z=>z)
 obtain ⟨ax,bR⟩:=ax
 obtain ⟨ax,bb⟩:=ax
 subst ax
 have g:=Mu.jE (h_ a) bQ (iZ D) g
 have f:=Mu.jE iz bQ (iZ G) f
 refine vH (iY (jd (jU (jA (lM.go (iQ (iw rfl) (iQ iT jm)) ?_)))))
 refine ⟨ch,_,N.2,_,(3:Int),rfl,ba.wf,bR,rfl,?_⟩
 refine Kont.call k ba (fun r z=>by rcases jD.mp z with rfl; exact (.inl j6)) (fun ci d1 k cj d2 bS ck d3 I=>?_) (fun _ _ _ _ _ _ z=>z)
 obtain ⟨I,bc⟩:=I
 obtain ⟨ay,d4,rfl,I⟩:=I
 have cl:t≠ay:=Mu.ne iU bR I.new
 have cm:u≠ay:=Mu.ne (h_ a) g I.new
 have cn:o≠ay:=Mu.ne iz f I.new
 have I:=I.base ba
 have g:=Mu.jE (h_ a) bS (iZ D) g
 have f:=Mu.jE iz bS (iZ G) f
 have aa:=I.frz
 have bT:=ck.frz (p:=ay) I.new
 have bc:=Mu.pA iU bc cl
 have g:=Mu.pA (h_ a) g cm
 have f:=Mu.pA iz f cn
 refine yH (iY (jd ?_))
 refine wD k (fun (y:List (PySem.Str×Int×Int)×mj) (c:Cl) (H:Hp) (σ:L2.St)=>∃ (J:V),σ=[some (V.ref t),some (V.ref u),some (V.ref o),some (V.int ai),some (V.str M.1),some (V.str N.1),some J,none,none,none,none,none,none]∧Step [t,u,o] Z H0 c H∧iU.r c H t y.2∧(uK (mV jV jB jB)).r c H J y.1∧(h_ a).r c H u av∧iz.r c H o ah) ?_ ?_
 rotate_left
 ·intro k
  refine qF (sO (mZ (jA (lM.go (iQ (iw rfl) (iQ iT jm)) ?_))))
  refine ⟨(frz cj ay),_,ci.2,_,(15:Int),rfl,bT.wf,bc,rfl,?_⟩
  refine Kont.call k bT (fun r z=>by rcases jD.mp z with rfl; exact (.inl j6)) (fun bU d5 k d6 d7 bd az co aA=>?_) (fun _ _ _ _ _ _ z=>z)
  obtain ⟨aA,ab⟩:=aA
  have aA:co=(V.int bU.1):=aA
  subst aA
  have g:=Mu.jE (h_ a) bd (iZ D) g
  have f:=Mu.jE iz bd (iZ G) f
  have aa:=lift aa bd
  refine Pv.go iT (xU _ ?_)
  refine ⟨_,rfl,?_⟩
  refine jM (b:=(decide (bU.1=(0:Int)))) (fun be=>?_) (fun be=>?_)
  ·have k:=k.o8 be
   refine jU (pC (lM.go jm ?_))
   refine lW lK az.wf fun aj cp cq aB cr cs aX=>?_
   have ct:t≠aj:=Mu.ne iU ab aX
   have cu:u≠aj:=Mu.ne (h_ a) g aX
   have cv:o≠aj:=Mu.ne iz f aX
   have cw:=az.fresh aX
   have cx:=az.pB aB
   have ab:=Mu.iD iU aB ab
   have g:=Mu.iD (h_ a) aB g
   have f:=Mu.iD iz aB f
   have aa:=lift aa aB
   have bV:Own (mV jV jB jB) H0 cp cq aj [] ([]:List (PySem.Str×Int×Int)):=⟨cr,cs,trivial,cw⟩
   have cy:=bV.frz
   have bW:=cx.frz (p:=aj) bV.new
   have ab:=Mu.pA iU ab ct
   have g:=Mu.pA (h_ a) g cu
   have f:=Mu.pA iz f cv
   have aa:=KZ (p:=aj) aa
   refine yH ?_
   exact k.done bW _ ⟨_,rfl,bW,ab,cy,g,f⟩
  rw [jh be] at k
  refine jX ?_
  exact k.done az _ ⟨_,rfl,az,ab,aa,g,f⟩
 intro y cz d8 σ i k
 obtain ⟨J,rfl,bX,cA,j,g,f⟩:=i
 refine iY (jd (jU (jA (lM.go (iQ (iw rfl) jm) ?_))))
 refine ⟨cz,_,y.2,rfl,bX.wf,cA,?_⟩
 refine Kont.call k bX (fun r z=>by rcases jD.mp z with rfl; exact (.inl j6)) (fun O d9 k cB d_ bf bY cC aC=>?_) (fun _ _ _ _ _ _ z=>z)
 obtain ⟨aC,cD⟩:=aC
 have aC:cC=(V.int O.1):=aC
 subst aC
 have g:=Mu.jE (h_ a) bf (iZ D) g
 have f:=Mu.jE iz bf (iZ G) f
 have j:=lift j bf
 refine Ak (iY (jd (jU (mZ (pC (jg (Pv.go iT (jg (jA (lM.go (iQ (iw rfl) jm) ?_))))))))))
 refine ⟨cB,_,O.2,rfl,bY.wf,cD,?_⟩
 refine Kont.call k bY (fun r z=>by rcases jD.mp z with rfl; exact (.inl j6)) (fun R ea k cE eb bg bZ cF aD=>?_) (fun _ _ _ _ _ _ z=>z)
 obtain ⟨aD,cG⟩:=aD
 have aD:cF=(V.int R.1):=aD
 subst aD
 have g:=Mu.jE (h_ a) bg (iZ D) g
 have f:=Mu.jE iz bg (iZ G) f
 have j:=lift j bg
 refine jg (mZ (Pv.go (iw rfl) (jA (lM.go (iQ (iw rfl) (iQ iT jm)) ?_))))
 refine ⟨cE,_,R.2,_,(9:Int),rfl,bZ.wf,cG,rfl,?_⟩
 refine Kont.call k bZ (fun r z=>by rcases jD.mp z with rfl; exact (.inl j6)) (fun S ec k aY aZ bh bi cH aE=>?_) (fun _ _ _ _ _ _ z=>z)
 obtain ⟨aE,ac⟩:=aE
 have aE:cH=(V.int S.1):=aE
 subst aE
 have g:=Mu.jE (h_ a) bh (iZ D) g
 have f:=Mu.jE iz bh (iZ G) f
 have j:=lift j bh
 refine jW _ (jg (Pv.go iT (lg ?_)))
 have bj:(jC).r aY aZ V.non (none:Option Int):=(show (jC).r _ _ V.non (none:Option Int) from rfl)
 have bk:(jC).r aY aZ (V.int R.1) (some R.1):=(show (jC).r _ _ (V.int R.1) (some R.1) from rfl)
 have bl:(jC).r aY aZ (V.int (O.1+S.1)) (some (O.1+S.1)):=(show (jC).r _ _ (V.int (O.1+S.1)) (some (O.1+S.1)) from rfl)
 have bm:(jC).r aY aZ (V.int (1000001:Int)) (some (1000001:Int)):=(show (jC).r _ _ (V.int (1000001:Int)) (some (1000001:Int)) from rfl)
 refine lW lK bi.wf fun aF cI cJ L cK cL a0=>?_
 have cM:t≠aF:=Mu.ne iU ac a0
 have ed:u≠aF:=Mu.ne (h_ a) g a0
 have ee:o≠aF:=Mu.ne iz f a0
 have cN:=bi.fresh a0
 have bn:=bi.pB L
 have ac:=Mu.iD iU L ac
 have g:=Mu.iD (h_ a) L g
 have f:=Mu.iD iz L f
 have j:=lift j L
 have bj:=lift bj L
 have bk:=lift bk L
 have bl:=lift bl L
 have bm:=lift bm L
 have ak:Own jC H0 cI cJ aF [V.non,(V.int R.1),(V.int (O.1+S.1)),(V.int (1000001:Int))] ([(none:Option Int),(some R.1),(some (O.1+S.1)),(some (1000001:Int))]:List (Option Int)):=⟨cK,cL,⟨bj,⟨bk,⟨bl,⟨bm,trivial⟩⟩⟩⟩,cN⟩
 refine mZ (pC (lM.go (iQ iT (iQ iT (iQ iT (iQ iT (iQ iT (iQ iT (iQ iT (iQ iT jm)))))))) ?_))
 refine lW lK bn.wf fun aG b0 cO al cP cQ aH=>?_
 have cR:t≠aG:=Mu.ne iU ac aH
 have ef:u≠aG:=Mu.ne (h_ a) g aH
 have eg:o≠aG:=Mu.ne iz f aH
 have eh:aF≠aG:=kW ak.obj aH
 have cS:=bn.fresh aH
 have b1:=bn.pB al
 have ac:=Mu.iD iU al ac
 have g:=Mu.iD (h_ a) al g
 have f:=Mu.iD iz al f
 have j:=lift j al
 have ak:=ak.step0 al
 have bo:Own jB H0 b0 cO aG [(V.int (0:Int)),(V.int (1:Int)),(V.int (2:Int)),(V.int (2:Int)),(V.int (2:Int)),(V.int (2:Int)),(V.int (0:Int)),(V.int (3:Int))] ([(0:Int),(1:Int),(2:Int),(2:Int),(2:Int),(2:Int),(0:Int),(3:Int)]:List Int):=⟨cP,cQ,⟨rfl,⟨rfl,⟨rfl,⟨rfl,⟨rfl,⟨rfl,⟨rfl,⟨rfl,trivial⟩⟩⟩⟩⟩⟩⟩⟩,cS⟩
 refine jA (lM.go (iQ (iw rfl) (iQ iT jm)) ?_)
 refine ⟨b0,_,S.2,_,(8:Int),rfl,b1.wf,ac,rfl,?_⟩
 refine Kont.call k b1 (fun r z=>by rcases jD.mp z with rfl; exact (.inl j6)) (fun b2 ei k cT ej aI b3 cU aJ=>?_) (fun _ _ _ _ _ _ z=>z)
 obtain ⟨aJ,cV⟩:=aJ
 have aJ:cU=(V.int b2.1):=aJ
 subst aJ
 have g:=Mu.jE (h_ a) aI (iZ D) g
 have f:=Mu.jE iz aI (iZ G) f
 have j:=lift j aI
 have ak:=ak.step1 aI (iZ cM)
 have bo:=bo.step1 aI (iZ cR)
 obtain ⟨cW,cX,k⟩:=k.opt
 obtain ⟨cY,bp,cZ⟩:=tR bo.b cX
 have bp:cY=(V.int cW):=bp
 subst bp
 refine cZ _ ?_
 obtain ⟨am,c0,k⟩:=k.opt
 obtain ⟨ad,l,c1⟩:=tR ak.b c0
 refine c1 _ (Ei (iY (jd ?_)))
 refine wD k (fun (F:Int×mj) (c:Cl) (H:Hp) (σ:L2.St)=>σ=[some (V.ref t),some (V.ref u),some (V.ref o),some (V.int ai),some (V.str M.1),some (V.str N.1),some J,some (V.int F.1),some ad,none,none,none,none]∧Step [t,u,o] Z H0 c H∧iU.r c H t F.2∧(h_ a).r c H u av∧iz.r c H o ah∧(uK (mV jV jB jB)).r c H J y.1∧jC.r c H ad am) ?_ ?_
 rotate_left
 ·intro k
  refine qF (sO (mZ (jA (lM.go (iQ (iw rfl) (iQ iT jm)) ?_))))
  refine ⟨cT,_,b2.2,_,(15:Int),rfl,b3.wf,cV,rfl,?_⟩
  refine Kont.call k b3 (fun r z=>by rcases jD.mp z with rfl; exact (.inl j6)) (fun bq ek k el em a1 aK c2 aL=>?_) (fun _ _ _ _ _ _ z=>z)
  obtain ⟨aL,aM⟩:=aL
  have aL:c2=(V.int bq.1):=aL
  subst aL
  have g:=Mu.jE (h_ a) a1 (iZ D) g
  have f:=Mu.jE iz a1 (iZ G) f
  have j:=lift j a1
  have l:=lift l a1
  refine Pv.go iT (xU _ ?_)
  refine ⟨_,rfl,?_⟩
  refine jM (b:=(decide (bq.1=(0:Int)))) (fun br=>?_) (fun br=>?_)
  ·have k:=k.o8 br
   refine jU (mZ (pC ?_))
   refine lM.go (iQ (wC iT) (iQ iT (iQ (jt iT iT (za ⟨iW,iW,iW⟩)) jm))) ?_
   refine lW lK aK.wf fun a2 b4 c3 an c4 c5 a3=>?_
   have c6:t≠a2:=Mu.ne iU aM a3
   have en:u≠a2:=Mu.ne (h_ a) g a3
   have eo:o≠a2:=Mu.ne iz f a3
   have c7:=aK.fresh a3
   have b5:=aK.pB an
   have aM:=Mu.iD iU an aM
   have g:=Mu.iD (h_ a) an g
   have f:=Mu.iD iz an f
   have j:=lift j an
   have l:=lift l an
   have bs:Own jB H0 b4 c3 a2 [(V.int (-(1:Int))),(V.int (1000001:Int)),(V.int ((10:Int)^(7:Int).toNat))] ([(-(1:Int)),(1000001:Int),((10:Int)^(7:Int).toNat)]:List Int):=⟨c4,c5,⟨rfl,⟨rfl,⟨rfl,trivial⟩⟩⟩,c7⟩
   refine jA (lM.go (iQ (iw rfl) (iQ iT jm)) ?_)
   refine ⟨b4,_,bq.2,_,(3:Int),rfl,b5.wf,aM,rfl,?_⟩
   refine Kont.call k b5 (fun r z=>by rcases jD.mp z with rfl; exact (.inl j6)) (fun c8 ep k eq er aN b6 c9 aO=>?_) (fun _ _ _ _ _ _ z=>z)
   obtain ⟨aO,c_⟩:=aO
   have aO:c9=(V.int c8.1):=aO
   subst aO
   have g:=Mu.jE (h_ a) aN (iZ D) g
   have f:=Mu.jE iz aN (iZ G) f
   have j:=lift j aN
   have l:=lift l aN
   have bs:=bs.step1 aN (iZ c6)
   obtain ⟨da,db,k⟩:=k.opt
   obtain ⟨dc,bt,dd⟩:=tR bs.b db
   have bt:dc=(V.int da):=bt
   subst bt
   refine dd _ (Ak ?_)
   exact k.done b6 _ ⟨rfl,b6,c_,g,f,j,l⟩
  rw [jh br] at k
  refine jX ?_
  exact k.done aK _ ⟨rfl,aK,aM,g,f,j,l⟩
 intro F de es σ i k
 obtain ⟨rfl,b7,m,g,f,j,l⟩:=i
 refine iY (jd (jU ?_))
 refine wF k (fun (et:Unit) (c:Cl) (H:Hp) (σ:L2.St)=>σ=[some (V.ref t),some (V.ref u),some (V.ref o),some (V.int ai),some (V.str M.1),some (V.str N.1),some J,some (V.int F.1),some ad,none,none,none,none]∧Step [t,u,o] Z H0 c H∧iU.r c H t F.2∧(h_ a).r c H u av∧iz.r c H o ah∧(uK (mV jV jB jB)).r c H J y.1∧jC.r c H ad am) ?_ ?_
 rotate_left
 ·intro k
  refine uL (jA (lM.go (iQ (iw rfl) jm) ?_))
  refine ⟨de,_,M.1,rfl,b7.wf,⟨rfl,a_⟩,?_⟩
  refine Kont.call k b7 (fun _ z=>by cases z) (fun bu eu k df ev aP a4 dg bv=>?_) (fun _ _ _ _ _ _ z=>z)
  have bv:dg=(V.bl bu):=bv
  subst bv
  have m:=Mu.iD iU aP m
  have g:=Mu.iD (h_ a) aP g
  have f:=Mu.iD iz aP f
  have j:=lift j aP
  have l:=lift l aP
  refine ⟨bu,rfl,jM (b:=bu) (fun bw=>?_) (fun bw=>?_)⟩
  ·have k:=k.o8 bw
   refine uL (jA (lM.go (iQ (iw rfl) jm) ?_))
   refine ⟨df,_,N.1,rfl,a4.wf,⟨rfl,bb⟩,?_⟩
   refine Kont.call k a4 (fun _ z=>by cases z) (fun bx ew k ex ey aQ aR dh bz=>?_) (fun _ _ _ _ _ _ z=>z)
   have bz:dh=(V.bl bx):=bz
   subst bz
   have m:=Mu.iD iU aQ m
   have g:=Mu.iD (h_ a) aQ g
   have f:=Mu.iD iz aQ f
   have j:=lift j aQ
   have l:=lift l aQ
   refine ⟨bx,rfl,jM (b:=bx) (fun bA=>?_) (fun bA=>?_)⟩
   ·have k:=k.o8 bA
    refine uL (mZ (Pv.go (iw rfl) (pC (lM.go jm ?_))))
    refine lW lK aR.wf fun a5 di dj ao dk dl a6=>?_
    have ez:t≠a5:=Mu.ne iU m a6
    have eA:u≠a5:=Mu.ne (h_ a) g a6
    have eB:o≠a5:=Mu.ne iz f a6
    have dm:=aR.fresh a6
    have ap:=aR.pB ao
    have m:=Mu.iD iU ao m
    have g:=Mu.iD (h_ a) ao g
    have f:=Mu.iD iz ao f
    have j:=lift j ao
    have l:=lift l ao
    have dn:Own (mV jV jB jB) H0 di dj a5 [] ([]:List (PySem.Str×Int×Int)):=⟨dk,dl,trivial,dm⟩
    refine (A_ (Az j) dn.b iW) _ ?_
    refine ⟨(!decide (y.1=([]:List (PySem.Str×Int×Int)))),rfl,jM (b:=(!decide (y.1=([]:List (PySem.Str×Int×Int))))) (fun bB=>?_) (fun bB=>?_)⟩
    ·have k:=k.o8 bB
     refine uL (Pv.go (jt iT (iw rfl) jW) ?_)
     refine ⟨(decide ((0:Int)≤F.1)),rfl,jM (b:=(decide ((0:Int)≤F.1))) (fun bC=>?_) (fun bC=>?_)⟩
     ·have k:=k.o8 bC
      refine Pv.go (jt (iw rfl) iT jW) ?_
      exact k.done ap ⟨rfl,ap,m,g,f,j,l⟩
     rw [jh bC] at k
     exact k.done ap ⟨rfl,ap,m,g,f,j,l⟩
    rw [jh bB] at k
    exact k.done ap ⟨rfl,ap,m,g,f,j,l⟩
   rw [jh bA] at k
   exact k.done aR ⟨rfl,aR,m,g,f,j,l⟩
  rw [jh bw] at k
  exact k.done a4 ⟨rfl,a4,m,g,f,j,l⟩
 intro eC eD eE i k
 obtain ⟨_,U,m,g,f,j,l⟩:=i
 refine yI (iY (jd ?_))
 refine wD k (fun (a7:Bool) (c:Cl) (H:Hp) (σ:L2.St)=>σ=[some (V.ref t),some (V.ref u),some (V.ref o),some (V.int ai),some (V.str M.1),some (V.str N.1),some J,some (V.int F.1),some ad,some (V.bl a7),none,none,none]∧Step [t,u,o] Z H0 c H∧iU.r c H t F.2∧(h_ a).r c H u av∧iz.r c H o ah∧(uK (mV jV jB jB)).r c H J y.1∧jC.r c H ad am) ?_ ?_
 rotate_left
 ·intro k
  refine qF (yu (oG.go (oH (jt (iw rfl) iT (vC l))) ?_))
  refine jM (b:=(!Option.isNone am)) (fun bD=>?_) (fun bD=>?_)
  ·have k:=k.o8 bD
   refine zf ?_
   obtain ⟨bE,dp,k⟩:=k.opt
   have dq:ad=V.int bE:=some_of l dp
   subst dq
   refine oG.go (oH (jt (iw rfl) (iw rfl) jW)) ?_
   refine jM (b:=(decide (bE<F.1))) (fun bF=>?_) (fun bF=>?_)
   ·have k:=k.o8 bF
    refine jU (Pv.go iT (yI ?_))
    exact k.done U _ ⟨rfl,U,m,g,f,j,(by first | rfl | assumption)⟩
   rw [jh bF] at k
   refine oG.go (oH (jt (iw rfl) iT jW)) ?_
   refine jM (b:=(decide ((1000000:Int)<bE))) (fun bG=>?_) (fun bG=>?_)
   ·have k:=k.o8 bG
    refine jU (Pv.go iT (yI ?_))
    exact k.done U _ ⟨rfl,U,m,g,f,j,(by first | rfl | assumption)⟩
   rw [jh bG] at k
   refine jX ?_
   exact k.done U _ ⟨rfl,U,m,g,f,j,(by first | rfl | assumption)⟩
  rw [jh bD] at k
  refine jX ?_
  exact k.done U _ ⟨rfl,U,m,g,f,j,l⟩
 intro a7 eF eG σ i k
 obtain ⟨rfl,bH,m,g,f,j,l⟩:=i
 refine iY (jd (jU (Ba (lM.go (iQ (iw rfl) jm) ?_))))
 refine tQ (H0:=H0) (Az j) bH.wf (fun _ n=>bH.fresh n) fun aS eH dr eI bI aq B=>?_
 have ds:t≠aS:=Mu.ne iU m bI
 have aT:u≠aS:=Mu.ne (h_ a) g bI
 have b8:o≠aS:=Mu.ne iz f bI
 have b9:=bH.pB aq
 have m:=Mu.iD iU aq m
 have g:=Mu.iD (h_ a) aq g
 have f:=Mu.iD iz aq f
 have j:=lift j aq
 have l:=lift l aq
 refine Br (iY (jd ?_))
 have k:=k.zW
 refine jU (Ah (Pv.go (iw rfl) (lE g jc (lM.go (iQ (iw rfl) (iQ (iw rfl) (iQ (iw rfl) (iQ (iw rfl) (iQ (iw rfl) jm))))) ?_))))
 refine ⟨dr,_,av,_,M.1,_,N.1,_,y.1,_,F.1,_,am,rfl,b9.wf,g,⟨rfl,a_⟩,⟨rfl,bb⟩,(O8 B (iZ aT)),rfl,l,?_⟩
 refine Kont.call k b9 (fun r z=>by rcases jD.mp z with rfl; exact (.inl j6)) (fun bJ dt k du dv x ae dw aU=>?_) (fun e dt du dv x ae pe=>?_)
 rotate_left
 ·intro b_
  cases e with
  | event =>
   refine ⟨true,T.wR,fun _ eJ eK=>?_,fun z=>by cases z⟩
   have k:=pe
   have m:=Mu.jE iU x D m
   have f:=Mu.jE iz x (iZ aW) f
   have j:=lift j x
   have l:=lift l x
   have B:=B.step1 x (iZ aT)
   refine jT ?_
   refine Pv.go (wZ (Ac (iw rfl)) (fun _=>(wZ (uV (iQ (iw rfl) (iQ iT jm)) (D_ T.mQ.ec T.wU)) (fun _=>(wZ (Ac (uV (iQ (iw rfl) (iQ iT jm)) (D_ T.mQ.ec T.uz))) (fun _=>(jt (iw rfl) (iw rfl) (G8 B.b (Az j) iW)))))))) ?_
   exact (k.done ae) _ ⟨rfl,m,b_,f⟩
  | j7 =>
   refine ⟨true,T.ux,fun _ eL eM=>?_,fun z=>by cases z⟩
   have k:=pe
   have m:=Mu.jE iU x D m
   have f:=Mu.jE iz x (iZ aW) f
   have j:=lift j x
   have l:=lift l x
   have B:=B.step1 x (iZ aT)
   refine jT ?_
   refine Pv.go (wZ (Ac (iw rfl)) (fun _=>(wZ (uV (iQ (iw rfl) (iQ iT jm)) (D_ T.lu.ec T.uD)) (fun _=>(wZ (Ac (uV (iQ (iw rfl) (iQ iT jm)) (D_ T.lu.ec T.sH))) (fun _=>(jt (iw rfl) (iw rfl) (G8 B.b (Az j) iW)))))))) ?_
   exact (k.done ae) _ ⟨rfl,m,b_,f⟩
  | _=>exact pe.elim
 obtain ⟨aU,C⟩:=aU
 have aU:dw=(V.int bJ.1):=aU
 subst aU
 have m:=Mu.jE iU x D m
 have f:=Mu.jE iz x (iZ aW) f
 have j:=lift j x
 have l:=lift l x
 have B:=B.step1 x (iZ aT)
 refine Bs ?_
 have k:=k.done ae
 refine iY (jd ?_)
 refine oG.K7 (b:=((!a7)||((!decide (bJ.1=((ah.length:Int)+(1:Int))))||(!decide (y.1=y.1))))) ?_ (fun bK=>?_) (fun bK=>?_)
 ·exact (show oG _ _ _ ((!a7)||((!decide (bJ.1=((ah.length:Int)+(1:Int))))||(!decide (y.1=y.1)))) from (Qy (pt_not (T9 (iw rfl))) (fun _=>(Qy (oH (jt (iw rfl) (jt (oO f (iw rfl)) iT jW) Kz)) (fun _=>(oH (jt (iw rfl) (iw rfl) (A_ B.b (Az j) iW))))))))
 ·have k:=k.o8 bK
  refine jT (Pv.go iT ?_)
  exact (k.done ae) _ ⟨rfl,m,C,f⟩
 rw [jh bK] at k
 refine jX (iY (jd (oM (xV (Pv.go (iw rfl) ?_)))))
 refine ⟨ty_list (.inl B.obj),?_⟩
 refine jg (tO (lM.go (iQ iT (iQ iT (iQ iT jm))) ?_))
 refine nO lK ae.wf fun ar dx dy af dz dA a8=>?_
 have eN:t≠ar:=Mu.ne iU m a8
 have eO:u≠ar:=Mu.ne (h_ a) C a8
 have eP:o≠ar:=Mu.ne iz f a8
 have eQ:aS≠ar:=kW B.obj a8
 have ca:=ae.pB af
 have m:=Mu.iD iU af m
 have C:=Mu.iD (h_ a) af C
 have f:=Mu.iD iz af f
 have j:=lift j af
 have l:=lift l af
 have B:=B.step0 af
 have dB:(mV jV jB jB).r dx dy (V.ref ar) (("zz" : jO), (0:Int), (1:Int)):=⟨ar, _, _, _, rfl, dz, .inl dA, ⟨rfl, (show PyData.strOk ("zz" : jO)=true by decide +kernel)⟩, rfl, rfl⟩
 refine lg ?_
 obtain ⟨dC,k⟩:=k.chk
 refine mW B ca.wf dB (jQ dC) fun eR as X=>?_
 have bL:=ca.tr1 as (.inr X.new)
 have m:=Mu.jE iU as ds m
 have C:=Mu.jE (h_ a) as aT C
 have f:=Mu.jE iz as b8 f
 have j:=lift j as
 have l:=lift l as
 refine iY (jd (oM (xV (Pv.go (iw rfl) ?_))))
 refine ⟨Fq (K:=K) (Pu f),?_⟩
 refine jg (pC (lM.go (iQ (iw rfl) (iQ (iw rfl) (iQ (iw rfl) (iQ (iw rfl) (iQ (iw rfl) (iQ (jt (iw rfl) iT jW) (iQ iT jm))))))) ?_))
 refine lW lK bL.wf fun Y dD dE ag dF dG aV=>?_
 have dH:=bL.fresh aV
 have dI:t≠Y:=Mu.ne iU m aV
 have dJ:u≠Y:=Mu.ne (h_ a) C aV
 have dK:o≠Y:=Mu.ne iz f aV
 have dL:aS≠Y:=kW X.obj aV
 have cb:=bL.pB ag
 have m:=Mu.iD iU ag m
 have C:=Mu.iD (h_ a) ag C
 have f:=Mu.iD iz ag f
 have j:=lift j ag
 have l:=lift l ag
 have X:=X.step0 ag
 have dM:Dj dD dE Y (M.1,N.1,y.1,F.1,am,(ai+(1:Int)),none):=⟨_,_,_,dG,a_,bb,j,l,rfl⟩
 refine lg ?_
 obtain ⟨dN,k⟩:=k.chk
 refine JV f cb.wf dF dM (iZ dK) (jQ dN) fun eS au dO dP=>?_
 have dQ:=cb.tr1 au (.inl j6)
 have m:=Mu.jE iU au G m
 have C:=Mu.jE (h_ a) au aW C
 have j:=lift j au
 have l:=lift l au
 have X:=X.step1 au (iZ b8)
 have dR:=dQ.lU (q:=Y) (p:=o) dH dO
 have m:=Mu.other (s:=o) iU m dI
 have C:=Mu.other (s:=o) (h_ a) C dJ
 have j:=QK (q:=Y) (p:=o) j
 have l:=QK (q:=Y) (p:=o) l
 have X:=X.xW (p:=o) dL
 refine iY (jT (Pv.go iT ?_))
 exact (k.done dR) _ ⟨rfl,m,C,dP⟩
theorem Io:FnOk P w K mg base CX0 3 a.rA a.BL ["_law_state_here", "_law_events", "_law_rows", "_law_entries"] (Ik K a):=by
 have sc:FnScope ["_law_state_here", "_law_events", "_law_rows", "_law_entries", "_law_number", "_law_row"] ["_law_state_here", "_law_events", "_law_rows", "_law_entries"] (defScope vf):=⟨rfl, rfl, rfl, jc, rfl, jc, jc⟩
 refine T.rA.F.ok sc (fun vs H Q E h=>?_) (fun cdv A outer s H0 vs Q E hr h=>?_)
 ·obtain ⟨_,_,_,_,_,_,_,_,_,rfl,_⟩:=h
  rfl
 obtain ⟨q,t,Z,u,M,v,x,aa,N,rfl,ab,ac,y,B,f,O,C,F,k⟩:=h
 refine ⟨_,(je (jF (i:=4) sc.nd rfl (Or.inl rfl) (jy (ju T ND) hr jf T.iG.g T.iG.F.kp T.iG.b .nil jj (ig (pv 0) (ig (pe_op op_add (pe_callB call_len_seq jf T.qu nM (ig (pv 2) iH)) iK) iH)))) (je (HW (Wout:=(fun _ _ _ _=>False)) rfl rfl takes0 (fun W pn xe tk _=>(i_ (ps_expr (yw (pv 1) T.jr.cl T.pY.m (Wc (CK T ND)) hr T.pY.b (fun σ=>passAt tk σ) (ig (pv 4) iH))))) (yG.bare ⟨rfl,iW,.inl T.lu.g⟩ (fun xa oe cls d pn hz hf=>(i_ (jJ (pe_or (pe_cmpR op_lt (pv 4) iK (by first | exact jw _ | rfl)) (pe_one (pe_cmpR op_gt (pv 4) (pe_callB (rC (K:=K) jf) jf T.qu nM (ig (pv 2) iH)) (by first | exact jw _ | rfl))))))) (yG.bare ⟨rfl,iW,.inl T.mQ.g⟩ (fun xa oe cls d pn hz hf=>(i_ (jJ (pe_and (pe_cmpR op_le iK (pv 4) (by first | exact jw _ | rfl)) (pe_and (pe_cmpR op_le (pv 4) (pe_callB (rC (K:=K) jf) jf T.qu nM (ig (pv 2) iH)) (by first | exact jw _ | rfl)) (pe_one (pe_cmpR op_notN (pe_ix (Bc (K:=K) jf) (pe_ix (Bc (K:=K) jf) (pv 2) (pe_op op_sub (pv 4) iK) (fun _ _=>rfl)) iK (fun _ _=>rfl)) pe_non (by first | exact jw _ | rfl)))))))) .nil))) (je (ps_if (PW.pt (pw_or (jN op_lt (pv 4) iK (by first | exact jw _ | rfl)) (pw_or (jN op_gt (pv 4) (pe_callB call_len_seq jf T.qu nM (ig (pv 2) iH)) (by first | exact jw _ | rfl)) (pw_or1 (jN op_notN (pe_ix ix_list (pe_ix ix_list (pv 2) (pe_op op_sub (pv 4) iK) (fun _ _=>rfl)) iK (fun _ _=>rfl)) pe_non (by first | exact jw _ | rfl)))))) (i_ (jJ pe_bl)) pss_nil) (je (jF (i:=5) sc.nd rfl (Or.inl rfl) (pe_ix ix_list (pv 2) (pe_op op_sub (pv 4) iK) (fun _ _=>rfl))) (je (ps_asg (pe_op op_add (pv 3) iK) (pg_sub (pv 5) iK set_list)) (i_ (jJ pe_bl))))))),?_⟩
 have F:aa=(V.int N):=F
 subst F
 have R:Step [t,u,v] q H0 q H0:=Step.refl ab
 unfold sE at k
 refine jd (jU (jA (lM.go (iQ (iw rfl) (iQ (jt (oO f (iw rfl)) iT jW) jm)) ?_)))
 refine ⟨q,_,Z,_,((x.length:Int)+(3:Int)),rfl,R.wf,ac,rfl,?_⟩
 refine Kont.call k R (fun r z=>by rcases jD.mp z with rfl; exact (.inl j6)) (fun l aD k ad aE S U ae o=>?_) (fun _ _ _ _ _ _ z=>z)
 obtain ⟨o,g⟩:=o
 have o:ae=(V.int l.1):=o
 subst o
 have y:=Mu.jE (h_ a) S (iZ B) y
 have f:=Mu.jE iz S (iZ O) f
 refine sV (iY (jd ?_))
 have k:=k.zW
 refine oM (Ah (Pv.go (iw rfl) (lE y jc (lM.go (iQ (iw rfl) jm) ?_))))
 refine ⟨ad,_,M,_,l.1,rfl,U.wf,y,rfl,?_⟩
 refine Kont.call k U (fun r z=>by rcases jD.mp z with rfl; exact (.inl j6)) (fun aF af k ag ah m j ai p=>?_) (fun e af ag ah m j pe=>?_)
 rotate_left
 ·intro n
  cases e with
  | event =>
   refine ⟨false,T.tY,(fun z=>Bool.noConfusion z),fun _=>?_⟩
   refine ⟨true,T.vY,fun _ aG aH=>?_,fun z=>by cases z⟩
   refine Jv ?_
   have k:=pe
   have g:=Mu.jE iU m B g
   have f:=Mu.jE iz m (iZ C) f
   refine jT ?_
   refine wF k (fun (aI:Unit) (c:Cl) (H:Hp) (σ:L2.St)=>σ=[some (V.ref t),some (V.ref u),some (V.ref v),some (V.int N),some (V.int l.1),none]∧Step [t,u,v] q H0 c H∧iU.r c H t l.2∧(h_ a).r c H u M∧iz.r c H v x) ?_ ?_
   rotate_left
   ·intro k
    refine uL (Pv.go (jt iT (iw rfl) jW) ?_)
    refine ⟨(decide ((1:Int)≤l.1)),rfl,jM (b:=(decide ((1:Int)≤l.1))) (fun G=>?_) (fun G=>?_)⟩
    ·have k:=k.o8 G
     refine uL (Pv.go (jt (iw rfl) (oO f (iw rfl)) jW) ?_)
     refine ⟨(decide (l.1≤(x.length:Int))),rfl,jM (b:=(decide (l.1≤(x.length:Int)))) (fun I=>?_) (fun I=>?_)⟩
     ·have k:=k.o8 I
      obtain ⟨aJ,aj,k⟩:=k.opt
      obtain ⟨aK,ak,k⟩:=k.opt
      obtain ⟨aL,al,aM,am⟩:=sW (K:=K) f aj ak
      obtain ⟨aN,an,ao⟩:=Bu (K:=K) al
      refine Pv.go (jt (jt (jt (iw rfl) (jt (iw rfl) iT jW) am) iT ao) iT (vC an)) ?_
      exact k.done j ⟨rfl,j,g,n,f⟩
     rw [jh I] at k
     exact k.done j ⟨rfl,j,g,n,f⟩
    rw [jh G] at k
    exact k.done j ⟨rfl,j,g,n,f⟩
   intro aO aP aQ i k
   obtain ⟨_,ap,g,n,f⟩:=i
   exact (k.done ap) _ ⟨rfl,g,n,f⟩
  | j7 =>
   refine ⟨true,T.mH,fun _ aR aS=>?_,fun z=>by cases z⟩
   refine Jv ?_
   have k:=pe
   have g:=Mu.jE iU m B g
   have f:=Mu.jE iz m (iZ C) f
   refine jT ?_
   refine Pv.go (Rf (jt (iw rfl) iT jW) (fun _=>(jt (iw rfl) (oO f (iw rfl)) jW))) ?_
   exact (k.done j) _ ⟨rfl,g,n,f⟩
  | _=>exact pe.elim
 obtain ⟨p,D⟩:=p
 have p:ai=V.non:=p
 subst p
 have g:=Mu.jE iU m B g
 have f:=Mu.jE iz m (iZ C) f
 have k:=k.done j
 refine iY (jd ?_)
 obtain ⟨X,aq,k⟩:=k.Qz (KJ Fl (KJ Fl (KH fun _=>(KH fun _=>Fl))))
 refine oG.K7 (b:=X) ?_ (fun J=>?_) (fun J=>?_)
 ·exact (show oG _ _ _ X from (KD aq (fun _ h=>(by have h:=h; exact oG.is (oH (jt (iw rfl) iT jW)) (Res.ok.inj h))) (fun _ h=>(KD h (fun _ h=>(by have h:=h; exact oG.is (oH (jt (iw rfl) (oO f (iw rfl)) jW)) (Res.ok.inj h))) (fun _ h=>(by have h:=h; obtain ⟨aT,ar,h⟩:=Jc h; obtain ⟨aU,as,h⟩:=Jc h; obtain ⟨aV,au,aW,av⟩:=sW (K:=K) f ar as; obtain ⟨aX,aw,ax⟩:=Bu (K:=K) au; exact oG.is (oH (jt (jt (jt (iw rfl) (jt (iw rfl) iT jW) av) iT ax) iT (vC aw))) (Res.ok.inj h)))))))
 ·have k:=k.o8 J
  refine jT (Pv.go iT ?_)
  exact (k.done j) _ ⟨rfl,g,D,f⟩
 rw [jh J] at k
 refine jX (iY (jd (jU ?_)))
 obtain ⟨aY,ay,k⟩:=k.opt
 obtain ⟨aZ,Y,k⟩:=k.opt
 obtain ⟨a0,a1,az,aA⟩:=sW (K:=K) f ay Y
 refine Pv.go (jt (iw rfl) (jt (iw rfl) iT jW) aA) (vH (iY (jd (jU (Pv.go (jt (iw rfl) iT jW) (DQ (Pv.go (iw rfl) (Pv.go iT ?_))))))))
 refine JW f j.wf az Y fun a2 L aB=>?_
 have aC:=j.tr1 L (.inl j6)
 have g:=Mu.jE iU L O g
 have D:=Mu.jE (h_ a) L C D
 refine iY (jT (Pv.go iT ?_))
 exact (k.done aC) _ ⟨rfl,g,D,aB⟩
theorem xZ:FnOk P w K mg base CX0 1 a.oF a.BP ["_law_rows", "_law_entry", "_law_day_here"] (Il K a):=by
 have sc:FnScope ["_law_rows", "_law_entry", "_law_day_here", "_law_found", "_law_k", "_law_kind", "_law_value", "_law_ground_here", "_law_first", "_law_last", "_law_begun", "_law_ended"] ["_law_rows", "_law_entry", "_law_day_here"] (defScope vg):=⟨rfl, rfl, rfl, jc, rfl, jc, jc⟩
 refine T.oF.F.ok sc (fun vs H Q E h=>?_) (fun cdv A outer s H0 vs Q E hr h=>?_)
 ·obtain ⟨_,_,_,_,_,_,_,rfl,_⟩:=h
  rfl
 obtain ⟨z,p,as,aT,t,aU,q,rfl,aV,d,S,U,k⟩:=h
 refine ⟨_,(je (jF (i:=3) sc.nd rfl (Or.inl rfl) (pe_lst iH)) (je (ps_for PassesOwn.never rfl (pi_range1 jf T.sY (ig (pe_callB call_len_seq jf T.qu nM (ig (pv 0) iH)) iH)) (pg_name (i:=4) sc.nd rfl (Or.inl rfl)) (je (ps_asg (pe_ix ix_list (pv 0) (pv 4) (fun _ _=>rfl)) (pg_lst (n:=7) jf (pgs_cons (pg_name (i:=5) sc.nd rfl (Or.inl rfl)) (pgs_cons (pg_name (i:=6) sc.nd rfl (Or.inl rfl)) (pgs_cons (pg_name (i:=7) sc.nd rfl (Or.inl rfl)) (pgs_cons (pg_name (i:=8) sc.nd rfl (Or.inl rfl)) (pgs_cons (pg_name (i:=9) sc.nd rfl (Or.inl rfl)) (pgs_cons (pg_name (i:=10) sc.nd rfl (Or.inl rfl)) (pgs_cons (pg_name (i:=11) sc.nd rfl (Or.inl rfl)) pgs_nil))))))))) (i_ (ps_if (PW.pt (pw_and (jN op_le (pv 10) (pv 1) (by first | exact jw _ | rfl)) (pw_and (PW.pt (pw_or (jN op_isN (pv 11) pe_non (by first | exact jw _ | rfl)) (pw_or1 (jN op_gt (pv 11) (pv 1) (by first | exact jw _ | rfl))))) (pw_and (jN op_le (pv 8) (pv 2) (by first | exact jw _ | rfl)) (pw_and1 (PW.pt (pw_or (jN op_isN (pv 9) pe_non (by first | exact jw _ | rfl)) (pw_or1 (jN op_le (pv 2) (pv 9) (by first | exact jw _ | rfl)))))))))) (i_ (ps_expr (pe_bm vp v7 v8 mt_append (pv 3) (ig (pe_tup (ig (pe_op op_add (pv 4) iK) (ig (pv 5) (ig (pv 6) (ig (pv 7) iH))))) iH)))) pss_nil)))) (i_ (jJ (pv 3))))),?_⟩
 have bI:=d
 have S:aT=(V.int t):=S
 subst S
 have U:aU=(V.int q):=U
 subst U
 have W:Step [] z H0 z H0:=Step.refl aV
 unfold oW at k
 refine jd (jU (pC (lM.go jm ?_)))
 refine lW lK W.wf fun o aW aX au aY aZ av=>?_
 have B:p≠o:=Mu.ne iz d av
 have a0:=W.fresh av
 have a1:=W.pB au
 have d:=Mu.iD iz au d
 have a2:Own (wz jB jV jV (uK (mV jV jB jB))) H0 aW aX o [] ([]:List (Int×PySem.Str×PySem.Str×List (PySem.Str×Int×Int))):=⟨aY,aZ,trivial,a0⟩
 refine rE (iY (jd (wB (vA (lM.go (iQ (oO d (iw rfl)) jm) ?_)))))
 obtain ⟨a3,k⟩:=k.chk
 refine vB a3 ?_
 refine DW (s0:=((([]:List (Int×PySem.Str×PySem.Str×List (PySem.Str×Int×Int)))):List (Int×PySem.Str×PySem.Str×List (PySem.Str×Int×Int)))) k (fun (X:List (Int×PySem.Str×PySem.Str×List (PySem.Str×Int×Int))) (c:Cl) (H:Hp) (σ:L2.St)=>∃ (Y:List V) (Z:Option V) (aa:Option V) (ab:Option V) (ac:Option V) (ad:Option V) (ae:Option V) (af:Option V) (ag:Option V),σ=[some (V.ref p),some (V.int t),some (V.int q),some (V.ref o),Z,aa,ab,ac,ad,ae,af,ag]∧Step [] z H0 c H∧Own (wz jB jV jV (uK (mV jV jB jB))) H0 c H o Y X∧iz.r c H p as) ⟨_,_,_,_,_,_,_,_,_,rfl,a1,a2,d⟩ ?_ ?_
 ·intro X u bJ bK σ N i k
  obtain ⟨Y,Z,aa,ab,ac,ad,ae,af,ag,rfl,j,f,d⟩:=i
  refine sV (jd (jU ?_))
  obtain ⟨bL,a4,k⟩:=k.opt
  obtain ⟨g,a5,k⟩:=k.opt
  obtain ⟨bM,a6,bN,a7⟩:=sW (K:=K) d a4 a5
  refine Pv.go (jt (iw rfl) (iw rfl) a7) ?_
  obtain ⟨a8,aw,C,ah,a9,a_,D,F,e,l,m⟩:=R3 (K:=K) a6
  subst a9
  refine ⟨a8,_,rfl,a_,rfl,?_⟩
  refine qG (vH (qG (yH (qG (Ak (qG (Ei (qG (yI (qG (Br (qG (Bs (G_ (iY ?_)))))))))))))))
  refine wD k (fun (ax:List (Int×PySem.Str×PySem.Str×List (PySem.Str×Int×Int))) (c:Cl) (H:Hp) (σ:L2.St)=>∃ (ay:List V),σ=[some (V.ref p),some (V.int t),some (V.int q),some (V.ref o),some (V.int u),some (V.str g.1),some (V.str g.2.1),some aw,some (V.int g.2.2.2.1),some C,some (V.int g.2.2.2.2.2.1),some ah]∧Step [] z H0 c H∧Own (wz jB jV jV (uK (mV jV jB jB))) H0 c H o ay ax∧iz.r c H p as∧(uK (mV jV jB jB)).r c H aw g.2.2.1∧jC.r c H C g.2.2.2.2.1∧jC.r c H ah g.2.2.2.2.2.2) ?_ ?_
  rotate_left
  ·intro k
   refine qF (yu (oG.go (oH (jt (iw rfl) (iw rfl) jW)) ?_))
   refine jM (b:=(decide (g.2.2.2.2.2.1≤t))) (fun ai=>?_) (fun ai=>?_)
   ·have k:=k.o8 ai
    refine yu (zf (oG.go (oH (jt (iw rfl) iT (Bg m))) ?_))
    refine jM (b:=(Option.isNone g.2.2.2.2.2.2)) (fun aj=>?_) (fun aj=>?_)
    ·have k:=k.o8 aj
     refine yu (oG.go (oH (jt (iw rfl) (iw rfl) jW)) ?_)
     refine jM (b:=(decide (g.2.2.2.1≤q))) (fun ak=>?_) (fun ak=>?_)
     ·have k:=k.o8 ak
      refine zf (oG.go (oH (jt (iw rfl) iT (Bg l))) ?_)
      refine jM (b:=(Option.isNone g.2.2.2.2.1)) (fun al=>?_) (fun al=>?_)
      ·have k:=k.o8 al
       refine oM (xV (Pv.go (iw rfl) ?_))
       refine ⟨ty_list (.inl f.obj),?_⟩
       refine jg (tO (lM.go (iQ (jt (iw rfl) iT jW) (iQ (iw rfl) (iQ (iw rfl) (iQ (iw rfl) jm)))) ?_))
       refine nO lK j.wf fun G ba bb r bc bd az=>?_
       have bO:p≠G:=Mu.ne iz d az
       have bP:o≠G:=kW f.obj az
       have aA:=j.pB r
       have d:=Mu.iD iz r d
       have f:=f.step0 r
       have e:=lift e r
       have l:=lift l r
       have m:=lift m r
       have be:(wz jB jV jV (uK (mV jV jB jB))).r ba bb (V.ref G) ((u+(1:Int)),g.1,g.2.1,g.2.2.1):=⟨G,_,_,_,_,rfl,bc,.inl bd,rfl,⟨rfl,D⟩,⟨rfl,F⟩,e⟩
       refine lg ?_
       obtain ⟨bf,k⟩:=k.chk
       refine mW f aA.wf be (jQ bf) fun bQ v aB=>?_
       have aC:=aA.tr1 v (.inr aB.new)
       have d:=Mu.jE iz v B d
       have e:=lift e v
       have l:=lift l v
       have m:=lift m v
       exact k.done aC _ ⟨_,rfl,aC,aB,d,e,l,m⟩
      rw [jh al] at k
      obtain ⟨aD,bg,k⟩:=k.opt
      have bh:C=V.int aD:=some_of l bg
      subst bh
      refine oG.go (oH (jt (iw rfl) (iw rfl) jW)) ?_
      refine jM (b:=(decide (q≤aD))) (fun am=>?_) (fun am=>?_)
      ·have k:=k.o8 am
       refine oM (xV (Pv.go (iw rfl) ?_))
       refine ⟨ty_list (.inl f.obj),?_⟩
       refine jg (tO (lM.go (iQ (jt (iw rfl) iT jW) (iQ (iw rfl) (iQ (iw rfl) (iQ (iw rfl) jm)))) ?_))
       refine nO lK j.wf fun I bi bj x bk bl aE=>?_
       have bR:p≠I:=Mu.ne iz d aE
       have bS:o≠I:=kW f.obj aE
       have aF:=j.pB x
       have d:=Mu.iD iz x d
       have f:=f.step0 x
       have e:=lift e x
       have m:=lift m x
       have bm:(wz jB jV jV (uK (mV jV jB jB))).r bi bj (V.ref I) ((u+(1:Int)),g.1,g.2.1,g.2.2.1):=⟨I,_,_,_,_,rfl,bk,.inl bl,rfl,⟨rfl,D⟩,⟨rfl,F⟩,e⟩
       refine lg ?_
       obtain ⟨bn,k⟩:=k.chk
       refine mW f aF.wf bm (jQ bn) fun bT J aG=>?_
       have aH:=aF.tr1 J (.inr aG.new)
       have d:=Mu.jE iz J B d
       have e:=lift e J
       have m:=lift m J
       exact k.done aH _ ⟨_,rfl,aH,aG,d,e,(by first | rfl | assumption),m⟩
      rw [jh am] at k
      refine jX ?_
      exact k.done j _ ⟨_,rfl,j,f,d,e,(by first | rfl | assumption),m⟩
     rw [jh ak] at k
     refine jX ?_
     exact k.done j _ ⟨_,rfl,j,f,d,e,l,m⟩
    rw [jh aj] at k
    obtain ⟨aI,bo,k⟩:=k.opt
    have bp:ah=V.int aI:=some_of m bo
    subst bp
    refine oG.go (oH (jt (iw rfl) (iw rfl) jW)) ?_
    refine jM (b:=(decide (t<aI))) (fun an=>?_) (fun an=>?_)
    ·have k:=k.o8 an
     refine yu (oG.go (oH (jt (iw rfl) (iw rfl) jW)) ?_)
     refine jM (b:=(decide (g.2.2.2.1≤q))) (fun ao=>?_) (fun ao=>?_)
     ·have k:=k.o8 ao
      refine zf (oG.go (oH (jt (iw rfl) iT (Bg l))) ?_)
      refine jM (b:=(Option.isNone g.2.2.2.2.1)) (fun ap=>?_) (fun ap=>?_)
      ·have k:=k.o8 ap
       refine oM (xV (Pv.go (iw rfl) ?_))
       refine ⟨ty_list (.inl f.obj),?_⟩
       refine jg (tO (lM.go (iQ (jt (iw rfl) iT jW) (iQ (iw rfl) (iQ (iw rfl) (iQ (iw rfl) jm)))) ?_))
       refine nO lK j.wf fun L bq br y bs bt aJ=>?_
       have bU:p≠L:=Mu.ne iz d aJ
       have bV:o≠L:=kW f.obj aJ
       have aK:=j.pB y
       have d:=Mu.iD iz y d
       have f:=f.step0 y
       have e:=lift e y
       have l:=lift l y
       have bu:(wz jB jV jV (uK (mV jV jB jB))).r bq br (V.ref L) ((u+(1:Int)),g.1,g.2.1,g.2.2.1):=⟨L,_,_,_,_,rfl,bs,.inl bt,rfl,⟨rfl,D⟩,⟨rfl,F⟩,e⟩
       refine lg ?_
       obtain ⟨bv,k⟩:=k.chk
       refine mW f aK.wf bu (jQ bv) fun bW M aL=>?_
       have aM:=aK.tr1 M (.inr aL.new)
       have d:=Mu.jE iz M B d
       have e:=lift e M
       have l:=lift l M
       exact k.done aM _ ⟨_,rfl,aM,aL,d,e,l,(by first | rfl | assumption)⟩
      rw [jh ap] at k
      obtain ⟨aN,bw,k⟩:=k.opt
      have bx:C=V.int aN:=some_of l bw
      subst bx
      refine oG.go (oH (jt (iw rfl) (iw rfl) jW)) ?_
      refine jM (b:=(decide (q≤aN))) (fun aq=>?_) (fun aq=>?_)
      ·have k:=k.o8 aq
       refine oM (xV (Pv.go (iw rfl) ?_))
       refine ⟨ty_list (.inl f.obj),?_⟩
       refine jg (tO (lM.go (iQ (jt (iw rfl) iT jW) (iQ (iw rfl) (iQ (iw rfl) (iQ (iw rfl) jm)))) ?_))
       refine nO lK j.wf fun O bz bA R bB bC aO=>?_
       have bX:p≠O:=Mu.ne iz d aO
       have bY:o≠O:=kW f.obj aO
       have aP:=j.pB R
       have d:=Mu.iD iz R d
       have f:=f.step0 R
       have e:=lift e R
       have bD:(wz jB jV jV (uK (mV jV jB jB))).r bz bA (V.ref O) ((u+(1:Int)),g.1,g.2.1,g.2.2.1):=⟨O,_,_,_,_,rfl,bB,.inl bC,rfl,⟨rfl,D⟩,⟨rfl,F⟩,e⟩
       refine lg ?_
       obtain ⟨bE,k⟩:=k.chk
       refine mW f aP.wf bD (jQ bE) fun bZ ar aQ=>?_
       have aR:=aP.tr1 ar (.inr aQ.new)
       have d:=Mu.jE iz ar B d
       have e:=lift e ar
       exact k.done aR _ ⟨_,rfl,aR,aQ,d,e,(by first | rfl | assumption),(by first | rfl | assumption)⟩
      rw [jh aq] at k
      refine jX ?_
      exact k.done j _ ⟨_,rfl,j,f,d,e,(by first | rfl | assumption),(by first | rfl | assumption)⟩
     rw [jh ao] at k
     refine jX ?_
     exact k.done j _ ⟨_,rfl,j,f,d,e,l,(by first | rfl | assumption)⟩
    rw [jh an] at k
    refine jX ?_
    exact k.done j _ ⟨_,rfl,j,f,d,e,l,(by first | rfl | assumption)⟩
   rw [jh ai] at k
   refine jX ?_
   exact k.done j _ ⟨_,rfl,j,f,d,e,l,m⟩
  intro ax b0 b1 σ i k
  obtain ⟨ay,rfl,aS,bF,d,e,l,m⟩:=i
  refine iY ?_
  exact (k.done aS) _ ⟨_,_,_,_,_,_,_,_,_,rfl,aS,bF,d⟩
 intro X b2 b3 σ i k
 obtain ⟨Y,Z,aa,ab,ac,ad,ae,af,ag,rfl,bG,bH,d⟩:=i
 refine iY (jT (Pv.go (iw rfl) ?_))
 exact (k.done bG) _ ⟨_,_,rfl,bH⟩
theorem o7:FnOk P w K mg base CX0 3 a.jG a.wN ["_law_events", "_law_number"] (B_ K a):=by
 have sc:FnScope ["_law_events", "_law_number"] ["_law_events", "_law_number"] (defScope pG):=⟨rfl, rfl, rfl, jc, rfl, jc, jc⟩
 refine T.jG.F.ok sc (fun vs H Q E h=>?_) (fun cdv A outer s H0 vs Q E hr h=>?_)
 ·obtain ⟨_,_,_,_,_,rfl,_⟩:=h
  rfl
 obtain ⟨c,v,n,o,j,rfl,p,b,f,k⟩:=h
 refine ⟨_,(je (ps_try_only (Wout:=(fun _ _ _ _=>False)) rfl rfl ⟨rfl,iW,.inl T.lu.g⟩ takes0 (fun W pn xe tk _=>(i_ (ps_expr (yw (pv 0) T.jr.cl T.j9.m (Wc (pP T ND)) hr T.j9.b (fun σ=>passAt tk σ) (ig (pv 1) iH))))) (fun xa oe cls d pn hz hf=>(i_ (jJ pe_bl)))) (i_ (jJ pe_bl))),?_⟩
 have f:o=(V.int j):=f
 subst f
 have g:Step [] c H0 c H0:=Step.refl p
 unfold lX at k
 refine jd ?_
 have k:=k.zW
 refine oM (Ah (Pv.go (iw rfl) (lE b jc (lM.go (iQ (iw rfl) jm) ?_))))
 refine ⟨c,_,n,_,j,rfl,g.wf,b,rfl,?_⟩
 refine Kont.call k g (fun _ z=>by cases z) (fun x q k r t i l y u=>?_) (fun e q r t i l pe=>?_)
 rotate_left
 ·cases e with
  | event =>
   exact pe.elim
  | j7 =>
   refine ⟨true,T.mH,fun _ B C=>?_,fun z=>by cases z⟩
   have k:=pe
   have b:=Mu.iD (h_ a) i b
   refine jT (Pv.go iT ?_)
   exact (k.done l) _ rfl
  | _=>exact pe.elim
 obtain ⟨D,F,G,I,J,rfl,L,m,M,N,O⟩:=Em g i u
 have k:=k.done m
 refine iY (jT (Pv.go iT ?_))
 exact (k.done m) _ rfl
theorem tZ:FnOk P w K mg base CX0 3 a.kJ a.wO ["_law_events", "_law_entry"] (Ca K a):=by
 have sc:FnScope ["_law_events", "_law_entry"] ["_law_events", "_law_entry"] (defScope pH):=⟨rfl, rfl, rfl, jc, rfl, jc, jc⟩
 refine T.kJ.F.ok sc (fun vs H Q E h=>?_) (fun cdv A outer s H0 vs Q E hr h=>?_)
 ·obtain ⟨_,_,_,_,_,rfl,_⟩:=h
  rfl
 obtain ⟨f,u,n,o,i,rfl,p,b,g,k⟩:=h
 refine ⟨_,(je (ps_try_only (Wout:=(fun _ _ _ _=>False)) rfl rfl ⟨rfl,iW,.inl T.lu.g⟩ takes0 (fun W pn xe tk _=>(i_ (ps_expr (yw (pv 0) T.jr.cl T.j_.m (Wc (pQ T ND)) hr T.j_.b (fun σ=>passAt tk σ) (ig (pv 1) (ig iK iH)))))) (fun xa oe cls d pn hz hf=>(i_ (jJ pe_bl)))) (i_ (jJ pe_bl))),?_⟩
 have g:o=(V.int i):=g
 subst g
 have j:Step [] f H0 f H0:=Step.refl p
 unfold mX at k
 refine jd ?_
 have k:=k.zW
 refine oM (Ah (Pv.go (iw rfl) (lE b jc (lM.go (iQ (iw rfl) (iQ iT jm)) ?_))))
 refine ⟨f,_,n,_,i,_,(5:Int),rfl,j.wf,b,rfl,rfl,?_⟩
 refine Kont.call k j (fun _ z=>by cases z) (fun v q k r t l c x m=>?_) (fun e q r t l c pe=>?_)
 rotate_left
 ·cases e with
  | event =>
   exact pe.elim
  | j7 =>
   refine ⟨true,T.mH,fun _ y B=>?_,fun z=>by cases z⟩
   have k:=pe
   have b:=Mu.iD (h_ a) l b
   refine jT (Pv.go iT ?_)
   exact (k.done c) _ rfl
  | _=>exact pe.elim
 obtain ⟨C,D,rfl,m⟩:=m
 have k:=k.done c
 refine iY (jT (Pv.go iT ?_))
 exact (k.done c) _ rfl
theorem Ci:FnOk P w K mg base CX0 4 a.nJ a.wQ ["_law_state_here", "_law_events", "_law_rows"] (Cd K a):=by
 have sc:FnScope ["_law_state_here", "_law_events", "_law_rows", "_law_number", "_law_told"] ["_law_state_here", "_law_events", "_law_rows"] (defScope pJ):=⟨rfl, rfl, rfl, jc, rfl, jc, jc⟩
 refine T.nJ.F.ok sc (fun vs H Q E h=>?_) (fun cdv A outer s H0 vs Q E hr h=>?_)
 ·obtain ⟨_,_,_,_,_,_,_,rfl,_⟩:=h
  rfl
 obtain ⟨F,au,aM,aN,j,aO,u,rfl,aP,g,c,aQ,d,aR,k⟩:=h
 refine ⟨_,(je (ps_if (PW.pt (pw_or (pt_not (pt_val (jy (tZ T ND) hr jf T.kJ.g T.kJ.F.kp T.kJ.b .nil jj (ig (pv 1) (ig (pe_op op_add (pe_meth0 (pv 1) T.jr.cl T.jo.m (lH T ND) (hr.mono iW) T.jo.b .nil jj) iK) iH))))) (pw_or1 (pt_not (pt_val (jy (o7 T ND) hr jf T.jG.g T.jG.F.kp T.jG.b .nil jj (ig (pv 1) (ig (pe_op op_add (pe_callB call_len_seq jf T.qu nM (ig (pv 2) iH)) iK) iH)))))))) (i_ (jJ pe_bl)) pss_nil) (je (ps_if (jN (op_eqD hr.units) (pv 2) (pe_lst iH) (by first | exact jw _ | rfl)) (i_ (jJ (jy (o7 T ND) hr jf T.jG.g T.jG.F.kp T.jG.b .nil jj (ig (pv 1) (ig iK iH))))) pss_nil) (je (jF (i:=3) sc.nd rfl (Or.inl rfl) (pe_op op_add iK (jy (ju T ND) (hr.mono iW) jf T.iG.g T.iG.F.kp T.iG.b .nil jj (ig (pv 0) (ig (pe_callB call_len_seq jf T.qu nM (ig (pv 2) iH)) iH))))) (je (jF (i:=4) sc.nd rfl (Or.inl rfl) (pe_meth (pv 1) T.jr.cl T.j9.m (pP T ND) (hr.mono iW) T.j9.b .nil (L2N.passes_call (W:=fun _ _ _ _=>False) w6 (fun _ _ _ _ h=>h)) (ig (pv 3) iH))) (je (ps_if (jN (op_neD hr.units) (pv 4) (pe_tupleOf jf T.Ao (pe_ix ix_list (pv 2) (pe_op op_sub (pv 3) iK) (fun _ _=>rfl))) (by first | exact jw _ | rfl)) (i_ (jJ pe_bl)) pss_nil) (je (ps_expr (pe_bm vp v7 v8 mt_append (pe_ix ix_tup (pv 4) iK (fun _ _=>rfl)) (ig (pe_tup (ig pe_str (ig iK (ig iK iH)))) iH))) (je (ps_if (jN (op_neD hr.units) (pe_meth (pv 1) T.jr.cl T.j9.m (pP T ND) (hr.mono iW) T.j9.b .nil (L2N.passes_call (W:=fun _ _ _ _=>False) w6 (fun _ _ _ _ h=>h)) (ig (pv 3) iH)) (pe_tupleOf jf T.Ao (pe_ix ix_list (pv 2) (pe_op op_sub (pv 3) iK) (fun _ _=>rfl))) (by first | exact jw _ | rfl)) (i_ (jJ pe_bl)) pss_nil) (i_ (jJ (pe_cmpR (op_eqD hr.units) (pe_meth (pv 1) T.jr.cl T.j_.m (pQ T ND) (hr.mono iW) T.j_.b .nil (L2N.passes_call (W:=fun _ _ _ _=>False) w6 (fun _ _ _ _ h=>h)) (ig (pe_meth0 (pv 1) T.jr.cl T.jo.m (lH T ND) (hr.mono iW) T.jo.b .nil jj) (ig (pe_ix ix_list (pe_ix ix_list (pv 2) (pe_op op_sub (pv 3) iK) (fun _ _=>rfl)) iK (fun _ _=>rfl)) iH))) (jy (xZ T ND) (hr.mono iW) jf T.oF.g T.oF.F.kp T.oF.b .nil jj (ig (pv 2) (ig (pe_meth0 (pv 1) T.jr.cl T.jo.m (lH T ND) (hr.mono iW) T.jo.b .nil jj) (ig (pe_ix ix_list (pe_ix ix_list (pv 2) (pe_op op_sub (pv 3) iK) (fun _ _=>rfl)) iK (fun _ _=>rfl)) iH)))) (by first | exact jw _ | rfl))))))))))),?_⟩
 have av:Step [au] F H0 F H0:=Step.refl aP
 unfold n_ at k
 refine jd (qF (zf (vP (Bb (jA (jg (Pv.go (iw rfl) (jg (mZ (pq (Pv.go (iw rfl) (lE c jc (lg ?_)))))))))))))
 refine ⟨F,_,j,rfl,av.wf,c,?_⟩
 refine Kont.call k av (fun _ z=>by cases z) (fun aw bZ k aS b0 G ax aT I=>?_) (fun _ _ _ _ _ _ z=>z)
 have I:aT=(V.int aw):=I
 subst I
 have g:=Mu.iD iU G g
 have c:=Mu.iD (h_ a) G c
 have d:=Mu.iD iz G d
 refine Pv.go iT (jW _ (lg ?_))
 refine ⟨aS,_,j,_,(aw+(1:Int)),rfl,ax.wf,c,rfl,?_⟩
 refine Kont.call k ax (fun _ z=>by cases z) (fun ay b1 k aU b2 J L aV M=>?_) (fun _ _ _ _ _ _ z=>z)
 have M:aV=(V.bl ay):=M
 subst M
 have g:=Mu.iD iU J g
 have c:=Mu.iD (h_ a) J c
 have d:=Mu.iD iz J d
 refine ⟨_,rfl,?_⟩
 refine jM (b:=ay) (fun N=>?_) (fun N=>?_)
 ·have k:=k.o8 N
  refine vP (Bb (jA (lM.go (iQ (iw rfl) (iQ (jt (oO d (iw rfl)) iT jW) jm)) ?_)))
  refine ⟨aU,_,j,_,((u.length:Int)+(1:Int)),rfl,L.wf,c,rfl,?_⟩
  refine Kont.call k L (fun _ z=>by cases z) (fun az b3 k b4 b5 O v aW R=>?_) (fun _ _ _ _ _ _ z=>z)
  have R:aW=(V.bl az):=R
  subst R
  have g:=Mu.iD iU O g
  have c:=Mu.iD (h_ a) O c
  have d:=Mu.iD iz O d
  refine ⟨_,rfl,?_⟩
  refine jM (b:=az) (fun S=>?_) (fun S=>?_)
  ·have k:=k.o8 S
   refine jX (iY (jd (qF (sO (mZ (Pv.go (iw rfl) (pC (lM.go jm ?_))))))))
   refine lW lK v.wf fun aX U aY x aZ a0 a1=>?_
   have a2:=v.fresh a1
   have y:=v.pB x
   have g:=Mu.iD iU x g
   have c:=Mu.iD (h_ a) x c
   have d:=Mu.iD iz x d
   have a3:Own jB H0 U aY aX [] ([]:List Int):=⟨aZ,a0,trivial,a2⟩
   refine (Mw (A:=jB) d a3.b iW) _ ?_
   refine ⟨_,rfl,?_⟩
   refine jM (b:=(decide (u=[]))) (fun X=>?_) (fun X=>?_)
   ·have k:=k.o8 X
    refine jT (jA (lM.go (iQ (iw rfl) (iQ iT jm)) ?_))
    refine ⟨U,_,j,_,(0:Int),rfl,y.wf,c,rfl,?_⟩
    refine Kont.call k y (fun _ z=>by cases z) (fun a4 b6 k b7 b8 a5 a6 a7 Y=>?_) (fun _ _ _ _ _ _ z=>z)
    have Y:a7=(V.bl a4):=Y
    subst Y
    have g:=Mu.iD iU a5 g
    exact (k.done a6) _ ⟨rfl,g⟩
   rw [jh X] at k
   refine jX (iY (jd (jU (mZ (Pv.go iT (jA (lM.go (iQ (iw rfl) (iQ (oO d (iw rfl)) jm)) ?_)))))))
   refine ⟨U,_,aM,_,(u.length:Int),rfl,y.wf,g,rfl,?_⟩
   refine Kont.call k y (fun r z=>by rcases jD.mp z with rfl; exact (.inl j6)) (fun Z b9 k a8 b_ aA aa a9 p=>?_) (fun _ _ _ _ _ _ z=>z)
   obtain ⟨p,f⟩:=p
   have p:a9=(V.int Z.1):=p
   subst p
   have c:=Mu.jE (h_ a) aA (iZ aQ) c
   have d:=Mu.jE iz aA (iZ aR) d
   refine jW _ (rE (iY (jd (jU (pq (Pv.go (iw rfl) (lE c jc (lM.go (iQ (iw rfl) jm) ?_))))))))
   refine ⟨a8,_,j,_,((1:Int)+Z.1),rfl,aa.wf,c,rfl,?_⟩
   refine Kont.call k aa (fun _ z=>by cases z) (fun a_ ba k bb bc aB bd ca be=>?_) (fun e ba bb bc aB bd pe=>?_)
   rotate_left
   ·exact pe.elim
   obtain ⟨cb,ab,cc,cd,ce,rfl,ac,aC,B,m,ad⟩:=Em aa aB be
   have bf:au≠ab:=Mu.ne iU f ad
   have bg:aN≠ab:=Mu.ne (h_ a) c ad
   have bh:aO≠ab:=Mu.ne iz d ad
   have f:=Mu.iD iU ac f
   have c:=Mu.iD (h_ a) ac c
   have d:=Mu.iD iz ac d
   refine sV (iY (jd (qF (sO (mZ (Pv.go (iw rfl) (Hu ?_)))))))
   obtain ⟨cf,bi,k⟩:=k.opt
   obtain ⟨bj,bk,k⟩:=k.opt
   obtain ⟨cg,bl,ch,bm⟩:=sW (K:=K) d bi bk
   refine Pv.go (jt (iw rfl) (jt (iw rfl) iT jW) bm) ?_
   refine zm bl aC.wf fun ci cj ck n bn cl=>?_
   have ae:=aC.pB n
   have f:=Mu.iD iU n f
   have c:=Mu.iD (h_ a) n c
   have d:=Mu.iD iz n d
   have m:=m.step0 n
   have B:=B.lift n
   refine (zp B m bn) _ ?_
   refine ⟨_,rfl,?_⟩
   refine jM (b:=(!decide (a_=bj))) (fun af=>?_) (fun af=>?_)
   ·have k:=k.o8 af
    refine jT (Pv.go iT ?_)
    exact (k.done ae) _ ⟨rfl,f⟩
   rw [jh af] at k
   refine jX (iY (jd (oM (xV (Pv.go (jt (iw rfl) iT (Px (K:=K) B)) ?_)))))
   refine ⟨ty_list (.inl m.obj),?_⟩
   refine jg (tO (lM.go (iQ iT (iQ iT (iQ iT jm))) ?_))
   refine nO lK ae.wf fun aD aE bo q bp bq cm=>?_
   have aF:=ae.pB q
   have f:=Mu.iD iU q f
   have c:=Mu.iD (h_ a) q c
   have d:=Mu.iD iz q d
   have m:=m.step0 q
   have br:(mV jV jB jB).r aE bo (V.ref aD) (("zz" : jO), (0:Int), (1:Int)):=⟨aD, _, _, _, rfl, bp, .inl bq, ⟨rfl, (show PyData.strOk ("zz" : jO)=true by decide +kernel)⟩, rfl, rfl⟩
   refine lg ?_
   obtain ⟨bs,k⟩:=k.chk
   refine mW m aF.wf br (jQ bs) fun cn C bt=>?_
   have ag:=aF.tr1 C (.inr bt.new)
   have f:=Mu.jE iU C bf f
   have c:=Mu.jE (h_ a) C bg c
   have d:=Mu.jE iz C bh d
   refine iY (jd (qF (sO (mZ (pq (Pv.go (iw rfl) (lE c jc (lM.go (iQ (iw rfl) jm) ?_))))))))
   refine ⟨aE,_,j,_,((1:Int)+Z.1),rfl,ag.wf,c,rfl,?_⟩
   refine Kont.call k ag (fun _ z=>by cases z) (fun bu bv k bw bx aG bz co bA=>?_) (fun e bv bw bx aG bz pe=>?_)
   rotate_left
   ·exact pe.elim
   obtain ⟨cp,cq,cr,cs,ct,rfl,ah,aH,ai,aj,cu⟩:=Em ag aG bA
   have f:=Mu.iD iU ah f
   have c:=Mu.iD (h_ a) ah c
   have d:=Mu.iD iz ah d
   refine Hu ?_
   obtain ⟨cv,bB,k⟩:=k.opt
   obtain ⟨bC,bD,k⟩:=k.opt
   obtain ⟨cw,bE,cx,bF⟩:=sW (K:=K) d bB bD
   refine Pv.go (jt (iw rfl) (jt (iw rfl) iT jW) bF) ?_
   refine zm bE aH.wf fun cy bG cz o bH cA=>?_
   have ak:=aH.pB o
   have f:=Mu.iD iU o f
   have c:=Mu.iD (h_ a) o c
   have d:=Mu.iD iz o d
   have aj:=aj.step0 o
   have ai:=ai.lift o
   refine (zp ai aj bH) _ ?_
   refine ⟨_,rfl,?_⟩
   refine jM (b:=(!decide (bu=bC))) (fun al=>?_) (fun al=>?_)
   ·have k:=k.o8 al
    refine jT (Pv.go iT ?_)
    exact (k.done ak) _ ⟨rfl,f⟩
   rw [jh al] at k
   refine jX (iY (jT (mZ (pq (Pv.go (iw rfl) (lE c jc (jg (pq (Pv.go (iw rfl) (lE c jc (lg ?_)))))))))))
   refine ⟨bG,_,j,rfl,ak.wf,c,?_⟩
   refine Kont.call k ak (fun _ z=>by cases z) (fun aI cB k bI cC am an bJ ao=>?_) (fun _ _ _ _ _ _ z=>z)
   have ao:bJ=(V.int aI):=ao
   subst ao
   have f:=Mu.iD iU am f
   have c:=Mu.iD (h_ a) am c
   have d:=Mu.iD iz am d
   refine jg ?_
   obtain ⟨cD,bK,k⟩:=k.opt
   obtain ⟨bL,bM,k⟩:=k.opt
   obtain ⟨cE,bN,cF,bO⟩:=sW (K:=K) d bK bM
   refine Pv.go (jt (jt (iw rfl) (jt (iw rfl) iT jW) bO) iT (Gj bN)) (lg ?_)
   refine ⟨bI,_,j,_,aI,_,bL.2.2.2.1,rfl,an.wf,c,rfl,rfl,?_⟩
   refine Kont.call k an (fun _ z=>by cases z) (fun cG bP k aJ bQ D ap cH l=>?_) (fun e bP aJ bQ D ap pe=>?_)
   rotate_left
   ·exact pe.elim
   obtain ⟨cI,cJ,rfl,l⟩:=l
   have l:=l.base an
   have f:=Mu.iD iU D f
   have c:=Mu.iD (h_ a) D c
   have d:=Mu.iD iz D d
   refine jA (jg (Pv.go (iw rfl) (jg (pq (Pv.go (iw rfl) (lE c jc (lg ?_)))))))
   refine ⟨aJ,_,j,rfl,ap.wf,c,?_⟩
   refine Kont.call k ap (fun _ z=>by cases z) (fun aK cK k bR cL aq ar bS as=>?_) (fun _ _ _ _ _ _ z=>z)
   have as:bS=(V.int aK):=as
   subst as
   have f:=Mu.iD iU aq f
   have d:=Mu.iD iz aq d
   have l:=l.step0 aq
   refine jg ?_
   obtain ⟨cM,bT,k⟩:=k.opt
   obtain ⟨bU,bV,k⟩:=k.opt
   obtain ⟨cN,bW,cO,bX⟩:=sW (K:=K) d bT bV
   refine Pv.go (jt (jt (iw rfl) (jt (iw rfl) iT jW) bX) iT (Gj bW)) (lg ?_)
   refine ⟨bR,_,u,_,aK,_,bU.2.2.2.1,rfl,ar.wf,d,rfl,rfl,?_⟩
   refine Kont.call k ar (fun _ z=>by cases z) (fun cP cQ k cR cS aL bY cT t=>?_) (fun _ _ _ _ _ _ z=>z)
   obtain ⟨cU,cV,rfl,t⟩:=t
   have t:=t.base ar
   have f:=Mu.iD iU aL f
   have l:=l.step0 aL
   refine (G8 (Ie l) t.b iW) _ ?_
   exact (k.done bY) _ ⟨rfl,f⟩
  rw [jh S] at k
  refine jT (Pv.go iT ?_)
  exact (k.done v) _ ⟨rfl,g⟩
 rw [jh N] at k
 refine jT (Pv.go iT ?_)
 exact (k.done L) _ ⟨rfl,g⟩
theorem SQ:FnOk P w K mg base CX0 5 a.law a.Ig ["_law_script"] (sp_law K):=by
 have sc:FnScope ["_law_script", "_law_state_here", "_law_events", "_law_rows", "_law_k", "_law_entries", "_law_good", "_law_entry", "_law_far", "_law_day_here", "_law_told", "_law_row"] ["_law_script"] (defScope Dm):=⟨rfl, rfl, rfl, jc, rfl, jc, jc⟩
 refine T.law.F.ok sc (fun vs H Q E h=>?_) (fun cdv A outer s H0 vs Q E hr h=>?_)
 ·obtain ⟨_,_,_,rfl,_⟩:=h
  rfl
 obtain ⟨J,ab,c0,rfl,c1,b_,k⟩:=h
 refine ⟨_, (je (jF (i:=1) sc.nd rfl (Or.inl rfl) (jy (Ey T ND) (hr.mono iW) jf T.qp.g T.qp.F.kp T.qp.b .nil jj (ig (pv 0) iH))) (je (jF (i:=2) sc.nd rfl (Or.inl rfl) (pe_make0 T.jr.maker (Cg T ND) (hr.mono iW) jf T.jr.g T.oX.b .nil jj)) (je (jF (i:=3) sc.nd rfl (Or.inl rfl) (pe_lst iH)) (je (ps_for PassesOwn.never rfl (pi_range1 jf T.sY (ig (jy (ju T ND) (hr.mono iW) jf T.iG.g T.iG.F.kp T.iG.b .nil jj (ig (pv 1) (ig iK iH))) iH)) (pg_name (i:=4) sc.nd rfl (Or.inl rfl)) (je (ps_if (pt_not (pt_val (jy (Ci T ND) hr jf T.nJ.g T.nJ.F.kp T.nJ.b .nil jj (ig (pv 1) (ig (pv 2) (ig (pv 3) iH)))))) (i_ (jJ pe_bl)) pss_nil) (je (jF (i:=5) sc.nd rfl (Or.inl rfl) (pe_meth0 (pv 2) T.jr.cl T.jo.m (lH T ND) (hr.mono iW) T.jo.b .nil jj)) (je (jF (i:=6) sc.nd rfl (Or.inl rfl) (pe_ifExp (jN op_eq (jy (ju T ND) (hr.mono iW) jf T.iG.g T.iG.F.kp T.iG.b .nil jj (ig (pv 1) (ig iK iH))) iK (by first | exact jw _ | rfl)) (jy (Io T ND) (hr.mono iW) jf T.rA.g T.rA.F.kp T.rA.b .nil jj (ig (pv 1) (ig (pv 2) (ig (pv 3) (ig (pv 5) iH))))) (jy (Im T ND) hr jf T.uw.g T.uw.F.kp T.uw.b .nil jj (ig (pv 1) (ig (pv 2) (ig (pv 3) (ig (pv 5) iH))))))) (i_ (ps_if (PW.pt (pw_or (pt_not (pt_val (pv 6))) (pw_or1 (jN op_ne (pe_meth0 (pv 2) T.jr.cl T.jo.m (lH T ND) (hr.mono iW) T.jo.b .nil jj) (pe_op op_add (pe_callB call_len_seq jf T.qu nM (ig (pv 3) iH)) (pe_callB (rC (K:=K) jf) jf T.qu nM (ig (pe_lc jf sc.nd (pi_list (pv 3)) (blkOk_by (own:=[("_law_row", 11)]) (N:=["_law_script", "_law_state_here", "_law_events", "_law_rows", "_law_k", "_law_entries", "_law_good", "_law_entry", "_law_far", "_law_day_here", "_law_told", "_law_row"]) (sc:=defScope Dm) jc) (fun _ _ _ _ _=>(pg_name (i:=11) sc.nd rfl (Or.inl rfl))) (fun _ _ _ _ _=>(pts_one (jN op_notN (pe_ix (Bc (K:=K) jf) (pv 11) iK (fun _ _=>rfl)) pe_non (by first | exact jw _ | rfl)))) (fun _ _ _ _ _=>(pv 11))) iH))) (by first | exact jw _ | rfl))))) (i_ (jJ pe_bl)) pss_nil)))))) (je (ps_for PassesOwn.never rfl (pi_range1 jf T.sY (ig (pe_callB call_len_seq jf T.qu nM (ig (pv 3) iH)) iH)) (pg_name (i:=4) sc.nd rfl (Or.inl rfl)) (i_ (ps_if (jN (op_neD hr.units) (pe_meth (pv 2) T.jr.cl T.j9.m (pP T ND) (hr.mono iW) T.j9.b .nil (L2N.passes_call (W:=fun _ _ _ _=>False) w6 (fun _ _ _ _ h=>h)) (ig (pe_op op_add (pv 4) iK) iH)) (pe_tupleOf jf T.Ao (pe_ix ix_list (pv 3) (pv 4) (fun _ _=>rfl))) (by first | exact jw _ | rfl)) (i_ (jJ pe_bl)) pss_nil))) (je (ps_for PassesOwn.never rfl (pi_range1 jf T.sY (ig (pe_op op_add (pe_meth0 (pv 2) T.jr.cl T.jo.m (lH T ND) (hr.mono iW) T.jo.b .nil jj) iK) iH)) (pg_name (i:=7) sc.nd rfl (Or.inl rfl)) (je (jF (i:=8) sc.nd rfl (Or.inl rfl) (pe_ix ix_list (pe_lst (ig (pe_un un_neg iK) (ig (pe_op op_sub iK (pe_op op_pow iK iK)) (ig iK (ig (pe_op op_pow iK iK) (ig (pe_op op_pow iK iK) (ig (pe_op op_sub iK (pe_op op_pow iK iK)) iH))))))) (jy (ju T ND) (hr.mono iW) jf T.iG.g T.iG.F.kp T.iG.b .nil jj (ig (pv 1) (ig iK iH))) (fun _ _=>rfl))) (i_ (ps_for PassesOwn.never rfl (pi_list (pe_lst (ig (jy (vK T ND) (hr.mono iW) jf T.mO.g T.mO.F.kp T.mO.b .nil jj (ig (pv 1) iH)) (ig (jy (vK T ND) (hr.mono iW) jf T.mO.g T.mO.F.kp T.mO.b .nil jj (ig (pv 1) iH)) (ig (pv 8) iH))))) (pg_name (i:=9) sc.nd rfl (Or.inl rfl)) (je (jF (i:=10) sc.nd rfl (Or.inl rfl) (pe_meth (pv 2) T.jr.cl T.j_.m (pQ T ND) (hr.mono iW) T.j_.b .nil (L2N.passes_call (W:=fun _ _ _ _=>False) w6 (fun _ _ _ _ h=>h)) (ig (pv 7) (ig (pv 9) iH)))) (je (ps_if (jN (op_neD hr.units) (pv 10) (jy (xZ T ND) (hr.mono iW) jf T.oF.g T.oF.F.kp T.oF.b .nil jj (ig (pv 3) (ig (pv 7) (ig (pv 9) iH)))) (by first | exact jw _ | rfl)) (i_ (jJ pe_bl)) pss_nil) (je (ps_for PassesOwn.never rfl (pi_list (pv 10)) (pg_name (i:=11) sc.nd rfl (Or.inl rfl)) (i_ (ps_expr (pe_bm vp v7 v8 mt_append (pe_ix ix_tup (pv 11) iK (fun _ _=>rfl)) (ig (pe_tup (ig pe_str (ig iK (ig iK iH)))) iH))))) (i_ (ps_if (jN (op_neD hr.units) (pe_meth (pv 2) T.jr.cl T.j_.m (pQ T ND) (hr.mono iW) T.j_.b .nil (L2N.passes_call (W:=fun _ _ _ _=>False) w6 (fun _ _ _ _ h=>h)) (ig (pv 7) (ig (pv 9) iH))) (jy (xZ T ND) (hr.mono iW) jf T.oF.g T.oF.F.kp T.oF.b .nil jj (ig (pv 3) (ig (pv 7) (ig (pv 9) iH)))) (by first | exact jw _ | rfl)) (i_ (jJ pe_bl)) pss_nil))))))))) (je (ps_if (PW.pt (pw_or (pt_not (pt_val (jy (o7 T ND) (hr.mono iW) jf T.jG.g T.jG.F.kp T.jG.b .nil jj (ig (pv 2) (ig iK iH))))) (pw_or (pt_not (pt_val (jy (o7 T ND) (hr.mono iW) jf T.jG.g T.jG.F.kp T.jG.b .nil jj (ig (pv 2) (ig (pe_un un_neg iK) iH))))) (pw_or1 (pt_not (pt_val (jy (o7 T ND) (hr.mono iW) jf T.jG.g T.jG.F.kp T.jG.b .nil jj (ig (pv 2) (ig (pe_op op_add (pe_callB call_len_seq jf T.qu nM (ig (pv 3) iH)) iK) iH))))))))) (i_ (jJ pe_bl)) pss_nil) (i_ (jJ (pe_and (jy (tZ T ND) (hr.mono iW) jf T.kJ.g T.kJ.F.kp T.kJ.b .nil jj (ig (pv 2) (ig (pe_op op_add (pe_meth0 (pv 2) T.jr.cl T.jo.m (lH T ND) (hr.mono iW) T.jo.b .nil jj) iK) iH))) (pe_one (jy (tZ T ND) (hr.mono iW) jf T.kJ.g T.kJ.F.kp T.kJ.b .nil jj (ig (pv 2) (ig (pe_un un_neg iK) iH)))))))))))))), ?_⟩
 have aD:Step [] J H0 J H0:=Step.refl c1
 unfold Gq at k
 refine jd (jU (jA (lM.go (iQ (iw rfl) jm) ?_)))
 refine ⟨J,_,c0,rfl,aD.wf,(aD.b0 b_),?_⟩
 refine Kont.call k aD (fun _ z=>by cases z) (fun c2 e8 k c3 c4 e9 aE e_ L=>?_) (fun _ _ _ _ _ _ z=>z)
 obtain ⟨n,rfl,c5,L⟩:=L
 have X:=aD.fresh c5
 refine uf (iY (jd (jU (Hl (lg ?_)))))
 refine Ho aE.wf fun l c6 c7 fa a9 c8 c9=>?_
 refine ⟨c3,c4,c7,l,c6,rfl,aE.wf,c8,a9,c9,?_⟩
 refine Kont.call k aE (fun _ z=>by cases z) (fun c_ fb k fc fd da a_ ag=>?_) (fun _ _ _ _ _ _ z=>z)
 refine ⟨rfl,?_⟩
 have M:n≠l:=Mu.ne iU L a9
 have ca:=aE.fresh a9
 have L:=Mu.iD iU da L
 refine qJ (iY (jd (jU (pC (lM.go jm ?_)))))
 refine lW lK a_.wf fun m cb db ba dc dd bb=>?_
 have O:n≠m:=Mu.ne iU L bb
 have cc:l≠m:=Mu.ne (h_ a) ag bb
 have de:=a_.fresh bb
 have cd:=a_.pB ba
 have L:=Mu.iD iU ba L
 have ag:=Mu.iD (h_ a) ba ag
 have ce:Own jB H0 cb db m [] ([]:List Int):=⟨dc,dd,trivial,de⟩
 have cf:=ce.new
 have bc:iz.r _ _ _ _:=JT ce
 refine rE (iY (jd (wB (vA (jg (jA (lM.go (iQ (iw rfl) (iQ iT jm)) ?_)))))))
 refine ⟨cb,_,c2,_,(41:Int),rfl,cd.wf,L,rfl,?_⟩
 refine Kont.call k cd (fun r z=>by rcases jD.mp z with rfl; exact (.inr X)) (fun cg fe k ff fg ch df dg an=>?_) (fun _ _ _ _ _ _ z=>z)
 obtain ⟨an,dh⟩:=an
 have an:dg=(V.int cg.1):=an
 subst an
 have ag:=Mu.jE (h_ a) ch (iZ M) ag
 have bc:=Mu.jE iz ch (iZ O) bc
 refine lg ?_
 obtain ⟨di,k⟩:=k.chk
 refine vB di ?_
 refine DY (s0:=((cg.2,c_,([]:nR)):mj×jx×nR)) (Rr:=tyB.r) k (fun (j:mj×jx×nR) (c:Cl) (H:Hp) (σ:L2.St)=>∃ (bd:Option V) (Y:Option V) (R:Option V),σ=[some ab,some (V.ref n),some (V.ref l),some (V.ref m),bd,Y,R,none,none,none,none,none]∧Step [] J H0 c H∧iU.r c H n j.1∧(h_ a).r c H l j.2.1∧iz.r c H m j.2.2) ⟨_,_,_,rfl,df,dh,ag,bc⟩ ?_ (fun r k c H g v hv=>(k.done g) v hv) ?_
 ·intro j dj dk fh σ N i k
  obtain ⟨bd,Y,R,rfl,cj,dl,y,S⟩:=i
  refine sV (jd (qF (vP (Bb (jA (lM.go (iQ (iw rfl) (iQ (iw rfl) (iQ (iw rfl) jm))) ?_))))))
  refine ⟨dk,_,j.1,_,j.2.1,_,j.2.2,rfl,cj.wf,dl,y,M,S,O,?_⟩
  refine Kont.call k cj (fun r z=>by rcases jD.mp z with rfl; exact (.inr X)) (fun be fi k dm fj ck bf dn ao=>?_) (fun _ _ _ _ _ _ z=>z)
  obtain ⟨ao,bg⟩:=ao
  have ao:dn=(V.bl be.1):=ao
  subst ao
  have y:=Mu.jE (h_ a) ck (iZ M) y
  have S:=Mu.jE iz ck (iZ O) S
  refine ⟨_,rfl,?_⟩
  refine jM (b:=be.1) (fun bh=>?_) (fun bh=>?_)
  ·have k:=k.o8 bh
   refine jX (iY (jd (jU (pq (Pv.go (iw rfl) (lE y jc (lg ?_)))))))
   refine ⟨dm,_,j.2.1,rfl,bf.wf,y,?_⟩
   refine Kont.call k bf (fun _ z=>by cases z) (fun aF fk k dp fl bi cl dq bj=>?_) (fun _ _ _ _ _ _ z=>z)
   have bj:dq=(V.int aF):=bj
   subst bj
   have bg:=Mu.iD iU bi bg
   have y:=Mu.iD (h_ a) bi y
   have S:=Mu.iD iz bi S
   refine vH (iY (jd (jU ?_)))
   refine Pn k (fun (bk:mj×jx×nR) (c:Cl) (H:Hp) (σ:L2.St)=>σ=[some ab,some (V.ref n),some (V.ref l),some (V.ref m),some (V.int dj),some (V.int aF),R,none,none,none,none,none]∧Step [] J H0 c H∧iU.r c H n bk.1∧(h_ a).r c H l bk.2.1∧iz.r c H m bk.2.2) ?_ ?_
   rotate_left
   ·intro k
    refine T_ (sO (mZ (jA (lM.go (iQ (iw rfl) (iQ iT jm)) ?_))))
    refine ⟨dp,_,be.2,_,(4:Int),rfl,cl.wf,bg,rfl,?_⟩
    refine Kont.call k cl (fun r z=>by rcases jD.mp z with rfl; exact (.inr X)) (fun aG fm k cm fn cn aH dr ap=>?_) (fun _ _ _ _ _ _ z=>z)
    obtain ⟨ap,co⟩:=ap
    have ap:dr=(V.int aG.1):=ap
    subst ap
    have y:=Mu.jE (h_ a) cn (iZ M) y
    have S:=Mu.jE iz cn (iZ O) S
    refine Pv.go iT (xU _ ?_)
    refine ⟨_,rfl,?_⟩
    refine jM (b:=(decide (aG.1=(0:Int)))) (fun bl=>?_) (fun bl=>?_)
    ·have k:=k.o8 bl
     refine jA (lM.go (iQ (iw rfl) (iQ (iw rfl) (iQ (iw rfl) (iQ (iw rfl) jm)))) ?_)
     refine ⟨cm,_,aG.2,_,j.2.1,_,j.2.2,_,aF,rfl,aH.wf,co,y,M,S,O,cc,rfl,?_⟩
     refine Kont.call k aH (JN (.inr X) (JN (.inr ca) (JN (.inr cf) Vb))) (fun ds fo k fp fq fr cp dt aq=>?_) (fun _ _ _ _ _ _ z=>z)
     obtain ⟨aq,du,dv,dw⟩:=aq
     have aq:dt=(V.bl ds.1):=aq
     subst aq
     exact k.done cp ⟨rfl,cp,du,dv,dw⟩
    rw [jh bl] at k
    refine jA (lM.go (iQ (iw rfl) (iQ (iw rfl) (iQ (iw rfl) (iQ (iw rfl) jm)))) ?_)
    refine ⟨cm,_,aG.2,_,j.2.1,_,j.2.2,_,aF,rfl,aH.wf,co,y,M,S,O,cc,rfl,?_⟩
    refine Kont.call k aH (JN (.inr X) (JN (.inr ca) (JN (.inr cf) Vb))) (fun dx fs k ft fu fv cq dy ar=>?_) (fun _ _ _ _ _ _ z=>z)
    obtain ⟨ar,dz,dA,dB⟩:=ar
    have ar:dy=(V.bl dx.1):=ar
    subst ar
    exact k.done cq ⟨rfl,cq,dz,dA,dB⟩
   intro aI dC fw i k
   obtain ⟨_,bm,Z,F,C⟩:=i
   refine yH (iY (qF (zf (vP (oG.go (T9 (iw rfl)) ?_)))))
   refine jM (b:=aI.1) (fun bn=>?_) (fun bn=>?_)
   ·have k:=k.o8 bn
    refine sO (mZ (pq (Pv.go (iw rfl) (lE F jc (lg ?_)))))
    refine ⟨dC,_,aI.2.2.1,rfl,bm.wf,F,?_⟩
    refine Kont.call k bm (fun _ z=>by cases z) (fun cr fx k fy fz bo cs dD bp=>?_) (fun _ _ _ _ _ _ z=>z)
    have bp:dD=(V.int cr):=bp
    subst bp
    have Z:=Mu.iD iU bo Z
    have F:=Mu.iD (h_ a) bo F
    have C:=Mu.iD iz bo C
    refine mZ (Pv.go (oO C (iw rfl)) (Ba (jg (K_ (yr (Pv.go (iw rfl) ?_))))))
    obtain ⟨ct,bq,fA,dE,fB⟩:=Gm C
    refine yt (.inl (.inl bq)) ?_
    obtain ⟨dF,k⟩:=k.chk
    refine Ji (A:=(Hw ct)) (B:=(Hw ct)) (xs:=(List.range aI.2.2.2.length)) k cs dF (fun ci Hi st=>QF (.inl (.inl (st.keep _ _ bq j6))) (dE.up st.up)) ?_ ?_
    ·intro fC fD cu cv Qe Qn aJ gi_ cw k
     have Z:=Mu.iD iU aJ Z
     have F:=Mu.iD (h_ a) aJ F
     have C:=Mu.iD iz aJ C
     have dG:=aJ.keep _ _ bq j6
     have fE:=gi_.b0 b_
     have cx:Step [] cu cv cu cv:=Step.refl gi_.wf
     refine yj ?_
     refine ⟨rfl,?_⟩
     obtain ⟨dH,dI,k⟩:=k.opt
     have dJ:=Gk.at C ⟨_,dG,cw⟩ dI
     obtain ⟨fF,dK,dL⟩:=Bu (K:=K) dJ
     refine oG.go (oH (jt (jt (iw rfl) iT dL) iT (vC dK))) ?_
     refine jM (b:=(!Option.isNone dH.2.2.2.2.2.2)) (fun br=>?_) (fun br=>?_)
     ·have k:=k.o8 br
      refine Pv.go (iw rfl) ?_
      exact (k.done cx) _ cw
     rw [jh br] at k
     exact k.done cx
    intro dM bs fG fH fI bt aK dN k
    have fJ:n≠bs:=Mu.ne iU Z bt
    have fK:l≠bs:=Mu.ne (h_ a) F bt
    have fL:m≠bs:=Mu.ne iz C bt
    have bu:=cs.pB aK
    have Z:=Mu.iD iU aK Z
    have F:=Mu.iD (h_ a) aK F
    have C:=Mu.iD iz aK C
    refine lg ?_
    obtain ⟨p_,Yc,Yd,Ye,Yg⟩:=(show rB K _ _ _ _ _ from dN.b)
    refine ⟨p_,Yc,by rw [Yd],.inl Ye,?_⟩
    rw [Yg.len]
    refine jW _ (Kz _ ?_)
    refine ⟨_,rfl,?_⟩
    refine jM (b:=(!decide (cr=((aI.2.2.2.length:Int)+(dM.length:Int))))) (fun bv=>?_) (fun bv=>?_)
    ·have k:=k.o8 bv
     refine jT (Pv.go iT ?_)
     exact (k.done bu) _ rfl
    rw [jh bv] at k
    refine jX (iY ?_)
    exact (k.done bu) _ ⟨_,_,_,rfl,bu,Z,F,C⟩
   rw [jh bn] at k
   refine jT (Pv.go iT ?_)
   exact (k.done bm) _ rfl
  rw [jh bh] at k
  refine jT (Pv.go iT ?_)
  exact (k.done bf) _ rfl
 intro j fM fN σ i k
 obtain ⟨bd,Y,R,rfl,dO,u,d,f⟩:=i
 have k:=k.Py
 refine iY (jd (wB (vA (lM.go (iQ (oO f (iw rfl)) jm) ?_))))
 obtain ⟨dP,k⟩:=k.chk
 refine vB dP ?_
 refine DY (s0:=(():Unit)) (Rr:=tyB.r) k (fun (cy:Unit) (c:Cl) (H:Hp) (σ:L2.St)=>∃ (ac:Option V),σ=[some ab,some (V.ref n),some (V.ref l),some (V.ref m),ac,Y,R,none,none,none,none,none]∧Step [] J H0 c H∧iU.r c H n j.1∧(h_ a).r c H l j.2.1∧iz.r c H m j.2.2) ⟨_,rfl,dO,u,d,f⟩ ?_ (fun r k c H g v hv=>(k.done g) v hv) ?_
 ·intro cy dQ dR fO σ N i k
  obtain ⟨ac,rfl,bw,u,d,f⟩:=i
  refine sV (qF (sO (mZ (pq (Pv.go (iw rfl) (lE d jc (lM.go (iQ (jt (iw rfl) iT jW) jm) ?_)))))))
  refine ⟨dR,_,j.2.1,_,(dQ+(1:Int)),rfl,bw.wf,d,rfl,?_⟩
  refine Kont.call k bw (fun _ z=>by cases z) (fun dS dT k dU dV cz dW fP dX=>?_) (fun e dT dU dV cz dW pe=>?_)
  rotate_left
  ·exact pe.elim
  obtain ⟨fQ,aL,fR,fS,fT,rfl,bx,cA,bz,aM,bA⟩:=Em bw cz dX
  have fU:n≠aL:=Mu.ne iU u bA
  have fV:l≠aL:=Mu.ne (h_ a) d bA
  have fW:m≠aL:=Mu.ne iz f bA
  have u:=Mu.iD iU bx u
  have d:=Mu.iD (h_ a) bx d
  have f:=Mu.iD iz bx f
  refine Hu ?_
  obtain ⟨fX,dY,k⟩:=k.opt
  obtain ⟨dZ,d0,k⟩:=k.opt
  obtain ⟨fY,d1,fZ,d2⟩:=sW (K:=K) f dY d0
  refine Pv.go (jt (iw rfl) (iw rfl) d2) ?_
  refine zm d1 cA.wf fun aN f0 f1 ah d3 aO=>?_
  have f2:n≠aN:=Mu.ne iU u aO
  have f3:l≠aN:=Mu.ne (h_ a) d aO
  have f4:m≠aN:=Mu.ne iz f aO
  have f5:aL≠aN:=kW aM.obj aO
  have bB:=cA.pB ah
  have u:=Mu.iD iU ah u
  have d:=Mu.iD (h_ a) ah d
  have f:=Mu.iD iz ah f
  have aM:=aM.step0 ah
  have bz:=bz.lift ah
  refine (zp bz aM d3) _ ?_
  refine ⟨_,rfl,?_⟩
  refine jM (b:=(!decide (dS=dZ))) (fun bC=>?_) (fun bC=>?_)
  ·have k:=k.o8 bC
   refine jT (Pv.go iT ?_)
   exact (k.done bB) _ rfl
  rw [jh bC] at k
  refine jX (iY ?_)
  exact (k.done bB) _ ⟨_,rfl,bB,u,d,f⟩
 intro cy d4 f6 σ i k
 obtain ⟨ac,rfl,cB,u,d,f⟩:=i
 have k:=k.Py
 refine iY (jd (wB (vA (jg (mZ (pq (Pv.go (iw rfl) (lE d jc (lg ?_)))))))))
 refine ⟨d4,_,j.2.1,rfl,cB.wf,d,?_⟩
 refine Kont.call k cB (fun _ z=>by cases z) (fun d5 f7 k f8 f9 bD d6 d7 bE=>?_) (fun _ _ _ _ _ _ z=>z)
 have bE:d7=(V.int d5):=bE
 subst bE
 have u:=Mu.iD iU bD u
 have d:=Mu.iD (h_ a) bD d
 have f:=Mu.iD iz bD f
 refine Pv.go iT (jW _ (lg ?_))
 obtain ⟨d8,k⟩:=k.chk
 refine vB d8 ?_
 refine DY (s0:=((j.1):mj)) (Rr:=tyB.r) k (fun (as:mj) (c:Cl) (H:Hp) (σ:L2.St)=>∃ (aP:Option V) (aQ:Option V) (aR:Option V) (aS:Option V) (aT:Option V),σ=[some ab,some (V.ref n),some (V.ref l),some (V.ref m),ac,Y,R,aP,aQ,aR,aS,aT]∧Step [] J H0 c H∧iU.r c H n as∧(h_ a).r c H l j.2.1∧iz.r c H m j.2.2) ⟨_,_,_,_,_,rfl,d6,u,d,f⟩ ?_ (fun r k c H g v hv=>(k.done g) v hv) ?_
 ·intro as ai f_ ga σ N i k
  obtain ⟨aP,aQ,aR,aS,aT,rfl,bF,aU,d,f⟩:=i
  refine Ak (jd (jU (mZ (pC ?_))))
  refine lM.go (iQ (wC iT) (iQ (jt iT (jt iT iT (za ⟨iW,iW,iW⟩)) jW) (iQ iT (iQ (jt iT iT (za ⟨iW,iW,iW⟩)) (iQ (jt iT iT (za ⟨iW,iW,iW⟩)) (iQ (jt iT (jt iT iT (za ⟨iW,iW,iW⟩)) jW) jm)))))) ?_
  refine lW lK bF.wf fun aV cC d9 aW d_ ea aX=>?_
  have eb:n≠aV:=Mu.ne iU aU aX
  have gb:l≠aV:=Mu.ne (h_ a) d aX
  have gc:m≠aV:=Mu.ne iz f aX
  have ec:=bF.fresh aX
  have cD:=bF.pB aW
  have aU:=Mu.iD iU aW aU
  have d:=Mu.iD (h_ a) aW d
  have f:=Mu.iD iz aW f
  have bG:Own jB H0 cC d9 aV [(V.int (-(1:Int))),(V.int ((0:Int) - ((10:Int)^(6:Int).toNat))),(V.int (1000001:Int)),(V.int ((10:Int)^(9:Int).toNat)),(V.int ((10:Int)^(17:Int).toNat)),(V.int ((0:Int) - ((10:Int)^(20:Int).toNat)))] ([(-(1:Int)),((0:Int) - ((10:Int)^(6:Int).toNat)),(1000001:Int),((10:Int)^(9:Int).toNat),((10:Int)^(17:Int).toNat),((0:Int) - ((10:Int)^(20:Int).toNat))]:List Int):=⟨d_,ea,⟨rfl,⟨rfl,⟨rfl,⟨rfl,⟨rfl,⟨rfl,trivial⟩⟩⟩⟩⟩⟩,ec⟩
  refine jA (lM.go (iQ (iw rfl) (iQ iT jm)) ?_)
  refine ⟨cC,_,as,_,(6:Int),rfl,cD.wf,aU,rfl,?_⟩
  refine Kont.call k cD (fun r z=>by rcases jD.mp z with rfl; exact (.inr X)) (fun cE gd k ed ge bH cF ee au=>?_) (fun _ _ _ _ _ _ z=>z)
  obtain ⟨au,ef⟩:=au
  have au:ee=(V.int cE.1):=au
  subst au
  have d:=Mu.jE (h_ a) bH (iZ M) d
  have f:=Mu.jE iz bH (iZ O) f
  have bG:=bG.step1 bH (iZ eb)
  obtain ⟨aa,eg,k⟩:=k.opt
  obtain ⟨eh,bI,ei⟩:=tR bG.b eg
  have bI:eh=(V.int aa):=bI
  subst bI
  refine ei _ (Ei (iY (wB (yr (pC (jg (jA (lM.go (iQ (iw rfl) jm) ?_))))))))
  refine ⟨ed,_,cE.2,rfl,cF.wf,ef,?_⟩
  refine Kont.call k cF (fun r z=>by rcases jD.mp z with rfl; exact (.inr X)) (fun ad gf k ej gg cG cH ek av=>?_) (fun _ _ _ _ _ _ z=>z)
  obtain ⟨av,el⟩:=av
  have av:ek=(V.int ad.1):=av
  subst av
  have d:=Mu.jE (h_ a) cG (iZ M) d
  have f:=Mu.jE iz cG (iZ O) f
  refine jg (jA (lM.go (iQ (iw rfl) jm) ?_))
  refine ⟨ej,_,ad.2,rfl,cH.wf,el,?_⟩
  refine Kont.call k cH (fun r z=>by rcases jD.mp z with rfl; exact (.inr X)) (fun ae gh k gi gj cI bJ em aw=>?_) (fun _ _ _ _ _ _ z=>z)
  obtain ⟨aw,o⟩:=aw
  have aw:em=(V.int ae.1):=aw
  subst aw
  have d:=Mu.jE (h_ a) cI (iZ M) d
  have f:=Mu.jE iz cI (iZ O) f
  refine jg (Pv.go (iw rfl) (lg ?_))
  refine lW lK bJ.wf fun G en eo aY ep eq aZ=>?_
  have gk:n≠G:=Mu.ne iU o aZ
  have gl:l≠G:=Mu.ne (h_ a) d aZ
  have gm:m≠G:=Mu.ne iz f aZ
  have er:=bJ.fresh aZ
  have es:=bJ.pB aY
  have o:=Mu.iD iU aY o
  have d:=Mu.iD (h_ a) aY d
  have f:=Mu.iD iz aY f
  have p:Own jB H0 en eo G [(V.int ad.1),(V.int ae.1),(V.int aa)] ([ad.1,ae.1,aa]:List Int):=⟨ep,eq,⟨rfl,⟨rfl,⟨rfl,trivial⟩⟩⟩,er⟩
  refine yt ((.inl (.inl p.obj))) ?_
  refine Ub (A:=jB) (a:=G) (us:=[(V.int ad.1),(V.int ae.1),(V.int aa)]) (s0:=(():Unit)) (Rr:=tyB.r) k (fun (cJ:Unit) (c:Cl) (H:Hp) (σ:L2.St)=>∃ (a0:Option V) (a1:Option V) (a2:Option V),σ=[some ab,some (V.ref n),some (V.ref l),some (V.ref m),ac,Y,R,some (V.int ai),some (V.int aa),a0,a1,a2]∧Step [] J H0 c H∧iU.r c H n ae.2∧(h_ a).r c H l j.2.1∧iz.r c H m j.2.2∧Own jB H0 c H G [(V.int ad.1),(V.int ae.1),(V.int aa)] ([ad.1,ae.1,aa]:List Int)) ⟨_,_,_,rfl,es,o,d,f,p⟩ ?_ ?_ (fun r k c H g v hv=>(k.done g) v hv) ?_
  ·exact fun s c H σ ⟨a0,a1,a2,_,g,_,_,_,hit⟩=>⟨.inl (.inl hit.obj),hit.rs⟩
  ·intro cJ aj et cK cL σ N i bK k
   obtain ⟨a0,a1,a2,rfl,a3,o,d,f,p⟩:=i
   have bK:et=(V.int aj):=bK
   subst bK
   refine yI (jd (jU ?_))
   have eu:=o
   have ev:=d
   have ew:=f
   have ex:=p
   have V6:=a3
   refine pq (Pv.go (iw rfl) (lE d jc (lM.go (iQ (iw rfl) (iQ (iw rfl) jm)) ?_)))
   refine ⟨cK,_,j.2.1,_,ai,_,aj,rfl,a3.wf,d,rfl,rfl,?_⟩
   refine Kont.call k a3 (fun _ z=>by cases z) (fun ey ez k cM eA ak a4 gn q=>?_) (fun e ez cM eA ak a4 pe=>?_)
   rotate_left
   ·exact pe.elim
   obtain ⟨U,cN,rfl,q⟩:=q
   have go:n≠U:=Mu.ne iU o q.new
   have gp:l≠U:=Mu.ne (h_ a) d q.new
   have gq:m≠U:=Mu.ne iz f q.new
   have gr:G≠U:=kW p.obj q.new
   have q:=q.base a3
   have M_:=ak
   have o:=Mu.iD iU ak o
   have d:=Mu.iD (h_ a) ak d
   have f:=Mu.iD iz ak f
   have p:=p.step0 ak
   refine Br (iY (jd (qF (sO (mZ (Pv.go (iw rfl) (jA (lM.go (iQ (iw rfl) (iQ (iw rfl) (iQ (iw rfl) jm))) ?_))))))))
   refine ⟨cM,_,j.2.2,_,ai,_,aj,rfl,a4.wf,f,rfl,rfl,?_⟩
   refine Kont.call k a4 (fun _ z=>by cases z) (fun eB gs k gt gu al eC gv D=>?_) (fun _ _ _ _ _ _ z=>z)
   obtain ⟨am,gw,rfl,D⟩:=D
   have gx:n≠am:=Mu.ne iU o D.new
   have gy:l≠am:=Mu.ne (h_ a) d D.new
   have gz:m≠am:=Mu.ne iz f D.new
   have gA:G≠am:=kW p.obj D.new
   have gB:U≠am:=kW q.obj D.new
   have gC:U≠am:=kW q.obj D.new
   have D:=D.base a4
   have M_:=M_.pB al
   have o:=Mu.iD iU al o
   have d:=Mu.iD (h_ a) al d
   have f:=Mu.iD iz al f
   have p:=p.step0 al
   have q:=q.step0 al
   refine (A_ (Ie q) D.b iW) _ ?_
   refine ⟨_,rfl,?_⟩
   refine jM (b:=(!decide (ey=eB))) (fun bL=>?_) (fun bL=>?_)
   ·have k:=k.o8 bL
    refine jT (Pv.go iT ?_)
    exact (k.done eC) _ rfl
   rw [jh bL] at k
   refine jX (iY (jd ?_))
   obtain ⟨eD,k⟩:=k.chk
   have eE:=R5 q eD
   refine wB (yr (Pv.go (iw rfl) (yt (.inl (.inl q.obj)) ?_)))
   refine for_list (K:=K) (a:=U) (xs:=cN) (fun (i:Nat) (σ:L2.St) (H:Hp)=>∃ (y_:Option V) (c:Cl),σ=[some ab,some (V.ref n),some (V.ref l),some (V.ref m),ac,Y,R,some (V.int ai),some (V.int aa),some (V.int aj),some (V.ref U),y_]∧NZ cL c H U cN i∧Step [] cK cL c H) ?_ ?_ ?_ ?_
   ·exact ⟨_,_,rfl,eE,M_⟩
   ·exact fun i σ H _ ⟨_,_,_,h,_⟩=>.inl (.inl h.obj)
   ·intro gD gE σ gF cO i
    obtain ⟨_,gG,rfl,a5,a6⟩:=i
    refine Bs (oM (xV ?_))
    have Z5:=(uF.mp cO).1
    obtain ⟨gH,eF,eG,rfl,eH,eI,eJ,bM,af,eK⟩:=a5.at (K:=K) cO
    refine Pv.go (jt (iw rfl) iT eH) ?_
    refine ⟨ty_list (.inl af),?_⟩
    have cP:=V6.pB a6
    refine jg (tO (lM.go (iQ iT (iQ iT (iQ iT jm))) ?_))
    refine nO lK cP.wf fun cQ eL eM ax eN eO gI=>?_
    have gJ:=cP.pB ax
    have a5:=a5.keep ax
    have a6:=a6.pB ax
    have Zz:=ax.keep _ _ af (fun r z=>by rw [bM] at z; cases z)
    have bM:=(ax.col _ _ af).trans bM
    have af:=Zz
    have gK:(mV jV jB jB).r eL eM (V.ref cQ) (("zz" : jO), (0:Int), (1:Int)):=⟨cQ, _, _, _, rfl, eN, .inl eO, ⟨rfl, (show PyData.strOk ("zz" : jO)=true by decide +kernel)⟩, rfl, rfl⟩
    refine lg ?_
    exact ⟨eF,eG,_,rfl,rfl,af,iJ,⟨_,_,rfl,a5.push af eJ eK,a6.junk eI af⟩⟩
   intro σ gL i
   obtain ⟨gM,eP,rfl,_,ay⟩:=i
   have bN:=V6.pB ay
   have o:=eu
   have d:=ev
   have f:=ew
   have p:=ex
   have o:=Mu.iD iU ay o
   have d:=Mu.iD (h_ a) ay d
   have f:=Mu.iD iz ay f
   have p:=p.step0 ay
   refine iY (qF (sO (mZ (pq (Pv.go (iw rfl) (lE d jc (lM.go (iQ (iw rfl) (iQ (iw rfl) jm)) ?_)))))))
   refine ⟨eP,_,j.2.1,_,ai,_,aj,rfl,bN.wf,d,rfl,rfl,?_⟩
   refine Kont.call k bN (fun _ z=>by cases z) (fun eQ eR k cR eS az a7 gN x=>?_) (fun e eR cR eS az a7 pe=>?_)
   rotate_left
   ·exact pe.elim
   obtain ⟨aA,gO,rfl,x⟩:=x
   have gP:n≠aA:=Mu.ne iU o x.new
   have gQ:l≠aA:=Mu.ne (h_ a) d x.new
   have gR:m≠aA:=Mu.ne iz f x.new
   have gS:G≠aA:=kW p.obj x.new
   have x:=x.base bN
   have o:=Mu.iD iU az o
   have d:=Mu.iD (h_ a) az d
   have f:=Mu.iD iz az f
   have p:=p.step0 az
   refine jA (lM.go (iQ (iw rfl) (iQ (iw rfl) (iQ (iw rfl) jm))) ?_)
   refine ⟨cR,_,j.2.2,_,ai,_,aj,rfl,a7.wf,f,rfl,rfl,?_⟩
   refine Kont.call k a7 (fun _ z=>by cases z) (fun eT gT k gU gV aB bO gW I=>?_) (fun _ _ _ _ _ _ z=>z)
   obtain ⟨aC,gX,rfl,I⟩:=I
   have gY:n≠aC:=Mu.ne iU o I.new
   have gZ:l≠aC:=Mu.ne (h_ a) d I.new
   have g0:m≠aC:=Mu.ne iz f I.new
   have g1:G≠aC:=kW p.obj I.new
   have g2:aA≠aC:=kW x.obj I.new
   have I:=I.base a7
   have o:=Mu.iD iU aB o
   have d:=Mu.iD (h_ a) aB d
   have f:=Mu.iD iz aB f
   have p:=p.step0 aB
   have x:=x.step0 aB
   refine (A_ (Ie x) I.b iW) _ ?_
   refine ⟨_,rfl,?_⟩
   refine jM (b:=(!decide (eQ=eT))) (fun bP=>?_) (fun bP=>?_)
   ·have k:=k.o8 bP
    refine jT (Pv.go iT ?_)
    exact (k.done bO) _ rfl
   rw [jh bP] at k
   refine jX (iY ?_)
   exact (k.done bO) _ ⟨_,_,_,rfl,bO,o,d,f,p⟩
  intro cJ g3 g4 σ i k
  obtain ⟨a0,a1,a2,rfl,cS,o,d,f,p⟩:=i
  have k:=k.Py
  refine iY ?_
  exact (k.done cS) _ ⟨_,_,_,_,_,rfl,cS,o,d,f⟩
 intro as eU g5 σ i k
 obtain ⟨aP,aQ,aR,aS,aT,rfl,cT,t,d,f⟩:=i
 have k:=k.Py
 refine iY (jd (qF (zf (vP (Bb (jA (lM.go (iQ (iw rfl) (iQ iT jm)) ?_)))))))
 refine ⟨eU,_,j.2.1,_,(0:Int),rfl,cT.wf,d,rfl,?_⟩
 refine Kont.call k cT (fun _ z=>by cases z) (fun cU g6 k eV g7 bQ bR eW bS=>?_) (fun _ _ _ _ _ _ z=>z)
 have bS:eW=(V.bl cU):=bS
 subst bS
 have t:=Mu.iD iU bQ t
 have d:=Mu.iD (h_ a) bQ d
 have f:=Mu.iD iz bQ f
 refine ⟨_,rfl,?_⟩
 refine jM (b:=cU) (fun bT=>?_) (fun bT=>?_)
 ·have k:=k.o8 bT
  refine zf (vP (Bb (jA (lM.go (iQ (iw rfl) (iQ (wC iT) jm)) ?_))))
  refine ⟨eV,_,j.2.1,_,(-(1:Int)),rfl,bR.wf,d,rfl,?_⟩
  refine Kont.call k bR (fun _ z=>by cases z) (fun cV g8 k eX g9 bU bV eY bW=>?_) (fun _ _ _ _ _ _ z=>z)
  have bW:eY=(V.bl cV):=bW
  subst bW
  have t:=Mu.iD iU bU t
  have d:=Mu.iD (h_ a) bU d
  have f:=Mu.iD iz bU f
  refine ⟨_,rfl,?_⟩
  refine jM (b:=cV) (fun bX=>?_) (fun bX=>?_)
  ·have k:=k.o8 bX
   refine vP (Bb (jA (lM.go (iQ (iw rfl) (iQ (jt (oO f (iw rfl)) iT jW) jm)) ?_)))
   refine ⟨eX,_,j.2.1,_,((j.2.2.length:Int)+(1:Int)),rfl,bV.wf,d,rfl,?_⟩
   refine Kont.call k bV (fun _ z=>by cases z) (fun cW g_ k eZ ha bY bZ e0 b0=>?_) (fun _ _ _ _ _ _ z=>z)
   have b0:e0=(V.bl cW):=b0
   subst b0
   have t:=Mu.iD iU bY t
   have d:=Mu.iD (h_ a) bY d
   have f:=Mu.iD iz bY f
   refine ⟨_,rfl,?_⟩
   refine jM (b:=cW) (fun b1=>?_) (fun b1=>?_)
   ·have k:=k.o8 b1
    refine jX (iY (jT ?_))
    refine wF k (fun (hb:Unit) (c:Cl) (H:Hp) (σ:L2.St)=>σ=[some ab,some (V.ref n),some (V.ref l),some (V.ref m),ac,Y,R,aP,aQ,aR,aS,aT]∧Step [] J H0 c H∧iU.r c H n as∧(h_ a).r c H l j.2.1∧iz.r c H m j.2.2) ?_ ?_
    rotate_left
    ·intro k
     refine uL (jA (jg (Pv.go (iw rfl) (jg (mZ (pq (Pv.go (iw rfl) (lE d jc (lg ?_)))))))))
     refine ⟨eZ,_,j.2.1,rfl,bZ.wf,d,?_⟩
     refine Kont.call k bZ (fun _ z=>by cases z) (fun cX hc k e1 hd b2 cY e2 b3=>?_) (fun _ _ _ _ _ _ z=>z)
     have b3:e2=(V.int cX):=b3
     subst b3
     have t:=Mu.iD iU b2 t
     have d:=Mu.iD (h_ a) b2 d
     have f:=Mu.iD iz b2 f
     refine Pv.go iT (jW _ (lg ?_))
     refine ⟨e1,_,j.2.1,_,(cX+(1:Int)),rfl,cY.wf,d,rfl,?_⟩
     refine Kont.call k cY (fun _ z=>by cases z) (fun b4 he k e3 hf b5 a8 e4 b6=>?_) (fun _ _ _ _ _ _ z=>z)
     have b6:e4=(V.bl b4):=b6
     subst b6
     have t:=Mu.iD iU b5 t
     have d:=Mu.iD (h_ a) b5 d
     have f:=Mu.iD iz b5 f
     refine ⟨b4,rfl,jM (b:=b4) (fun b7=>?_) (fun b7=>?_)⟩
     ·have k:=k.o8 b7
      refine jA (lM.go (iQ (iw rfl) (iQ (wC iT) jm)) ?_)
      refine ⟨e3,_,j.2.1,_,(-(1:Int)),rfl,a8.wf,d,rfl,?_⟩
      refine Kont.call k a8 (fun _ z=>by cases z) (fun e5 hg k hh hi b8 cZ e6 b9=>?_) (fun _ _ _ _ _ _ z=>z)
      have b9:e6=(V.bl e5):=b9
      subst b9
      have t:=Mu.iD iU b8 t
      have d:=Mu.iD (h_ a) b8 d
      have f:=Mu.iD iz b8 f
      exact k.done cZ ⟨rfl,cZ,t,d,f⟩
     rw [jh b7] at k
     exact k.done a8 ⟨rfl,a8,t,d,f⟩
    intro hj hk hl i k
    obtain ⟨_,e7,t,d,f⟩:=i
    exact (k.done e7) _ rfl
   rw [jh b1] at k
   refine jT (Pv.go iT ?_)
   exact (k.done bZ) _ rfl
  rw [jh bX] at k
  refine jT (Pv.go iT ?_)
  exact (k.done bV) _ rfl
 rw [jh bT] at k
 refine jT (Pv.go iT ?_)
 exact (k.done bR) _ rfl
theorem S7:RG P w K mg base 5 a.law a.Ig ["_law_script"] (sp_law K):=by
 exact RG.of (SQ T ND)
end
end Lw
namespace Kb
open PySem L2
theorem kh:1000000≤sizeLine:=by decide
theorem Qg {α β:Type} {x:α} {xs:List α} {f:α→Res β}:vN (x::xs) f=(nx (f x)).bind fun y=>(vN xs f).bind fun ys=>.ok (y::ys):=rfl
theorem zA {α β:Type} {f:α→Res β} (g:α→β):∀ {xs:List α},(∀ x∈xs,f x=.ok (g x))→vN xs f=.ok (xs.map g)
 | [],_=>rfl
 | x::xs,h=>by
  rw [Qg,h x kE,CP,ji,zA g fun y hy=>h y (lQ _ hy)]
  rfl
theorem S8 {α:Type} {xs:List α} {i:Int} {x:α} (h0:0≤i) (h:xs[i.toNat]?=some x):atI xs i=some x:=by
 have z:=atI_nat h
 rw [show ((i.toNat:Nat):Int)=i from by omega] at z
 exact z
theorem S9 {α:Type} {xs:List α} {i:Int} (h0:0≤i) (h:i<xs.length):∃ x,atI xs i=some x∧x∈xs:=by
 have hl:i.toNat<xs.length:=by omega
 exact ⟨xs[i.toNat],S8 h0 (nA hl),List.getElem_mem hl⟩
theorem Nf {n:Nat} (h:0<n):ixN n (-(1:Int))=some (n - 1):=by
 unfold ixN
 rw [if_neg iW,if_pos iJ]
 congr 1
 omega
theorem qQ {i:Int} (h1 : -4611686018427387904≤i) (h2:i<4611686018427387904):sS i=true:=by
 unfold sS
 rw [k_ (show -(2^62)≤i from h1),k_ (show i<2^62 from h2)]
 rfl
theorem yQ {lo:Int}:∀ {n:Nat} {x:Int},x∈rng lo n↔lo≤x∧x<lo+n:=by
 intro n
 induction n generalizing lo with
 | zero =>
  intro x
  show x∈([]:List Int)↔_
  constructor
  ·intro h; cases h
  intro h; omega
 | succ n ih =>
  intro x
  show x∈lo::rng (lo+1) n↔_
  rw [lA,ih]
  constructor
  ·rintro (h | h)<;>omega
  intro h
  by_cases e:x=lo
  ·exact .inl e
  exact .inr iJ
def Ok {α:Type} (r:Res α) (P:α→Prop):Prop:=∃ y,r=.ok y∧P y
section
variable {α β σ ρ:Type}
theorem Ok.ret {x:α} {P:α→Prop} (h:P x):Ok (.ok x) P:=⟨x,rfl,h⟩
theorem Ok.of {r:Res α} {x:α} {P:α→Prop} (e:r=.ok x) (h:P x):Ok r P:=⟨x,e,h⟩
theorem Ok.imp {r:Res α} {P Q:α→Prop} (h:Ok r P) (q:∀ x,P x→Q x):Ok r Q:=let ⟨x,e,p⟩:=h; ⟨x,e,q x p⟩
theorem Ok.bind {m:Res α} {f:α→Res β} {R:α→Prop} {P:β→Prop} (h:Ok m R) (q:∀ y,R y→Ok (f y) P):Ok (m.bind f) P:=by
 obtain ⟨y,rfl,hy⟩:=h
 exact q y hy
theorem Ok.nx {m:Res α} {P:α→Prop} (h:Ok m P):Ok (Kb.nx m) P:=by
 obtain ⟨y,rfl,hy⟩:=h
 exact ⟨y,rfl,hy⟩
theorem Ok.chk {b:Bool} {r:Res α} {P:α→Prop} (hb:b=true) (h:Ok r P):Ok (Kb.chk b r) P:=by subst hb; exact h
theorem Ok.opt {o:Option α} {f:α→Res β} {x:α} {P:β→Prop} (e:o=some x) (h:Ok (f x) P):Ok (Kb.opt o f) P:=by subst e; exact h
theorem Ok.br {b:Bool} {x y:Res α} {P:α→Prop} (ht:b=true→Ok x P) (hf:b=false→Ok y P):Ok (Kb.br b x y) P:=by
 cases b with
 | true=>exact ht rfl
 | false=>exact hf rfl
theorem Ok.o8 {b:Bool} {x y:Res α} {P:α→Prop} (hb:b=true) (h:Ok x P):Ok (Kb.br b x y) P:=by subst hb; exact h
theorem Ok.eq {r:Res α} {x:α} (h:Ok r (fun y=>y=x)):r=.ok x:=by
 obtain ⟨y,e,rfl⟩:=h
 exact e
end
theorem Ip {α:Type} (xs:List α) (lo hi:Option Int):(yX xs lo hi).length≤xs.length:=by
 unfold yX
 rw [List.length_take,List.length_drop]
 omega
end Kb
namespace Lw
open PySem L2 Kb PySem.NumText TL
open PyProof.Rows hiding signs
abbrev Tx:=PySem.Str
theorem Ez (x:Tx):x.length=(tl x).length:=len_tl x
theorem Aq (c:Nat) (j:Tx):Fw ⟨#[c]⟩ j=decide (c∈tl j):=by
 unfold Fw
 exact StrLaws.found_one j c
theorem zB (s:Tx):signs s=(tl s).map fun n=>(⟨#[n]⟩:Tx):=rfl
def numL (n:Nat):List Nat:=(Nat.toDigits 10 n).map Char.toNat
instance:DecidablePred AllDigits:=fun l=>inferInstanceAs (Decidable (∀ c∈l,48≤c∧c≤57))
end Lw
namespace Lw
open PySem L2 Kb
def YG (q:Rat):Int×Int:=(q.num,(q.den:Int))
def sm (B:Nat) (q:Rat):Prop:=q.num.natAbs<2^B∧q.den<2^B
theorem sm.mono {B C:Nat} {q:Rat} (h:sm B q) (l:B≤C):sm C q :=
 ⟨Nat.lt_of_lt_of_le h.1 (Nat.pow_le_pow_right iW l),Nat.lt_of_lt_of_le h.2 (Nat.pow_le_pow_right iW l)⟩
theorem log2_lt_of {n m:Nat} (h:n<2^m):n.log2≤m:=by
 by_cases z:n=0
 ·subst z; simp
 exact Nat.le_of_lt ((Nat.log2_lt z).mpr h)
theorem zE {a b:Int} {m n:Nat} (ha:a.natAbs<2^m) (hb:b.natAbs<2^n) (h:m+n<1000000):xH a b=true:=by
 unfold xH
 have h1:=log2_lt_of ha
 have h2:=log2_lt_of hb
 exact k_ iJ
theorem Ka {a:Int} {m:Nat} (h0:0<a) (ha:a.natAbs<2^m) (h:m<9000):CQ a=true:=by
 unfold CQ
 have h1:=log2_lt_of ha
 rw [k_ h0,Bool.true_and]
 exact k_ iJ
theorem sm.n1 {B:Nat} {q:Rat} (h:sm B q):(YG q).1.natAbs<2^B:=h.1
end Lw
namespace Kb
open PySem L2
abbrev Rw:=PySem.Str×Int×Int
def gd (r:Rw):Prop:=0≤r.2.1∧r.2.1<r.2.2
abbrev N6 (x y:PySem.Str):Prop:=x.cps.toList<y.cps.toList
theorem EY (x:PySem.Str):¬ N6 x x:=by
 have h:=PyProof.Rows.strKind.irrefl x.cps.toList
 exact of_decide_eq_false h
theorem E_ {x y z:PySem.Str} (h1:N6 x y) (h2:N6 y z):N6 x z:=by
 have h:=PyProof.Rows.strKind.trans x.cps.toList y.cps.toList z.cps.toList (k_ h1) (k_ h2)
 exact jQ h
def cov (g:List Rw) (p:PySem.Str) (k:Int):Prop:=∃ r∈g,r.1=p∧r.2.1≤k∧k<r.2.2
def yc (r:Rw) (p:PySem.Str) (k:Int):Prop:=r.1=p∧r.2.1≤k∧k<r.2.2
theorem Qh {p k}:¬ cov [] p k:=fun ⟨r,h,_⟩=>by cases h
theorem yR {r:Rw} {g p k}:cov (r::g) p k↔yc r p k∨cov g p k:=by
 constructor
 ·rintro ⟨q,h,c⟩
  rcases lA.mp h with rfl | h
  ·exact .inl c
  exact .inr ⟨q,h,c⟩
 rintro (c | ⟨q,h,c⟩)
 ·exact ⟨r,kE,c⟩
 exact ⟨q,lQ _ h,c⟩
theorem yS {a b:List Rw} {p k}:cov (a++b) p k↔cov a p k∨cov b p k:=by
 constructor
 ·rintro ⟨q,h,c⟩
  rcases tK.mp h with h | h
  ·exact .inl ⟨q,h,c⟩
  exact .inr ⟨q,h,c⟩
 rintro (⟨q,h,c⟩ | ⟨q,h,c⟩)
 ·exact ⟨q,List.mem_append_left _ h,c⟩
 exact ⟨q,List.mem_append_right _ h,c⟩
theorem Ar {r:Rw} {p k}:cov [r] p k↔yc r p k:=by
 rw [yR]
 exact ⟨fun h=>h.resolve_right Qh,.inl⟩
instance {g:List Rw} {p:PySem.Str} {k:Int}:Decidable (cov g p k):=inferInstanceAs (Decidable (∃ r∈g,r.1=p∧r.2.1≤k∧k<r.2.2))
def GR (a b:Rw):Prop:=N6 a.1 b.1∨(a.1=b.1∧a.2.2<b.2.1)
theorem GR.tr {a b c:Rw} (g:gd b) (h1:GR a b) (h2:GR b c):GR a c:=by
 unfold gd at g
 rcases h1 with h1 | ⟨e1,h1⟩<;>rcases h2 with h2 | ⟨e2,h2⟩
 ·exact .inl (E_ h1 h2)
 ·exact .inl (e2▸h1)
 ·exact .inl (e1▸h2)
 exact .inr ⟨e1.trans e2,iJ⟩
def Dy (g:List Rw):Prop:=(∀ r∈g,gd r)∧g.Pairwise GR
theorem Dy.nil:Dy []:=⟨fun r h=>(by cases h),List.Pairwise.nil⟩
theorem GD (s:PySem.Str) (lo hi:Option Int):(cutS s lo hi).length≤s.length:=by
 unfold cutS PySem.Str.length
 rw [List.size_toArray,List.length_take,List.length_drop,uG]
 omega
theorem Dy.tail {a:Rw} {g:List Rw} (h:Dy (a::g)):Dy g:=⟨fun r m=>h.1 r (lQ _ m),(uH.mp h.2).2⟩
theorem Dy.snoc {g:List Rw} {r:Rw} (h:Dy g) (hr:gd r) (hb:∀ q∈g,GR q r):Dy (g++[r]):=by
 refine ⟨fun q m=>?_,List.pairwise_append.mpr ⟨h.2,List.pairwise_singleton _ _,fun a ha b hb'=>?_⟩⟩
 ·rcases tK.mp m with m | m
  ·exact h.1 q m
  rw [jD.mp m]; exact hr
 rw [jD.mp hb']; exact hb a ha
structure CI (A B:List Rw) (rows A' B':List Rw):Prop where
 g:Dy rows
 a:Dy A'
 b:Dy B'
 Wk:∀ r∈rows,(∀ x∈A',GR r x)∨(∀ x∈B',GR r x)
 cv:∀ p k,(cov A p k∧cov B p k)↔cov rows p k∨(cov A' p k∧cov B' p k)
theorem GR.left {a n x:Rw} (h:GR a x) (e:n.1=a.1) (hb:n.2.2≤a.2.2):GR n x:=by
 rcases h with h | ⟨h1,h2⟩
 ·exact .inl (by rw [e]; exact h)
 exact .inr ⟨e.trans h1,iJ⟩
def Bf (b a:Rw):Prop:=N6 b.1 a.1∨(b.1=a.1∧b.2.2≤a.2.1)
theorem Bf.nc {b a:Rw} (h:Bf b a) {p x} (c:yc a p x):¬ yc b p x:=by
 rintro ⟨e,h1,h2⟩
 obtain ⟨e',g1,g2⟩:=c
 rcases h with h | ⟨_,h⟩
 ·rw [e,e'] at h; exact EY _ h
 omega
theorem Bf.on {b a a':Rw} (h:Bf b a) (ga:gd a) (g:GR a a'):Bf b a':=by
 unfold gd at ga
 rcases h with h | ⟨e,h⟩<;>rcases g with g | ⟨e',g⟩
 ·exact .inl (E_ h g)
 ·exact .inl (e'▸h)
 ·exact .inl (by rw [e]; exact g)
 exact .inr ⟨e.trans e',iJ⟩
def Nb (b a:Rw):Prop:=N6 a.1 b.1∨(b.1=a.1∧a.2.1<b.2.2)
theorem Nb.on {b b' a:Rw} (h:Nb b a) (gb:gd b) (ZC:gd b') (g:GR b b'):Nb b' a:=by
 unfold gd at gb ZC
 rcases h with h | ⟨e,h⟩<;>rcases g with g | ⟨e',g⟩
 ·exact .inl (E_ h g)
 ·exact .inl (e'▸h)
 ·exact .inl (by rw [← e]; exact g)
 exact .inr ⟨e'.symm.trans e,iJ⟩
theorem S_ {b a:Rw} (n:Nb b a) (h:Rz (b.1,b.2.1) (a.1,a.2.2)=true):b.1=a.1∧b.2.1<a.2.2:=by
 unfold Rz at h
 by_cases e:b.1=a.1
 ·rw [if_pos e] at h
  exact ⟨e,jQ h⟩
 rw [if_neg e] at h
 have z:N6 b.1 a.1:=jQ h
 rcases n with n | ⟨n,_⟩
 ·exact absurd (E_ z n) (EY _)
 exact absurd n e
structure WI (B rows0 A2:List Rw) (a:Rw) (rows:List Rw) (at_:Int) (B1 B2:List Rw):Prop where
 g:Dy rows
 lo:a.2.1≤at_
 Wk:∀ q∈rows,N6 q.1 a.1∨(q.1=a.1∧q.2.2<at_)
 fut:∀ q∈rows,∀ a'∈A2,GR q a'
 cv:∀ p x,cov rows p x↔cov rows0 p x∨(yc a p x∧x<at_∧¬ cov B p x)
 past:∀ p x,yc a p x→at_≤x→¬ cov B1 p x
 nb:∀ b∈B2,Nb b a
 gb:Dy B2
 eB:∀ p x,cov B p x↔cov B1 p x∨cov B2 p x
theorem WI.row {B rows0 A2 rows B1 B2:List Rw} {a:Rw} {at_ e:Int} (w:WI B rows0 A2 a rows at_ B1 B2) (ga:gd a) (h:at_<e):Dy (rows++[(a.1,at_,e)]):=by
 unfold gd at ga
 have lo:=w.lo
 refine w.g.snoc ⟨by show 0≤at_; omega,h⟩ fun q m=>?_
 rcases w.Wk q m with z | z
 ·exact .inl z
 exact .inr z
theorem WI.turn {B rows0 A2 rows B1 B2:List Rw} {a b:Rw} {at_:Int} (w:WI B rows0 A2 a rows at_ B1 (b::B2)) (ga:gd a) (ha2:∀ a'∈A2,GR a a') (hit:Rz (b.1,b.2.1) (a.1,a.2.2)=true) :
  WI B rows0 A2 a (if at_<b.2.1 then rows++[(a.1,at_,b.2.1)] else rows) (if b.2.2>at_ then b.2.2 else at_) (B1++[b]) B2:=by
 obtain ⟨eb,hb⟩:=S_ (w.nb b kE) hit
 have gb:=w.gb.1 b kE
 have pb:=(uH.mp w.gb.2).1
 have lo:=w.lo
 have hm:at_≤(if b.2.2>at_ then b.2.2 else at_)∧b.2.2≤(if b.2.2>at_ then b.2.2 else at_)∧((if b.2.2>at_ then b.2.2 else at_)=at_∨(if b.2.2>at_ then b.2.2 else at_)=b.2.2):=by
  split<;>omega
 generalize (if b.2.2>at_ then b.2.2 else at_)=m at hm
 unfold gd at gb
 have free:∀ p x,yc a p x→at_≤x→x<b.2.1→¬ cov B p x:=by
  intro p x c h1 h2 cb
  rcases (w.eB p x).mp cb with cb | cb
  ·exact w.past p x c h1 cb
  ·rw [yR] at cb
   rcases cb with ⟨_,z,_⟩ | ⟨y,my,e,z1,z2⟩
   ·omega
   ·rcases pb y my with z | ⟨_,z⟩
    ·rw [eb,e,c.1] at z; exact EY _ z
    ·omega
 have ZD:∀ p x,(cov rows0 p x∨(yc a p x∧x<m∧¬ cov B p x))↔(cov rows p x∨(yc a p x∧at_≤x∧x<b.2.1)):=by
  intro p x
  rw [w.cv]
  constructor
  ·rintro (c | ⟨c,h1,h2⟩)
   ·exact .inl (.inl c)
   ·by_cases y:x<at_
    ·exact .inl (.inr ⟨c,y,h2⟩)
    ·refine .inr ⟨c,iJ,?_⟩
     by_cases z:x<b.2.1
     ·exact z
     ·exact absurd ((w.eB p x).mpr (.inr (yR.mpr (.inl ⟨eb.trans c.1,iJ,iJ⟩)))) h2
  ·rintro ((c | ⟨c,h1,h2⟩) | ⟨c,h1,h2⟩)
   ·exact .inl c
   ·exact .inr ⟨c,iJ,h2⟩
   ·exact .inr ⟨c,iJ,free p x c h1 h2⟩
 refine ⟨?_,iJ,?_,?_,fun p x=>?_,fun p x c h1=>?_,fun y my=>w.nb y (lQ _ my),w.gb.tail,fun p x=>?_⟩
 ·split
  ·rename_i h; exact w.row ga h
  ·exact w.g
 ·intro q hq
  have old:q∈rows→N6 q.1 a.1∨(q.1=a.1∧q.2.2<m):=fun mq=>(w.Wk q mq).imp id fun z=>⟨z.1,iJ⟩
  split at hq
  ·rcases tK.mp hq with hq | hq
   ·exact old hq
   ·rw [jD.mp hq]
    exact .inr ⟨rfl,by show b.2.1<m; omega⟩
  ·exact old hq
 ·intro q hq a' ma
  split at hq
  ·rcases tK.mp hq with hq | hq
   ·exact w.fut q hq a' ma
   ·rw [jD.mp hq]
    exact (ha2 a' ma).left rfl (by show b.2.1≤a.2.2; omega)
  ·exact w.fut q hq a' ma
 ·rw [ZD]
  split
  ·rw [yS,Ar]
   constructor
   ·rintro (c | ⟨c1,c2,c3⟩)
    ·exact .inl c
    ·exact .inr ⟨⟨c1,by have:at_≤x:=c2; omega,by have:x<b.2.1:=c3; omega⟩,c2,c3⟩
   ·rintro (c | ⟨c,h1,h2⟩)
    ·exact .inl c
    ·exact .inr ⟨c.1,h1,h2⟩
  ·rename_i h
   exact ⟨.inl,fun z=>z.resolve_right fun ⟨_,h1,h2⟩=>h iJ⟩
 ·rw [yS,Ar]
  rintro (z | ⟨_,z1,z2⟩)
  ·exact w.past p x c iJ z
  ·omega
 ·rw [w.eB,yR,yS,Ar,or_assoc]
theorem WI.stop {B rows0 A2 rows B1 B2:List Rw} {a:Rw} {at_:Int} (w:WI B rows0 A2 a rows at_ B1 B2) (ga:gd a) (ha2:∀ a'∈A2,GR a a') (far:∀ p x,yc a p x→¬ cov B2 p x) :
  Dy (if at_<a.2.2 then rows++[(a.1,at_,a.2.2)] else rows)∧(∀ q∈(if at_<a.2.2 then rows++[(a.1,at_,a.2.2)] else rows),∀ a'∈A2,GR q a')∧∀ p x,cov (if at_<a.2.2 then rows++[(a.1,at_,a.2.2)] else rows) p x↔cov rows0 p x∨(yc a p x∧¬ cov B p x):=by
 have lo:=w.lo
 have nc:∀ p x,yc a p x→at_≤x→¬ cov B p x:=fun p x c h cb=>by
  rcases (w.eB p x).mp cb with cb | cb
  ·exact w.past p x c h cb
  ·exact far p x c cb
 refine ⟨?_,fun q hq a' ma=>?_,fun p x=>?_⟩
 ·split
  ·rename_i h; exact w.row ga h
  ·exact w.g
 ·split at hq
  ·rcases tK.mp hq with hq | hq
   ·exact w.fut q hq a' ma
   ·rw [jD.mp hq]
    exact (ha2 a' ma).left rfl (Int.le_refl _)
  ·exact w.fut q hq a' ma
 ·have tail:(cov rows p x∨(yc a p x∧at_≤x))↔cov rows0 p x∨(yc a p x∧¬ cov B p x):=by
   rw [w.cv]
   constructor
   ·rintro ((c | ⟨c,h1,h2⟩) | ⟨c,h⟩)
    ·exact .inl c
    ·exact .inr ⟨c,h2⟩
    ·exact .inr ⟨c,nc p x c h⟩
   ·rintro (c | ⟨c,h⟩)
    ·exact .inl (.inl c)
    ·by_cases y:x<at_
     ·exact .inl (.inr ⟨c,y,h⟩)
     ·exact .inr ⟨c,iJ⟩
  rw [← tail]
  split
  ·rw [yS,Ar]
   constructor
   ·rintro (c | ⟨c1,c2,c3⟩)
    ·exact .inl c
    ·exact .inr ⟨⟨c1,by have:at_≤x:=c2; omega,c3⟩,c2⟩
   ·rintro (c | ⟨c,h1⟩)
    ·exact .inl c
    ·exact .inr ⟨c.1,h1,c.2.2⟩
  ·rename_i h
   exact ⟨.inl,fun z=>z.resolve_right fun ⟨c,h1⟩=>by have:=c.2.2; omega⟩
theorem Dy.drop {g:List Rw} (h:Dy g) (i:Nat):Dy (g.drop i):=⟨fun r m=>h.1 r (List.mem_of_mem_drop m),h.2.sublist (List.drop_sublist i g)⟩
theorem WI.start {B rows A2:List Rw} {a:Rw} {j:Nat} (hB:Dy B) (hg:Dy rows) (ga:gd a) (h1:∀ q∈rows,GR q a) (h2:∀ q∈rows,∀ a'∈A2,GR q a') (hb:∀ b∈B.take j,Bf b a) (hn:∀ b,B[j]?=some b→Nb b a):WI B rows A2 a rows a.2.1 (B.take j) (B.drop j) where
 g:=hg
 lo:=Int.le_refl _
 Wk q m:=h1 q m
 fut:=h2
 cv p x:=⟨.inl,fun h=>h.resolve_right fun ⟨c,z,_⟩=>by have:=c.2.1; omega⟩
 past p x c _:=fun ⟨b,m,cb⟩=>(hb b m).nc c cb
 nb:=by
  intro b m
  by_cases hj:j<B.length
  ·have ed:B.drop j=B[j]::B.drop (j+1):=List.drop_eq_getElem_cons hj
   have hG:=hB.drop j
   rw [ed] at m hG
   have h0:=hn _ (nA hj)
   rcases lA.mp m with rfl | m
   ·exact h0
   exact h0.on (hG.1 _ kE) (hG.1 b (lQ _ m)) ((uH.mp hG.2).1 b m)
  rw [List.drop_eq_nil_of_le iJ] at m; cases m
 gb:=hB.drop j
 eB p x:=by rw [← yS,List.take_append_drop]
def sz (g:List Rw):Int:=List.sum (g.map fun r=>r.2.2 - r.2.1)
instance {r:Rw} {p:PySem.Str} {x:Int}:Decidable (yc r p x):=inferInstanceAs (Decidable (r.1=p∧r.2.1≤x∧x<r.2.2))
end Kb
namespace Lw
open PySem L2 Kb
abbrev S4:=PySem.Str×Int×Int×Bool
abbrev Cell:=PySem.Str×Int
def Nh (p:PySem.Str) (b:Int) (n:Nat):List Cell:=(rng b n).map fun k=>(p,k)
def qR (s:S4):List Cell:=if s.2.2.2=true then (Nh s.1 s.2.1 (s.2.2.1 - s.2.1).toNat).reverse else Nh s.1 s.2.1 (s.2.2.1 - s.2.1).toNat
def qT (ss:List S4):List Cell:=ss.flatMap qR
def Qi (s:S4):Prop:=s.2.1<s.2.2.1
def mg (l x:S4):Option S4 :=
 if l.1=x.1 then
  if ((l.2.2.2=false∨l.2.2.1 - l.2.1=1)∧(x.2.2.2=false∨x.2.2.1 - x.2.1=1))∧l.2.2.1=x.2.1 then some (l.1,l.2.1,x.2.2.1,false)
  else if ((l.2.2.2=true∨l.2.2.1 - l.2.1=1)∧(x.2.2.2=true∨x.2.2.1 - x.2.1=1))∧l.2.1=x.2.2.1 then some (l.1,x.2.1,l.2.2.1,true)
  else none
 else none
def GF (c:Cell):S4:=(c.1,c.2,c.2+1,false)
def ext (l:S4) (c:Cell):Option S4 :=
 if l.1=c.1 then
  if (l.2.2.2=false∨l.2.2.1 - l.2.1=1)∧l.2.2.1=c.2 then some (l.1,l.2.1,c.2+1,false)
  else if (l.2.2.2=true∨l.2.2.1 - l.2.1=1)∧l.2.1=c.2+1 then some (l.1,c.2,l.2.2.1,true)
  else none
 else none
def Cj (acc:List S4) (c:Cell):List S4:=match acc with
 | []=>[GF c]
 | l::r=>match ext l c with
  | some m=>m::r
  | none=>GF c::l::r
theorem Kc {l:S4} {r:List S4} {c:Cell} {m:S4} (h:ext l c=some m):Cj (l::r) c=m::r:=by simp only [Cj,h]
theorem Kd {l:S4} {r:List S4} {c:Cell} (h:ext l c=none):Cj (l::r) c=GF c::l::r:=by simp only [Cj,h]
def canon (cs:List Cell):List S4:=(cs.foldl Cj []).reverse
theorem Ql (b:Int) (n:Nat):(rng b n).length=n:=oN n b
theorem yU (p:PySem.Str) (b:Int) (n:Nat):Nh p b (n+1)=(p,b)::Nh p (b+1) n:=rfl
theorem GJ (p:PySem.Str):∀ (n:Nat) (b:Int),Nh p b (n+1)=Nh p b n++[(p,b+n)]
 | 0,b=>by rw [yU]; show [(p,b)]=[(p,b+((0:Nat):Int))]; simp
 | n+1,b=>by
  rw [yU,GJ p n (b+1),yU p b n,List.cons_append]
  congr 3
  show (p,b+1+(n:Int))=(p,b+((n+1:Nat):Int))
  congr 1
  omega
theorem Qm {p q:PySem.Str} {b k:Int} {n:Nat}:(q,k)∈Nh p b n↔q=p∧b≤k∧k<b+n:=by
 unfold Nh
 rw [List.mem_map]
 constructor
 ·rintro ⟨x,hx,e⟩
  cases e
  exact ⟨rfl,yQ.mp hx⟩
 rintro ⟨rfl,h⟩
 exact ⟨k,yQ.mpr h,rfl⟩
theorem Ir {s:S4} {p:PySem.Str} {k:Int}:(p,k)∈qR s↔p=s.1∧s.2.1≤k∧k<s.2.2.1:=by
 have:(p,k)∈Nh s.1 s.2.1 (s.2.2.1 - s.2.1).toNat↔p=s.1∧s.2.1≤k∧k<s.2.2.1:=by
  rw [Qm]
  exact ⟨fun ⟨a,b,c⟩=>⟨a,b,iJ⟩,fun ⟨a,b,c⟩=>⟨a,b,iJ⟩⟩
 unfold qR
 split
 ·rw [List.mem_reverse]; exact this
 exact this
abbrev sU:=Int×Rat
abbrev Wl (a b:sU):Prop:=a.1<b.1∧a.2<b.2
def Fb (qs:List sU):Prop:=qs.Pairwise Wl
theorem Fb.tail {a:sU} {r:List sU} (h:Fb (a::r)):Fb r:=(uH.mp h).2
theorem Fb.up {a b:sU} {r:List sU} (h:Fb (a::b::r)):Wl a b:=(uH.mp h).1 b kE
def Jx:List sU→sU
 | []=>(0,0)
 | [a]=>a
 | _::b::r=>Jx (b::r)
theorem Fb.last:∀ {a:sU} {r:List sU},Fb (a::r)→r≠[]→Wl a (Jx (a::r))
 | a,[],_,n=>absurd rfl n
 | a,[b],h,_=>h.up
 | a,b::c::r,h,_=>by
  have h2:=Fb.last (a:=b) (r:=c::r) h.tail j6
  have h1:=h.up
  show Wl a (Jx (b::c::r))
  exact ⟨Int.lt_trans h1.1 h2.1,by have:=h1.2; have:=h2.2; grind⟩
def Uy (qs:List sU):List (Int×(Int×Int)):=qs.map fun s=>(s.1,YG s.2)
structure Iu (B:Nat) (qs:List sU) (n:Int):Prop where
 two:2≤qs.length
 rise:Fb qs
 first:∃ a r,qs=a::r∧a.1=0
 last:(Jx qs).1=n
 ZF:∀ s∈qs,sm B s.2
section
variable {B C:Nat} {qs:List sU} {n:Int} {r:Am}
theorem Iu.ne (h:Iu B qs n):qs≠[]:=by intro e; have:=h.two; rw [e] at this; simp at this
end
theorem yd (a b:List S4):qT (a++b)=qT a++qT b:=by unfold qT; rw [List.flatMap_append]
theorem vL (s:S4):qT [s]=qR s:=by unfold qT; simp
theorem Ck (c:Cell):qR (GF c)=[c]:=by
 unfold qR GF
 simp only [Bool.false_eq_true,if_false,show c.2+1 - c.2=1 by omega]
 rfl
theorem Ke {l:S4} {c:Cell} {m:S4} (g:Qi l) (h:ext l c=some m):qR m=qR l++[c]∧Qi m∧m.1=l.1:=by
 obtain ⟨p,b,e,t⟩:=l
 obtain ⟨q,k⟩:=c
 have g':b<e:=g
 unfold ext at h
 simp only at h
 split at h
 ·rename_i e1
  subst e1
  split at h
  ·rename_i c1
   obtain ⟨c1,rfl⟩:=c1
   cases h
   refine ⟨?_,by show b<e+1; omega,rfl⟩
   have e2:qR (p,b,e,t)=Nh p b (e - b).toNat:=by
    unfold qR
    rcases c1 with c1 | c1
    ·simp only [c1,Bool.false_eq_true,if_false]
    simp only [show (e - b).toNat=1 by omega]
    cases t<;>rfl
   rw [e2]
   unfold qR
   simp only [Bool.false_eq_true,if_false,show (e+1 - b).toNat=(e - b).toNat+1 by omega]
   rw [GJ,show b+(((e - b).toNat:Nat):Int)=e by omega]
  split at h
  ·rename_i c0 c1
   obtain ⟨c1,rfl⟩:=c1
   cases h
   refine ⟨?_,by show k<e; omega,rfl⟩
   have e2:qR (p,k+1,e,t)=(Nh p (k+1) (e - (k+1)).toNat).reverse:=by
    unfold qR
    rcases c1 with c1 | c1
    ·simp only [c1,if_true]
    simp only [show (e - (k+1)).toNat=1 by omega]
    cases t<;>rfl
   rw [e2]
   unfold qR
   simp only [if_true,show (e - k).toNat=(e - (k+1)).toNat+1 by omega]
   rw [yU,List.reverse_cons]
  cases h
 cases h
theorem Iv {acc:List S4} {c:Cell} (h:∀ l∈acc,Qi l):qT (Cj acc c).reverse=qT acc.reverse++[c]∧∀ l∈Cj acc c,Qi l:=by
 have one:Qi (GF c):=by show c.2<c.2+1; omega
 cases acc with
 | nil =>
  refine ⟨?_,?_⟩
  ·show qT [GF c]=[]++[c]
   rw [vL,Ck]; rfl
  intro l m
  have:l=GF c:=by simpa [Cj] using m
  rw [this]; exact one
 | cons l r =>
  cases q:ext l c with
  | some m =>
   obtain ⟨e1,g1,_⟩:=Ke (h l kE) q
   rw [Kc q]
   refine ⟨?_,?_⟩
   ·rw [List.reverse_cons,List.reverse_cons,yd,yd,vL,vL,e1,List.append_assoc]
   intro x hx
   rcases lA.mp hx with rfl | hx
   ·exact g1
   exact h x (lQ _ hx)
  | none =>
   rw [Kd q]
   refine ⟨?_,?_⟩
   ·rw [List.reverse_cons,yd,vL,Ck]
   intro x hx
   rcases lA.mp hx with rfl | hx
   ·exact one
   exact h x hx
theorem yg:∀ (cs:List Cell) (acc:List S4),(∀ l∈acc,Qi l)→qT (cs.foldl Cj acc).reverse=qT acc.reverse++cs∧∀ l∈cs.foldl Cj acc,Qi l
 | [],acc,h=>⟨by rw [List.append_nil]; rfl,h⟩
 | c::cs,acc,h=>by
  obtain ⟨e1,g1⟩:=Iv (c:=c) h
  obtain ⟨e2,g2⟩:=yg cs (Cj acc c) g1
  exact ⟨by rw [List.foldl_cons,e2,e1,List.append_assoc]; rfl,g2⟩
theorem wW (cs:List Cell):qT (canon cs)=cs:=by
 have:=(yg cs [] (fun l m=>by cases m)).1
 exact this
theorem GP (cs:List Cell):∀ s∈canon cs,Qi s:=fun s m=>(yg cs [] (fun l m=>by cases m)).2 s (List.mem_reverse.mp m)
theorem Nk {cs:List Cell} (h:cs≠[]):canon cs≠[]:=by
 intro e
 have:=wW cs
 rw [e] at this
 exact h this.symm
theorem Qo {cs:List Cell} (h:∀ c∈cs,0≤c.2):∀ s∈canon cs,0≤s.2.1:=fun s m=>by
 have g:=GP cs s m
 have:(s.1,s.2.1)∈qT (canon cs):=List.mem_flatMap.mpr ⟨s,m,Ir.mpr ⟨rfl,Int.le_refl _,g⟩⟩
 rw [wW] at this
 exact h _ this
def Yh (s:S4):Rw:=(s.1,s.2.1,s.2.2.1)
structure Qp (ss:List S4):Prop where
 ne:ss≠[]
 gs:∀ s∈ss,Qi s
 b0:∀ s∈ss,0≤s.2.1
 nd:(qT ss).Nodup
theorem Qp.rows {ss:List S4} (h:Qp ss):∀ r∈ss.map Yh,gd r:=fun r m=>by
 obtain ⟨s,hs,rfl⟩:=List.mem_map.mp m
 exact ⟨h.b0 s hs,h.gs s hs⟩
theorem Tc {cs:List Cell} (ne:cs≠[]) (h0:∀ c∈cs,0≤c.2) (nd:cs.Nodup):Qp (canon cs) :=
 ⟨Nk ne,GP cs,Qo h0,by rw [wW]; exact nd⟩
def abc:List PySem.Str:=["a", "b", "c"]
structure Cells (n:Nat) (cs:List Cell):Prop where
 nd:cs.Nodup
 len:cs.length≤n
 rg:∀ c∈cs,c.1∈abc∧0≤c.2∧c.2<38
end Lw
namespace Lw
open PySem L2 Kb PySem.NumText TL
open PyProof.Rows hiding signs
def letter (c:Nat):Prop:=97≤c∧c≤122
def Td (c:Nat):Prop:=letter c∨(48≤c∧c≤57)
instance:DecidablePred letter:=fun c=>inferInstanceAs (Decidable (97≤c∧c≤122))
instance:DecidablePred Td:=fun c=>inferInstanceAs (Decidable (letter c∨(48≤c∧c≤57)))
def ZG (l:List Nat):Prop:=1≤l.length∧l.length≤12∧(∀ c∈l.head?,letter c)∧∀ c∈l,Td c
instance:DecidablePred ZG:=fun l=>inferInstanceAs (Decidable (1≤l.length∧l.length≤12∧(∀ c∈l.head?,letter c)∧∀ c∈l,Td c))
end Lw
set_option exponentiation.threshold 20000
namespace Lw
open PySem L2 Kb PySem.NumText TL
open PyProof.Rows hiding signs
theorem Nm (y:Tx) (ps:List Tx):tl (oE y ps)=joinL (tl y) (ps.map tl):=by
 unfold oE
 rw [join_eq,tl_join]
def F:Nat→Int
 | 0=>0
 | 1=>1
 | n+2=>F (n+1)+F n
end Lw
set_option exponentiation.threshold 20000
namespace Lw
open PySem L2 Kb
structure V7 (B:Nat) (r:Am) (cs:List Cell) (qs:List sU):Prop where
 e1:r.1=canon cs
 e2:r.2.1=(cs.length:Int)
 e3:r.2.2=Uy qs
 ne:cs≠[]
 nd:cs.Nodup
 nn:∀ c∈cs,0≤c.2
 len:cs.length≤300000
 st:Iu B qs (cs.length:Int)
 ql:qs.length≤400000
theorem V7.str {B:Nat} {r:Am} {cs:List Cell} {qs:List sU} (h:V7 B r cs qs):Qp r.1:=by rw [h.e1]; exact Tc h.ne h.nn h.nd
theorem V7.sub {B C:Nat} {r:Am} {cs:List Cell} {qs:List sU} (h:V7 B r cs qs) (l:B≤C):V7 C r cs qs :=
 ⟨h.e1,h.e2,h.e3,h.ne,h.nd,h.nn,h.len,⟨h.st.two,h.st.rise,h.st.first,h.st.last,fun s m=>(h.st.ZF s m).mono l⟩,h.ql⟩
end Lw
set_option exponentiation.threshold 20000
namespace Lw
open PySem L2 Kb PySem.NumText TL
open PyProof.Rows hiding signs
structure YH (s:Tx) (r:Tx×Int×Int):Prop where
 txt:tl s=tl r.1++58::(numL r.2.1.toNat++45::numL r.2.2.toNat)
 nm:(tl r.1).length≤12
 b1:0≤r.2.1∧r.2.1<1000000000000000000
 b2:0≤r.2.2∧r.2.2<1000000000000000000
structure ZJ (s:Tx) (r:Tx×Int×Int×Bool):Prop where
 txt:tl s=tl r.1++58::(if r.2.2.2 then numL r.2.2.1.toNat++45::numL r.2.1.toNat else numL r.2.1.toNat++45::numL r.2.2.1.toNat)
 nm:(tl r.1).length≤12
 b1:0≤r.2.1∧r.2.1<1000000000000000000
 b2:0≤r.2.2.1∧r.2.2.1<1000000000000000000
structure ZK (s:Tx) (r:Int×Int×Int):Prop where
 ex:∃ t:Tx,tl s=numL r.1.toNat++61::tl t∧Bw r.2=.ok t
 b1:0≤r.1∧r.1<1000000000000000000
def ZL (r:Rw):List Nat:=tl r.1++58::(numL r.2.1.toNat++45::numL r.2.2.toNat)
structure ZM (s:Tx) (rows:List Rw):Prop where
 txt:if rows=[] then tl s=[45] else tl s=joinL [32] (rows.map ZL)
 ok:∀ r∈rows,(tl r.1).length≤12∧(0≤r.2.1∧r.2.1<1000000000000000000)∧(0≤r.2.2∧r.2.2<1000000000000000000)
 len:rows.length≤10001
theorem Iw {d:List Nat} {p q:List Nat} {r:List (List Nat)}:joinL d (p::q::r)=p++(d++joinL d (q::r)):=rfl
def Gv {α:Type} (P:α→Prop) (r:Res α):Prop:=∃ y,r=.ok y∧P y
section
variable {α β:Type} {P:α→Prop} {Q:β→Prop}
theorem Gv.ok {y:α} (h:P y):Gv P (.ok y):=⟨y,rfl,h⟩
theorem Gv.bind {m:Res α} {f:α→Res β} (h:Gv P m) (k:∀ y,P y→Gv Q (f y)):Gv Q (m.bind f):=by
 obtain ⟨y,rfl,p⟩:=h
 exact k y p
theorem Gv.chk {b:Bool} {r:Res α} (h:b=true) (k:Gv P r):Gv P (Kb.chk b r):=by subst h; exact k
theorem Gv.vh {c:Prop} [Decidable c] {r:Res α} (h:c) (k:Gv P r):Gv P (Kb.chk (decide c) r):=Gv.chk (k_ h) k
theorem Gv.br {b:Bool} {x y:Res α} (h1:b=true→Gv P x) (h2:b=false→Gv P y):Gv P (Kb.br b x y):=by
 cases b
 ·exact h2 rfl
 exact h1 rfl
theorem Gv.at {l:List β} {i:Int} {f:β→Res α} (h0:0≤i) (h:i<l.length) (k:∀ x∈l,Gv P (f x)):Gv P (opt (atI l i) f):=by
 obtain ⟨x,e,m⟩:=S9 h0 h
 rw [e]
 exact k x m
theorem Gv.imp {P':α→Prop} {r:Res α} (h:Gv P r) (k:∀ y,P y→P' y):Gv P' r:=by
 obtain ⟨y,e,p⟩:=h
 exact ⟨y,e,k y p⟩
theorem Gv.loop {α σ:Type} {f:σ→α→Res σ} (I:σ→Prop):∀ {xs:List α} {s:σ},I s→(∀ s x,x∈xs→I s→Gv I (f s x))→Gv I (qU xs s f)
 | [],s,h,_=>⟨s,rfl,h⟩
 | x::xs,s,h,st=>by
  obtain ⟨s',e,h'⟩:=st s x kE h
  obtain ⟨s'',e2,h2⟩:=Gv.loop I h' fun s y m=>st s y (lQ _ m)
  exact ⟨s'',by rw [pZ,e,ji,e2],h2⟩
theorem Gv.Jy {α σ ρ:Type} {f:σ→α→Res (Ja σ ρ)} (I:σ→Prop):∀ {xs:List α} {s:σ},I s→(∀ s x,x∈xs→I s→Gv (fun c=>∃ s',c=.nx s'∧I s') (f s x))→Gv (fun c=>∃ s',c=.nx s'∧I s') (forR xs s f)
 | [],s,h,_=>⟨.nx s,rfl,s,rfl,h⟩
 | x::xs,s,h,st=>by
  obtain ⟨_,e,s',rfl,h'⟩:=st s x kE h
  obtain ⟨c,e2,s'',rfl,h2⟩:=Gv.Jy I h' fun s y m=>st s y (lQ _ m)
  exact ⟨_,by rw [tD,e,ji]; exact e2,s'',rfl,h2⟩
end
theorem Np {a:Int}:Gv (fun _=>True) (rR a):=by
 unfold rR
 refine Gv.chk (qQ iW iW) ?_
 refine Gv.bind (P:=fun _=>True) ?_ fun y _=>Gv.ok trivial
 have gen:∀ (xs:List Int),(∀ x∈xs,0≤x∧x<6)→∀ (k:Nat) (s:Int×Int),xs.length+k≤1000→(0≤s.1∧s.1<1000000007)→s.2.natAbs<2^(30*(k+1)) →
   Gv (fun _=>True) (qU xs s (fun s2 x4=>Kb.chk (xH s2.1 (48271:Int))<|Kb.chk (xH (7:Int) x4)<|Kb.chk (xH s2.2 (1000000007:Int))<|.ok (((((s2.1*(48271:Int))+(12820163:Int))+((7:Int)*x4))%(1000000007:Int)),((s2.2*(1000000007:Int))+((((s2.1*(48271:Int))+(12820163:Int))+((7:Int)*x4))%(1000000007:Int)))))):=by
  intro xs
  induction xs with
  | nil=>intro _ k s _ _ _; exact Gv.ok trivial
  | cons x xs ih =>
   intro hx k s hk h1 h2
   rw [pZ]
   have hx0:=hx x kE
   rw [sJ (zE (m:=30) (n:=16) iJ iW iW),sJ (zE (m:=3) (n:=3) iW iJ iW),sJ (zE (m:=30*(k+1)) (n:=30) h2 iW (by rw [lC] at hk; omega)),ji]
   have hm:=Int.emod_nonneg (((s.1*(48271:Int))+(12820163:Int))+((7:Int)*x)) (show (1000000007:Int)≠0 by decide)
   have hM:=Int.emod_lt_of_pos (((s.1*(48271:Int))+(12820163:Int))+((7:Int)*x)) (show (0:Int)<1000000007 by decide)
   refine ih (fun y m=>hx y (lQ _ m)) (k+1) _ (by rw [lC] at hk; omega) ⟨hm,hM⟩ ?_
   show (s.2*1000000007+_:Int).natAbs<_
   generalize (((s.1*(48271:Int))+(12820163:Int))+((7:Int)*x))%(1000000007:Int)=r at hm hM
   rw [show 30*(k+1+1)=30*(k+1)+30 by omega,Nat.pow_add]
   generalize 2^(30*(k+1))=B at h2
   have e30:(2:Nat)^30=1073741824:=by decide
   rw [e30]
   have h3:=Int.natAbs_add_le (s.2*1000000007) r
   rw [Int.natAbs_mul,show (1000000007:Int).natAbs=1000000007 from rfl] at h3
   omega
 exact gen _ (fun x m=>by have:=yQ.mp m; omega) 0 _ (by rw [Ql]; decide) ⟨Int.emod_nonneg _ iW,Int.emod_lt_of_pos _ iW⟩ (show (0:Int).natAbs<2^30 by decide)
theorem Qq {st:mj} {lim:Int} (h0:0<lim) (h:lim.natAbs<2^1000):Gv (fun y=>0≤y.1∧y.1<lim) (jk st lim):=by
 unfold jk
 refine Gv.bind (P:=fun _=>True) ?_ fun s _=>?_
 ·have:∃ b,Oa (.ok (decide (st.2<lim))) (.ok (decide ((0:Int)<(st.1.length:Int))))=.ok b∧(b=true→0<st.1.length):=by
   by_cases c:st.2<lim
   ·rw [k_ c]
    exact ⟨_,rfl,fun q=>by have:=jQ q; omega⟩
   rw [oJ c]
   exact ⟨false,rfl,fun q=>nomatch q⟩
  obtain ⟨b,e,hb⟩:=this
  rw [e,ji]
  refine Gv.br (fun q=>?_) fun _=>Gv.ok trivial
  have:=hb q
  cases hl:st.1 with
  | nil=>rw [hl] at this; cases this
  | cons x r =>
   show Gv _ (Res.bind _ _)
   refine Gv.bind (P:=fun _=>True) (Gv.br (fun _=>Gv.bind Np fun y _=>Gv.ok trivial) fun _=>Gv.ok trivial) fun y _=>Gv.ok trivial
 refine Gv.vh h0 (Gv.chk (Ka (m:=1000) h0 h iW) (Gv.ok ⟨?_,?_⟩))
 ·exact Int.emod_nonneg _ iJ
 exact Int.emod_lt_of_pos _ h0
section
variable {α:Type} {P:α→Prop}
theorem Gv.take {st:mj} {lim:Int} {f:Int×mj→Res α} (k:∀ y:Int×mj,0≤y.1→y.1<lim→Gv P (f y)) (h0:0<lim:=by decide) (h:lim.natAbs<2^1000:=by decide):Gv P ((jk st lim).bind f) :=
 Gv.bind (Qq h0 h) fun y p=>k y p.1 p.2
end
theorem Nq {ns:List Int} (h:ns.length≤63):Gv (fun _=>True) (rW ns):=by
 unfold rW
 have sl:=kh
 have:=Ip ns none (some (63:Int))
 refine Gv.vh iJ ?_
 rw [zA (fun x:Int=>x) fun x _=>rfl]
 exact Gv.ok trivial
theorem len_app (x y:Tx):(x++y).length=x.length+y.length:=by rw [Ez,tl_append,o_,← Ez,← Ez]
theorem GX {d:List Nat} {B:Nat}:∀ {ps:List (List Nat)},(∀ p∈ps,p.length≤B)→(joinL d ps).length≤ps.length*(B+d.length)
 | [],_=>Nat.zero_le _
 | [p],h=>by
  have:=h p kE
  show p.length≤1*_
  omega
 | p::q::r,h=>by
  have h1:=h p kE
  have h2:=GX (d:=d) (ps:=q::r) fun x m=>h x (lQ _ m)
  rw [Iw,o_,o_,lC,Nat.succ_mul]
  omega
theorem join_le {d:Tx} {B:Nat} {l:List Tx} (h:∀ x∈l,x.length≤B):(oE d l).length≤l.length*(B+d.length):=by
 rw [Ez,Nm]
 have:=GX (d:=tl d) (B:=B) (ps:=l.map tl) (fun p m=>by
  obtain ⟨x,mx,rfl⟩:=List.mem_map.mp m
  rw [← Ez]; exact h x mx)
 rw [mU,← Ez] at this
 exact this
theorem Dz {α β τ:Type} {f:τ→α→Res (β×τ)} (P:β→Prop):∀ {xs:List α} {s:τ},(∀ s x,x∈xs→Gv (fun y=>P y.1) (f s x))→Gv (fun z=>z.1.length=xs.length∧∀ y∈z.1,P y) (wG xs s f)
 | [],s,_=>⟨([],s),rfl,rfl,fun y m=>by cases m⟩
 | x::xs,s,h=>by
  obtain ⟨y,e,p⟩:=h s x kE
  obtain ⟨z,e2,l2,p2⟩:=Dz P (s:=y.2) fun s w m=>h s w (lQ _ m)
  refine ⟨(y.1::z.1,z.2),?_,by rw [lC,lC,l2],fun w m=>?_⟩
  ·show Res.bind (nx (f s x)) _=_
   rw [e,CP,ji,e2]; rfl
  rcases lA.mp m with rfl | m
  ·exact p
  exact p2 w m
abbrev Nr:Type:=Int×PySem.Str×PySem.Str×List (PySem.Str×Int×Int)
def Ea (e:iI) (en d:Int):Bool:=decide (e.2.2.2.2.2.1≤en)&&(match e.2.2.2.2.2.2 with
 | none=>true
 | some n=>decide (en<n))&&decide (e.2.2.2.1≤d)&&(match e.2.2.2.2.1 with
 | none=>true
 | some n=>decide (d≤n))
theorem Kf (e:iI) (en d:Int):mD e en d=.ok (Ea e en d):=by
 obtain ⟨k,v,g,f,l,b,x⟩:=e
 unfold mD Ea
 dsimp only
 by_cases h1:en<b
 ·have h2:¬ b≤en:=by omega
  simp [h1,h2,Kb.br]
 have h2:b≤en:=by omega
 have h3:decide (en<b)=false:=oJ h1
 cases x with
 | none =>
  cases l with
  | none=>by_cases h4:f≤d<;>simp [h1,h2,h4,Kb.br,Option.isNone]
  | some m=>by_cases h4:f≤d<;>simp [h1,h2,h4,Kb.br,Kb.opt,Option.isNone]
 | some n =>
  by_cases h5:n≤en
  ·have h6:¬ en<n:=by omega
   simp [h1,h2,h5,h6,Kb.br,Kb.opt,Option.isNone]
  have h6:en<n:=by omega
  cases l with
  | none=>by_cases h4:f≤d<;>simp [h1,h2,h4,h5,h6,Kb.br,Kb.opt,Option.isNone]
  | some m=>by_cases h4:f≤d<;>simp [h1,h2,h4,h5,h6,Kb.br,Kb.opt,Option.isNone]
def xG:Int→List iI→Int→Int→List Nr
 | _,[],_,_=>[]
 | i,e::es,en,d=>if Ea e en d=true then (i,e.1,e.2.1,e.2.2.1)::xG (i+1) es en d else xG (i+1) es en d
theorem Jz:∀ (i:Int) (es:List iI) (en d:Int),(xG i es en d).length≤es.length
 | _,[],_,_=>lD _
 | i,e::es,en,d=>by
  unfold xG
  have:=Jz (i+1) es en d
  split<;>simp<;>omega
theorem GZ {es:List iI} {n en d:Int} (h0:0≤en) (h1:en≤n) (hl:es.length<sizeLine):kZ (es,n) en d=.ok (xG 1 es en d):=by
 unfold kZ
 have hc:(!((decide ((0:Int)≤en))&&(decide (en≤n))))=false:=by rw [k_ h0,k_ h1]; rfl
 dsimp only
 rw [hc]
 show Res.bind _ _=_
 have gen:∀ (m j:Nat) (acc:List Nr),j+m=es.length→acc.length≤j →
   qU (xJ ((j:Int)+1) (List.range' j m)) acc (fun PN x41=>opt (es[x41.2]?) fun Kr=>((nx (mD Kr en d)).bind fun W_=>br W_ (chk (decide (PN.length<sizeLine))<|.ok ((PN++[(x41.1,Kr.1,Kr.2.1,Kr.2.2.1)]))) (.ok (PN))).bind fun Xa=>.ok (Xa))=.ok (acc++xG ((j:Int)+1) (es.drop j) en d):=by
  intro m
  induction m with
  | zero =>
   intro j acc hj _
   have:es.drop j=[]:=List.drop_of_length_le iJ
   rw [this]
   show Res.ok acc=_
   simp [xG]
  | succ m ih =>
   intro j acc hj ha
   have hlt:j<es.length:=by omega
   rw [List.range'_succ]
   show qU (((j:Int)+1,j)::xJ ((j:Int)+1+1) (List.range' (j+1) m)) acc _=_
   rw [pZ]
   have e1:es[j]?=some es[j]:=nA hlt
   rw [List.drop_eq_getElem_cons hlt]
   have ih':=fun acc h=>ih (j+1) acc iJ h
   rw [show ((j+1:Nat):Int)+1=(j:Int)+1+1 by omega] at ih'
   dsimp only
   rw [e1]
   show Res.bind (Res.bind (Res.bind (nx (mD es[j] en d)) _) _) _=_
   rw [Kf]
   show Res.bind (Res.bind (br (Ea es[j] en d) _ _) _) _=_
   unfold xG
   cases hs:Ea es[j] en d with
   | true =>
    show Res.bind (Res.bind (chk (decide (acc.length<sizeLine)) _) _) _=_
    rw [sJ (k_ iJ),ji,ji,ih' _ (by rw [o_]; simp; omega),if_pos rfl,List.append_assoc]
    rfl
   | false =>
    show Res.bind (Res.bind (.ok acc) _) _=_
    rw [ji,ji,ih' _ iJ,if_neg qX]
 have z:=gen es.length 0 [] iJ (lD _)
 rw [List.range_eq_range']
 show Res.bind (qU (xJ 1 (List.range' 0 es.length)) [] _) _=_
 rw [show (((0:Nat):Int)+1)=1 from rfl] at z
 rw [z]
 simp
structure TF (es:List iI) (n:Int):Prop where
 n0:0≤n
 len:(es.length:Int)≤n
 ev:∀ e∈es,1≤e.2.2.2.2.2.1∧e.2.2.2.2.2.1≤n∧(∀ m,e.2.2.2.2.2.2=some m→e.2.2.2.2.2.1<m∧m≤n)∧0≤e.2.2.2.1∧e.2.2.2.1≤100∧(∀ m,e.2.2.2.2.1=some m→e.2.2.2.1≤m∧m≤200)
def Keeps (es es':List iI) (n:Int):Prop:=∀ en d,0≤en→en≤n→xG 1 es' en d=xG 1 es en d
theorem wX {i:Int} {e:iI} {es:List iI} {en d:Int}:xG i (e::es) en d=if Ea e en d=true then (i,e.1,e.2.1,e.2.2.1)::xG (i+1) es en d else xG (i+1) es en d:=rfl
theorem JB:∀ (i:Int) (es fs:List iI) (en d:Int),xG i (es++fs) en d=xG i es en d++xG (i+es.length) fs en d
 | i,[],fs,en,d=>by simp [xG]
 | i,e::es,fs,en,d=>by
  have ih:=JB (i+1) es fs en d
  have e1:i+1+(es.length:Int)=i+((e::es).length:Int):=by simp; omega
  rw [e1] at ih
  show xG i (e::(es++fs)) en d=_
  rw [wX,wX (es:=es),ih]
  cases Ea e en d with
  | true=>rfl
  | false=>rfl
theorem JC {f:iI} {en d:Int}:∀ {es:List iI} {j:Nat} {e:iI} (i:Int),es[j]?=some e→Ea f en d=Ea e en d→f.1=e.1→f.2.1=e.2.1→f.2.2.1=e.2.2.1→xG i (es.set j f) en d=xG i es en d
 | [],_,_,_,h,_,_,_,_=>by simp at h
 | e0::es,0,e,i,h,s,h1,h2,h3=>by
  cases j5 (show some e0=some e from h)
  show xG i (f::es) en d=xG i (e0::es) en d
  unfold xG
  rw [s,h1,h2,h3]
 | e0::es,j+1,e,i,h,s,h1,h2,h3=>by
  show xG i (e0::es.set j f) en d=xG i (e0::es) en d
  unfold xG
  rw [JC (i+1) (show es[j]?=some e from h) s h1 h2 h3]
theorem TF.add {es:List iI} {n:Int} (h:TF es n) {k v:PySem.Str} {g:List (PySem.Str×Int×Int)} {f:Int} {l:Option Int} (f0:0≤f) (f1:f≤100) (hl:∀ m,l=some m→f≤m∧m≤200) :
  TF (es++[(k,v,g,f,l,n+1,none)]) (n+1)∧Keeps es (es++[(k,v,g,f,l,n+1,none)]) n:=by
 have:=h.n0
 have:=h.len
 refine ⟨⟨iJ,by rw [o_]; simp; omega,fun e m=>?_⟩,fun en d h0 h1=>?_⟩
 ·rcases tK.mp m with m | m
  ·obtain ⟨a,b,c,d⟩:=h.ev e m
   exact ⟨a,iJ,fun m e=>⟨(c m e).1,by have:=(c m e).2; omega⟩,d⟩
  ·cases jD.mp m
   exact ⟨by show 1≤n+1; omega,Int.le_refl _,(fun m e=>nomatch e),f0,f1,hl⟩
 ·rw [JB,wX]
  have:Ea (k,v,g,f,l,n+1,none) en d=false:=by
   unfold Ea
   have e:decide (n+1≤en)=false:=oJ iJ
   dsimp only
   rw [e]; rfl
  rw [this]
  simp [xG]
theorem TF.end_ {es:List iI} {n:Int} (h:TF es n) {j:Nat} {e:iI} (he:es[j]?=some e) (hn:e.2.2.2.2.2.2=none) :
  TF (es.set j (e.1,e.2.1,e.2.2.1,e.2.2.2.1,e.2.2.2.2.1,e.2.2.2.2.2.1,some (n+1))) (n+1)∧Keeps es (es.set j (e.1,e.2.1,e.2.2.1,e.2.2.2.1,e.2.2.2.2.1,e.2.2.2.2.2.1,some (n+1))) n:=by
 have:=h.n0
 have:=h.len
 have hm:=tH he
 obtain ⟨a,b,-,c⟩:=h.ev e hm
 refine ⟨⟨iJ,by rw [List.length_set]; omega,fun q m=>?_⟩,fun en d h0 h1=>?_⟩
 ·rcases List.mem_or_eq_of_mem_set m with m | rfl
  ·obtain ⟨a,b,c,d⟩:=h.ev q m
   exact ⟨a,iJ,fun m e=>⟨(c m e).1,by have:=(c m e).2; omega⟩,d⟩
  ·exact ⟨a,by show e.2.2.2.2.2.1≤n+1; omega,fun m z=>by cases j5 (show some (n+1)=some m from z); exact ⟨by show e.2.2.2.2.2.1<n+1; omega,Int.le_refl _⟩,c⟩
 ·refine JC 1 he ?_ rfl rfl rfl
  unfold Ea
  dsimp only
  rw [hn]
  have e1:decide (en<n+1)=true:=k_ iJ
  dsimp only
  rw [e1]
theorem Cm {es:List iI} {n i:Int} (hl:es.length<sizeLine):(1≤i∧i≤es.length∧lO (es,n) i=.ok (i - 1).toNat∧(i - 1).toNat<es.length)∨(¬ (1≤i∧i≤es.length)∧lO (es,n) i=.err .j7):=by
 unfold lO
 dsimp only
 by_cases c:1≤i∧i≤es.length
 ·left
  have e1:(!((decide ((1:Int)≤i))&&(decide (i≤(es.length:Int)))))=false:=by rw [k_ c.1,k_ c.2]; rfl
  rw [e1]
  have lt:(i - 1).toNat<es.length:=by omega
  refine ⟨c.1,c.2,?_,lt⟩
  have e2:ixN es.length (i - 1)=some (i - 1).toNat:=by
   unfold ixN
   rw [if_pos iJ]
   rw [if_pos iJ]
  show opt (ixN es.length (i - 1)) _=_
  rw [e2]
  show chk (decide ((i - 1).toNat<es.length)) _=_
  rw [sJ (k_ lt)]
 right
 refine ⟨c,?_⟩
 have e1:(!((decide ((1:Int)≤i))&&(decide (i≤(es.length:Int)))))=true:=by
  by_cases h:1≤i
  ·have:¬ i≤es.length:=fun z=>c ⟨h,z⟩
   rw [k_ h,oJ this]; rfl
  rw [oJ h]; rfl
 rw [e1]
 rfl
theorem Nt {d:Int} (h0:0≤d) (h1:d≤1000000):rQ d=.ok true:=by
 unfold rQ
 rw [k_ h0,k_ h1]
 rfl
theorem add_ok {es:List iI} {n:Int} (hl:es.length<sizeLine) {k v:PySem.Str} {g:List (PySem.Str×Int×Int)} {f:Int} {l:Option Int} (hk:qj k=.ok true) (hv:qj v=.ok true) (hg:g≠[]) (f0:0≤f) (f1:f≤1000000)
  (l0:∀ m,l=some m→f≤m∧m≤1000000):nU (es,n) k v g f l=.ok (((es.length:Int)+1),(es++[(k,v,g,f,l,n+1,none)],n+1)):=by
 have ge:(!g.isEmpty)=true:=by cases g with
  | nil=>exact absurd rfl hg
  | cons _ _=>rfl
 unfold nU
 rw [hk,hv,Nt f0 f1]
 show br (!g.isEmpty) _ _=_
 rw [ge]
 cases l with
 | none =>
  show Res.bind (nx (mK k v g f none (n+1))) _=_
  unfold mK
  show chk (decide (es.length<sizeLine)) _=_
  rw [sJ (k_ hl)]
  simp
 | some m =>
  obtain ⟨h1,h2⟩:=l0 m rfl
  show Res.bind (nx (rQ m)) _=_
  rw [Nt iJ h2]
  show br (decide (m<f)) _ _=_
  rw [oJ iJ]
  show Res.bind (nx (mK k v g f (some m) (n+1))) _=_
  unfold mK
  show chk (decide (es.length<sizeLine)) _=_
  rw [sJ (k_ hl)]
  simp
theorem Nu {n:Int} (h0:0≤n) (h:n≤1000):n.natAbs<2^1000:=by
 have:(1000:Nat)<2^1000:=by decide +kernel
 omega
theorem Gv.Kg {α β:Type} {Q:β→Prop} {m:Res α} {f:α→Res β} {y:α} (h:m=.ok y) (k:Gv Q (f y)):Gv Q (m.bind f):=by rw [h]; exact k
theorem Gv.Nv {α σ:Type} {f:σ→α→Res σ} (I:Nat→σ→Prop):∀ {xs:List α} {s:σ} (k:Nat),I k s→(∀ s x k',x∈xs→k≤k'→k'<k+xs.length→I k' s→Gv (I (k'+1)) (f s x))→Gv (I (k+xs.length)) (qU xs s f)
 | [],s,k,h,_=>⟨s,rfl,h⟩
 | x::xs,s,k,h,st=>by
  obtain ⟨s',e,h'⟩:=st s x k kE (lD _) (by rw [lC]; omega) h
  obtain ⟨s'',e2,h2⟩:=Gv.Nv I (xs:=xs) (k+1) h' fun s y k' m a b c=>st s y k' (lQ _ m) iJ (by rw [lC]; omega) c
  refine ⟨s'',by rw [pZ,e,ji,e2],?_⟩
  rw [lC,show k+(xs.length+1)=k+1+xs.length by omega]
  exact h2
theorem G3 {es:List iI} {n:Int} {j:Nat} {e:iI} (he:es[j]?=some e) (hl:es.length≤1000):lF (es,n) (1+j)=.ok e:=by
 have sl:=kh
 have lt:j<es.length:=(uF.mp he).1
 unfold lF
 rcases Cm (es:=es) (n:=n) (i:=1+(j:Int)) iJ with ⟨_,_,z,_⟩ | ⟨z,_⟩
 ·rw [z,ji,show (1+(j:Int) - 1).toNat=j by omega]
  show opt es[j]? _=_
  rw [he]
  rfl
 exact absurd ⟨iJ,iJ⟩ z
theorem G4 {es:List iI} {n en d:Int} (h:en<0∨n<en):kZ (es,n) en d=.err .j7:=by
 unfold kZ
 have hc:(!((decide ((0:Int)≤en))&&(decide (en≤n))))=true:=by
  rcases h with h | h
  ·rw [oJ iJ]; rfl
  rw [oJ (show ¬ en≤n by omega),Bool.and_false]; rfl
 dsimp only
 rw [hc]
 rfl
abbrev Kh:Type:=PySem.Str×Int×Int
def Tf:List Kh→(PySem.Str×Int)→Res (List Kh):=fun zq x44=>(br (!decide (zq=([]:List (PySem.Str×Int×Int)))) (opt (atI zq (-(1:Int))) fun x80=>br (decide (x80.1=x44.1)) (opt (atI zq (-(1:Int))) fun x89=>br (decide (x89.2.2=x44.2)) (opt (atI zq (-(1:Int))) fun x98=>opt (ixN zq.length (-(1:Int))) fun Sq=>.ok ((zq.set Sq (x44.1,x98.2.1,(x44.2+(1:Int)))))) (chk (decide (zq.length<sizeLine))<|.ok ((zq++[(x44.1,x44.2,(x44.2+(1:Int)))])))) (chk (decide (zq.length<sizeLine))<|.ok ((zq++[(x44.1,x44.2,(x44.2+(1:Int)))])))) (chk (decide (zq.length<sizeLine))<|.ok ((zq++[(x44.1,x44.2,(x44.2+(1:Int)))])))).bind fun Xc=>.ok (Xc)
theorem Ny {s:List Kh} {c:PySem.Str×Int} (hl:s.length≤1000):Gv (fun y=>y.length≤s.length+1) (Tf s c):=by
 have sl:=kh
 have app:Gv (fun y:List Kh=>y.length≤s.length+1) (chk (decide (s.length<sizeLine))<|.ok (s++[(c.1,c.2,(c.2+(1:Int)))])):=Gv.vh iJ (Gv.ok j6)
 unfold Tf
 refine Gv.bind ?_ fun y h=>Gv.ok h
 refine Gv.br (fun h=>?_) fun _=>app
 have ne:s≠[]:=fun z=>by rw [z] at h; simp at h
 have hp:0<s.length:=List.length_pos_iff.mpr ne
 have e2:ixN s.length (-(1:Int))=some (s.length - 1):=Nf hp
 have e1:atI s (-(1:Int))=some s[s.length - 1]:=by
  unfold atI
  rw [e2]
  exact nA iJ
 rw [e1,e2]
 exact Gv.br (fun _=>Gv.br (fun _=>Gv.ok (by rw [List.length_set]; omega)) fun _=>app) fun _=>app
theorem Kl {cs:List (PySem.Str×Int)} (hl:cs.length<64):Gv (fun y=>y.length≤64) (rY cs):=by
 unfold rY
 refine Gv.vh hl ?_
 have sub:∀ c∈wA zL (uniq cs),c∈cs:=fun c m=>uX.mp ((vq _).mem_iff.mp m)
 have len:(wA zL (uniq cs)).length≤cs.length:=by
  refine List.Nodup.length_le_of_subset ?_ fun c m=>sub c m
  exact (vq _).nodup_iff.mpr (vG cs)
 show Gv _ ((qU (wA zL (uniq cs)) ([]:List Kh) Tf).bind _)
 refine Gv.bind (Gv.Nv (fun i (s:List Kh)=>s.length≤i) 0 (lD _) fun s x i _ _ hi inv=>Gv.imp (Ny iJ) fun y h=>by omega) fun y hy=>Gv.ok iJ
theorem Nz {st:mj} {many:Int} (h0:0<many) (h1:many≤3):Gv (fun y=>y.1.length≤64) (qN st many):=by
 have sl:=kh
 unfold qN
 refine Gv.take (h0:=h0) (h:=Nu iJ iJ) fun d d0 d1=>?_
 refine Gv.chk (qQ iJ iJ) ?_
 have ln:(rng 0 ((1:Int)+d.1).toNat).length=(1+d.1).toNat:=oN _ _
 refine Gv.bind (P:=fun s:mj×List (PySem.Str×Int)=>s.2.length<64) ?_ fun s hs=>Gv.bind (Kl hs) fun y hy=>Gv.ok hy
 refine Gv.imp (Gv.Nv (fun i (s:mj×List (PySem.Str×Int))=>s.2.length≤12*i) 0 (lD _) fun s x i m _ hi inv=>?_) fun y h=>by rw [ln] at h; omega
 rw [ln] at hi
 refine Gv.take fun a a0 a1=>?_
 refine Gv.at a0 (by simpa using a1) fun pc mp=>?_
 refine Gv.take fun b b0 b1=>Gv.take fun c c0 c1=>?_
 refine Gv.chk (qQ iJ iJ) (Gv.chk (qQ iJ iJ) ?_)
 have len:(rng b.1 (((b.1+(1:Int))+c.1) - b.1).toNat).length=(1+c.1).toNat:=by rw [oN]; congr 1; omega
 refine Gv.vh (by rw [len]; omega) ?_
 rw [zA (fun x:Int=>(pc,x)) fun x _=>rfl,ji]
 exact Gv.vh (by rw [mU,len]; omega) (Gv.ok (by rw [o_,mU,len]; omega))
theorem JD {st:mj}:Gv (fun _=>True) (nD st):=by
 unfold nD
 exact Gv.take fun a _ _=>Gv.take fun b _ _=>Gv.take fun c _ _=>Gv.take fun d d0 d1=>Gv.at d0 (by simpa using d1) fun x _=>Gv.ok trivial
theorem Q7:tl ("abcdefghijklmnopqrstuvwxyz0123456789" : Tx)=tl ("abcdefghijklmnopqrstuvwxyz" : Tx)++tl ("0123456789" : Tx):=by decide +kernel
theorem Iz:("abcdefghijklmnopqrstuvwxyz0123456789" : Tx).length=36:=by decide +kernel
theorem Tg:("AEVZ -_.+@:=`{/;,~[]|^!#$&*()?<>\"'\\}\n\t" : Tx).length=38:=by decide +kernel
theorem Km:("abcdefghijkl" : Tx).length=12:=by decide +kernel
theorem Av:("" : Tx).length=0:=by decide +kernel
def vZ (t:Tx):Bool:=(decide ((1:Int)≤(t.length:Int))&&decide ((t.length:Int)≤(12:Int)))&&(tl t).all fun c=>decide (c∈tl ("abcdefghijklmnopqrstuvwxyz" : Tx))||decide (c∈tl ("0123456789" : Tx))
theorem zF:∀ l:List Nat, forR (l.map fun n=>(⟨#[n]⟩:Tx)) () (fun Yx x25=>br ((!Fw x25 ("abcdefghijklmnopqrstuvwxyz" : jO))&&(!Fw x25 ("0123456789" : jO))) (.ok (.ret false)) (.ok (.nx ())))=(.ok (if (l.all fun c=>decide (c∈tl ("abcdefghijklmnopqrstuvwxyz" : Tx))||decide (c∈tl ("0123456789" : Tx)))=true then .nx () else .ret false):Res (Ja Unit Bool))
 | []=>rfl
 | c::l=>by
  rw [List.map_cons,tD,List.all_cons,Aq,Aq]
  cases decide (c∈tl ("abcdefghijklmnopqrstuvwxyz" : Tx)) with
  | true =>
   rw [Bool.true_or,Bool.true_and]
   exact zF l
  | false =>
   cases decide (c∈tl ("0123456789" : Tx)) with
   | true =>
    rw [Bool.or_true,Bool.true_and]
    exact zF l
   | false=>rfl
theorem vM {t:Tx} (h:t.length≤100):qj t=.ok (vZ t):=by
 have sl:=kh
 unfold qj vZ
 rw [sJ (k_ iJ)]
 cases (decide ((1:Int)≤(t.length:Int))&&decide ((t.length:Int)≤(12:Int))) with
 | false=>rfl
 | true =>
  show Res.bind (forR (signs t) () _) _=_
  rw [zB,zF,ji,Bool.true_and]
  cases (tl t).all fun c=>decide (c∈tl ("abcdefghijklmnopqrstuvwxyz" : Tx))||decide (c∈tl ("0123456789" : Tx))<;>rfl
theorem zG {α:Type} {f:α→Res (Option α)} (p:α→Bool):∀ {xs:List α},(∀ x∈xs,f x=br (p x) (.ok (some x)) (.ok none))→vO xs f=.ok (xs.filter p)
 | [],_=>rfl
 | x::xs,h=>by
  show ((nx (f x)).bind fun y=>(vO xs f).bind fun ys=>.ok (match y with | some z=>z::ys | none=>ys))=_
  rw [h x kE,zG p fun y m=>h y (lQ _ m),List.filter_cons]
  cases p x<;>rfl
theorem zV {t:Tx} (h:t.length≤100):lB t=.ok (vZ t):=by
 have sl:=kh
 have sg:(signs t).length=(tl t).length:=by rw [zB,mU]
 have lt:=Ez t
 unfold lB vZ
 rw [sJ (k_ iJ)]
 cases (decide ((1:Int)≤(t.length:Int))&&decide ((t.length:Int)≤(12:Int))) with
 | false=>rfl
 | true =>
  rw [lV, sJ (k_ iJ), zG (fun x:Tx=>!Fw x ("abcdefghijklmnopqrstuvwxyz0123456789" : jO)) (fun x _=>rfl), ji, ji, Bool.true_and, zB]
  refine congrArg Res.ok ?_
  rw [qY,decide_eq_true_eq,uJ]
  rw [show (((List.filter (fun x:Tx=>!Fw x ("abcdefghijklmnopqrstuvwxyz0123456789" : jO)) (List.map (fun n=>(⟨#[n]⟩:Tx)) (tl t))).length:Int)=0)↔(List.filter (fun x:Tx=>!Fw x ("abcdefghijklmnopqrstuvwxyz0123456789" : jO)) (List.map (fun n=>(⟨#[n]⟩:Tx)) (tl t))).length=0 from by omega]
  rw [List.length_eq_zero_iff,List.filter_eq_nil_iff]
  constructor
  ·intro g c m
   have:=g _ (List.mem_map_of_mem m)
   rw [Aq,Q7] at this
   simp only [List.mem_append,Bool.not_eq_true',decide_eq_false_iff_not,Classical.not_not] at this
   simp only [Bool.or_eq_true,decide_eq_true_eq]
   exact this
  intro g x m
  obtain ⟨c,mc,rfl⟩:=List.mem_map.mp m
  have:=g c mc
  simp only [Bool.or_eq_true,decide_eq_true_eq] at this
  rw [Aq,Q7]
  simp only [List.mem_append,Bool.not_eq_true',decide_eq_false_iff_not,Classical.not_not]
  exact this
theorem JF {st:mj}:Gv (fun y=>y.1.length≤100) (ou st):=by
 have sl:=kh
 have a36:=Iz
 have a40:=Tg
 have a12:=Km
 have Z6:=Av
 unfold ou
 refine Gv.take fun a a0 a1=>Gv.take fun b b0 b1=>Gv.at b0 (by simpa using b1) fun x mx=>?_
 have hx:1≤x∧x≤12:=by
  simp only [List.mem_cons,List.not_mem_nil,or_false] at mx
  omega
 have ln:(rng 0 x.toNat).length=x.toNat:=oN _ _
 refine Gv.chk (qQ iJ iJ) (Gv.vh (by rw [ln]; omega) ?_)
 refine Gv.bind (Dz (fun t:Tx=>t.length≤1) fun s x _=>Gv.take fun c c0 c1=>Gv.vh (by rw [Iz]; omega) (Gv.at c0 (by
   show c.1<((tl ("abcdefghijklmnopqrstuvwxyz0123456789" : Tx)).length:Int)
   rw [← Ez,Iz]; exact c1) fun y _=>Gv.ok (lD _))) fun z hz=>?_
 rw [ln] at hz
 have jl:=join_le (d:=("" : Tx)) hz.2
 rw [Av] at jl
 have sm:(List.map (fun z:PySem.Str=>z.length) z.1).sum+z.1.length*("" : jO).length≤16777216:=by
  rw [Av,Nat.mul_zero,Nat.add_zero]
  have:∀ l:List Tx,(∀ t∈l,t.length≤1)→(List.map (fun z:PySem.Str=>z.length) l).sum≤l.length:=by
   intro l
   induction l with
   | nil=>intro _; exact lD _
   | cons t l ih =>
    intro h
    have:=ih fun t m=>h t (lQ _ m)
    have:=h t kE
    simp only [List.map_cons,List.sum_cons,List.length_cons]
    omega
  have:=this z.1 hz.2
  omega
 refine Gv.vh sm ?_
 refine Gv.take fun c _ _=>Gv.br (fun _=>?_) fun _=>Gv.br (fun _=>?_) fun _=>Gv.ok (by show (oE _ _).length≤100; omega)
 ·refine Gv.vh (by rw [a12]; omega) (Gv.take fun d d0 d1=>Gv.at d0 (by simpa using d1) fun y my=>Gv.ok ?_)
  simp only [List.mem_cons,List.not_mem_nil,or_false] at my
  show y.length≤100
  rcases my with rfl | rfl
  ·rw [Av]; omega
  rw [len_app,a12]; omega
 refine Gv.take (h0:=by omega) (h:=Nu iJ iJ) fun d d0 d1=>?_
 refine Gv.vh iJ (Gv.vh (by rw [a40]; omega) ?_)
 refine Gv.take (h0:=by rw [a40]; omega) (h:=Nu (by rw [a40]; omega) (by rw [a40]; omega)) fun e e0 e1=>?_
 refine Gv.vh (by rw [a40]; omega) (Gv.at e0 (by
  show e.1<((tl ("AEVZ -_.+@:=`{/;,~[]|^!#$&*()?<>\"'\\}\n\t" : Tx)).length:Int)
  rw [← Ez]; exact e1) fun y _=>?_)
 have c1:=GD (oE ("" : Tx) z.1) none (some d.1)
 have c2:=GD (oE ("" : Tx) z.1) (some (d.1+1)) none
 have y1:(⟨#[y]⟩:Tx).length=1:=rfl
 refine Gv.vh (by rw [y1]; omega) (Gv.vh iJ (Gv.vh (by rw [len_app,y1]; omega) (Gv.ok ?_)))
 show Str.length (_++_)≤100
 rw [len_app,len_app,y1]
 omega
theorem G5 {es:List iI} {en d:Int} (hl:es.length≤1000):oW es en d=.ok (xG 1 es en d):=by
 have sl:=kh
 unfold oW
 rw [sJ (qQ iJ iJ),Int.toNat_natCast]
 have gen:∀ (m j:Nat) (acc:List Nr),j+m=es.length→acc.length≤j →
   qU (rng (j:Int) m) acc (fun t_ x43=>opt (ixN es.length x43) fun VP=>opt (es[VP]?) fun pK=>(br (decide (pK.2.2.2.2.2.1≤en)) (br (Option.isNone pK.2.2.2.2.2.2) (br (decide (pK.2.2.2.1≤d)) (br (Option.isNone pK.2.2.2.2.1) (chk (decide (t_.length<sizeLine))<|.ok ((t_++[((x43+(1:Int)),pK.1,pK.2.1,pK.2.2.1)]))) (opt pK.2.2.2.2.1 fun VR=>br (decide (d≤VR)) (chk (decide (t_.length<sizeLine))<|.ok ((t_++[((x43+(1:Int)),pK.1,pK.2.1,pK.2.2.1)]))) (.ok (t_)))) (.ok (t_))) (opt pK.2.2.2.2.2.2 fun M6=>br (decide (en<M6)) (br (decide (pK.2.2.2.1≤d)) (br (Option.isNone pK.2.2.2.2.1) (chk (decide (t_.length<sizeLine))<|.ok ((t_++[((x43+(1:Int)),pK.1,pK.2.1,pK.2.2.1)]))) (opt pK.2.2.2.2.1 fun M7=>br (decide (d≤M7)) (chk (decide (t_.length<sizeLine))<|.ok ((t_++[((x43+(1:Int)),pK.1,pK.2.1,pK.2.2.1)]))) (.ok (t_)))) (.ok (t_))) (.ok (t_)))) (.ok (t_))).bind fun Sy=>.ok (Sy))=.ok (acc++xG ((j:Int)+1) (es.drop j) en d):=by
  intro m
  induction m with
  | zero =>
   intro j acc hj _
   have:es.drop j=[]:=List.drop_of_length_le iJ
   rw [this]
   show Res.ok acc=_
   simp [xG]
  | succ m ih =>
   intro j acc hj ha
   have hlt:j<es.length:=by omega
   show qU ((j:Int)::rng ((j:Int)+1) m) acc _=_
   rw [pZ]
   have e1:es[j]?=some es[j]:=nA hlt
   rw [List.drop_eq_getElem_cons hlt]
   have ih':=fun acc h=>ih (j+1) acc iJ h
   rw [show ((j+1:Nat):Int)=(j:Int)+1 by omega] at ih'
   have e2:ixN es.length (j:Int)=some j:=by
    unfold ixN
    rw [if_pos iJ,if_pos iJ,Int.toNat_natCast]
   rw [e2,kY,e1,kY]
   generalize es[j]=e
   have push:(chk (decide (acc.length<sizeLine))<|.ok ((acc++[(((j:Int)+(1:Int)),e.1,e.2.1,e.2.2.1)])):Res (List Nr))=.ok (acc++[(((j:Int)+(1:Int)),e.1,e.2.1,e.2.2.1)]):=sJ (k_ iJ)
   rw [push,wX]
   have fin:∀ r:Res (List Nr),r=.ok (if Ea e en d=true then acc++[(((j:Int)+(1:Int)),e.1,e.2.1,e.2.2.1)] else acc) →
     ((r.bind fun Sy=>.ok Sy).bind fun s=>qU (rng ((j:Int)+1) m) s (fun t_ x43=>opt (ixN es.length x43) fun VP=>opt (es[VP]?) fun pK=>(br (decide (pK.2.2.2.2.2.1≤en)) (br (Option.isNone pK.2.2.2.2.2.2) (br (decide (pK.2.2.2.1≤d)) (br (Option.isNone pK.2.2.2.2.1) (chk (decide (t_.length<sizeLine))<|.ok ((t_++[((x43+(1:Int)),pK.1,pK.2.1,pK.2.2.1)]))) (opt pK.2.2.2.2.1 fun VR=>br (decide (d≤VR)) (chk (decide (t_.length<sizeLine))<|.ok ((t_++[((x43+(1:Int)),pK.1,pK.2.1,pK.2.2.1)]))) (.ok (t_)))) (.ok (t_))) (opt pK.2.2.2.2.2.2 fun M6=>br (decide (en<M6)) (br (decide (pK.2.2.2.1≤d)) (br (Option.isNone pK.2.2.2.2.1) (chk (decide (t_.length<sizeLine))<|.ok ((t_++[((x43+(1:Int)),pK.1,pK.2.1,pK.2.2.1)]))) (opt pK.2.2.2.2.1 fun M7=>br (decide (d≤M7)) (chk (decide (t_.length<sizeLine))<|.ok ((t_++[((x43+(1:Int)),pK.1,pK.2.1,pK.2.2.1)]))) (.ok (t_)))) (.ok (t_))) (.ok (t_)))) (.ok (t_))).bind fun Sy=>.ok (Sy)))=.ok (acc++if Ea e en d=true then ((j:Int)+1,e.1,e.2.1,e.2.2.1)::xG ((j:Int)+1+1) (es.drop (j+1)) en d else xG ((j:Int)+1+1) (es.drop (j+1)) en d):=by
    rintro r rfl
    rw [ji,ji]
    cases Ea e en d with
    | true =>
     rw [if_pos rfl,if_pos rfl,ih' _ (by rw [o_]; simp; omega),List.append_assoc]
     rfl
    | false=>rw [if_neg qX,if_neg qX,ih' _ iJ]
   refine fin _ ?_
   clear fin ih' push ih e1
   obtain ⟨k,v,g,f,l,b,x⟩:=e
   unfold Ea
   dsimp only
   by_cases h1:b≤en
   ·cases x with
    | none =>
     cases l with
     | none=>by_cases h4:f≤d<;>simp [h1,h4,Kb.br,Option.isNone]
     | some q=>by_cases h4:f≤d<;>by_cases h5:d≤q<;>simp [h1,h4,h5,Kb.br,Kb.opt,Option.isNone]
    | some p =>
     by_cases h6:en<p
     ·cases l with
      | none=>by_cases h4:f≤d<;>simp [h1,h4,h6,Kb.br,Kb.opt,Option.isNone]
      | some q=>by_cases h4:f≤d<;>by_cases h5:d≤q<;>simp [h1,h4,h5,h6,Kb.br,Kb.opt,Option.isNone]
     ·cases l with
      | none=>simp [h1,h6,Kb.br,Kb.opt,Option.isNone]
      | some q=>simp [h1,h6,Kb.br,Kb.opt,Option.isNone]
   ·simp [h1,Kb.br]
 have z:=gen es.length 0 [] iJ (lD _)
 show Res.bind (qU (rng 0 es.length) [] _) _=_
 rw [show (((0:Nat):Int)+1)=1 from rfl] at z
 show Res.bind (qU (rng ((0:Nat):Int) es.length) [] _) _=_
 rw [z]
 simp
def uP (e:iI):Bool:=!Option.isNone e.2.2.2.2.2.2
structure uQ (k:Nat) (es:List iI) (n:Int):Prop where
 len:es.length≤k
 num:n=(es.length:Int)+((es.filter uP).length:Int)
 gr:∀ e∈es,e.2.2.1.length≤64
variable {es:List iI} {n:Int} {k:Nat}
theorem uQ.n0 (h:uQ k es n):0≤n:=by have:=h.num; omega
theorem uQ.n1 (h:uQ k es n):n≤2*k:=by
 have:=h.num
 have:=h.len
 have:=List.length_filter_le uP es
 omega
theorem uQ.up (h:uQ k es n):uQ (k+1) es n:=⟨Nat.le_succ_of_le h.len,h.num,h.gr⟩
theorem uQ.add (h:uQ k es n) {e:iI} (hg:e.2.2.1.length≤64) (he:uP e=false):uQ (k+1) (es++[e]) (n+1):=by
 refine ⟨by rw [o_]; exact Nat.succ_le_succ h.len,?_,fun x m=>?_⟩
 ·rw [List.filter_append,o_,o_,h.num]
  simp [he]
  omega
 rcases tK.mp m with m | m
 ·exact h.gr x m
 rw [jD.mp m]; exact hg
theorem yV {p:iI→Bool} {f:iI}:∀ {l:List iI} {j:Nat} {e:iI},l[j]?=some e→p e=false→p f=true→((l.set j f).filter p).length=(l.filter p).length+1
 | [],_,_,h,_,_=>by simp at h
 | e0::l,0,e,h,a,b=>by
  cases j5 (show some e0=some e from h)
  show ((f::l).filter p).length=_
  rw [List.filter_cons,List.filter_cons,a,b,if_pos rfl,if_neg qX]
  rfl
 | e0::l,j+1,e,h,a,b=>by
  show ((e0::l.set j f).filter p).length=_
  have:=yV (l:=l) (j:=j) (show l[j]?=some e from h) a b
  rw [List.filter_cons,List.filter_cons]
  cases p e0 with
  | true=>rw [if_pos rfl,if_pos rfl,lC,lC,this]
  | false=>rw [if_neg qX,if_neg qX,this]
theorem uQ.end_ (h:uQ k es n) {j:Nat} {e f:iI} (he:es[j]?=some e) (h1:uP e=false) (h2:uP f=true) (hf:f.2.2.1=e.2.2.1):uQ (k+1) (es.set j f) (n+1):=by
 refine ⟨by rw [List.length_set]; exact Nat.le_succ_of_le h.len,?_,fun x m=>?_⟩
 ·rw [List.length_set,yV he h1 h2,h.num]
  omega
 rcases List.mem_or_eq_of_mem_set m with m | rfl
 ·exact h.gr x m
 rw [hf]; exact h.gr e (tH he)
theorem wY (p:iI→Bool):∀ l:List iI,((List.range l.length).filter fun i=>(l[i]?.map p).getD false).length=(l.filter p).length
 | []=>rfl
 | e::l=>by
  have ih:=wY p l
  rw [lC,List.range_succ_eq_map,List.filter_cons,List.filter_map,List.filter_cons]
  have e1:((fun i=>((e::l)[i]?.map p).getD false)∘Nat.succ)=fun i=>(l[i]?.map p).getD false:=rfl
  rw [e1]
  show (if p e=true then _ else _:List Nat).length=_
  cases p e with
  | true=>rw [if_pos rfl,if_pos rfl,lC,lC,mU,ih]
  | false=>rw [if_neg qX,if_neg qX,mU,ih]
theorem Qs (es:List iI):∃ l:List Nat,vO (List.range es.length) (fun x159=>opt (es[x159]?) fun SJ=>br (!Option.isNone SJ.2.2.2.2.2.2) (.ok (some x159)) (.ok none))=.ok l∧l.length=(es.filter uP).length:=by
 refine ⟨_,zG (fun i=>(es[i]?.map uP).getD false) fun i m=>?_,wY uP es⟩
 have lt:=List.mem_range.mp m
 rw [nA lt]
 rfl
theorem vm {i:Int} (hl:es.length≤1000) (h:¬ (1≤i∧i≤es.length)):lX (es,n) i=.ok true:=by
 have sl:=kh
 unfold lX lF
 rcases Cm (es:=es) (n:=n) (i:=i) iJ with ⟨a,b,_⟩ | ⟨_,e⟩
 ·exact absurd ⟨a,b⟩ h
 rw [e,tM,tM,wk]
 rfl
theorem zH {en:Int} (h:en<0∨n<en):mX (es,n) en=.ok true:=by
 unfold mX
 rw [G4 h,tM,wk]
 rfl
theorem V8 {j:Nat} (h:j<es.length):ixN es.length (((1:Int)+(j:Int)) - 1)=some j:=by
 unfold ixN
 rw [if_pos iJ,if_pos iJ]
 congr 1
 omega
theorem Fd (h:uQ k es n) (hk:k≤100) {st:mj}:Gv (fun y=>y.1=true) (n_ st (es,n) es):=by
 have sl:=kh
 have hl:=h.len
 have n0:=h.n0
 unfold n_ jK
 rw [ji]
 refine Gv.Kg (zH (.inr (by dsimp only; omega))) ?_
 rw [lV]
 refine Gv.Kg (vm iJ iJ) ?_
 rw [lV]
 refine Gv.br (fun _=>?_) fun ne=>?_
 ·exact Gv.Kg (vm iJ iJ) (Gv.ok rfl)
 have ne:es≠[]:=of_decide_eq_false ne
 have hp:0<es.length:=List.length_pos_iff.mpr ne
 refine Gv.take (h0:=by omega) (h:=Nu iJ iJ) fun a a0 a1=>?_
 obtain ⟨j,ej⟩:=Int.eq_ofNat_of_zero_le a0
 rw [ej] at a1
 have lt:j<es.length:=by omega
 have he:es[j]?=some es[j]:=nA lt
 have g:=h.gr _ (tH he)
 rw [ej,G3 he iJ,ji,V8 lt,kY,he,kY]
 refine Gv.br (fun z=>absurd z j6) fun _=>?_
 refine Gv.vh iJ ?_
 rw [ji,kY,he,kY]
 refine Gv.br (fun z=>absurd z j6) fun _=>?_
 rw [ji,kY,he,kY]
 rw [GZ n0 (Int.le_refl _) iJ,ji,ji,kY,he,kY,G5 iJ,ji]
 exact Gv.ok (k_ rfl)
def Cp (k v:Tx) (g:List (PySem.Str×Int×Int)) (f:Int) (l:Option Int):Bool :=
 (vZ k&&(vZ v&&(!decide (g=[])&&(decide ((0:Int)≤f)&&decide (f≤1000000)))))&&(match l with
 | none=>true
 | some m=>decide (f≤m)&&decide (m≤1000000))
theorem NK {w v:Tx} (hk:w.length≤100) (hv:v.length≤100) {g:List (PySem.Str×Int×Int)} {f:Int} {l:Option Int} (hl:es.length<sizeLine) :
  nU (es,n) w v g f l=if Cp w v g f l=true then .ok (((es.length:Int)+1),(es++[(w,v,g,f,l,n+1,none)],n+1)) else .err .event:=by
 by_cases c:Cp w v g f l=true
 ·rw [if_pos c]
  unfold Cp at c
  simp only [Bool.and_eq_true,decide_eq_true_eq,Bool.not_eq_true',decide_eq_false_iff_not] at c
  obtain ⟨⟨c1,c2,c3,c4,c5⟩,c6⟩:=c
  refine add_ok hl (by rw [vM hk,c1]) (by rw [vM hv,c2]) c3 c4 c5 fun m e=>?_
  rw [e] at c6
  simp only [Bool.and_eq_true,decide_eq_true_eq] at c6
  exact c6
 ·rw [if_neg c]
  unfold nU
  rw [vM hk,vM hv,CP,ji]
  unfold Cp at c
  cases c1:vZ w with
  | false=>rfl
  | true =>
   rw [lV,CP,ji]
   cases c2:vZ v with
   | false=>rfl
   | true =>
    rw [lV]
    cases g with
    | nil=>rfl
    | cons r g =>
     rw [show (!(r::g).isEmpty)=true from rfl,lV]
     unfold rQ
     rw [CP,ji]
     rw [c1,c2,show (!decide (r::g=([]:List (PySem.Str×Int×Int))))=true from by simp,Bool.true_and,Bool.true_and,Bool.true_and] at c
     cases c3:(decide ((0:Int)≤f)&&decide (f≤1000000)) with
     | false=>rfl
     | true =>
      rw [lV]
      rw [c3,Bool.true_and] at c
      cases l with
      | none=>exact absurd rfl c
      | some m =>
       rw [show (!Option.isNone (some m))=true from rfl,lV,kY,CP,ji]
       simp only [Bool.and_eq_true,decide_eq_true_eq] at c c3
       by_cases c4:m<f
       ·rw [k_ c4,lV]
        cases (decide ((0:Int)≤m)&&decide (m≤1000000))<;>rfl
       ·rw [show (decide ((0:Int)≤m)&&decide (m≤1000000))=false from by
         rw [oJ (show ¬ m≤1000000 from fun z=>c ⟨iJ,z⟩),Bool.and_false],wj]
theorem Tj {w v:Tx} {g:List (PySem.Str×Int×Int)} {f:Int} {l:Option Int} {α:Type} {Q:α→Prop} {K:Bool→Res α} (hk:w.length≤100) (hv:v.length≤100) (h:Gv Q (K (Cp w v g f l))) :
  Gv Q (((lB w).bind fun MK=>br MK ((lB v).bind fun MN=>br MN (br (!decide (g=([]:List (PySem.Str×Int×Int)))) (br (decide ((0:Int)≤f)) (.ok (decide (f≤(1000000:Int)))) (.ok false)) (.ok false)) (.ok false)) (.ok false)).bind fun MP=>(br (!Option.isNone l) (opt l fun M4=>br (decide (M4<f)) (.ok (false)) (br (decide ((1000000:Int)<M4)) (.ok (false)) (.ok (MP)))) (.ok (MP))).bind K):=by
 have e1:((lB w).bind fun MK=>br MK ((lB v).bind fun MN=>br MN (br (!decide (g=([]:List (PySem.Str×Int×Int)))) (br (decide ((0:Int)≤f)) (.ok (decide (f≤(1000000:Int)))) (.ok false)) (.ok false)) (.ok false)) (.ok false))=.ok (vZ w&&(vZ v&&(!decide (g=[])&&(decide ((0:Int)≤f)&&decide (f≤1000000))))):=by
  rw [zV hk,zV hv,ji,ji]
  cases vZ w with
  | false=>rfl
  | true =>
   cases vZ v with
   | false=>rfl
   | true =>
    cases (!decide (g=[])) with
    | false=>rfl
    | true=>cases decide ((0:Int)≤f)<;>rfl
 rw [e1,ji]
 unfold Cp at h
 cases l with
 | none =>
  dsimp only at h
  rw [Bool.and_true] at h
  exact h
 | some m =>
  rw [show (!Option.isNone (some m))=true from rfl,lV,kY]
  dsimp only at h
  by_cases c1:m<f
  ·rw [k_ c1,lV,ji]
   rw [oJ (show ¬ f≤m by omega),Bool.false_and,Bool.and_false] at h
   exact h
  ·rw [oJ c1,wj]
   rw [k_ (show f≤m by omega),Bool.true_and] at h
   by_cases c2:1000000<m
   ·rw [k_ c2,lV,ji]
    rw [oJ (show ¬ m≤1000000 by omega),Bool.and_false] at h
    exact h
   ·rw [oJ c2,wj,ji]
    rw [k_ (show m≤1000000 by omega),Bool.and_true] at h
    exact h
def IK (k:Nat) (y:Bool×mj×jx×nR):Prop:=y.1=true∧y.2.2.2=y.2.2.1.1∧uQ (k+1) y.2.2.1.1 y.2.2.1.2
theorem IV (h:uQ k es n) (hk:k≤100) {st:mj}:Gv (IK k) (rZ st (es,n) es n):=by
 have sl:=kh
 have hl:=h.len
 unfold rZ
 refine Gv.bind JF fun w hw=>Gv.bind JF fun v hv=>Gv.bind (Nz iW iW) fun g hg=>?_
 refine Gv.bind (P:=fun s:List (PySem.Str×Int×Int)×mj=>s.1.length≤64) (Gv.take fun a _ _=>Gv.br (fun _=>Gv.ok (Nat.zero_le _)) fun _=>Gv.ok hg) fun s hs=>?_
 refine Gv.bind JD fun d1 _=>Gv.bind JD fun d2 _=>Gv.take fun a _ _=>Gv.take fun b b0 b1=>Gv.at b0 (by simpa using b1) fun x mx=>?_
 refine Gv.at (by
  simp only [List.mem_cons,List.not_mem_nil,or_false] at mx
  omega) (by
  simp only [List.mem_cons,List.not_mem_nil,or_false] at mx
  simp only [List.length_cons,List.length_nil]
  omega) fun l _=>?_
 refine Gv.bind (P:=fun _:Int×mj=>True) (Gv.take fun c _ _=>Gv.br (fun _=>Gv.take fun d d0 d1=>Gv.at d0 (by simpa using d1) fun z _=>Gv.ok trivial) fun _=>Gv.ok trivial) fun f _=>?_
 refine Tj hw hv ?_
 rw [NK hw hv iJ]
 by_cases c:Cp w.1 v.1 s.1 f.1 l=true
 ·rw [if_pos c,c,ji,Jb]
  refine Gv.br (fun z=>absurd z j6) fun _=>Gv.vh iJ (Gv.vh iJ (Gv.ok ⟨rfl,rfl,h.add hs rfl⟩))
 rw [if_neg c,Bool.eq_false_iff.mpr c,tM,wk]
 exact Gv.ok ⟨by simp,rfl,h.up⟩
theorem IW (h:uQ k es n) (hk:k≤100) {st:mj}:Gv (IK k) (sE st (es,n) es n):=by
 have sl:=kh
 have hl:=h.len
 unfold sE
 refine Gv.take (h0:=by omega) (h:=Nu iJ iJ) fun i i0 i1=>?_
 unfold sX
 rcases Cm (es:=es) (n:=n) (i:=i.1) iJ with ⟨a,b,e,lt⟩ | ⟨ni,e⟩
 ·obtain ⟨j,ej⟩:=Int.eq_ofNat_of_zero_le (show 0≤i.1 - 1 by omega)
  have ei:i.1=1+(j:Int):=by omega
  rw [e,ji,ej,Int.toNat_natCast]
  rw [ej,Int.toNat_natCast] at lt
  have he:es[j]?=some es[j]:=nA lt
  have ex:ixN es.length (i.1 - (1:Int))=some j:=by rw [ei]; exact V8 lt
  dsimp only
  rw [← ej,ex,he]
  rw [kY]
  by_cases c:uP es[j]=true
  ·have c':(!Option.isNone es[j].2.2.2.2.2.2)=true:=c
   rw [c',lV,tM,wk]
   dsimp only
   rw [k_ a,k_ b]
   rw [Option.getD_some,lV,lV,kY,he,kY,ji]
   exact Gv.ok ⟨c',rfl,h.up⟩
  have c0:uP es[j]=false:=Bool.eq_false_iff.mpr c
  have c':(!Option.isNone es[j].2.2.2.2.2.2)=false:=c0
  rw [c',wj,ji,Jb]
  dsimp only
  rw [oJ (show ¬ i.1<1 by omega),oJ (show ¬ (es.length:Int)<i.1 by omega),kY,he,kY,c']
  show Gv _ (br false _ _)
  rw [wj,kY,he,kY]
  exact Gv.ok ⟨rfl,rfl,h.end_ he c0 rfl rfl⟩
 rw [e,tM,tM,wk]
 refine Gv.ok ⟨?_,rfl,h.up⟩
 show (decide (i.1<1)||decide ((es.length:Int)<i.1))=true
 rw [Bool.or_eq_true,decide_eq_true_eq,decide_eq_true_eq]
 omega
theorem Gv.NP {α σ ρ:Type} {f:σ→α→Res (Ja σ ρ)} (I:Nat→σ→Prop):∀ {xs:List α} {s:σ} {k:Nat},I k s→(∀ i s x,x∈xs→I i s→k≤i→i<k+xs.length→Gv (fun c=>∃ s',c=.nx s'∧I (i+1) s') (f s x))→Gv (fun c=>∃ s',c=.nx s'∧I (k+xs.length) s') (forR xs s f)
 | [],s,k,h,_=>⟨.nx s,rfl,s,rfl,h⟩
 | x::xs,s,k,h,st=>by
  obtain ⟨_,e,s',rfl,h'⟩:=st k s x kE h (lD _) (by rw [lC]; omega)
  obtain ⟨c,e2,s'',rfl,h2⟩:=Gv.NP I (k:=k+1) h' fun i s y m h a b=>st i s y (lQ _ m) h iJ (by rw [lC]; omega)
  refine ⟨_,by rw [tD,e,ji]; exact e2,s'',rfl,?_⟩
  rw [lC,show k+(xs.length+1)=k+1+xs.length by omega]
  exact h2
theorem NQ {N:Nat}:∀ (i:Int) (l:List iI) (en d:Int),(∀ e∈l,e.2.2.1.length≤N)→∀ x∈xG i l en d,x.2.2.2.length≤N
 | _,[],_,_,_,x,m=>by cases m
 | i,e::l,en,d,h,x,m=>by
  rw [wX] at m
  have t:=NQ (i+1) l en d fun y my=>h y (lQ _ my)
  split at m
  ·rcases lA.mp m with rfl | m
   ·exact h e kE
   exact t x m
  exact t x m
theorem Tn (ns:List Int) (h:ns.length≤63):Gq ns=.ok true:=by
 have sl:=kh
 have key:Gv (fun b=>b=true) (Gq ns):=by
  unfold Gq
  refine Gv.bind (Nq h) fun st _=>?_
  unfold rF
  rw [ji]
  refine Gv.take fun c c0 c1=>?_
  refine Gv.chk (qQ iJ iJ) ?_
  have ln:(rng 0 c.1.toNat).length=c.1.toNat:=oN _ _
  refine Gv.bind (Gv.NP (fun i (s:mj×jx×nR)=>s.2.2=s.2.1.1∧uQ i s.2.1.1 s.2.1.2) (k:=0) ⟨rfl,lD _,rfl,fun e m=>by cases m⟩ fun i s x _ hs _ hi=>?_) fun cc hc=>?_
  ·obtain ⟨s,⟨es,n⟩,rows⟩:=s
   obtain ⟨rfl,I⟩:rows=es∧uQ i es n:=hs
   rw [ln] at hi
   refine Gv.bind (Fd I iJ) fun y hy=>?_
   rw [hy,lV]
   unfold jK
   rw [ji]
   refine Gv.bind (P:=fun q:Bool×mj×jx×nR=>IK i q) (Gv.take fun b _ _=>Gv.br (fun _=>Gv.bind (IW I iJ) fun q hq=>Gv.ok hq) fun _=>Gv.bind (IV I iJ) fun q hq=>Gv.ok hq) fun q hq=>?_
   obtain ⟨q,t,⟨fs,m⟩,fs'⟩:=q
   obtain ⟨rfl,rfl,J⟩:q=true∧fs'=fs∧uQ (i+1) fs m:=hq
   rw [lV,ji]
   have jl:=J.len
   refine Gv.vh (by rw [List.length_range]; dsimp only; omega) ?_
   obtain ⟨l,e,el⟩:=Qs fs'
   dsimp only
   rw [e,ji,k_ (show m=(fs'.length:Int)+(l.length:Int) by rw [el]; exact J.num)]
   exact Gv.ok ⟨_,rfl,rfl,J⟩
  obtain ⟨⟨s,⟨es,n⟩,rows⟩,rfl,hr,I⟩:=hc
  have hr:rows=es:=hr
  rw [hr]
  rw [ln,Nat.zero_add] at I
  have I:uQ c.1.toNat es n:=I
  have hl:=I.len
  have n0:=I.n0
  have n1:=I.n1
  rw [DG]
  dsimp only
  refine Gv.chk (qQ iJ iJ) ?_
  rw [Int.toNat_natCast]
  refine Gv.bind (Gv.Jy (fun _:Unit=>True) trivial fun u x m _=>?_) fun cc hc=>?_
  ·obtain ⟨x0,x1⟩:=yQ.mp m
   obtain ⟨j,rfl⟩:=Int.eq_ofNat_of_zero_le x0
   have lt:j<es.length:=by omega
   have he:es[j]?=some es[j]:=nA lt
   have ex:ixN es.length (j:Int)=some j:=by
    unfold ixN
    rw [if_pos iJ,if_pos iJ,Int.toNat_natCast]
   rw [Int.add_comm (j:Int) 1,G3 he iJ,ji,ex,kY,he,kY]
   refine Gv.br (fun z=>absurd z j6) fun _=>Gv.ok ⟨(),rfl,trivial⟩
  obtain ⟨u,rfl,_⟩:=hc
  rw [DG]
  unfold jK
  rw [ji]
  refine Gv.chk (qQ (by dsimp only; omega) (by dsimp only; omega)) ?_
  refine Gv.bind (Gv.Jy (fun _:mj=>True) trivial fun u x m _=>?_) fun cc hc=>?_
  ·obtain ⟨x0,x1⟩:=yQ.mp m
   dsimp only at x1
   have kn:=fun d=>GZ (es:=es) (n:=n) (en:=x) (d:=d) x0 iJ iJ
   refine Gv.take fun a a0 a1=>Gv.at a0 (by simpa using a1) fun z _=>Gv.bind JD fun d1 _=>Gv.bind JD fun d2 _=>?_
   refine Gv.bind (Gv.Jy (fun _:Unit=>True) trivial fun u d _ _=>?_) fun cc hc=>?_
   ·rw [kn,ji,G5 iJ,ji]
    refine Gv.br (fun z=>absurd z j6) fun _=>?_
    refine Gv.chk (uJ.mpr fun r mr=>k_ ?_) ?_
    ·have:=NQ 1 es x d I.gr r mr
     have:=Jz 1 es x d
     omega
    rw [ji,ji]
    exact Gv.br (fun z=>absurd z j6) fun _=>Gv.ok ⟨(),rfl,trivial⟩
   obtain ⟨v,rfl,_⟩:=hc
   rw [DG]
   exact Gv.ok ⟨_,rfl,trivial⟩
  obtain ⟨v,rfl,_⟩:=hc
  rw [DG]
  refine Gv.Kg (vm iJ iJ) ?_
  rw [lV]
  refine Gv.Kg (vm iJ iJ) ?_
  rw [lV]
  refine Gv.Kg (vm iJ iJ) ?_
  rw [lV,ji]
  dsimp only
  rw [zH (.inr iJ),ji,lV,zH (.inl iJ)]
  exact Gv.ok rfl
 obtain ⟨b,e,rfl⟩:=key
 exact e
end Lw
namespace Kb
open PySem L2
theorem ug.f {fa:JG} {fn:List v9} {ds:List (Str×List (Str×Str))} {w:World} {K:iV} (c:ug fa fn ds w K) (i j:Nat) {l:List (iV→Bool)} {f:iV→Bool} {p:Prop} [d:Decidable p] (h:fa[i]?=some l:=by rfl) (hf:l[j]?=some f:=by rfl) (e:f K=decide p:=by rfl):p :=
 jQ (e.symm.trans (c.fact i j h hf))
end Kb
namespace Lw
open PySem PySem.Spec PyProof.Rows L2 Kb
noncomputable def ZP (K:iV):Ad:=⟨(fun e=>match e with | .event=>(He.ga K "InvalidEvent") | .j7=>(He.ga K "UnknownEvent") | _=>0), (He.ga K "KerbError"), (He.ga K "Event"), (He.ga K "Events"), (He.fAd K ("is_word", none)), (Kb.xO K (He.fAd K ("is_word", none))), (He.fAd K ("is_day", none)), (Kb.xO K (He.fAd K ("is_day", none))), (He.fAd K ("Event", some ("__init__" : Str))), (Kb.xO K (He.fAd K ("Event", some ("__init__" : Str)))), (He.fAd K ("Event", some ("stands" : Str))), (Kb.xO K (He.fAd K ("Event", some ("stands" : Str)))), (He.fAd K ("Events", some ("__init__" : Str))), (Kb.xO K (He.fAd K ("Events", some ("__init__" : Str)))), (He.fAd K ("Events", some ("entries" : Str))), (Kb.xO K (He.fAd K ("Events", some ("entries" : Str)))), (He.fAd K ("Events", some ("add" : Str))), (Kb.xO K (He.fAd K ("Events", some ("add" : Str)))), (He.fAd K ("Events", some ("_found" : Str))), (Kb.xO K (He.fAd K ("Events", some ("_found" : Str)))), (He.fAd K ("Events", some ("end" : Str))), (Kb.xO K (He.fAd K ("Events", some ("end" : Str)))), (He.fAd K ("Events", some ("event" : Str))), (Kb.xO K (He.fAd K ("Events", some ("event" : Str)))), (He.fAd K ("Events", some ("known" : Str))), (Kb.xO K (He.fAd K ("Events", some ("known" : Str)))), (He.fAd K ("_law_mixed", none)), (Kb.xO K (He.fAd K ("_law_mixed", none))), (He.fAd K ("_law_take", none)), (Kb.xO K (He.fAd K ("_law_take", none))), (He.fAd K ("_law_state", none)), (Kb.xO K (He.fAd K ("_law_state", none))), (He.fAd K ("_law_runs", none)), (Kb.xO K (He.fAd K ("_law_runs", none))), (He.fAd K ("_law_ground", none)), (Kb.xO K (He.fAd K ("_law_ground", none))), (He.fAd K ("_law_day", none)), (Kb.xO K (He.fAd K ("_law_day", none))), (He.fAd K ("_law_words", none)), (Kb.xO K (He.fAd K ("_law_words", none))), (He.fAd K ("_law_is_word", none)), (Kb.xO K (He.fAd K ("_law_is_word", none))), (He.fAd K ("_law_add", none)), (Kb.xO K (He.fAd K ("_law_add", none))), (He.fAd K ("_law_end", none)), (Kb.xO K (He.fAd K ("_law_end", none))), (He.fAd K ("_law_due", none)), (Kb.xO K (He.fAd K ("_law_due", none))), (He.fAd K ("_law_unknown", none)), (Kb.xO K (He.fAd K ("_law_unknown", none))), (He.fAd K ("_law_refuses", none)), (Kb.xO K (He.fAd K ("_law_refuses", none))), (He.fAd K ("_law_between", none)), (Kb.xO K (He.fAd K ("_law_between", none))), (He.fAd K ("law", none)), (Kb.xO K (He.fAd K ("law", none)))⟩
theorem Tp {P:Program} {w:World} {K:iV} {h:Heap} {mg:Str→Option Value} {fa:Addr} (X:K.In h) (G:h.Ns mainGlobals mg) (Yi:mg ("law" : Str)=some (.ref fa)) (c:Kb.ug hfa hfn hds w K) :
  ∃ fd:FuncData, (∀ (s:Shared) (v:Value), BindsTo s fd ⟨[v], []⟩ [("_law_script", v)])∧∀ base:Heap, K.In base→base.Ns mainGlobals mg→base.NoDigits→RG P w K mg base 5 fa fd ["_law_script"] (sp_law K):=by
 have e:=Yi.symm.trans (PySem.W.mg_of X G (c.f 0 73))
 cases e
 have T:Txt K mg (ZP K) :=
  {is_word:=wH X G (c.f 0 14) (c.fn0 0 rfl rfl) (c.f 0 15) (fun _ _ _ _ _ _ us hl=>match us,hl with | [_],_=>rfl),
   is_day:=wH X G (c.f 0 16) (c.fn0 1 rfl rfl) (c.f 0 17) (fun _ _ _ _ _ _ us hl=>match us,hl with | [_],_=>rfl),
   pW:=Ek (c.f 0 18) (c.f 0 19) (c.fn0 2 rfl rfl) (c.f 0 20) (fun _ _ _ _ _ _ us hl=>match us,hl with | [_,_,_,_,_,_,_],_=>rfl),
   nY:=Ek (c.f 0 21) (c.f 0 22) (c.fn0 3 rfl rfl) (c.f 0 23) (fun _ _ _ _ _ _ us hl=>match us,hl with | [_,_,_],_=>rfl),
   oX:=Ek (c.f 0 24) (c.f 0 25) (c.fn0 4 rfl rfl) (c.f 0 26) (fun _ _ _ _ _ _ us hl=>match us,hl with | [_],_=>rfl),
   jo:=Ek (c.f 0 27) (c.f 0 28) (c.fn0 5 rfl rfl) (c.f 0 29) (fun _ _ _ _ _ _ us hl=>match us,hl with | [_],_=>rfl),
   pX:=Ek (c.f 0 30) (c.f 0 31) (c.fn0 6 rfl rfl) (c.f 0 32) (fun _ _ _ _ _ _ us hl=>match us,hl with | [_,_,_,_,_,_],_=>rfl),
   lG:=Ek (c.f 0 33) (c.f 0 34) (c.fn0 7 rfl rfl) (c.f 0 35) (fun _ _ _ _ _ _ us hl=>match us,hl with | [_,_],_=>rfl),
   pY:=Ek (c.f 0 36) (c.f 0 37) (c.fn0 8 rfl rfl) (c.f 0 38) (fun _ _ _ _ _ _ us hl=>match us,hl with | [_,_],_=>rfl),
   j9:=Ek (c.f 0 39) (c.f 0 40) (c.fn0 9 rfl rfl) (c.f 0 41) (fun _ _ _ _ _ _ us hl=>match us,hl with | [_,_],_=>rfl),
   j_:=Ek (c.f 0 42) (c.f 0 43) (c.fn0 10 rfl rfl) (c.f 0 44) (fun _ _ _ _ _ _ us hl=>match us,hl with | [_,_,_],_=>rfl),
   qm:=wH X G (c.f 0 45) (c.fn0 11 rfl rfl) (c.f 0 46) (fun _ _ _ _ _ _ us hl=>match us,hl with | [_],_=>rfl),
   iG:=wH X G (c.f 0 47) (c.fn0 12 rfl rfl) (c.f 0 48) (fun _ _ _ _ _ _ us hl=>match us,hl with | [_,_],_=>rfl),
   qp:=wH X G (c.f 0 49) (c.fn0 13 rfl rfl) (c.f 0 50) (fun _ _ _ _ _ _ us hl=>match us,hl with | [_],_=>rfl),
   sG:=wH X G (c.f 0 51) (c.fn0 14 rfl rfl) (c.f 0 52) (fun _ _ _ _ _ _ us hl=>match us,hl with | [_],_=>rfl),
   oY:=wH X G (c.f 0 53) (c.fn0 15 rfl rfl) (c.f 0 54) (fun _ _ _ _ _ _ us hl=>match us,hl with | [_,_],_=>rfl),
   mO:=wH X G (c.f 0 55) (c.fn0 16 rfl rfl) (c.f 0 56) (fun _ _ _ _ _ _ us hl=>match us,hl with | [_],_=>rfl),
   nu:=wH X G (c.f 0 57) (c.fn0 17 rfl rfl) (c.f 0 58) (fun _ _ _ _ _ _ us hl=>match us,hl with | [_],_=>rfl),
   lZ:=wH X G (c.f 0 59) (c.fn0 18 rfl rfl) (c.f 0 60) (fun _ _ _ _ _ _ us hl=>match us,hl with | [_],_=>rfl),
   uw:=wH X G (c.f 0 61) (c.fn0 19 rfl rfl) (c.f 0 62) (fun _ _ _ _ _ _ us hl=>match us,hl with | [_,_,_,_],_=>rfl),
   rA:=wH X G (c.f 0 63) (c.fn0 20 rfl rfl) (c.f 0 64) (fun _ _ _ _ _ _ us hl=>match us,hl with | [_,_,_,_],_=>rfl),
   oF:=wH X G (c.f 0 65) (c.fn0 21 rfl rfl) (c.f 0 66) (fun _ _ _ _ _ _ us hl=>match us,hl with | [_,_,_],_=>rfl),
   jG:=wH X G (c.f 0 67) (c.fn0 22 rfl rfl) (c.f 0 68) (fun _ _ _ _ _ _ us hl=>match us,hl with | [_,_],_=>rfl),
   kJ:=wH X G (c.f 0 69) (c.fn0 23 rfl rfl) (c.f 0 70) (fun _ _ _ _ _ _ us hl=>match us,hl with | [_,_],_=>rfl),
   nJ:=wH X G (c.f 0 71) (c.fn0 24 rfl rfl) (c.f 0 72) (fun _ _ _ _ _ _ us hl=>match us,hl with | [_,_,_],_=>rfl),
   law:=wH X G (c.f 0 73) (c.fn0 25 rfl rfl) (c.f 0 74) (fun _ _ _ _ _ _ us hl=>match us,hl with | [_],_=>rfl),
   jR:=Lh X G (c.f 0 0) (c.f 0 1) (c.f 0 2) (c.f 0 3) (c.f 0 4) (c.f 0 5) (c.f 0 6) (c.f 0 18) (c.f 0 19),
   mG:=(have z:=jQ (c.fact 0 75 rfl rfl); z),
   qO:=(have z:=jQ (c.fact 0 76 rfl rfl); z),
   oZ:=(have z:=jQ (c.fact 0 77 rfl rfl); z),
   pO:=(have z:=jQ (c.fact 0 78 rfl rfl); z),
   rG:=(have z:=jQ (c.fact 0 79 rfl rfl); z),
   mY:=(have z:=jQ (c.fact 0 80 rfl rfl); z),
   qP:=(have z:=jQ (c.fact 0 81 rfl rfl); z),
   jr:=Lh X G (c.f 0 7) (c.f 0 8) (c.f 0 9) (c.f 0 10) (c.f 0 11) (c.f 0 12) (c.f 0 13) (c.f 0 24) (c.f 0 25),
   jL:=(have z:=jQ (c.fact 0 82 rfl rfl); z),
   jZ:=(have z:=jQ (c.fact 0 83 rfl rfl); z),
   mQ:=K9 X G (c.f 0 84) (c.f 0 85) (c.f 0 86) (c.f 0 91) (c.f 0 92) (c.f 0 87) (c.f 0 88) (c.f 0 93) (c.f 0 89) (c.f 0 90) (c.f 0 114) (c.f 0 115),
   lu:=K9 X G (c.f 0 96) (c.f 0 97) (c.f 0 98) (c.f 0 103) (c.f 0 104) (c.f 0 99) (c.f 0 100) (c.f 0 105) (c.f 0 101) (c.f 0 102) (c.f 0 114) (c.f 0 115),
   vY:=PySem.W.exm_ref (c.f 0 91) (c.f 0 93) (c.f 0 92) (c.f 0 116),
   wR:=PySem.W.exm_ref (c.f 0 109) (c.f 0 111) (c.f 0 110) (c.f 0 117),
   tY:=PySem.W.exm_ref (c.f 0 103) (c.f 0 105) (c.f 0 104) (c.f 0 118),
   ux:=PySem.W.exm_ref (c.f 0 109) (c.f 0 111) (c.f 0 110) (c.f 0 119),
   mH:=PySem.W.exm_ref (c.f 0 103) (c.f 0 105) (c.f 0 104) (c.f 0 120),
   wU:=Ag (c.f 0 94) (c.f 0 92) (c.f 0 116) (c.f 0 116),
   uz:=Ag (c.f 0 106) (c.f 0 104) (c.f 0 118) (c.f 0 120),
   uD:=Ag (c.f 0 94) (c.f 0 92) (c.f 0 121) (c.f 0 116),
   sH:=Ag (c.f 0 106) (c.f 0 104) (c.f 0 120) (c.f 0 120),
   M9:=PySem.W.mg_of X G (c.f 0 108),
   Q5:=uI X G (c.f 0 122),
   zU:=uI X G (c.f 0 123),
   Dr:=uI X G (c.f 0 124),
   vJ:=uI X G (c.f 0 125),
   qu:=uI X G (c.f 0 126),
   BR:=uI X G (c.f 0 127),
   sY:=uI X G (c.f 0 128),
   Q6:=uI X G (c.f 0 129),
   Gr:=uI X G (c.f 0 130),
   Ao:=uI X G (c.f 0 131),
   Gu:=⟨_,PySem.W.mg_of X G (c.f 0 132)⟩,
   BW:=⟨_,PySem.W.mg_of X G (c.f 0 133)⟩,
   Ds:=⟨_,PySem.W.mg_of X G (c.f 0 134)⟩,
   Dt:=⟨_,PySem.W.mg_of X G (c.f 0 135)⟩ }
 obtain ⟨_,_,_,_,_,_,_,_,_,l,_⟩:=c.fn0 25 rfl rfl
 have el:=Kb.H_ l
 have b:∀ (s:Shared) (v:Value), BindsTo s (Kb.xO K (He.fAd K ("law", none))) ⟨[v], []⟩ [("_law_script", v)]:=fun s v=>by
  rw [show Kb.xO K (He.fAd K ("law", none))=_ from el]
  exact .of_eq rfl
 exact ⟨_,b,fun base _ _ nd=>S7 (P:=P) (w:=w) (base:=base) T nd⟩
end Lw
open PySem PySem.W PySem.Calls PyProof.Rows
theorem PySem.Challenge.cw_kerbmark_k60_events_in_force_holds : PySem.Challenge.rw_kerbmark_k60_events_in_force.Holds := by
 w_on; o_law
 refine HandSHeadRun.head_any (r:=Lw.vo) (q:=PySem.W.view Lw.vo.prog [29]) (H:=Kb.yJ Lw.hA Lw.hfa Lw.hfn Lw.hds) (ob:=Kb.zX Lw.hA Lw.hfa Lw.hfn Lw.hds) (M:=60000) (loose:=Lw.hnames) (d:=HandSHeadRun.topDef Lw.vo.prog 29) (kwd:=[])
  Kb.Pr Lw.zN.e Lw.zN.f Lw.hrun Lw.zN.hdef Lw.zN.hp Lw.zN.hk Lw.zN.hwr (by first | assumption | decide +kernel) Lw.zN.ok Lw.zN.hb ?hw ?hc
 case hw=>w_witness2
 case hc =>
  refine Kb.Ve (l:=PySem.Challenge.rw_kerbmark_k60_events_in_force) (n:=63) (k:=5) (x := "_law_script") (sp:=fun K=>Lw.sp_law K) rfl iW (by kernel_rfl) ⟨rfl, iW, iW⟩ ?F (fun _ _ a ns hl hS=>Kb.rA (Lw.Tn ns hl) hS)
  intro w mg fa h Y G Yj
  obtain ⟨K,KX,c⟩:=Y
  have hmg:mg ("law" : jO)=some (.ref fa):=by
   have e:(HandSHeadRun.topDef Lw.vo.prog 29).name=("law" : jO):=by kernel_rfl
   rw [← e]
   exact Yj
  exact ⟨K,KX,Lw.Tp KX G hmg c⟩
