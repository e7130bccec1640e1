import PyProof.Rows.All
import PyProof.CallFns
import PyProof.Cells
import PyProof.ConsumeWalk
import PyProof.CompFree
import PyProof.PureInt
import PyProof.Conv_int
import PyProof.ExcBaseAll.Exception
import PyProof.ExcClass3
import PyProof.ExcInit
import PyProof.StrOps
import PyProof.WalksMore
import PyProof.RangeFor
import PyProof.WalkInts
import PyProof.Rows.Tup
import PyProof.Rows.StrOr
import PyProof.TupleOfSeq
import Wide.BytesRules
import Open.Line
import Open.Boot
import Open.Pieces
import KE.BytesMake
import KE.IntTextLaws
import KE.KBoundM
import KE.KIntText
import Wide.FinOn
import OpenK.AllK
import Wide.All
import Lean
import PySem.Challenge.RW_nz0334_01
set_option Elab.async false
set_option maxRecDepth 100000
set_option linter.all false
set_option tactic.hygienic false
set_option bootstrap.genMatcherCode false
set_option backward.match.sparseCases false
set_option genSizeOf false
set_option genSizeOfSpec false
set_option genInjectivity false
abbrev Mine.VP := PySem.Value -> PySem.Shared -> Prop
abbrev Mine.ja := @PySem.Heap.get?_push_of_some
abbrev Mine.jb := @Bool.and_eq_true_iff
abbrev Mine.jc := @PySem.wpAny_bind
abbrev Mine.je := @Nat.eq_of_beq_eq_true
abbrev Mine.jf := @Option.some.inj
abbrev Mine.jg := @Option.some_ne_none
abbrev Mine.jh := @Bool.false_ne_true
abbrev Mine.ji := @PySem.wpAny_pure
abbrev Mine.jj := @Nat.le_refl
section
open PySem PySem.W PyProof.Rows
namespace Mine
inductive XE where
 |nm (i:Nat) (p:Pos)
 |gl (j:Nat) (p:Pos)
 |cN (p:Pos)
 |cB (b:Bool) (p:Pos)
 |cI (i:Int) (p:Pos)
 |cS (k:Nat) (p:Pos)
 |cY (l:List UInt8) (p:Pos)
 |att (e:XE) (a:Nat) (p:Pos)
 |cal (f:XE) (args:List XE) (p:Pos)
 |mcl (o:XE) (a:Nat) (ap:Pos) (args:List XE) (p:Pos)
 |sub (o i:XE) (p:Pos)
 |slc (lo hi st:Option XE) (p:Pos)
 |bin (l:XE) (op:Operator) (r:XE) (p:Pos)
 |cmp (l:XE) (ops:List CmpOp) (rs:List XE) (p:Pos)
 |bop (op:BoolOp) (vs:List XE) (p:Pos)
 |uny (op:UnaryOp) (e:XE) (p:Pos)
 |ife (t b o:XE) (p:Pos)
 |tup (es:List XE) (k:Nat) (p:Pos)
 |lst (es:List XE) (p:Pos)
 |dct (ks vs:List XE) (p:Pos)
 |cmp1 (ci:Nat) (elt tgt it:XE) (ifs:List XE) (p:Pos)
mutual
inductive XS where
 |exp (e:XE) (p:Pos)
 |asg (ts:List XE) (e:XE) (p:Pos)
 |aug (i:Nat) (np:Pos) (op:Operator) (e:XE) (p:Pos)
 |iff (t:XE) (b o:List XS) (p:Pos)
 |whl (t:XE) (b:List XS) (p:Pos)
 |fre (t it:XE) (b:List XS) (p:Pos)
 |ret (e:Option XE) (p:Pos)
 |rai (e:XE) (p:Pos)
 |tri (b:List XS) (hs:List XH) (p:Pos)
 |pas (p:Pos)
inductive XH where
 |mk (t:XE) (n:Option Nat) (b:List XS) (p:Pos)
end
structure EC where
 names:List Str
 gls:List Nat
noncomputable def P4 (a b c d:Nat):Pos:=⟨a,b,c,d⟩
noncomputable def P3 (a b d:Nat):Pos:=⟨a,b,a,d⟩
noncomputable def loc (s:String):Str × NameKind:=(Str.ofString s,.local)
noncomputable def glb (s:String):Str × NameKind:=(Str.ofString s,.globalImplicit)
noncomputable def fre (s:String):Str × NameKind:=(Str.ofString s,.free)
noncomputable def cel (s:String):Str × NameKind:=(Str.ofString s,.cell)
noncomputable def fsc (l:List (Str × NameKind)):Scope:={ kind:=.function,names:=l,isGenerator:=false,isCoroutine:=false,more:=[] }
theorem fr {P:Prop} (h:∀ G:Prop,(P->G)->G):P:=h P id
theorem qq {a b:Nat} (h:Nat.blt a b=true):a < b:=by rw [Nat.blt_eq] at h;exact h
theorem ble_le {a b:Nat} (h:Nat.ble a b=true):a<=b:=by rw [Nat.ble_eq] at h;exact h
theorem nbeq {a b:Nat} (h:a ≠ b):Nat.beq a b=false:=by
 induction h':Nat.beq a b with
 |false=>rfl
 |true=>exact absurd (je h') h
inductive Ck where
 |lit (l:List Nat)
 |atm (j:Nat)
inductive Bi where
 |len|ord|chr|min|max|all|bytes|bytearray|str|int|range|tuple|Exception
inductive AV where
 |un
 |no
 |bo (b:Bool)
 |it (i:Int)
 |ln (js:List Nat) (c:Nat)
 |st (l:List Nat)
 |by (cs:List Ck)
 |tu (l:List AV)
 |rg (n:Nat)
 |ce (i:Nat)
 |ob (i:Nat)
 |fn (k:Nat)
 |kl (k:Nat)
 |bi (b:Bi)
 |bm (i:Nat) (k:Nat)
 |tr (j:Nat)
 |hd (j:Nat)
 |sc (k:Nat)
 |sm (k:Nat)
 |kx (k:Nat)
 |scr
inductive Cell where
 |li (l:List AV)
 |ba (l:List Nat)
 |di (es:List (List Nat × AV))
 |id (es:List (Nat × AV))
 |iL (c k:Nat)
 |iV (l:List AV) (k:Nat)
 |iB (l:List Nat) (k:Nat)
 |iS (l:List Nat) (k:Nat)
 |iR (n:Nat) (k:Nat)
 |exc (k:Nat)
structure St where
 sto:List (Nat × Cell)
 nx:Nat
inductive Fl where
 |next|brk|cont|ret (v:AV)
inductive Task where
 |ev (e:XE)
 |evs (es:List XE)
 |tst (e:XE)
 |ex (ss:List XS)
 |cal (f:AV) (args:List AV)
 |whl (t:XE) (b:List XS)
 |frl (t:XE) (c:Nat) (b:List XS)
 |cml (elt tgt:XE) (ifs:List XE) (c acc:Nat)
inductive Res where
 |v (a:AV) (s:St)
 |vs (l:List AV) (s:St)
 |b (b:Bool) (s:St)
 |fl (f:Fl) (loc:List AV) (s:St)
 |ex (k:Nat) (s:St)
 |fail (n:Nat)
section
variable {β:Type}
noncomputable def fN (n:Nat) (k:Nat->β):β:=match n with
 |0=>k 0
 |m+1=>k (m+1)
noncomputable def fI (i:Int) (k:Int->β):β:=match i with
 |.ofNat n=>fN n fun n=>k (.ofNat n)
 |.negSucc n=>fN n fun n=>k (.negSucc n)
noncomputable def fL:List Nat->(List Nat->β)->β
 |[],k=>k []
 |x :: r,k=>fN x fun x=>fL r fun r=>k (x :: r)
noncomputable def fSp {α:Type}:List α->(List α->β)->β
 |[],k=>k []
 |x :: r,k=>fSp r fun r=>k (x :: r)
noncomputable def fC:List Ck->(List Ck->β)->β
 |[],k=>k []
 |.lit l :: r,k=>fL l fun l=>fC r fun r=>k (.lit l :: r)
 |.atm j :: r,k=>fN j fun j=>fC r fun r=>k (.atm j :: r)
mutual
noncomputable def fA:AV->(AV->β)->β
 |.it i,k=>fI i fun i=>k (.it i)
 |.ln js c,k=>fL js fun js=>fN c fun c=>k (.ln js c)
 |.st l,k=>fL l fun l=>k (.st l)
 |.by cs,k=>fC cs fun cs=>k (.by cs)
 |.tu l,k=>fAs l fun l=>k (.tu l)
 |a,k=>k a
noncomputable def fAs:List AV->(List AV->β)->β
 |[],k=>k []
 |a :: r,k=>fA a fun a=>fAs r fun r=>k (a :: r)
end
theorem fN_eq (n:Nat) (k:Nat->β):fN n k=k n:=by induction n<;>rfl
theorem fI_eq (i:Int) (k:Int->β):fI i k=k i:=by induction i<;>simp [fI,fN_eq]
theorem fL_eq (l:List Nat) (k:List Nat->β):fL l k=k l:=by
 induction l generalizing k with
 |nil=>rfl
 |cons x r ih=>exact (fN_eq x _).trans (ih _)
theorem fSp_eq {α:Type} (l:List α) (k:List α->β):fSp l k=k l:=by
 induction l generalizing k with
 |nil=>rfl
 |cons x r ih=>exact ih _
theorem fC_eq (l:List Ck) (k:List Ck->β):fC l k=k l:=by
 induction l generalizing k with
 |nil=>rfl
 |cons x r ih=>induction x with
  |lit l=>exact (fL_eq l _).trans (ih _)
  |atm j=>exact (fN_eq j _).trans (ih _)
mutual
theorem fA_eq:∀ (a:AV) (k:AV->β),fA a k=k a
 |.it i,k=>fI_eq i fun i=>k (.it i)
 |.ln js c,k=>(fL_eq js fun js=>fN c fun c=>k (.ln js c)).trans (fN_eq c fun c=>k (.ln js c))
 |.st l,k=>fL_eq l fun l=>k (.st l)
 |.by cs,k=>fC_eq cs fun l=>k (.by l)
 |.tu l,k=>fAs_eq l fun l=>k (.tu l)
 |.un,k|.no,k|.bo _,k|.rg _,k|.ce _,k|.ob _,k|.fn _,k|.kl _,k|.bi _,k|.bm _ _,k  | .tr _,k|.hd _,k|.sc _,k|.sm _,k|.kx _,k|.scr,k=>rfl
theorem fAs_eq:∀ (l:List AV) (k:List AV->β),fAs l k=k l
 |[],k=>rfl
 |a :: r,k=>(fA_eq a fun a=>fAs r fun r=>k (a :: r)).trans (fAs_eq r fun r=>k (a :: r))
end
theorem bt_of {b c:Bool} (h:(match b with|true=>c|false=>false)=true):b=true/\c=true:=by
 induction b with
 |true=>exact ⟨Eq.refl true,h⟩
 |false=>exact (jh h).elim
theorem lt0 {P:Nat->Prop}:∀ i,i < 0->P i:=fun _ h=>(Nat.not_lt_zero _ h).elim
theorem ltS {P:Nat->Prop} {n:Nat} (h:∀ i,i < n->P i) (hn:P n):∀ i,i < n+1->P i:=fun i hi=>(Nat.lt_succ_iff_lt_or_eq.mp hi).elim (h i) fun e=>e▸hn
theorem two_of {α:Type}:∀ {l:List α},l.length=2->∃ a b,l=[a,b]
 |[a,b],_=>⟨a,b,rfl⟩
theorem mb_t {α:Type} {b:Bool} {x y:α} (h:b=true):(match (generalizing:=false) b with|true=>x|false=>y)=x:=by obtain rfl:=h;exact Eq.refl x
theorem mb_f {α:Type} {b:Bool} {x y:α} (h:b=false):(match (generalizing:=false) b with|true=>x|false=>y)=y:=by obtain rfl:=h;exact Eq.refl y
noncomputable def upd {α:Type}:List α->Nat->α->(List α->β)->β
 |[],_,_,k=>k []
 |_ :: r,0,a,k=>k (a :: r)
 |x :: r,i+1,a,k=>upd r i a fun r=>k (x :: r)
theorem upd_eq {α:Type} (l:List α) (i:Nat) (a:α) (k:List α->β):upd l i a k=k (l.set i a):=by
 induction l generalizing i k with
 |nil=>rfl
 |cons x r ih=>induction i using Nat.casesAuxOn with
  |zero=>rfl
  |succ i=>exact ih i fun r=>k (x :: r)
noncomputable def put:List (Nat × Cell)->Nat->Cell->(List (Nat × Cell)->β)->β
 |[],_,_,k=>k []
 |(j,d) :: r,i,c,k=>match Nat.beq j i with
  |true=>k ((j,c) :: r)
  |false=>put r i c fun r=>k ((j,d) :: r)
noncomputable def putP:List (Nat × Cell)->Nat->Cell->List (Nat × Cell)
 |[],_,_=>[]
 |(j,d) :: r,i,c=>if j=i then (j,c) :: r else (j,d) :: putP r i c
set_option smartUnfolding false in
theorem put_eq (l:List (Nat × Cell)) (i:Nat) (c:Cell) (k:List (Nat × Cell)->β):put l i c k=k (putP l i c):=by
 induction l generalizing k with
 |nil=>rfl
 |cons x r ih=>
  obtain ⟨j,d⟩:=x
  by_cases h:j=i
  ·subst h;exact (mb_t (Nat.beq_refl j)).trans (congrArg k (if_pos rfl).symm)
  ·have hb:Nat.beq j i=false:=nbeq h
   exact (mb_f hb).trans ((ih fun r=>k ((j,d) :: r)).trans (congrArg k (if_neg h).symm))
end
noncomputable def nth {α:Type}:List α->Nat->Option α
 |[],_=>none
 |x :: _,0=>some x
 |_ :: r,i+1=>nth r i
theorem qh {α:Type} (l:List α) (i:Nat):nth l i=l[i]?:=by
 induction l generalizing i with
 |nil=>rfl
 |cons x r ih=>induction i using Nat.casesAuxOn with
  |zero=>rfl
  |succ i=>exact ih i
noncomputable def look {α:Type}:List (Nat × α)->Nat->Option α
 |[],_=>none
 |(j,d) :: r,i=>match Nat.beq j i with
  |true=>some d
  |false=>look r i
set_option smartUnfolding false in
theorem ke {α:Type} (l:List (Nat × α)) (i:Nat):look l i=l.lookup i:=by
 induction l with
 |nil=>rfl
 |cons x r ih=>
  obtain ⟨j,d⟩:=x
  by_cases h:j=i
  ·subst h;exact (mb_t (Nat.beq_refl j)).trans (mb_t (beq_self_eq_true j)).symm
  ·have hb:Nat.beq j i=false:=nbeq h
   exact (mb_f hb).trans (ih.trans (mb_f (beq_eq_false_iff_ne.mpr fun e=>h e.symm)).symm)
noncomputable def dropN:List (Nat × Cell)->Nat->List (Nat × Cell)
 |[],_=>[]
 |(j,d) :: r,n=>match Nat.ble n j with
  |true=>dropN r n
  |false=>(j,d) :: r
noncomputable def del {β:Type}:List (Nat × Cell)->Nat->(List (Nat × Cell)->β)->β
 |[],_,k=>k []
 |(j,d) :: r,i,k=>match Nat.beq j i with
  |true=>k r
  |false=>del r i fun r=>k ((j,d) :: r)
noncomputable def delP:List (Nat × Cell)->Nat->List (Nat × Cell)
 |[],_=>[]
 |(j,d) :: r,i=>if j=i then r else (j,d) :: delP r i
set_option smartUnfolding false in
theorem del_eq {β:Type} (l:List (Nat × Cell)) (i:Nat) (k:List (Nat × Cell)->β):del l i k=k (delP l i):=by
 induction l generalizing k with
 |nil=>rfl
 |cons x r ih=>
  obtain ⟨j,d⟩:=x
  by_cases h:j=i
  ·subst h;exact (mb_t (Nat.beq_refl j)).trans (congrArg k (if_pos rfl).symm)
  ·have hb:Nat.beq j i=false:=nbeq h
   exact (mb_f hb).trans ((ih fun r=>k ((j,d) :: r)).trans (congrArg k (if_neg h).symm))
noncomputable def eqL:List Nat->List Nat->Bool
 |[],[]=>true
 |a :: r,b :: s=>match Nat.beq a b with
  |true=>eqL r s
  |false=>false
 |_,_=>false
set_option smartUnfolding false in
theorem qd (a b:List Nat):eqL a b=true ↔ a=b:=by
 induction a generalizing b with
 |nil=>induction b using List.casesOn with
  |nil=>exact ⟨fun _=>rfl,fun _=>rfl⟩
  |cons y s=>exact ⟨fun h=>(jh h).elim,fun h=>(List.cons_ne_nil _ _ h.symm).elim⟩
 |cons x r ih=>induction b using List.casesOn with
  |nil=>exact ⟨fun h=>(jh h).elim,fun h=>(List.cons_ne_nil _ _ h).elim⟩
  |cons y s=>
   refine ⟨fun h=>?_,fun h=>?_⟩
   ·have e:=bt_of (b:=Nat.beq x y) (c:=eqL r s) h
    rw [je e.1,(ih s).mp e.2]
   ·have e:=List.cons.inj h
    exact (mb_t (e.1▸Nat.beq_refl x)).trans ((ih s).mpr e.2)
theorem eqL_eq (a b:List Nat):eqL a b=decide (a=b):=by
 induction h:eqL a b with
 |true=>simp [(qd a b).mp h]
 |false=>
  have:¬ a=b:=fun e=>by rw [(qd a b).mpr e] at h;cases h
  simp [this]
noncomputable def eqC:List Ck->List Ck->Bool
 |[],[]=>true
 |.lit a :: r,.lit b :: s=>match eqL a b with
  |true=>eqC r s
  |false=>false
 |.atm a :: r,.atm b :: s=>match Nat.beq a b with
  |true=>eqC r s
  |false=>false
 |_,_=>false
set_option smartUnfolding false in
theorem eqC_of {a b:List Ck} (h:eqC a b=true):a=b:=by
 induction a generalizing b with
 |nil=>induction b using List.casesOn with
  |nil=>rfl
  |cons y s=>induction y<;>exact (jh h).elim
 |cons x r ih=>induction b using List.casesOn with
  |nil=>induction x<;>exact (jh h).elim
  |cons y s=>
   induction x with
   |lit l=>induction y with
    |lit m=>
     have e:=bt_of (b:=eqL l m) (c:=eqC r s) h
     rw [(qd l m).mp e.1,ih e.2]
    |atm j=>exact (jh h).elim
   |atm i=>induction y with
    |lit m=>exact (jh h).elim
    |atm j=>
     have e:=bt_of (b:=Nat.beq i j) (c:=eqC r s) h
     rw [je e.1,ih e.2]
mutual
noncomputable def AV.eq:AV->AV->Bool
 |.no,.no=>true
 |.it a,.it b=>Z.eqB a b
 |.st a,.st b=>eqL a b
 |.by a,.by b=>eqC a b
 |.tu a,.tu b=>AV.eqs a b
 |.tr a,.tr b=>Nat.beq a b
 |_,_=>false
noncomputable def AV.eqs:List AV->List AV->Bool
 |[],[]=>true
 |a :: r,b :: s=>match AV.eq a b with
  |true=>AV.eqs r s
  |false=>false
 |_,_=>false
end
set_option smartUnfolding false in
mutual
theorem AV.eq_of:∀ {a b:AV},AV.eq a b=true->a=b
 |.no,b,h=>by induction b using AV.casesOn<;>first|rfl|exact Bool.noConfusion (show false=true from h)
 |.it i,b,h=>by induction b using AV.casesOn<;>first|exact congrArg AV.it ((Z.eqB_iff _ _).mp h)|exact Bool.noConfusion (show false=true from h)
 |.st l,b,h=>by induction b using AV.casesOn<;>first|exact congrArg AV.st ((qd _ _).mp h)|exact Bool.noConfusion (show false=true from h)
 |.by l,b,h=>by induction b using AV.casesOn<;>first|exact congrArg AV.by (eqC_of h)|exact Bool.noConfusion (show false=true from h)
 |.tu l,b,h=>by induction b using AV.casesOn<;>first|exact congrArg AV.tu (AV.eqs_of h)|exact Bool.noConfusion (show false=true from h)
 |.tr i,b,h=>by induction b using AV.casesOn<;>first|exact congrArg AV.tr (je h)|exact Bool.noConfusion (show false=true from h)
 |.un,b,h|.bo _,b,h|.ln _ _,b,h|.rg _,b,h|.ce _,b,h|.ob _,b,h|.fn _,b,h|.kl _,b,h|.bi _,b,h|.bm _ _,b,h|.hd _,b,h|.sc _,b,h|.sm _,b,h|.kx _,b,h|.scr,b,h=>Bool.noConfusion (show false=true from h)
theorem AV.eqs_of:∀ {a b:List AV},AV.eqs a b=true->a=b
 |[],b,h=>by
  induction b using List.casesOn with
  |nil=>rfl
  |cons _ _=>exact Bool.noConfusion (show false=true from h)
 |x :: r,b,h=>by
  induction b using List.casesOn with
  |nil=>exact Bool.noConfusion (show false=true from h)
  |cons y s=>
   have e:=bt_of (b:=AV.eq x y) (c:=AV.eqs r s) h
   rw [AV.eq_of e.1,AV.eqs_of e.2]
end
mutual
noncomputable def AV.free:AV->Bool
 |.ce _|.ob _|.bm _ _=>false
 |.tu l=>AV.frees l
 |_=>true
noncomputable def AV.frees:List AV->Bool
 |[]=>true
 |a :: r=>match AV.free a with
  |true=>AV.frees r
  |false=>false
end
inductive Tr (α:Type) where
 |nil
 |node (v:α) (l r:Tr α)
noncomputable def Tr.get {α:Type}:Tr α->Nat->Option α
 |.nil,_=>none
 |.node v l r,i=>match i with
  |0=>some v
  |j+1=>match Nat.beq (j % 2) 0 with
   |true=>l.get (j / 2)
   |false=>r.get (j / 2)
noncomputable def sO (x:String):Str:=Str.ofString x
noncomputable def qt (i:Nat) (a b c:Nat):XE:=.nm i (P3 a b c)
noncomputable def qu (i:Nat) (a b c:Nat):XE:=.gl i (P3 a b c)
noncomputable def qw (a b c:Nat):XE:=.cN (P3 a b c)
noncomputable def qx (i:Bool) (a b c:Nat):XE:=.cB i (P3 a b c)
noncomputable def qy (i:Int) (a b c:Nat):XE:=.cI i (P3 a b c)
noncomputable def qz (i:Nat) (a b c:Nat):XE:=.cS i (P3 a b c)
noncomputable def za (i:List UInt8) (a b c:Nat):XE:=.cY i (P3 a b c)
noncomputable def zb (e:XE) (i:Nat) (a b c:Nat):XE:=.att e i (P3 a b c)
noncomputable def zc (e:XE) (l:List XE) (a b c:Nat):XE:=.cal e l (P3 a b c)
noncomputable def zd (e:XE) (i:Nat) (q:Pos) (l:List XE) (a b c:Nat):XE:=.mcl e i q l (P3 a b c)
noncomputable def ze (e f:XE) (a b c:Nat):XE:=.sub e f (P3 a b c)
noncomputable def zf (d e f:Option XE) (a b c:Nat):XE:=.slc d e f (P3 a b c)
noncomputable def zg (e:XE) (o:Operator) (f:XE) (a b c:Nat):XE:=.bin e o f (P3 a b c)
noncomputable def zh (e:XE) (o:List CmpOp) (l:List XE) (a b c:Nat):XE:=.cmp e o l (P3 a b c)
noncomputable def zi (o:BoolOp) (l:List XE) (a b c:Nat):XE:=.bop o l (P3 a b c)
noncomputable def zj (o:UnaryOp) (e:XE) (a b c:Nat):XE:=.uny o e (P3 a b c)
noncomputable def zk (d e f:XE) (a b c:Nat):XE:=.ife d e f (P3 a b c)
noncomputable def zl (l:List XE) (k:Nat) (a b c:Nat):XE:=.tup l k (P3 a b c)
noncomputable def zm (l:List XE) (a b c:Nat):XE:=.lst l (P3 a b c)
noncomputable def zn (k l:List XE) (a b c:Nat):XE:=.dct k l (P3 a b c)
noncomputable def zo (i:Nat) (d e f:XE) (l:List XE) (a b c:Nat):XE:=.cmp1 i d e f l (P3 a b c)
noncomputable def zp (e:XE) (a b c:Nat):XS:=.exp e (P3 a b c)
noncomputable def zq (l:List XE) (e:XE) (a b c:Nat):XS:=.asg l e (P3 a b c)
noncomputable def zr (e:Option XE) (a b c:Nat):XS:=.ret e (P3 a b c)
noncomputable def zs (e:XE) (a b c:Nat):XS:=.rai e (P3 a b c)
noncomputable def zt (a b c:Nat):XS:=.pas (P3 a b c)
noncomputable def stab:Tr (Str × List Nat):=.node (sO "",[]) (.node (sO "a",[97]) (.node (sO "an octet beyond ASCII",[97,110,32,111,99,116,101,116,32,98,101,121,111,110,100,32,65,83,67,73,73]) (.node (sO "us-ascii",[117,115,45,97,115,99,105,105]) (.node (sO "ibm367",[105,98,109,51,54,55]) (.node (sO "9",[57]) (.node (sO "no search key",[110,111,32,115,101,97,114,99,104,32,107,101,121]) (.nil) (.nil)) (.node (sO "unknown charset",[117,110,107,110,111,119,110,32,99,104,97,114,115,101,116]) (.nil) (.nil))) (.node (sO "a set of numbers is missing",[97,32,115,101,116,32,111,102,32,110,117,109,98,101,114,115,32,105,115,32,109,105,115,115,105,110,103]) (.node (sO "UNKEYWORD",[85,78,75,69,89,87,79,82,68]) (.nil) (.nil)) (.node (sO "COUNT",[67,79,85,78,84]) (.nil) (.nil)))) (.node (sO "ibm819",[105,98,109,56,49,57]) (.node (sO ":",[58]) (.node (sO "flag",[102,108,97,103]) (.nil) (.nil)) (.node (sO "RETURN",[82,69,84,85,82,78]) (.nil) (.nil))) (.node (sO "no head of a literal",[110,111,32,104,101,97,100,32,111,102,32,97,32,108,105,116,101,114,97,108]) (.node (sO "a bracket that is not closed",[97,32,98,114,97,99,107,101,116,32,116,104,97,116,32,105,115,32,110,111,116,32,99,108,111,115,101,100]) (.nil) (.nil)) (.nil)))) (.node (sO "iso-ir-6",[105,115,111,45,105,114,45,54]) (.node (sO "iso-ir-100",[105,115,111,45,105,114,45,49,48,48]) (.node (sO "*",[42]) (.node (sO "a word beyond ASCII",[97,32,119,111,114,100,32,98,101,121,111,110,100,32,65,83,67,73,73]) (.nil) (.nil)) (.node (sO "smaller",[115,109,97,108,108,101,114]) (.nil) (.nil))) (.node (sO "a backslash ahead of another sign",[97,32,98,97,99,107,115,108,97,115,104,32,97,104,101,97,100,32,111,102,32,97,110,111,116,104,101,114,32,115,105,103,110]) (.node (sO "uid",[117,105,100]) (.nil) (.nil)) (.nil))) (.node (sO "octets that are no sign of ",[111,99,116,101,116,115,32,116,104,97,116,32,97,114,101,32,110,111,32,115,105,103,110,32,111,102,32]) (.node (sO "a number below 0",[97,32,110,117,109,98,101,114,32,98,101,108,111,119,32,48]) (.node (sO "RECENT",[82,69,67,69,78,84]) (.nil) (.nil)) (.node (sO "since",[115,105,110,99,101]) (.nil) (.nil))) (.node (sO "a value is missing",[97,32,118,97,108,117,101,32,105,115,32,109,105,115,115,105,110,103]) (.node (sO "OR",[79,82]) (.nil) (.nil)) (.nil))))) (.node (sO " ",[32]) (.node (sO "ansi_x3.4-1968",[97,110,115,105,95,120,51,46,52,45,49,57,54,56]) (.node (sO "iso_8859-1",[105,115,111,95,56,56,53,57,45,49]) (.node (sO "a day is missing",[97,32,100,97,121,32,105,115,32,109,105,115,115,105,110,103]) (.node (sO "octets beyond the charset",[111,99,116,101,116,115,32,98,101,121,111,110,100,32,116,104,101,32,99,104,97,114,115,101,116]) (.nil) (.nil)) (.node (sO "UID ",[85,73,68,32]) (.nil) (.nil))) (.node (sO "no number",[110,111,32,110,117,109,98,101,114]) (.node (sO "HEADER",[72,69,65,68,69,82]) (.nil) (.nil)) (.node (sO "ORDEREDSUBJECT",[79,82,68,69,82,69,68,83,85,66,74,69,67,84]) (.nil) (.nil)))) (.node (sO "utf8",[117,116,102,56]) (.node (sO "a comma is wanted",[97,32,99,111,109,109,97,32,105,115,32,119,97,110,116,101,100]) (.node (sO "ALL",[65,76,76]) (.nil) (.nil)) (.node (sO "\\Draft",[92,68,114,97,102,116]) (.nil) (.nil))) (.node (sO "a string is missing",[97,32,115,116,114,105,110,103,32,105,115,32,109,105,115,115,105,110,103]) (.node (sO "seq",[115,101,113]) (.nil) (.nil)) (.nil)))) (.node (sO "us",[117,115]) (.node (sO "l1",[108,49]) (.node (sO "a number begins with a nought",[97,32,110,117,109,98,101,114,32,98,101,103,105,110,115,32,119,105,116,104,32,97,32,110,111,117,103,104,116]) (.node (sO "shared",[115,104,97,114,101,100]) (.nil) (.nil)) (.node (sO "body",[98,111,100,121]) (.nil) (.nil))) (.node (sO "a literal is missing",[97,32,108,105,116,101,114,97,108,32,105,115,32,109,105,115,115,105,110,103]) (.node (sO "modseq",[109,111,100,115,101,113]) (.nil) (.nil)) (.nil))) (.node (sO " has not",[32,104,97,115,32,110,111,116]) (.node (sO "something stands behind",[115,111,109,101,116,104,105,110,103,32,115,116,97,110,100,115,32,98,101,104,105,110,100]) (.node (sO "no keyword",[110,111,32,107,101,121,119,111,114,100]) (.nil) (.nil)) (.node (sO "MIN",[77,73,78]) (.nil) (.nil))) (.node (sO "all",[97,108,108]) (.node (sO "and",[97,110,100]) (.nil) (.nil)) (.nil)))))) (.node (sO "z",[122]) (.node (sO "a sign beyond ASCII",[97,32,115,105,103,110,32,98,101,121,111,110,100,32,65,83,67,73,73]) (.node (sO "ascii",[97,115,99,105,105]) (.node (sO "iso-8859-1",[105,115,111,45,56,56,53,57,45,49]) (.node (sO "-",[45]) (.node (sO "no set",[110,111,32,115,101,116]) (.nil) (.nil)) (.node (sO "KEYWORD ",[75,69,89,87,79,82,68,32]) (.nil) (.nil))) (.node (sO "\\",[92]) (.node (sO "header",[104,101,97,100,101,114]) (.nil) (.nil)) (.node (sO "REFERENCES",[82,69,70,69,82,69,78,67,69,83]) (.nil) (.nil)))) (.node (sO "utf-8",[117,116,102,45,56]) (.node (sO ",",[44]) (.node (sO "UN",[85,78]) (.nil) (.nil)) (.node (sO "\\Seen",[92,83,101,101,110]) (.nil) (.nil))) (.node (sO "octets of a literal are missing",[111,99,116,101,116,115,32,111,102,32,97,32,108,105,116,101,114,97,108,32,97,114,101,32,109,105,115,115,105,110,103]) (.node (sO "keys nested too deep",[107,101,121,115,32,110,101,115,116,101,100,32,116,111,111,32,100,101,101,112]) (.nil) (.nil)) (.nil)))) (.node (sO "iso646-us",[105,115,111,54,52,54,45,117,115]) (.node (sO "latin1",[108,97,116,105,110,49]) (.node (sO "a number or a star is wanted",[97,32,110,117,109,98,101,114,32,111,114,32,97,32,115,116,97,114,32,105,115,32,119,97,110,116,101,100]) (.node (sO "priv",[112,114,105,118]) (.nil) (.nil)) (.node (sO "text",[116,101,120,116]) (.nil) (.nil))) (.node (sO "no octet of a quoted string",[110,111,32,111,99,116,101,116,32,111,102,32,97,32,113,117,111,116,101,100,32,115,116,114,105,110,103]) (.node (sO "MODSEQ",[77,79,68,83,69,81]) (.nil) (.nil)) (.nil))) (.node (sO "a sign that ",[97,32,115,105,103,110,32,116,104,97,116,32]) (.node (sO "a blank is missing",[97,32,98,108,97,110,107,32,105,115,32,109,105,115,115,105,110,103]) (.node (sO "NEW",[78,69,87]) (.nil) (.nil)) (.node (sO "x-a",[120,45,97]) (.nil) (.nil))) (.node (sO "lists nest too deep",[108,105,115,116,115,32,110,101,115,116,32,116,111,111,32,100,101,101,112]) (.node (sO "or",[111,114]) (.nil) (.nil)) (.nil))))) (.node (sO "no flag",[110,111,32,102,108,97,103]) (.node (sO "iso_646.irv:1991",[105,115,111,95,54,52,54,46,105,114,118,58,49,57,57,49]) (.node (sO "iso_8859-1:1987",[105,115,111,95,56,56,53,57,45,49,58,49,57,56,55]) (.node (sO "there is no such day",[116,104,101,114,101,32,105,115,32,110,111,32,115,117,99,104,32,100,97,121]) (.node (sO "no day",[110,111,32,100,97,121]) (.nil) (.nil)) (.node (sO "larger",[108,97,114,103,101,114]) (.nil) (.nil))) (.node (sO "a quote is missing",[97,32,113,117,111,116,101,32,105,115,32,109,105,115,115,105,110,103]) (.node (sO "UID",[85,73,68]) (.nil) (.nil)) (.nil))) (.node (sO "an unknown charset",[97,110,32,117,110,107,110,111,119,110,32,99,104,97,114,115,101,116]) (.node (sO "atom",[97,116,111,109]) (.node (sO "OLD",[79,76,68]) (.nil) (.nil)) (.node (sO "Work",[87,111,114,107]) (.nil) (.nil))) (.node (sO "a list is missing",[97,32,108,105,115,116,32,105,115,32,109,105,115,115,105,110,103]) (.node (sO "NOT",[78,79,84]) (.nil) (.nil)) (.nil)))) (.node (sO "cp367",[99,112,51,54,55]) (.node (sO "cp819",[99,112,56,49,57]) (.node (sO "a number is too great",[97,32,110,117,109,98,101,114,32,105,115,32,116,111,111,32,103,114,101,97,116]) (.node (sO "no sort of entry",[110,111,32,115,111,114,116,32,111,102,32,101,110,116,114,121]) (.nil) (.nil)) (.node (sO "no word that can stand there",[110,111,32,119,111,114,100,32,116,104,97,116,32,99,97,110,32,115,116,97,110,100,32,116,104,101,114,101]) (.nil) (.nil))) (.node (sO "no count of a literal",[110,111,32,99,111,117,110,116,32,111,102,32,97,32,108,105,116,101,114,97,108]) (.node (sO "unknown search key ",[117,110,107,110,111,119,110,32,115,101,97,114,99,104,32,107,101,121,32]) (.nil) (.nil)) (.nil))) (.node (sO "0",[48]) (.node (sO "an atom is missing",[97,110,32,97,116,111,109,32,105,115,32,109,105,115,115,105,110,103]) (.node (sO "KEYWORD",[75,69,89,87,79,82,68]) (.nil) (.nil)) (.node (sO "MAX",[77,65,88]) (.nil) (.nil))) (.node (sO "not",[110,111,116]) (.node (sO "CHARSET",[67,72,65,82,83,69,84]) (.nil) (.nil)) (.nil))))))
noncomputable def gtab:Tr (Str × AV):=.node (sO "Exception",.bi .Exception) (.node (sO "bytes",.bi .bytes) (.node (sO "chr",.bi .chr) (.node (sO "WordFault",.kl 1) (.node (sO "LATIN",.st [105,115,111,45,56,56,53,57,45,49]) (.node (sO "MONTHS",.tu [.st [74,97,110],.st [70,101,98],.st [77,97,114],.st [65,112,114],.st [77,97,121],.st [74,117,110],.st [74,117,108],.st [65,117,103],.st [83,101,112],.st [79,99,116],.st [78,111,118],.st [68,101,99]]) (.node (sO "BACKSLASH",.it 92) (.node (sO "query_in_charset",.fn 108) (.nil) (.nil)) (.nil)) (.node (sO "number_here",.fn 85) (.nil) (.nil))) (.node (sO "is_printable",.fn 40) (.node (sO "read_set",.fn 34) (.nil) (.nil)) (.node (sO "charset_here",.fn 94) (.nil) (.nil)))) (.node (sO "utf8_sign",.fn 18) (.node (sO "day_text",.fn 29) (.node (sO "MOST_QUOTED",.it 72) (.node (sO "read_thread",.fn 109) (.nil) (.nil)) (.nil)) (.node (sO "bracket",.fn 91) (.nil) (.nil))) (.node (sO "upper_text",.fn 6) (.node (sO "flag_name",.fn 11) (.nil) (.nil)) (.node (sO "row_of",.fn 97) (.nil) (.nil))))) (.node (sO "system_flags",.fn 9) (.node (sO "CHARSETS",.tu [.st [117,115,45,97,115,99,105,105],.st [105,115,111,45,56,56,53,57,45,49],.st [117,116,102,45,56]]) (.node (sO "int",.bi .int) (.node (sO "is_value_code",.fn 43) (.node (sO "write_search",.fn 103) (.nil) (.nil)) (.nil)) (.node (sO "modseq_here",.fn 87) (.nil) (.nil))) (.node (sO "WireFault",.kl 4) (.node (sO "read_day",.fn 31) (.nil) (.nil)) (.node (sO "write_day",.fn 32) (.nil) (.nil)))) (.node (sO "utf8_octets",.fn 16) (.node (sO "read_end",.fn 33) (.node (sO "literal_octets",.fn 75) (.nil) (.nil)) (.node (sO "flag_leaf",.fn 88) (.nil) (.nil))) (.node (sO "MOST_FIGURES",.it 19) (.node (sO "HEADER_KEYS",.st [66,67,67,32,67,67,32,70,82,79,77,32,83,85,66,74,69,67,84,32,84,79]) (.nil) (.nil)) (.node (sO "WANTS",.st [77,73,78,32,77,65,88,32,67,79,85,78,84,32,65,76,76]) (.nil) (.nil)))))) (.node (sO "range",.bi .range) (.node (sO "MOST_KEYWORD",.it 60) (.node (sO "charset_names",.fn 12) (.node (sO "padded",.fn 27) (.node (sO "is_astring_code",.fn 42) (.node (sO "PostError",.kl 0) (.nil) (.nil)) (.nil)) (.node (sO "day_here",.fn 84) (.nil) (.nil))) (.node (sO "is_atom_code",.fn 41) (.node (sO "octets_in",.fn 22) (.nil) (.nil)) (.node (sO "show_set",.fn 37) (.nil) (.nil)))) (.node (sO "sign_at",.fn 19) (.node (sO "MOST",.it 4294967295) (.node (sO "is_quotable",.fn 73) (.nil) (.nil)) (.node (sO "key_word",.fn 81) (.nil) (.nil))) (.node (sO "is_set_code",.fn 44) (.node (sO "no_letter",.fn 79) (.nil) (.nil)) (.node (sO "one_of",.fn 105) (.nil) (.nil))))) (.node (sO "StoreFault",.kl 5) (.node (sO "utf8_length",.fn 15) (.node (sO "is_day",.fn 25) (.node (sO "Atom",.kl 7) (.node (sO "read_search",.fn 107) (.nil) (.nil)) (.nil)) (.node (sO "MOST_DEPTH_query",.it 20) (.nil) (.nil))) (.node (sO "CRLF",.by [.lit [13,10]]) (.node (sO "word_here",.fn 86) (.nil) (.nil)) (.node (sO "show_key",.fn 100) (.nil) (.nil)))) (.node (sO "MOST_YEAR",.it 9999) (.node (sO "show_end",.fn 35) (.node (sO "is_letter_code",.fn 80) (.nil) (.nil)) (.node (sO "BLANK",.it 32) (.nil) (.nil))) (.node (sO "bytearray",.bi .bytearray) (.node (sO "LOOK_KEYS",.st [66,79,68,89,32,84,69,88,84]) (.nil) (.nil)) (.node (sO "read_query_in",.fn 96) (.nil) (.nil))))))) (.node (sO "lower_code",.fn 3) (.node (sO "ord",.bi .ord) (.node (sO "SYSTEM",.st [92,83,101,101,110,32,92,65,110,115,119,101,114,101,100,32,92,70,108,97,103,103,101,100,32,92,68,101,108,101,116,101,100,32,92,68,114,97,102,116]) (.node (sO "UTF8",.st [117,116,102,45,56]) (.node (sO "str",.bi .str) (.node (sO "MOST_COUNT_FIGURES",.it 10) (.node (sO "Wire",.kl 8) (.nil) (.nil)) (.nil)) (.node (sO "DAY_KEYS",.st [66,69,70,79,82,69,32,79,78,32,83,73,78,67,69,32,83,69,78,84,66,69,70,79,82,69,32,83,69,78,84,79,78,32,83,69,78,84,83,73,78,67,69]) (.nil) (.nil))) (.node (sO "SPECIALS",.by [.lit [40,41,123,37,42,34,92,93]]) (.node (sO "max",.bi .max) (.nil) (.nil)) (.node (sO "show_flag",.fn 98) (.nil) (.nil)))) (.node (sO "need_charset",.fn 14) (.node (sO "min",.bi .min) (.node (sO "figures_of",.fn 47) (.node (sO "_law_is_refused",.fn 111) (.nil) (.nil)) (.nil)) (.node (sO "SET_SIGNS",.by [.lit [48,49,50,51,52,53,54,55,56,57,58,42,44]]) (.nil) (.nil))) (.node (sO "lower",.fn 4) (.node (sO "every_letter",.fn 78) (.nil) (.nil)) (.node (sO "words_part",.fn 102) (.nil) (.nil))))) (.node (sO "is_keyword",.fn 10) (.node (sO "MimeFault",.kl 2) (.node (sO "month_number",.fn 26) (.node (sO "all",.bi .all) (.node (sO "_law_is_read",.fn 112) (.nil) (.nil)) (.nil)) (.node (sO "read_keys",.fn 93) (.nil) (.nil))) (.node (sO "text_octets",.fn 8) (.node (sO "QUOTE_query",.it 34) (.nil) (.nil)) (.node (sO "show_query",.fn 101) (.nil) (.nil)))) (.node (sO "is_leap",.fn 23) (.node (sO "tuple",.bi .tuple) (.node (sO "string_octets",.fn 76) (.nil) (.nil)) (.node (sO "leaf_of",.fn 90) (.nil) (.nil))) (.node (sO "number_of_figures",.fn 46) (.node (sO "looked_for",.fn 83) (.nil) (.nil)) (.node (sO "read_query",.fn 95) (.nil) (.nil)))))) (.node (sO "len",.bi .len) (.node (sO "NO_KEYWORD",.st [40,41,123,32,37,42,34,92,93]) (.node (sO "lower_text",.fn 5) (.node (sO "is_figures",.fn 28) (.node (sO "_wall",.fn 0) (.node (sO "_law_keys",.fn 110) (.nil) (.nil)) (.nil)) (.node (sO "set_here",.fn 82) (.nil) (.nil))) (.node (sO "VALUE_SPECIALS",.by [.lit [40,41,123,34,93]]) (.node (sO "strict_text",.fn 20) (.nil) (.nil)) (.node (sO "astring_octets",.fn 77) (.nil) (.nil)))) (.node (sO "has_sign",.fn 21) (.node (sO "SetFault",.kl 3) (.node (sO "quoted_octets",.fn 74) (.nil) (.nil)) (.node (sO "read_key",.fn 92) (.nil) (.nil))) (.node (sO "is_figure",.fn 45) (.node (sO "keyword_leaf",.fn 89) (.nil) (.nil)) (.node (sO "words_here",.fn 106) (.nil) (.nil))))) (.node (sO "ASCII",.st [117,115,45,97,115,99,105,105]) (.node (sO "follower_span",.fn 17) (.node (sO "day_in",.fn 30) (.node (sO "MOST_DEPTH_wire",.it 30) (.node (sO "write_thread",.fn 104) (.nil) (.nil)) (.nil)) (.node (sO "OPEN",.it 40) (.nil) (.nil))) (.node (sO "ascii_text",.fn 7) (.node (sO "FLAG_KEYS",.st [65,78,83,87,69,82,69,68,32,68,69,76,69,84,69,68,32,68,82,65,70,84,32,70,76,65,71,71,69,68,32,83,69,69,78]) (.nil) (.nil)) (.node (sO "show_leaf",.fn 99) (.nil) (.nil)))) (.node (sO "month_length",.fn 24) (.node (sO "show_pair",.fn 36) (.node (sO "QueryFault",.kl 6) (.nil) (.nil)) (.node (sO "charset_name",.fn 13) (.nil) (.nil))) (.node (sO "QUOTE_wire",.it 34) (.node (sO "SIZE_KEYS",.st [76,65,82,71,69,82,32,83,77,65,76,76,69,82]) (.nil) (.nil)) (.node (sO "THREAD_WORDS",.st [79,82,68,69,82,69,68,83,85,66,74,69,67,84,32,82,69,70,69,82,69,78,67,69,83]) (.nil) (.nil)))))))
noncomputable def atab:List Str:=[sO "__init__",sO "what",sO "at",sO "join",sO "split",sO "lower",sO "get",sO "insert",sO "append",sO "extend",sO "index",sO "text",sO "data",sO "skip",sO "fault",sO "need",sO "run",sO "word_of",sO "atom",sO "peek",sO "literal",sO "quoted",sO "string",sO "string_or",sO "space",sO "plain_value",sO "value",sO "set_text",sO "astring",sO "number",sO "list_of",sO "word",sO "skip_word",sO "encode"]
structure CI where
 ec:EC
 sc:Scope
noncomputable def ctab:List CI:=[
 ⟨⟨[sO "code"],[2]⟩,fsc [loc ".0",loc "code",glb "lower_code"]⟩,
 ⟨⟨[sO "sign"],[3,2,4]⟩,fsc [loc ".0",loc "sign",glb "chr",glb "lower_code",glb "ord"]⟩,
 ⟨⟨[sO "sign"],[3,4]⟩,fsc [loc ".0",loc "sign",glb "chr",glb "ord"]⟩,
 ⟨⟨[sO "code"],[3]⟩,fsc [loc ".0",loc "code",glb "chr"]⟩,
 ⟨⟨[sO "sign"],[4]⟩,fsc [loc ".0",loc "sign",glb "ord"]⟩,
 ⟨⟨[sO "most",sO "code"],[]⟩,fsc [loc ".0",loc "most",fre "code"]⟩,
 ⟨⟨[sO "name"],[18]⟩,fsc [loc ".0",loc "name",glb "lower_text"]⟩,
 ⟨⟨[sO "sign"],[]⟩,fsc [loc ".0",loc "sign"]⟩,
 ⟨⟨[sO "pair"],[46]⟩,fsc [loc ".0",loc "pair",glb "show_pair"]⟩,
 ⟨⟨[sO "code"],[58]⟩,fsc [loc ".0",loc "code",glb "is_figure"]⟩,
 ⟨⟨[sO "code"],[]⟩,fsc [loc ".0",loc "code"]⟩,
 ⟨⟨[sO "code"],[65]⟩,fsc [loc ".0",loc "code",glb "is_astring_code"]⟩,
 ⟨⟨[sO "part"],[117]⟩,fsc [loc ".0",loc "part",glb "show_key"]⟩,
 ⟨⟨[sO "word",sO "words",sO "wire"],[121]⟩,fsc [loc ".0",loc "word",glb "one_of",fre "wire",fre "words"]⟩,
 ⟨⟨[sO "row"],[]⟩,fsc [loc ".0",loc "row"]⟩,
 ⟨⟨[sO "row"],[]⟩,fsc [loc ".0",loc "row"]⟩,
 ⟨⟨[sO "word"],[]⟩,fsc [loc ".0",loc "word"]⟩]
structure FI where
 ec:EC
 np:Nat
 body:List XS
 addr:Nat
 dfl:List AV
noncomputable section
def f_wall:FI:=⟨⟨[sO "k"],[]⟩,1,[
 .whl (qx true 2 10 14) [zt 3 8 12] (P4 2 4 3 12)],21,[]⟩
def jl:FI:=⟨⟨[sO "self",sO "what",sO "at"],[0]⟩,3,[
 zp (zd (qu 0 8 8 17) 0 (P3 8 8 26) [qt 0 8 27 31,qt 1 8 33 37] 8 8 38) 8 8 38,
 zq [zb (qt 0 9 8 12) 1 9 8 17] (qt 1 9 20 24) 9 8 24,
 zq [zb (qt 0 10 8 12) 2 10 8 15] (qt 2 10 18 20) 10 8 20],36,[.it (-1)]⟩
def f_PostError_told:FI:=⟨⟨[sO "self"],[]⟩,1,[
 zr (some (zl [zb (qt 0 13 16 20) 1 13 16 25,zb (qt 0 13 27 31) 2 13 27 34] 0 13 15 35)) 13 8 35],43,[]⟩
def f_lower_code:FI:=⟨⟨[sO "code"],[]⟩,1,[
 zr (some (zk (zh (qy 65 29 24 26) [.LtE,.LtE] [qt 0 29 30 34,qy 90 29 38 40] 29 24 40) (zg (qt 0 29 11 15) .Add (qy 32 29 18 20) 29 11 20) (qt 0 29 46 50) 29 11 50)) 29 4 50],128,[]⟩
def f_lower:FI:=⟨⟨[sO "octets"],[1]⟩,1,[
 zr (some (zc (qu 0 31 11 16) [zo 0 (zc (qu 0 31 18 28) [qt 0 31 29 33] 31 18 34) (qt 0 31 39 43) (qt 0 31 47 53) [] 31 17 54] 31 11 55)) 31 4 55],133,[]⟩
def f_lower_text:FI:=⟨⟨[sO "text"],[]⟩,1,[
 zr (some (zd (qz 0 33 11 13) 3 (P3 33 11 18) [zo 1 (zc (qu 0 33 20 23) [zc (qu 1 33 24 34) [zc (qu 2 33 35 38) [qt 0 33 39 43] 33 35 44] 33 24 45] 33 20 46) (qt 0 33 51 55) (qt 0 33 59 63) [] 33 19 64] 33 11 65)) 33 4 65],138,[]⟩
def f_upper_text:FI:=⟨⟨[sO "text"],[]⟩,1,[
 zr (some (zd (qz 0 35 11 13) 3 (P3 35 11 18) [zo 2 (zk (zh (qz 1 35 43 46) [.LtE,.LtE] [qt 0 35 50 54,qz 2 35 58 61] 35 43 61) (zc (qu 0 35 20 23) [zg (zc (qu 1 35 24 27) [qt 0 35 28 32] 35 24 33) .Sub (qy 32 35 36 38) 35 24 38] 35 20 39) (qt 0 35 67 71) 35 20 71) (qt 0 35 76 80) (qt 0 35 84 88) [] 35 19 89] 35 11 90)) 35 4 90],143,[]⟩
def f_ascii_text:FI:=⟨⟨[sO "octets",sO "at"],[5,6,7]⟩,1,[
 .fre (qt 1 37 8 10) (zc (qu 0 37 14 19) [zc (qu 1 37 20 23) [qt 0 37 24 30] 37 20 31] 37 14 32) [.iff (zh (ze (qt 0 38 11 17) (qt 1 38 18 20) 38 11 21) [.Gt] [qy 127 38 24 27] 38 11 27) [zs (zc (qu 2 39 18 27) [qz 3 39 28 51,qt 1 39 53 55] 39 18 56) 39 12 56] [] (P4 38 8 39 56)] (P4 37 4 39 56),
 zr (some (zd (qz 0 40 11 13) 3 (P3 40 11 18) [zo 3 (zc (qu 0 40 20 23) [qt 0 40 24 28] 40 20 29) (qt 0 40 34 38) (qt 0 40 42 48) [] 40 19 49] 40 11 50)) 40 4 50],148,[]⟩
def f_text_octets:FI:=⟨⟨[sO "text",sO "at"],[5,6,4,7,1]⟩,1,[
 .fre (qt 1 42 8 10) (zc (qu 0 42 14 19) [zc (qu 1 42 20 23) [qt 0 42 24 28] 42 20 29] 42 14 30) [.iff (zh (zc (qu 2 43 11 14) [ze (qt 0 43 15 19) (qt 1 43 20 22) 43 15 23] 43 11 24) [.Gt] [qy 127 43 27 30] 43 11 30) [zs (zc (qu 3 44 18 27) [qz 4 44 28 49,qt 1 44 51 53] 44 18 54) 44 12 54] [] (P4 43 8 44 54)] (P4 42 4 44 54),
 zr (some (zc (qu 4 45 11 16) [zo 4 (zc (qu 0 45 18 21) [qt 0 45 22 26] 45 18 27) (qt 0 45 32 36) (qt 0 45 40 44) [] 45 17 45] 45 11 46)) 45 4 46],153,[]⟩
def f_system_flags:FI:=⟨⟨[],[8]⟩,0,[
 zr (some (zd (qu 0 51 11 17) 4 (P3 51 11 23) [qz 5 51 24 27] 51 11 28)) 51 4 28],160,[]⟩
def f_is_keyword:FI:=⟨⟨[sO "text",sO "sign"],[6,9,4,10]⟩,1,[
 .iff (zj .Not (zh (qy 1 53 11 12) [.LtE,.LtE] [zc (qu 0 53 16 19) [qt 0 53 20 24] 53 16 25,qu 1 53 29 41] 53 11 41) 53 7 41) [zr (some (qx false 54 15 20)) 54 8 20] [] (P4 53 4 54 20),
 .fre (qt 1 55 8 12) (qt 0 55 16 20) [.iff (zi .Or [zj .Not (zh (qy 32 56 15 17) [.Lt,.Lt] [zc (qu 2 56 20 23) [qt 1 56 24 28] 56 20 29,qy 127 56 32 35] 56 15 35) 56 11 35,zh (qt 1 56 39 43) [.In] [qu 3 56 47 57] 56 39 57] 56 11 57) [zr (some (qx false 57 19 24)) 57 12 24] [] (P4 56 8 57 24)] (P4 55 4 57 24),
 zr (some (qx true 58 11 15)) 58 4 15],167,[]⟩
def f_flag_name:FI:=⟨⟨[sO "text",sO "name"],[11,12,13]⟩,1,[
 .fre (qt 1 60 8 12) (zc (qu 0 60 16 28) [] 60 16 30) [.iff (zh (zd (qt 0 61 11 15) 5 (P3 61 11 21) [] 61 11 23) [.Eq] [zd (qt 1 61 27 31) 5 (P3 61 27 37) [] 61 27 39] 61 11 39) [zr (some (qt 1 62 19 23)) 62 12 23] [] (P4 61 8 62 23)] (P4 60 4 62 23),
 .iff (zj .Not (zc (qu 1 63 11 21) [qt 0 63 22 26] 63 11 27) 63 7 27) [zs (zc (qu 2 64 14 24) [qz 6 64 25 34] 64 14 35) 64 8 35] [] (P4 63 4 64 35),
 zr (some (qt 0 65 11 15)) 65 4 15],174,[]⟩
def f_charset_names:FI:=⟨⟨[sO "found",sO "alias"],[14,15,16]⟩,0,[
 zq [qt 0 72 4 9] (zn [] [] 72 12 14) 72 4 14,
 .fre (qt 1 73 8 13) (zl [qz 7 73 18 28,qz 8 73 30 37,qz 9 73 39 55,qz 10 73 57 75,qz 11 73 77 87,qz 12 73 89 100,qz 13 73 102 106,qz 14 73 108 115,qz 15 73 117 125] 0 73 17 126) [zq [ze (qt 0 74 8 13) (qt 1 74 14 19) 74 8 20] (qu 0 74 23 28) 74 8 28] (P4 73 4 74 28),
 .fre (qt 1 75 8 13) (zl [qz 16 75 18 30,qz 17 75 32 44,qz 18 75 46 63,qz 19 75 65 77,qz 20 75 79 87,qz 21 75 89 93,qz 22 75 95 102,qz 23 75 104 112] 0 75 17 113) [zq [ze (qt 0 76 8 13) (qt 1 76 14 19) 76 8 20] (qu 1 76 23 28) 76 8 28] (P4 75 4 76 28),
 .fre (qt 1 77 8 13) (zl [qz 24 77 18 25,qz 25 77 27 33] 0 77 17 34) [zq [ze (qt 0 78 8 13) (qt 1 78 14 19) 78 8 20] (qu 2 78 23 27) 78 8 27] (P4 77 4 78 27),
 zr (some (qt 0 79 11 16)) 79 4 16],182,[]⟩
def f_charset_name:FI:=⟨⟨[sO "text"],[17,18]⟩,1,[
 zr (some (zd (zc (qu 0 81 11 24) [] 81 11 26) 6 (P3 81 11 30) [zc (qu 1 81 31 41) [qt 0 81 42 46] 81 31 47,qz 0 81 49 51] 81 11 52)) 81 4 52],189,[]⟩
def f_need_charset:FI:=⟨⟨[sO "charset"],[19,20]⟩,1,[
 .iff (zh (qt 0 83 7 14) [.NotIn] [qu 0 83 22 30] 83 7 30) [zs (zc (qu 1 84 14 23) [qz 26 84 24 44] 84 14 45) 84 8 45] [] (P4 83 4 84 45)],196,[]⟩
def jn:FI:=⟨⟨[sO "code"],[6]⟩,1,[
 .iff (zi .Or [zh (qy 55296 86 7 12) [.LtE,.LtE] [qt 0 86 16 20,qy 57343 86 24 29] 86 7 29,zj .Not (zh (qy 0 86 37 38) [.LtE,.LtE] [qt 0 86 42 46,qy 1114111 86 50 57] 86 37 57) 86 33 57] 86 7 57) [zr (some (qy 0 87 15 16)) 87 8 16] [] (P4 86 4 87 16),
 zr (some (zg (qy 1 88 11 12) .Add (zc (qu 0 88 15 18) [zo 5 (qt 0 88 20 24) (qt 0 88 29 33) (zl [qy 127 88 38 41,qy 2047 88 43 47,qy 65535 88 49 54] 0 88 37 55) [zh (qt 1 88 59 63) [.Gt] [qt 0 88 66 70] 88 59 70] 88 19 71] 88 15 72) 88 11 72)) 88 4 72],201,[]⟩
def f_utf8_octets:FI:=⟨⟨[sO "code",sO "length",sO "found",sO "left",sO "place"],[21,5]⟩,1,[
 zq [qt 1 90 4 10] (zc (qu 0 90 13 24) [qt 0 90 25 29] 90 13 30) 90 4 30,
 .iff (zh (qt 1 91 7 13) [.Lt] [qy 2 91 16 17] 91 7 17) [zr (some (zg (zm [qt 0 92 16 20] 92 15 21) .Mult (qt 1 92 24 30) 92 15 30)) 92 8 30] [] (P4 91 4 92 30),
 zq [qt 2 93 4 9] (zm [] 93 12 14) 93 4 14,
 zq [qt 3 94 4 8] (qt 0 94 11 15) 94 4 15,
 .fre (qt 4 95 8 13) (zc (qu 1 95 17 22) [zg (qt 1 95 23 29) .Sub (qy 1 95 32 33) 95 23 33] 95 17 34) [zp (zd (qt 2 96 8 13) 7 (P3 96 8 20) [qy 0 96 21 22,zg (qy 128 96 24 27) .Add (zg (qt 3 96 30 34) .Mod (qy 64 96 37 39) 96 30 39) 96 24 39] 96 8 40) 96 8 40,zq [qt 3 97 8 12] (zg (qt 3 97 15 19) .FloorDiv (qy 64 97 23 25) 97 15 25) 97 8 25] (P4 95 4 97 25),
 zr (some (zg (zm [zg (zg (qy 256 98 12 15) .Sub (zg (qy 256 98 19 22) .RShift (qt 1 98 26 32) 98 19 32) 98 12 33) .Add (qt 3 98 36 40) 98 12 40] 98 11 41) .Add (qt 2 98 44 49) 98 11 49)) 98 4 49],208,[]⟩
def f_follower_span:FI:=⟨⟨[sO "lead"],[]⟩,1,[
 .iff (zh (qy 194 100 7 10) [.LtE,.LtE] [qt 0 100 14 18,qy 223 100 22 25] 100 7 25) [zr (some (zl [qy 128 101 16 19,qy 191 101 21 24,qy 1 101 26 27] 0 101 15 28)) 101 8 28] [] (P4 100 4 101 28),
 .iff (zh (qy 224 102 7 10) [.LtE,.LtE] [qt 0 102 14 18,qy 239 102 22 25] 102 7 25) [zr (some (zl [zd (zn [qy 224 103 17 20] [qy 160 103 22 25] 103 16 26) 6 (P3 103 16 30) [qt 0 103 31 35,qy 128 103 37 40] 103 16 41,zd (zn [qy 237 103 44 47] [qy 159 103 49 52] 103 43 53) 6 (P3 103 43 57) [qt 0 103 58 62,qy 191 103 64 67] 103 43 68,qy 2 103 70 71] 0 103 15 72)) 103 8 72] [] (P4 102 4 103 72),
 .iff (zh (qy 240 104 7 10) [.LtE,.LtE] [qt 0 104 14 18,qy 244 104 22 25] 104 7 25) [zr (some (zl [zd (zn [qy 240 105 17 20] [qy 144 105 22 25] 105 16 26) 6 (P3 105 16 30) [qt 0 105 31 35,qy 128 105 37 40] 105 16 41,zd (zn [qy 244 105 44 47] [qy 143 105 49 52] 105 43 53) 6 (P3 105 43 57) [qt 0 105 58 62,qy 191 105 64 67] 105 43 68,qy 3 105 70 71] 0 105 15 72)) 105 8 72] [] (P4 104 4 105 72),
 zr (some (zl [qy 0 106 12 13,qy 0 106 15 16,qy 0 106 18 19] 0 106 11 20)) 106 4 20],215,[]⟩
def f_utf8_sign:FI:=⟨⟨[sO "octets",sO "at",sO "lead",sO "least",sO "most",sO "count",sO "code",sO "place"],[22,5,6]⟩,2,[
 zq [qt 2 108 4 8] (ze (qt 0 108 11 17) (qt 1 108 18 20) 108 11 21) 108 4 21,
 .iff (zh (qt 2 109 7 11) [.Lt] [qy 128 109 14 17] 109 7 17) [zr (some (zl [qt 2 110 16 20,qy 1 110 22 23] 0 110 15 24)) 110 8 24] [] (P4 109 4 110 24),
 zq [zl [qt 3 111 4 9,qt 4 111 11 15,qt 5 111 17 22] 0 111 4 22] (zc (qu 0 111 25 38) [qt 2 111 39 43] 111 25 44) 111 4 44,
 .iff (zh (qt 5 112 7 12) [.Eq] [qy 0 112 16 17] 112 7 17) [zr (some (zl [zj .USub (qy 1 113 17 18) 113 16 18,qy 1 113 20 21] 0 113 15 22)) 113 8 22] [] (P4 112 4 113 22),
 zq [qt 6 114 4 8] (zg (qt 2 114 11 15) .Mod (zg (qy 64 114 19 21) .RShift (qt 5 114 25 30) 114 19 30) 114 11 31) 114 4 31,
 .fre (qt 7 115 8 13) (zc (qu 1 115 17 22) [qy 1 115 23 24,zg (qt 5 115 26 31) .Add (qy 1 115 34 35) 115 26 35] 115 17 36) [.iff (zi .Or [zh (zg (qt 1 116 11 13) .Add (qt 7 116 16 21) 116 11 21) [.GtE] [zc (qu 2 116 25 28) [qt 0 116 29 35] 116 25 36] 116 11 36,zj .Not (zh (qt 3 116 44 49) [.LtE,.LtE] [ze (qt 0 116 53 59) (zg (qt 1 116 60 62) .Add (qt 7 116 65 70) 116 60 70) 116 53 71,qt 4 116 75 79] 116 44 79) 116 40 79] 116 11 79) [zr (some (zl [zj .USub (qy 1 117 21 22) 117 20 22,qt 7 117 24 29] 0 117 19 30)) 117 12 30] [] (P4 116 8 117 30),zq [qt 6 118 8 12] (zg (zg (qt 6 118 15 19) .Mult (qy 64 118 22 24) 118 15 24) .Add (zg (ze (qt 0 118 27 33) (zg (qt 1 118 34 36) .Add (qt 7 118 39 44) 118 34 44) 118 27 45) .Mod (qy 64 118 48 50) 118 27 50) 118 15 50) 118 8 50,zq [zl [qt 3 119 8 13,qt 4 119 15 19] 0 119 8 19] (zl [qy 128 119 23 26,qy 191 119 28 31] 0 119 22 32) 119 8 32] (P4 115 4 119 32),
 zr (some (zl [qt 6 120 12 16,zg (qt 5 120 18 23) .Add (qy 1 120 26 27) 120 18 27] 0 120 11 28)) 120 4 28],222,[]⟩
def f_sign_at:FI:=⟨⟨[sO "charset",sO "octets",sO "at"],[16,23,14]⟩,3,[
 .iff (zh (qt 0 122 7 14) [.Eq] [qu 0 122 18 22] 122 7 22) [zr (some (zc (qu 1 123 15 24) [qt 1 123 25 31,qt 2 123 33 35] 123 15 36)) 123 8 36] [] (P4 122 4 123 36),
 .iff (zi .And [zh (qt 0 124 7 14) [.Eq] [qu 2 124 18 23] 124 7 23,zh (ze (qt 1 124 28 34) (qt 2 124 35 37) 124 28 38) [.Gt] [qy 127 124 41 44] 124 28 44] 124 7 44) [zr (some (zl [zj .USub (qy 1 125 17 18) 125 16 18,qy 1 125 20 21] 0 125 15 22)) 125 8 22] [] (P4 124 4 125 22),
 zr (some (zl [ze (qt 1 126 12 18) (qt 2 126 19 21) 126 12 22,qy 1 126 24 25] 0 126 11 26)) 126 4 26],229,[]⟩
def f_strict_text:FI:=⟨⟨[sO "charset",sO "octets",sO "signs",sO "at",sO "code",sO "length"],[24,6,25,20,3]⟩,2,[
 zp (zc (qu 0 128 4 16) [qt 0 128 17 24] 128 4 25) 128 4 25,
 zq [qt 2 129 4 9] (zm [] 129 12 14) 129 4 14,
 zq [qt 3 130 4 6] (qy 0 130 9 10) 130 4 10,
 .whl (zh (qt 3 131 10 12) [.Lt] [zc (qu 1 131 15 18) [qt 1 131 19 25] 131 15 26] 131 10 26) [zq [zl [qt 4 132 8 12,qt 5 132 14 20] 0 132 8 20] (zc (qu 2 132 23 30) [qt 0 132 31 38,qt 1 132 40 46,qt 3 132 48 50] 132 23 51) 132 8 51,.iff (zh (qt 4 133 11 15) [.Lt] [qy 0 133 18 19] 133 11 19) [zs (zc (qu 3 134 18 27) [zg (qz 27 134 28 57) .Add (qt 0 134 60 67) 134 28 67,qt 3 134 69 71] 134 18 72) 134 12 72] [] (P4 133 8 134 72),zp (zd (qt 2 135 8 13) 8 (P3 135 8 20) [zc (qu 4 135 21 24) [qt 4 135 25 29] 135 21 30] 135 8 31) 135 8 31,zq [qt 3 136 8 10] (zg (qt 3 136 13 15) .Add (qt 5 136 18 24) 136 13 24) 136 8 24] (P4 131 4 136 24),
 zr (some (zd (qz 0 137 11 13) 3 (P3 137 11 18) [qt 2 137 19 24] 137 11 25)) 137 4 25],236,[]⟩
def f_has_sign:FI:=⟨⟨[sO "charset",sO "code"],[16,21,14]⟩,2,[
 .iff (zh (qt 0 139 7 14) [.Eq] [qu 0 139 18 22] 139 7 22) [zr (some (zh (zc (qu 1 140 15 26) [qt 1 140 27 31] 140 15 32) [.Gt] [qy 0 140 35 36] 140 15 36)) 140 8 36] [] (P4 139 4 140 36),
 zr (some (zh (qt 1 141 11 15) [.Lt] [zk (zh (qt 0 141 26 33) [.Eq] [qu 2 141 37 42] 141 26 42) (qy 128 141 19 22) (qy 256 141 48 51) 141 19 51] 141 11 52)) 141 4 52],243,[]⟩
def f_octets_in:FI:=⟨⟨[sO "charset",sO "text",sO "row",sO "at",sO "code"],[24,5,6,4,26,20,16,27,1]⟩,2,[
 zp (zc (qu 0 143 4 16) [qt 0 143 17 24] 143 4 25) 143 4 25,
 zq [qt 2 144 4 7] (zm [] 144 10 12) 144 4 12,
 .fre (qt 3 145 8 10) (zc (qu 1 145 14 19) [zc (qu 2 145 20 23) [qt 1 145 24 28] 145 20 29] 145 14 30) [zq [qt 4 146 8 12] (zc (qu 3 146 15 18) [ze (qt 1 146 19 23) (qt 3 146 24 26) 146 19 27] 146 15 28) 146 8 28,.iff (zj .Not (zc (qu 4 147 15 23) [qt 0 147 24 31,qt 4 147 33 37] 147 15 38) 147 11 38) [zs (zc (qu 5 148 18 27) [zg (zg (qz 28 148 28 42) .Add (qt 0 148 45 52) 148 28 52) .Add (qz 29 148 55 65) 148 28 65,qt 3 148 67 69] 148 18 70) 148 12 70] [] (P4 147 8 148 70),.iff (zh (qt 0 149 11 18) [.Eq] [qu 6 149 22 26] 149 11 26) [zp (zd (qt 2 150 12 15) 9 (P3 150 12 22) [zc (qu 7 150 23 34) [qt 4 150 35 39] 150 23 40] 150 12 41) 150 12 41] [zp (zd (qt 2 152 12 15) 8 (P3 152 12 22) [qt 4 152 23 27] 152 12 28) 152 12 28] (P4 149 8 152 28)] (P4 145 4 152 28),
 zr (some (zc (qu 8 153 11 16) [qt 2 153 17 20] 153 11 21)) 153 4 21],250,[]⟩
def f_is_leap:FI:=⟨⟨[sO "year"],[]⟩,1,[
 zr (some (zi .And [zh (zg (qt 0 158 11 15) .Mod (qy 4 158 18 19) 158 11 19) [.Eq] [qy 0 158 23 24] 158 11 24,zi .Or [zh (zg (qt 0 158 30 34) .Mod (qy 100 158 37 40) 158 30 40) [.NotEq] [qy 0 158 44 45] 158 30 45,zh (zg (qt 0 158 49 53) .Mod (qy 400 158 56 59) 158 49 59) [.Eq] [qy 0 158 63 64] 158 49 64] 158 30 64] 158 11 65)) 158 4 65],258,[]⟩
def f_month_length:FI:=⟨⟨[sO "year",sO "month"],[28]⟩,2,[
 .iff (zh (qt 1 160 7 12) [.Eq] [qy 2 160 16 17] 160 7 17) [zr (some (zk (zc (qu 0 161 21 28) [qt 0 161 29 33] 161 21 34) (qy 29 161 15 17) (qy 28 161 40 42) 161 15 42)) 161 8 42] [] (P4 160 4 161 42),
 zr (some (zk (zh (qt 1 162 17 22) [.In] [zl [qy 4 162 27 28,qy 6 162 30 31,qy 9 162 33 34,qy 11 162 36 38] 0 162 26 39] 162 17 39) (qy 30 162 11 13) (qy 31 162 45 47) 162 11 47)) 162 4 47],265,[]⟩
def f_is_day:FI:=⟨⟨[sO "year",sO "month",sO "day"],[29,30]⟩,3,[
 zr (some (zi .And [zh (qy 1 164 11 12) [.LtE,.LtE] [qt 0 164 16 20,qu 0 164 24 33] 164 11 33,zh (qy 1 164 38 39) [.LtE,.LtE] [qt 1 164 43 48,qy 12 164 52 54] 164 38 54,zh (qy 1 164 60 61) [.LtE,.LtE] [qt 2 164 65 68,zc (qu 1 164 72 84) [qt 0 164 85 89,qt 1 164 91 96] 164 72 97] 164 60 97] 164 11 98)) 164 4 98],272,[]⟩
def f_month_number:FI:=⟨⟨[sO "text",sO "names"],[31,18]⟩,1,[
 zq [qt 1 166 4 9] (zo 6 (zc (qu 0 166 13 23) [qt 0 166 24 28] 166 13 29) (qt 0 166 34 38) (qu 0 166 42 48) [] 166 12 49) 166 4 49,
 zr (some (zk (zh (zc (qu 1 167 48 58) [qt 0 167 59 63] 167 48 64) [.In] [qt 1 167 68 73] 167 48 73) (zg (zd (qt 1 167 11 16) 10 (P3 167 11 22) [zc (qu 1 167 23 33) [qt 0 167 34 38] 167 23 39] 167 11 40) .Add (qy 1 167 43 44) 167 11 44) (qy 0 167 79 80) 167 11 80)) 167 4 80],277,[]⟩
def f_padded:FI:=⟨⟨[sO "number",sO "width",sO "figures"],[32,6]⟩,2,[
 zq [qt 2 169 4 11] (zc (qu 0 169 14 17) [qt 0 169 18 24] 169 14 25) 169 4 25,
 zr (some (zg (zg (qz 30 170 11 14) .Mult (zg (qt 1 170 18 23) .Sub (zc (qu 1 170 26 29) [qt 2 170 30 37] 170 26 38) 170 18 38) 170 11 39) .Add (qt 2 170 42 49) 170 11 49)) 170 4 49],284,[]⟩
def f_is_figures:FI:=⟨⟨[sO "text"],[]⟩,1,[
 zr (some (zi .And [zh (qt 0 172 11 15) [.NotEq] [qz 0 172 19 21] 172 11 21,zh (zo 7 (qt 0 172 27 31) (qt 0 172 36 40) (qt 0 172 44 48) [zj .Not (zh (qz 30 172 56 59) [.LtE,.LtE] [qt 0 172 63 67,qz 31 172 71 74] 172 56 74) 172 52 74] 172 26 75) [.Eq] [zm [] 172 79 81] 172 26 81] 172 11 81)) 172 4 81],289,[]⟩
def f_day_text:FI:=⟨⟨[sO "year",sO "month",sO "day"],[32,31,33]⟩,3,[
 zr (some (zg (zg (zg (zg (zc (qu 0 174 11 14) [qt 2 174 15 18] 174 11 19) .Add (qz 32 174 22 25) 174 11 25) .Add (ze (qu 1 174 28 34) (zg (qt 1 174 35 40) .Sub (qy 1 174 43 44) 174 35 44) 174 28 45) 174 11 45) .Add (qz 32 174 48 51) 174 11 51) .Add (zc (qu 2 174 54 60) [qt 0 174 61 65,qy 4 174 67 68] 174 54 69) 174 11 69)) 174 4 69],296,[]⟩
def f_day_in:FI:=⟨⟨[sO "text",sO "at",sO "end",sO "parts",sO "found"],[6,34,7,35,36,37]⟩,3,[
 zq [qt 3 176 4 9] (zd (ze (qt 0 176 12 16) (zf (some (qt 1 176 17 19)) (some (qt 2 176 20 23)) none 176 17 23) 176 12 24) 4 (P3 176 12 30) [qz 32 176 31 34] 176 12 35) 176 4 35,
 .iff (zi .Or [zh (zc (qu 0 177 7 10) [qt 3 177 11 16] 177 7 17) [.NotEq] [qy 3 177 21 22] 177 7 22,zj .Not (zc (qu 1 177 30 40) [ze (qt 3 177 41 46) (qy 0 177 47 48) 177 41 49] 177 30 50) 177 26 50,zj .Not (zc (qu 1 177 59 69) [ze (qt 3 177 70 75) (qy 2 177 76 77) 177 70 78] 177 59 79) 177 55 79,zh (zc (qu 0 177 85 88) [ze (qt 3 177 89 94) (qy 0 177 95 96) 177 89 97] 177 85 98) [.Gt] [qy 2 177 101 102] 177 85 102,zh (zc (qu 0 177 108 111) [ze (qt 3 177 112 117) (qy 2 177 118 119) 177 112 120] 177 108 121) [.NotEq] [qy 4 177 125 126] 177 108 126] 177 7 127) [zs (zc (qu 2 178 14 23) [qz 33 178 24 42,qt 1 178 44 46] 178 14 47) 178 8 47] [] (P4 177 4 178 47),
 zq [qt 4 179 4 9] (zl [zc (qu 3 179 13 16) [ze (qt 3 179 17 22) (qy 2 179 23 24) 179 17 25] 179 13 26,zc (qu 4 179 28 40) [ze (qt 3 179 41 46) (qy 1 179 47 48) 179 41 49] 179 28 50,zc (qu 3 179 52 55) [ze (qt 3 179 56 61) (qy 0 179 62 63) 179 56 64] 179 52 65] 0 179 12 66) 179 4 66,
 .iff (zj .Not (zc (qu 5 180 11 17) [ze (qt 4 180 18 23) (qy 0 180 24 25) 180 18 26,ze (qt 4 180 28 33) (qy 1 180 34 35) 180 28 36,ze (qt 4 180 38 43) (qy 2 180 44 45) 180 38 46] 180 11 47) 180 7 47) [zs (zc (qu 2 181 14 23) [qz 34 181 24 46,qt 1 181 48 50] 181 14 51) 181 8 51] [] (P4 180 4 181 51),
 zr (some (qt 4 182 11 16)) 182 4 16],303,[]⟩
def f_read_day:FI:=⟨⟨[sO "text"],[38,6]⟩,1,[
 zr (some (zc (qu 0 184 11 17) [qt 0 184 18 22,qy 0 184 24 25,zc (qu 1 184 27 30) [qt 0 184 31 35] 184 27 36] 184 11 37)) 184 4 37],310,[]⟩
def f_write_day:FI:=⟨⟨[sO "day"],[37,7,39]⟩,1,[
 .iff (zj .Not (zc (qu 0 186 11 17) [ze (qt 0 186 18 21) (qy 0 186 22 23) 186 18 24,ze (qt 0 186 26 29) (qy 1 186 30 31) 186 26 32,ze (qt 0 186 34 37) (qy 2 186 38 39) 186 34 40] 186 11 41) 186 7 41) [zs (zc (qu 1 187 14 23) [qz 34 187 24 46] 187 14 47) 187 8 47] [] (P4 186 4 187 47),
 zr (some (zc (qu 2 188 11 19) [ze (qt 0 188 20 23) (qy 0 188 24 25) 188 20 26,ze (qt 0 188 28 31) (qy 1 188 32 33) 188 28 34,ze (qt 0 188 36 39) (qy 2 188 40 41) 188 36 42] 188 11 43)) 188 4 43],317,[]⟩
def f_read_end:FI:=⟨⟨[sO "text",sO "at",sO "end",sO "number"],[6,40,4,41,42]⟩,2,[
 .iff (zi .And [zh (qt 1 192 7 9) [.Lt] [zc (qu 0 192 12 15) [qt 0 192 16 20] 192 12 21] 192 7 21,zh (ze (qt 0 192 26 30) (qt 1 192 31 33) 192 26 34) [.Eq] [qz 35 192 38 41] 192 26 41] 192 7 41) [zr (some (zl [qy 0 193 16 17,zg (qt 1 193 19 21) .Add (qy 1 193 24 25) 193 19 25] 0 193 15 26)) 193 8 26] [] (P4 192 4 193 26),
 zq [qt 2 194 4 7] (qt 1 194 10 12) 194 4 12,
 zq [qt 3 195 4 10] (qy 0 195 13 14) 195 4 14,
 .whl (zi .And [zh (qt 2 196 10 13) [.Lt] [zc (qu 0 196 16 19) [qt 0 196 20 24] 196 16 25] 196 10 25,zh (qz 30 196 30 33) [.LtE,.LtE] [ze (qt 0 196 37 41) (qt 2 196 42 45) 196 37 46,qz 31 196 50 53] 196 30 53] 196 10 53) [zq [qt 3 197 8 14] (zc (qu 1 197 17 20) [zg (zg (zg (qt 3 197 21 27) .Mult (qy 10 197 30 32) 197 21 32) .Add (zc (qu 2 197 35 38) [ze (qt 0 197 39 43) (qt 2 197 44 47) 197 39 48] 197 35 49) 197 21 49) .Sub (qy 48 197 52 54) 197 21 54,zg (qu 3 197 56 60) .Add (qy 1 197 63 64) 197 56 64] 197 17 65) 197 8 65,.aug 2 (P3 198 8 11) .Add (qy 1 198 15 16) (P3 198 8 16)] (P4 196 4 198 16),
 .iff (zh (qt 2 199 7 10) [.Eq] [qt 1 199 14 16] 199 7 16) [zs (zc (qu 4 200 14 22) [qz 36 200 23 53,qt 1 200 55 57] 200 14 58) 200 8 58] [] (P4 199 4 200 58),
 .iff (zh (ze (qt 0 201 7 11) (qt 1 201 12 14) 201 7 15) [.Eq] [qz 30 201 19 22] 201 7 22) [zs (zc (qu 4 202 14 22) [qz 37 202 23 54,qt 1 202 56 58] 202 14 59) 202 8 59] [] (P4 201 4 202 59),
 .iff (zh (qt 3 203 7 13) [.Gt] [qu 3 203 16 20] 203 7 20) [zs (zc (qu 4 204 14 22) [qz 38 204 23 46,qt 1 204 48 50] 204 14 51) 204 8 51] [] (P4 203 4 204 51),
 zr (some (zl [qt 3 205 12 18,qt 2 205 20 23] 0 205 11 24)) 205 4 24],324,[]⟩
def f_read_set:FI:=⟨⟨[sO "text",sO "some",sO "at",sO "low",sO "high"],[43,6,44,42]⟩,1,[
 zq [qt 1 207 4 8] (zm [] 207 11 13) 207 4 13,
 zq [qt 2 208 4 6] (qy 0 208 9 10) 208 4 10,
 .whl (qx true 209 10 14) [zq [zl [qt 3 210 8 11,qt 2 210 13 15] 0 210 8 15] (zc (qu 0 210 18 26) [qt 0 210 27 31,qt 2 210 33 35] 210 18 36) 210 8 36,zq [qt 4 211 8 12] (qt 3 211 15 18) 211 8 18,.iff (zi .And [zh (qt 2 212 11 13) [.Lt] [zc (qu 1 212 16 19) [qt 0 212 20 24] 212 16 25] 212 11 25,zh (ze (qt 0 212 30 34) (qt 2 212 35 37) 212 30 38) [.Eq] [qz 39 212 42 45] 212 30 45] 212 11 45) [zq [zl [qt 4 213 12 16,qt 2 213 18 20] 0 213 12 20] (zc (qu 0 213 23 31) [qt 0 213 32 36,zg (qt 2 213 38 40) .Add (qy 1 213 43 44) 213 38 44] 213 23 45) 213 12 45] [] (P4 212 8 213 45),zp (zd (qt 1 214 8 12) 8 (P3 214 8 19) [zl [qt 3 214 21 24,qt 4 214 26 30] 0 214 20 31] 214 8 32) 214 8 32,.iff (zh (qt 2 215 11 13) [.Eq] [zc (qu 1 215 17 20) [qt 0 215 21 25] 215 17 26] 215 11 26) [zr (some (zc (qu 2 216 19 24) [qt 1 216 25 29] 216 19 30)) 216 12 30] [] (P4 215 8 216 30),.iff (zh (ze (qt 0 217 11 15) (qt 2 217 16 18) 217 11 19) [.NotEq] [qz 40 217 23 26] 217 11 26) [zs (zc (qu 3 218 18 26) [qz 41 218 27 46,qt 2 218 48 50] 218 18 51) 218 12 51] [] (P4 217 8 218 51),.aug 2 (P3 219 8 10) .Add (qy 1 219 14 15) (P3 219 8 15)] (P4 209 4 219 15)],331,[]⟩
def f_show_end:FI:=⟨⟨[sO "number"],[32]⟩,1,[
 .iff (zh (qt 0 221 7 13) [.Eq] [qy 0 221 17 18] 221 7 18) [zr (some (qz 35 222 15 18)) 222 8 18] [] (P4 221 4 222 18),
 zr (some (zc (qu 0 223 11 14) [qt 0 223 15 21] 223 11 22)) 223 4 22],338,[]⟩
def f_show_pair:FI:=⟨⟨[sO "pair"],[45]⟩,1,[
 .iff (zh (ze (qt 0 225 7 11) (qy 0 225 12 13) 225 7 14) [.Eq] [ze (qt 0 225 18 22) (qy 1 225 23 24) 225 18 25] 225 7 25) [zr (some (zc (qu 0 226 15 23) [ze (qt 0 226 24 28) (qy 0 226 29 30) 226 24 31] 226 15 32)) 226 8 32] [] (P4 225 4 226 32),
 zr (some (zg (zg (zc (qu 0 227 11 19) [ze (qt 0 227 20 24) (qy 0 227 25 26) 227 20 27] 227 11 28) .Add (qz 39 227 31 34) 227 11 34) .Add (zc (qu 0 227 37 45) [ze (qt 0 227 46 50) (qy 1 227 51 52) 227 46 53] 227 37 54) 227 11 54)) 227 4 54],345,[]⟩
def f_show_set:FI:=⟨⟨[sO "some"],[]⟩,1,[
 zr (some (zd (qz 40 229 11 14) 3 (P3 229 11 19) [zo 8 (zc (qu 0 229 21 30) [qt 0 229 31 35] 229 21 36) (qt 0 229 41 45) (qt 0 229 49 53) [] 229 20 54] 229 11 55)) 229 4 55],350,[]⟩
def f_Atom_init:FI:=⟨⟨[sO "self",sO "text"],[]⟩,2,[
 zq [zb (qt 0 242 8 12) 11 242 8 17] (qt 1 242 20 24) 242 8 24],364,[]⟩
def f_Atom_told:FI:=⟨⟨[sO "self"],[]⟩,1,[
 zr (some (zl [qz 42 245 16 22,zb (qt 0 245 24 28) 11 245 24 33] 0 245 15 34)) 245 8 34],371,[]⟩
def f_is_printable:FI:=⟨⟨[sO "code"],[]⟩,1,[
 zr (some (zh (qy 33 247 11 13) [.LtE,.LtE] [qt 0 247 17 21,qy 126 247 25 28] 247 11 28)) 247 4 28],385,[]⟩
def f_is_atom_code:FI:=⟨⟨[sO "code"],[47,48]⟩,1,[
 zr (some (zi .And [zc (qu 0 249 11 23) [qt 0 249 24 28] 249 11 29,zh (qt 0 249 34 38) [.NotIn] [qu 1 249 46 54] 249 34 54] 249 11 54)) 249 4 54],392,[]⟩
def f_is_astring_code:FI:=⟨⟨[sO "code"],[49]⟩,1,[
 zr (some (zi .Or [zc (qu 0 251 11 23) [qt 0 251 24 28] 251 11 29,zh (qt 0 251 33 37) [.Eq] [qy 93 251 41 43] 251 33 43] 251 11 43)) 251 4 43],399,[]⟩
def f_is_value_code:FI:=⟨⟨[sO "code"],[47,50]⟩,1,[
 zr (some (zi .And [zc (qu 0 253 11 23) [qt 0 253 24 28] 253 11 29,zh (qt 0 253 34 38) [.NotIn] [qu 1 253 46 60] 253 34 60] 253 11 60)) 253 4 60],406,[]⟩
def f_is_set_code:FI:=⟨⟨[sO "code"],[]⟩,1,[
 zr (some (zi .Or [zh (qy 48 255 11 13) [.LtE,.LtE] [qt 0 255 17 21,qy 57 255 25 27] 255 11 27,zh (qt 0 255 31 35) [.In] [za [58,44,42] 255 39 45] 255 31 45] 255 11 45)) 255 4 45],413,[]⟩
def f_is_figure:FI:=⟨⟨[sO "code"],[]⟩,1,[
 zr (some (zh (qy 48 257 11 13) [.LtE,.LtE] [qt 0 257 17 21,qy 57 257 25 27] 257 11 27)) 257 4 27],420,[]⟩
def f_number_of_figures:FI:=⟨⟨[sO "octets",sO "number",sO "code"],[]⟩,1,[
 zq [qt 1 259 4 10] (qy 0 259 13 14) 259 4 14,
 .fre (qt 2 260 8 12) (qt 0 260 16 22) [zq [qt 1 261 8 14] (zg (zg (zg (qt 1 261 17 23) .Mult (qy 10 261 26 28) 261 17 28) .Add (qt 2 261 31 35) 261 17 35) .Sub (qy 48 261 38 40) 261 17 40) 261 8 40] (P4 260 4 261 40),
 zr (some (qt 1 262 11 17)) 262 4 17],427,[]⟩
def f_figures_of:FI:=⟨⟨[sO "number"],[51,52,32]⟩,1,[
 .iff (zh (qt 0 264 7 13) [.Lt] [qy 0 264 16 17] 264 7 17) [zs (zc (qu 0 265 14 23) [qz 43 265 24 42] 265 14 43) 265 8 43] [] (P4 264 4 265 43),
 zr (some (zc (qu 1 266 11 22) [zc (qu 2 266 23 26) [qt 0 266 27 33] 266 23 34] 266 11 35)) 266 4 35],434,[]⟩
def f_Wire_init:FI:=⟨⟨[sO "self",sO "data",sO "at"],[]⟩,3,[
 zq [zb (qt 0 270 8 12) 12 270 8 17] (qt 1 270 20 24) 270 8 24,
 zq [zb (qt 0 271 8 12) 2 271 8 15] (qt 2 271 18 20) 271 8 20],449,[.it 0]⟩
def f_Wire_fault:FI:=⟨⟨[sO "self",sO "what"],[51]⟩,2,[
 zr (some (zc (qu 0 274 15 24) [qt 1 274 25 29,zb (qt 0 274 31 35) 2 274 31 38] 274 15 39)) 274 8 39],456,[]⟩
def f_Wire_peek:FI:=⟨⟨[sO "self"],[6]⟩,1,[
 zr (some (zk (zh (zb (qt 0 277 37 41) 2 277 37 44) [.Lt] [zc (qu 0 277 47 50) [zb (qt 0 277 51 55) 12 277 51 60] 277 47 61] 277 37 61) (ze (zb (qt 0 277 15 19) 12 277 15 24) (zb (qt 0 277 25 29) 2 277 25 32) 277 15 33) (zj .USub (qy 1 277 68 69) 277 67 69) 277 15 69)) 277 8 69],463,[]⟩
def f_Wire_skip:FI:=⟨⟨[sO "self",sO "octets"],[6]⟩,2,[
 .iff (zh (ze (zb (qt 0 280 11 15) 12 280 11 20) (zf (some (zb (qt 0 280 21 25) 2 280 21 28)) (some (zg (zb (qt 0 280 29 33) 2 280 29 36) .Add (zc (qu 0 280 39 42) [qt 1 280 43 49] 280 39 50) 280 29 50)) none 280 21 50) 280 11 51) [.NotEq] [qt 1 280 55 61] 280 11 61) [zr (some (qx false 281 19 24)) 281 12 24] [] (P4 280 8 281 24),
 zq [zb (qt 0 282 8 12) 2 282 8 15] (zg (zb (qt 0 282 18 22) 2 282 18 25) .Add (zc (qu 0 282 28 31) [qt 1 282 32 38] 282 28 39) 282 18 39) 282 8 39,
 zr (some (qx true 283 15 19)) 283 8 19],470,[]⟩
def f_Wire_need:FI:=⟨⟨[sO "self",sO "octets",sO "what"],[]⟩,3,[
 .iff (zj .Not (zd (qt 0 286 15 19) 13 (P3 286 15 24) [qt 1 286 25 31] 286 15 32) 286 11 32) [zs (zd (qt 0 287 18 22) 14 (P3 287 18 28) [qt 2 287 29 33] 287 18 34) 287 12 34] [] (P4 286 8 287 34)],477,[]⟩
def f_Wire_space:FI:=⟨⟨[sO "self"],[]⟩,1,[
 zp (zd (qt 0 290 8 12) 15 (P3 290 8 17) [za [32] 290 18 22,qz 44 290 24 44] 290 8 45) 290 8 45],484,[]⟩
def f_Wire_done:FI:=⟨⟨[sO "self"],[53,6]⟩,1,[
 zp (zd (qt 0 293 8 12) 13 (P3 293 8 17) [qu 0 293 18 22] 293 8 23) 293 8 23,
 .iff (zh (zb (qt 0 294 11 15) 2 294 11 18) [.NotEq] [zc (qu 1 294 22 25) [zb (qt 0 294 26 30) 12 294 26 35] 294 22 36] 294 11 36) [zs (zd (qt 0 295 18 22) 14 (P3 295 18 28) [qz 45 295 29 54] 295 18 55) 295 12 55] [] (P4 294 8 295 55)],491,[]⟩
def f_Wire_run:FI:=⟨⟨[sO "self",sO "fits",sO "first"],[6]⟩,2,[
 zq [qt 2 298 8 13] (zb (qt 0 298 16 20) 2 298 16 23) 298 8 23,
 .whl (zi .And [zh (zb (qt 0 299 14 18) 2 299 14 21) [.Lt] [zc (qu 0 299 24 27) [zb (qt 0 299 28 32) 12 299 28 37] 299 24 38] 299 14 38,zc (qt 1 299 43 47) [ze (zb (qt 0 299 48 52) 12 299 48 57) (zb (qt 0 299 58 62) 2 299 58 65) 299 48 66] 299 43 67] 299 14 67) [zq [zb (qt 0 300 12 16) 2 300 12 19] (zg (zb (qt 0 300 22 26) 2 300 22 29) .Add (qy 1 300 32 33) 300 22 33) 300 12 33] (P4 299 8 300 33),
 zr (some (ze (zb (qt 0 301 15 19) 12 301 15 24) (zf (some (qt 2 301 25 30)) (some (zb (qt 0 301 31 35) 2 301 31 38)) none 301 25 38) 301 15 39)) 301 8 39],498,[]⟩
def f_Wire_word_of:FI:=⟨⟨[sO "self",sO "fits",sO "what",sO "octets"],[6,54]⟩,3,[
 zq [qt 3 304 8 14] (zd (qt 0 304 17 21) 16 (P3 304 17 25) [qt 1 304 26 30] 304 17 31) 304 8 31,
 .iff (zh (zc (qu 0 305 11 14) [qt 3 305 15 21] 305 11 22) [.Eq] [qy 0 305 26 27] 305 11 27) [zs (zd (qt 0 306 18 22) 14 (P3 306 18 28) [qt 2 306 29 33] 306 18 34) 306 12 34] [] (P4 305 8 306 34),
 zr (some (zc (qu 1 307 15 25) [qt 3 307 26 32] 307 15 33)) 307 8 33],505,[]⟩
def f_Wire_atom:FI:=⟨⟨[sO "self"],[49]⟩,1,[
 zr (some (zd (qt 0 310 15 19) 17 (P3 310 15 27) [qu 0 310 28 40,qz 46 310 42 62] 310 15 63)) 310 8 63],512,[]⟩
def f_Wire_word:FI:=⟨⟨[sO "self"],[55]⟩,1,[
 zr (some (zc (qu 0 313 15 25) [zd (qt 0 313 26 30) 18 (P3 313 26 35) [] 313 26 37] 313 15 38)) 313 8 38],519,[]⟩
def zz:FI:=⟨⟨[sO "self",sO "text",sO "octets"],[52,56,6]⟩,2,[
 zq [qt 2 316 8 14] (zg (zc (qu 0 316 17 28) [qt 1 316 29 33] 316 17 34) .Add (za [32] 316 37 41) 316 17 41) 316 8 41,
 .iff (zh (zc (qu 1 317 11 16) [ze (zb (qt 0 317 17 21) 12 317 17 26) (zf (some (zb (qt 0 317 27 31) 2 317 27 34)) (some (zg (zb (qt 0 317 35 39) 2 317 35 42) .Add (zc (qu 2 317 45 48) [qt 2 317 49 55] 317 45 56) 317 35 56)) none 317 27 56) 317 17 57] 317 11 58) [.NotEq] [zc (qu 1 317 62 67) [qt 2 317 68 74] 317 62 75] 317 11 75) [zr (some (qx false 318 19 24)) 318 12 24] [] (P4 317 8 318 24),
 zq [zb (qt 0 319 8 12) 2 319 8 15] (zg (zb (qt 0 319 18 22) 2 319 18 25) .Add (zc (qu 2 319 28 31) [qt 2 319 32 38] 319 28 39) 319 18 39) 319 8 39,
 zr (some (qx true 320 15 19)) 320 8 19],526,[]⟩
def f_Wire_set_text:FI:=⟨⟨[sO "self"],[57]⟩,1,[
 zr (some (zd (qt 0 323 15 19) 17 (P3 323 15 27) [qu 0 323 28 39,qz 47 323 41 70] 323 15 71)) 323 8 71],533,[]⟩
def f_Wire_flag:FI:=⟨⟨[sO "self",sO "ahead"],[]⟩,1,[
 zq [qt 1 326 8 13] (zk (zd (qt 0 326 24 28) 13 (P3 326 24 33) [za [92] 326 34 39] 326 24 40) (qz 48 326 16 20) (qz 0 326 46 48) 326 16 48) 326 8 48,
 zr (some (zg (qt 1 327 15 20) .Add (zd (qt 0 327 23 27) 18 (P3 327 23 32) [] 327 23 34) 327 15 34)) 327 8 34],540,[]⟩
def f_Wire_number:FI:=⟨⟨[sO "self",sO "first",sO "octets"],[58,6,59,51,60]⟩,1,[
 zq [qt 1 330 8 13] (zb (qt 0 330 16 20) 2 330 16 23) 330 8 23,
 zq [qt 2 331 8 14] (zd (qt 0 331 17 21) 16 (P3 331 17 25) [qu 0 331 26 35] 331 17 36) 331 8 36,
 .iff (zi .Or [zh (zc (qu 1 332 11 14) [qt 2 332 15 21] 332 11 22) [.Eq] [qy 0 332 26 27] 332 11 27,zh (zc (qu 1 332 31 34) [qt 2 332 35 41] 332 31 42) [.Gt] [qu 2 332 45 57] 332 31 57] 332 11 57) [zs (zc (qu 3 333 18 27) [qz 49 333 28 39,qt 1 333 41 46] 333 18 47) 333 12 47] [] (P4 332 8 333 47),
 zr (some (zc (qu 4 334 15 32) [qt 2 334 33 39] 334 15 40)) 334 8 40],547,[]⟩
def f_Wire_quoted:FI:=⟨⟨[sO "self",sO "found"],[61,62,63,53,1]⟩,1,[
 zp (zd (qt 0 337 8 12) 15 (P3 337 8 17) [za [34] 337 18 22,qz 50 337 24 44] 337 8 45) 337 8 45,
 zq [qt 1 338 8 13] (zc (qu 0 338 16 25) [] 338 16 27) 338 8 27,
 .whl (zh (zd (qt 0 339 14 18) 19 (P3 339 14 23) [] 339 14 25) [.NotEq] [qu 1 339 29 39] 339 14 39) [.iff (zh (zd (qt 0 340 15 19) 19 (P3 340 15 24) [] 340 15 26) [.Eq] [qu 2 340 30 39] 340 15 39) [zq [zb (qt 0 341 16 20) 2 341 16 23] (zg (zb (qt 0 341 26 30) 2 341 26 33) .Add (qy 1 341 36 37) 341 26 37) 341 16 37,.iff (zi .And [zh (zd (qt 0 342 19 23) 19 (P3 342 19 28) [] 342 19 30) [.NotEq] [qu 1 342 34 44] 342 19 44,zh (zd (qt 0 342 49 53) 19 (P3 342 49 58) [] 342 49 60) [.NotEq] [qu 2 342 64 73] 342 49 73] 342 19 73) [zs (zd (qt 0 343 26 30) 14 (P3 343 26 36) [qz 51 343 37 72] 343 26 73) 343 20 73] [] (P4 342 16 343 73)] [] (P4 340 12 343 73),.iff (zi .Or [zh (zd (qt 0 344 15 19) 19 (P3 344 15 24) [] 344 15 26) [.Lt] [qy 1 344 29 30] 344 15 30,zh (zd (qt 0 344 34 38) 19 (P3 344 34 43) [] 344 34 45) [.Gt] [qy 127 344 48 51] 344 34 51,zh (zd (qt 0 344 55 59) 19 (P3 344 55 64) [] 344 55 66) [.In] [qu 3 344 70 74] 344 55 74] 344 15 74) [zs (zd (qt 0 345 22 26) 14 (P3 345 22 32) [qz 52 345 33 62] 345 22 63) 345 16 63] [] (P4 344 12 345 63),zp (zd (qt 1 346 12 17) 8 (P3 346 12 24) [zd (qt 0 346 25 29) 19 (P3 346 25 34) [] 346 25 36] 346 12 37) 346 12 37,zq [zb (qt 0 347 12 16) 2 347 12 19] (zg (zb (qt 0 347 22 26) 2 347 22 29) .Add (qy 1 347 32 33) 347 22 33) 347 12 33] (P4 339 8 347 33),
 zq [zb (qt 0 348 8 12) 2 348 8 15] (zg (zb (qt 0 348 18 22) 2 348 18 25) .Add (qy 1 348 28 29) 348 18 29) 348 8 29,
 zr (some (zc (qu 4 349 15 20) [qt 1 349 21 26] 349 15 27)) 349 8 27],554,[]⟩
def f_Wire_literal:FI:=⟨⟨[sO "self",sO "octets",sO "end",sO "found"],[58,6,64,53,60,1]⟩,1,[
 zp (zd (qt 0 352 8 12) 15 (P3 352 8 17) [za [123] 352 18 22,qz 53 352 24 46] 352 8 47) 352 8 47,
 zq [qt 1 353 8 14] (zd (qt 0 353 17 21) 16 (P3 353 17 25) [qu 0 353 26 35] 353 17 36) 353 8 36,
 .iff (zi .Or [zh (zc (qu 1 354 11 14) [qt 1 354 15 21] 354 11 22) [.Eq] [qy 0 354 26 27] 354 11 27,zh (zc (qu 1 354 31 34) [qt 1 354 35 41] 354 31 42) [.Gt] [qu 2 354 45 63] 354 31 63] 354 11 63) [zs (zd (qt 0 355 18 22) 14 (P3 355 18 28) [qz 54 355 29 52] 355 18 53) 355 12 53] [] (P4 354 8 355 53),
 zp (zd (qt 0 356 8 12) 13 (P3 356 8 17) [za [43] 356 18 22] 356 8 23) 356 8 23,
 zp (zd (qt 0 357 8 12) 15 (P3 357 8 17) [zg (za [125] 357 18 22) .Add (qu 3 357 25 29) 357 18 29,qz 55 357 31 53] 357 8 54) 357 8 54,
 zq [qt 2 358 8 11] (zg (zb (qt 0 358 14 18) 2 358 14 21) .Add (zc (qu 4 358 24 41) [qt 1 358 42 48] 358 24 49) 358 14 49) 358 8 49,
 .iff (zh (qt 2 359 11 14) [.Gt] [zc (qu 1 359 17 20) [zb (qt 0 359 21 25) 12 359 21 30] 359 17 31] 359 11 31) [zs (zd (qt 0 360 18 22) 14 (P3 360 18 28) [qz 56 360 29 62] 360 18 63) 360 12 63] [] (P4 359 8 360 63),
 zq [qt 3 361 8 13] (ze (zb (qt 0 361 16 20) 12 361 16 25) (zf (some (zb (qt 0 361 26 30) 2 361 26 33)) (some (qt 2 361 34 37)) none 361 26 37) 361 16 38) 361 8 38,
 zq [zb (qt 0 362 8 12) 2 362 8 15] (qt 2 362 18 21) 362 8 21,
 zr (some (zc (qu 5 363 15 20) [qt 3 363 21 26] 363 15 27)) 363 8 27],561,[]⟩
def f_Wire_string:FI:=⟨⟨[sO "self"],[]⟩,1,[
 zr (some (zk (zh (zd (qt 0 366 33 37) 19 (P3 366 33 42) [] 366 33 44) [.Eq] [qy 123 366 48 51] 366 33 51) (zd (qt 0 366 15 19) 20 (P3 366 15 27) [] 366 15 29) (zd (qt 0 366 57 61) 21 (P3 366 57 68) [] 366 57 70) 366 15 70)) 366 8 70],568,[]⟩
def f_Wire_string_or:FI:=⟨⟨[sO "self",sO "fits",sO "octets"],[62,6,1]⟩,2,[
 .iff (zi .Or [zh (zd (qt 0 369 11 15) 19 (P3 369 11 20) [] 369 11 22) [.Eq] [qu 0 369 26 36] 369 11 36,zh (zd (qt 0 369 40 44) 19 (P3 369 40 49) [] 369 40 51) [.Eq] [qy 123 369 55 58] 369 40 58] 369 11 58) [zr (some (zd (qt 0 370 19 23) 22 (P3 370 19 30) [] 370 19 32)) 370 12 32] [] (P4 369 8 370 32),
 zq [qt 2 371 8 14] (zd (qt 0 371 17 21) 16 (P3 371 17 25) [qt 1 371 26 30] 371 17 31) 371 8 31,
 .iff (zh (zc (qu 1 372 11 14) [qt 2 372 15 21] 372 11 22) [.Eq] [qy 0 372 26 27] 372 11 27) [zs (zd (qt 0 373 18 22) 14 (P3 373 18 28) [qz 57 373 29 50] 373 18 51) 373 12 51] [] (P4 372 8 373 51),
 zr (some (zc (qu 2 374 15 20) [qt 2 374 21 27] 374 15 28)) 374 8 28],575,[]⟩
def f_Wire_astring:FI:=⟨⟨[sO "self"],[65]⟩,1,[
 zr (some (zd (qt 0 377 15 19) 23 (P3 377 15 29) [qu 0 377 30 45] 377 15 46)) 377 8 46],582,[]⟩
def f_Wire_pattern:FI:=⟨⟨[sO "self"],[66]⟩,1,[
 zp (zc (qu 0 380 8 13) [qy 0 380 14 15] 380 8 16) 380 8 16],589,[]⟩
def f_Wire_nstring:FI:=⟨⟨[sO "self"],[66]⟩,1,[
 zp (zc (qu 0 383 8 13) [qy 1 383 14 15] 383 8 16) 383 8 16],596,[]⟩
def ga:FI:=⟨⟨[sO "self",sO "read",sO "found"],[]⟩,2,[
 zp (zd (qt 0 386 8 12) 15 (P3 386 8 17) [za [40] 386 18 22,qz 58 386 24 43] 386 8 44) 386 8 44,
 zq [qt 2 387 8 13] (zm [] 387 16 18) 387 8 18,
 .iff (zd (qt 0 388 11 15) 13 (P3 388 11 20) [za [41] 388 21 25] 388 11 26) [zr (some (qt 2 389 19 24)) 389 12 24] [] (P4 388 8 389 24),
 zp (zd (qt 2 390 8 13) 8 (P3 390 8 20) [zc (qt 1 390 21 25) [] 390 21 27] 390 8 28) 390 8 28,
 .whl (zj .Not (zd (qt 0 391 18 22) 13 (P3 391 18 27) [za [41] 391 28 32] 391 18 33) 391 14 33) [zp (zd (qt 0 392 12 16) 24 (P3 392 12 22) [] 392 12 24) 392 12 24,zp (zd (qt 2 393 12 17) 8 (P3 393 12 24) [zc (qt 1 393 25 29) [] 393 25 31] 393 12 32) 393 12 32] (P4 391 8 393 32),
 zr (some (qt 2 394 15 20)) 394 8 20],603,[]⟩
def f_Wire_plain_value:FI:=⟨⟨[sO "self",sO "first",sO "octets"],[67,6,56,68,59,51,60,69,54]⟩,1,[
 zq [qt 1 397 8 13] (zb (qt 0 397 16 20) 2 397 16 23) 397 8 23,
 zq [qt 2 398 8 14] (zd (qt 0 398 17 21) 16 (P3 398 17 25) [qu 0 398 26 39] 398 17 40) 398 8 40,
 .iff (zh (zc (qu 1 399 11 14) [qt 2 399 15 21] 399 11 22) [.Eq] [qy 0 399 26 27] 399 11 27) [zs (zd (qt 0 400 18 22) 14 (P3 400 18 28) [qz 59 400 29 49] 400 18 50) 400 12 50] [] (P4 399 8 400 50),
 .iff (zh (zc (qu 2 401 11 16) [qt 2 401 17 23] 401 11 24) [.Eq] [za [110,105,108] 401 28 34] 401 11 34) [zr (some (qw 402 19 23)) 402 12 23] [] (P4 401 8 402 23),
 .iff (zc (qu 3 403 11 14) [zo 9 (zc (qu 0 403 16 25) [qt 0 403 26 30] 403 16 31) (qt 0 403 36 40) (qt 2 403 44 50) [] 403 15 51] 403 11 52) [.iff (zh (zc (qu 1 404 15 18) [qt 2 404 19 25] 404 15 26) [.Gt] [qu 4 404 29 41] 404 15 41) [zs (zc (qu 5 405 22 31) [qz 49 405 32 43,qt 1 405 45 50] 405 22 51) 405 16 51] [] (P4 404 12 405 51),zr (some (zc (qu 6 406 19 36) [qt 2 406 37 43] 406 19 44)) 406 12 44] [] (P4 403 8 406 44),
 zr (some (zc (qu 7 407 15 19) [zc (qu 8 407 20 30) [qt 2 407 31 37] 407 20 38] 407 15 39)) 407 8 39],608,[]⟩
def f_Wire_value:FI:=⟨⟨[sO "self",sO "depth",sO "found"],[62,70,6]⟩,2,[
 .iff (zi .Or [zh (zd (qt 0 410 11 15) 19 (P3 410 11 20) [] 410 11 22) [.Eq] [qu 0 410 26 36] 410 11 36,zh (zd (qt 0 410 40 44) 19 (P3 410 40 49) [] 410 40 51) [.Eq] [qy 123 410 55 58] 410 40 58] 410 11 58) [zr (some (zd (qt 0 411 19 23) 22 (P3 411 19 30) [] 411 19 32)) 411 12 32] [] (P4 410 8 411 32),
 .iff (zh (zd (qt 0 412 11 15) 19 (P3 412 11 20) [] 412 11 22) [.NotEq] [qy 40 412 26 28] 412 11 28) [zr (some (zd (qt 0 413 19 23) 25 (P3 413 19 35) [] 413 19 37)) 413 12 37] [] (P4 412 8 413 37),
 .iff (zh (qt 1 414 11 16) [.Eq] [qu 1 414 20 35] 414 11 35) [zs (zd (qt 0 415 18 22) 14 (P3 415 18 28) [qz 60 415 29 50] 415 18 51) 415 12 51] [] (P4 414 8 415 51),
 zp (zd (qt 0 416 8 12) 13 (P3 416 8 17) [za [40] 416 18 22] 416 8 23) 416 8 23,
 zq [qt 2 417 8 13] (zm [] 417 16 18) 417 8 18,
 .whl (zj .Not (zd (qt 0 418 18 22) 13 (P3 418 18 27) [za [41] 418 28 32] 418 18 33) 418 14 33) [.iff (zh (zc (qu 2 419 15 18) [qt 2 419 19 24] 419 15 25) [.Gt] [qy 0 419 28 29] 419 15 29) [zp (zd (qt 0 420 16 20) 24 (P3 420 16 26) [] 420 16 28) 420 16 28] [] (P4 419 12 420 28),zp (zd (qt 2 421 12 17) 8 (P3 421 12 24) [zd (qt 0 421 25 29) 26 (P3 421 25 35) [zg (qt 1 421 36 41) .Add (qy 1 421 44 45) 421 36 45] 421 25 46] 421 12 47) 421 12 47] (P4 418 8 421 47),
 zr (some (qt 2 422 15 20)) 422 8 20],616,[.it 0]⟩
def f_is_quotable:FI:=⟨⟨[sO "octets"],[6,71,68]⟩,1,[
 zr (some (zi .And [zh (zc (qu 0 424 11 14) [qt 0 424 15 21] 424 11 22) [.LtE] [qu 1 424 26 37] 424 11 37,zc (qu 2 424 42 45) [zo 10 (zh (qy 32 424 47 49) [.LtE,.LtE] [qt 0 424 53 57,qy 126 424 61 64] 424 47 64) (qt 0 424 69 73) (qt 0 424 77 83) [] 424 46 84] 424 42 85] 424 11 85)) 424 4 85],628,[]⟩
def f_quoted_octets:FI:=⟨⟨[sO "octets",sO "found",sO "code"],[61,62,63,1]⟩,1,[
 zq [qt 1 426 4 9] (zc (qu 0 426 12 21) [za [34] 426 22 26] 426 12 27) 426 4 27,
 .fre (qt 2 427 8 12) (qt 0 427 16 22) [.iff (zi .Or [zh (qt 2 428 11 15) [.Eq] [qu 1 428 19 29] 428 11 29,zh (qt 2 428 33 37) [.Eq] [qu 2 428 41 50] 428 33 50] 428 11 50) [zp (zd (qt 1 429 12 17) 8 (P3 429 12 24) [qu 2 429 25 34] 429 12 35) 429 12 35] [] (P4 428 8 429 35),zp (zd (qt 1 430 8 13) 8 (P3 430 8 20) [qt 2 430 21 25] 430 8 26) 430 8 26] (P4 427 4 430 26),
 zp (zd (qt 1 431 4 9) 8 (P3 431 4 16) [qu 1 431 17 27] 431 4 28) 431 4 28,
 zr (some (zc (qu 3 432 11 16) [qt 1 432 17 22] 432 11 23)) 432 4 23],635,[]⟩
def f_literal_octets:FI:=⟨⟨[sO "octets",sO "is_plus"],[72,6,53,1]⟩,2,[
 zr (some (zg (zg (zg (zg (za [123] 434 11 15) .Add (zc (qu 0 434 18 28) [zc (qu 1 434 29 32) [qt 0 434 33 39] 434 29 40] 434 18 41) 434 11 41) .Add (zk (qt 1 434 54 61) (za [43,125] 434 45 50) (za [125] 434 67 71) 434 45 71) 434 11 72) .Add (qu 2 434 75 79) 434 11 79) .Add (zc (qu 3 434 82 87) [qt 0 434 88 94] 434 82 95) 434 11 95)) 434 4 95],643,[.bo false]⟩
def f_string_octets:FI:=⟨⟨[sO "octets",sO "is_plus"],[73,74,75]⟩,2,[
 .iff (zc (qu 0 436 7 18) [qt 0 436 19 25] 436 7 26) [zr (some (zc (qu 1 437 15 28) [qt 0 437 29 35] 437 15 36)) 437 8 36] [] (P4 436 4 437 36),
 zr (some (zc (qu 2 438 11 25) [qt 0 438 26 32,qt 1 438 34 41] 438 11 42)) 438 4 42],651,[.bo false]⟩
def f_astring_octets:FI:=⟨⟨[sO "octets",sO "is_plus"],[6,71,56,68,1,76]⟩,2,[
 .iff (zi .And [zh (qy 0 440 7 8) [.Lt,.LtE] [zc (qu 0 440 11 14) [qt 0 440 15 21] 440 11 22,qu 1 440 26 37] 440 7 37,zh (zc (qu 2 440 42 47) [qt 0 440 48 54] 440 42 55) [.NotEq] [za [110,105,108] 440 59 65] 440 42 65] 440 7 65) [.iff (zc (qu 3 441 11 14) [zo 11 (zc (qu 0 441 16 31) [qt 0 441 32 36] 441 16 37) (qt 0 441 42 46) (qt 0 441 50 56) [] 441 15 57] 441 11 58) [zr (some (zc (qu 4 442 19 24) [qt 0 442 25 31] 442 19 32)) 442 12 32] [] (P4 441 8 442 32)] [] (P4 440 4 442 32),
 zr (some (zc (qu 5 443 11 24) [qt 0 443 25 31,qt 1 443 33 40] 443 11 41)) 443 4 41],657,[.bo false]⟩
def f_every_letter:FI:=⟨⟨[],[]⟩,0,[
 zr (some (zl [qz 61 456 12 17] 0 456 11 19)) 456 4 19],664,[]⟩
def f_no_letter:FI:=⟨⟨[],[]⟩,0,[
 zr (some (zl [qz 62 458 12 17,zl [qz 61 458 20 25] 0 458 19 27] 0 458 11 28)) 458 4 28],671,[]⟩
def f_is_letter_code:FI:=⟨⟨[sO "code"],[]⟩,1,[
 zr (some (zi .Or [zh (qy 65 460 11 13) [.LtE,.LtE] [qt 0 460 17 21,qy 90 460 25 27] 460 11 27,zh (qy 97 460 31 33) [.LtE,.LtE] [qt 0 460 37 41,qy 122 460 45 48] 460 31 48] 460 11 48)) 460 4 48],678,[]⟩
def f_key_word:FI:=⟨⟨[sO "wire",sO "octets"],[77,78,55,54]⟩,1,[
 zq [qt 1 462 4 10] (zd (qt 0 462 13 17) 16 (P3 462 13 21) [qu 0 462 22 36] 462 13 37) 462 4 37,
 .iff (zh (qt 1 463 7 13) [.Eq] [za [] 463 17 20] 463 7 20) [zs (zc (qu 1 464 14 24) [qz 63 464 25 40,zb (qt 0 464 42 46) 2 464 42 49] 464 14 50) 464 8 50] [] (P4 463 4 464 50),
 zr (some (zc (qu 2 465 11 21) [zc (qu 3 465 22 32) [qt 1 465 33 39] 465 22 40] 465 11 41)) 465 4 41],685,[]⟩
def f_set_here:FI:=⟨⟨[sO "wire",sO "begin",sO "text",sO "fault"],[79,42,78,80]⟩,1,[
 zq [qt 1 467 4 9] (zb (qt 0 467 12 16) 2 467 12 19) 467 4 19,
 zq [qt 2 468 4 8] (zd (qt 0 468 11 15) 27 (P3 468 11 24) [] 468 11 26) 468 4 26,
 .tri [zr (some (zc (qu 0 470 15 23) [qt 2 470 24 28] 470 15 29)) 470 8 29] [.mk (qu 1 471 11 19) (some 3) [zs (zc (qu 2 472 14 24) [qz 64 472 25 33,zg (qt 1 472 35 40) .Add (zc (qu 3 472 43 46) [qy 0 472 47 48,zb (qt 3 472 50 55) 2 472 50 58] 472 43 59) 472 35 59] 472 14 60) 472 8 60] (P4 471 4 472 60)] (P4 469 4 472 60)],692,[]⟩
def f_looked_for:FI:=⟨⟨[sO "wire",sO "charset",sO "begin",sO "octets"],[81,82,20,78]⟩,2,[
 zp (zd (qt 0 474 4 8) 24 (P3 474 4 14) [] 474 4 16) 474 4 16,
 zq [qt 2 475 4 9] (zb (qt 0 475 12 16) 2 475 12 19) 475 4 19,
 zq [qt 3 476 4 10] (zd (qt 0 476 13 17) 28 (P3 476 13 25) [] 476 13 27) 476 4 27,
 .tri [zr (some (zc (qu 0 478 15 24) [qz 24 478 25 32,zc (qu 1 478 34 45) [qt 1 478 46 53,qt 3 478 55 61] 478 34 62] 478 15 63)) 478 8 63] [.mk (qu 2 479 11 20) none [zs (zc (qu 3 480 14 24) [qz 65 480 25 52,qt 2 480 54 59] 480 14 60) 480 8 60] (P4 479 4 480 60)] (P4 477 4 480 60)],699,[]⟩
def f_day_here:FI:=⟨⟨[sO "wire",sO "begin"],[83,54,7,78]⟩,1,[
 zp (zd (qt 0 482 4 8) 24 (P3 482 4 14) [] 482 4 16) 482 4 16,
 zq [qt 1 483 4 9] (zb (qt 0 483 12 16) 2 483 12 19) 483 4 19,
 .tri [zr (some (zc (qu 0 485 15 23) [zc (qu 1 485 24 34) [zd (qt 0 485 35 39) 28 (P3 485 35 47) [] 485 35 49] 485 24 50] 485 15 51)) 485 8 51] [.mk (qu 2 486 11 20) none [zs (zc (qu 3 487 14 24) [qz 66 487 25 33,qt 1 487 35 40] 487 14 41) 487 8 41] (P4 486 4 487 41)] (P4 484 4 487 41)],706,[]⟩
def f_number_here:FI:=⟨⟨[sO "wire"],[]⟩,1,[
 zp (zd (qt 0 489 4 8) 24 (P3 489 4 14) [] 489 4 16) 489 4 16,
 zr (some (zd (qt 0 490 11 15) 29 (P3 490 11 22) [] 490 11 24)) 490 4 24],713,[]⟩
def f_word_here:FI:=⟨⟨[sO "wire",sO "begin"],[54,7,78]⟩,1,[
 zp (zd (qt 0 492 4 8) 24 (P3 492 4 14) [] 492 4 16) 492 4 16,
 zq [qt 1 493 4 9] (zb (qt 0 493 12 16) 2 493 12 19) 493 4 19,
 .tri [zr (some (zc (qu 0 495 15 25) [zd (qt 0 495 26 30) 28 (P3 495 26 38) [] 495 26 40] 495 15 41)) 495 8 41] [.mk (qu 1 496 11 20) none [zs (zc (qu 2 497 14 24) [qz 67 497 25 46,qt 1 497 48 53] 497 14 54) 497 8 54] (P4 496 4 497 54)] (P4 494 4 497 54)],720,[]⟩
def f_modseq_here:FI:=⟨⟨[sO "wire",sO "sort"],[84,85,18,78]⟩,1,[
 zp (zd (qt 0 499 4 8) 24 (P3 499 4 14) [] 499 4 16) 499 4 16,
 .iff (zh (zd (qt 0 500 7 11) 19 (P3 500 7 16) [] 500 7 18) [.Eq] [qu 0 500 22 33] 500 7 33) [zp (zd (qt 0 501 8 12) 22 (P3 501 8 19) [] 501 8 21) 501 8 21,zq [qt 1 502 8 12] (zc (qu 1 502 15 24) [qt 0 502 25 29] 502 15 30) 502 8 30,.iff (zh (zc (qu 2 503 11 21) [qt 1 503 22 26] 503 11 27) [.NotIn] [zl [qz 68 503 36 42,qz 69 503 44 52,qz 61 503 54 59] 0 503 35 60] 503 11 60) [zs (zc (qu 3 504 18 28) [qz 70 504 29 47,zb (qt 0 504 49 53) 2 504 49 56] 504 18 57) 504 12 57] [] (P4 503 8 504 57),zp (zd (qt 0 505 8 12) 24 (P3 505 8 18) [] 505 8 20) 505 8 20] [] (P4 500 4 505 20),
 zr (some (zd (qt 0 506 11 15) 29 (P3 506 11 22) [] 506 11 24)) 506 4 24],727,[]⟩
def f_flag_leaf:FI:=⟨⟨[sO "word"],[86,87,88,89]⟩,1,[
 .iff (zh (qt 0 508 7 11) [.In] [zd (qu 0 508 15 24) 4 (P3 508 15 30) [qz 5 508 31 34] 508 15 35] 508 7 35) [zr (some (zl [qz 71 509 16 22,zc (qu 1 509 24 33) [zg (qz 48 509 34 38) .Add (qt 0 509 41 45) 509 34 45] 509 24 46] 0 509 15 47)) 509 8 47] [] (P4 508 4 509 47),
 .iff (zi .And [zh (ze (qt 0 510 7 11) (zf none (some (qy 2 510 13 14)) none 510 12 14) 510 7 15) [.Eq] [qz 72 510 19 23] 510 7 23,zh (ze (qt 0 510 28 32) (zf (some (qy 2 510 33 34)) none none 510 33 35) 510 28 36) [.In] [zd (qu 0 510 40 49) 4 (P3 510 40 55) [qz 5 510 56 59] 510 40 60] 510 28 60] 510 7 60) [zr (some (zl [qz 62 511 16 21,zl [qz 71 511 24 30,zc (qu 1 511 32 41) [zg (qz 48 511 42 46) .Add (ze (qt 0 511 49 53) (zf (some (qy 2 511 54 55)) none none 511 54 56) 511 49 57) 511 42 57] 511 32 58] 0 511 23 59] 0 511 15 60)) 511 8 60] [] (P4 510 4 511 60),
 .iff (zh (qt 0 512 7 11) [.In] [zl [qz 73 512 16 21,qz 74 512 23 28] 0 512 15 29] 512 7 29) [zr (some (zc (qu 2 513 15 27) [] 513 15 29)) 513 8 29] [] (P4 512 4 513 29),
 zr (some (zk (zh (qt 0 514 26 30) [.In] [zl [qz 75 514 35 43,qz 76 514 45 50] 0 514 34 51] 514 26 51) (zc (qu 3 514 11 20) [] 514 11 22) (qw 514 57 61) 514 11 61)) 514 4 61],734,[]⟩
def f_keyword_leaf:FI:=⟨⟨[sO "wire",sO "word",sO "begin",sO "leaf"],[87,13,78]⟩,2,[
 zp (zd (qt 0 516 4 8) 24 (P3 516 4 14) [] 516 4 16) 516 4 16,
 zq [qt 2 517 4 9] (zb (qt 0 517 12 16) 2 517 12 19) 517 4 19,
 .tri [zq [qt 3 519 8 12] (zl [qz 71 519 16 22,zc (qu 0 519 24 33) [zd (qt 0 519 34 38) 18 (P3 519 34 43) [] 519 34 45] 519 24 46] 0 519 15 47) 519 8 47] [.mk (qu 1 520 11 21) none [zs (zc (qu 2 521 14 24) [qz 77 521 25 37,qt 2 521 39 44] 521 14 45) 521 8 45] (P4 520 4 521 45)] (P4 518 4 521 45),
 zr (some (zk (zh (qt 1 522 19 23) [.Eq] [qz 78 522 27 36] 522 19 36) (qt 3 522 11 15) (zl [qz 62 522 43 48,qt 3 522 50 54] 0 522 42 55) 522 11 55)) 522 4 55],741,[]⟩
def f_leaf_of:FI:=⟨⟨[sO "wire",sO "word",sO "charset",sO "name"],[90,91,18,92,85,93,94,95,96,97,98,99,78]⟩,3,[
 .iff (zh (qt 1 524 7 11) [.In] [zl [qz 78 524 16 25,qz 79 524 27 38] 0 524 15 39] 524 7 39) [zr (some (zc (qu 0 525 15 27) [qt 0 525 28 32,qt 1 525 34 38] 525 15 39)) 525 8 39] [] (P4 524 4 525 39),
 .iff (zh (qt 1 526 7 11) [.In] [zd (qu 1 526 15 26) 4 (P3 526 15 32) [qz 5 526 33 36] 526 15 37] 526 7 37) [zr (some (zl [qz 80 527 16 24,zc (qu 2 527 26 36) [qt 1 527 37 41] 527 26 42,zc (qu 3 527 44 54) [qt 0 527 55 59,qt 2 527 61 68] 527 44 69] 0 527 15 70)) 527 8 70] [] (P4 526 4 527 70),
 .iff (zh (qt 1 528 7 11) [.Eq] [qz 81 528 15 23] 528 7 23) [zq [qt 3 529 8 12] (zc (qu 2 529 15 25) [zc (qu 4 529 26 35) [qt 0 529 36 40] 529 26 41] 529 15 42) 529 8 42,zr (some (zl [qz 80 530 16 24,qt 3 530 26 30,zc (qu 3 530 32 42) [qt 0 530 43 47,qt 2 530 49 56] 530 32 57] 0 530 15 58)) 530 8 58] [] (P4 528 4 530 58),
 .iff (zh (qt 1 531 7 11) [.In] [zd (qu 5 531 15 24) 4 (P3 531 15 30) [qz 5 531 31 34] 531 15 35] 531 7 35) [zr (some (zl [zc (qu 2 532 16 26) [qt 1 532 27 31] 532 16 32,zc (qu 3 532 34 44) [qt 0 532 45 49,qt 2 532 51 58] 532 34 59] 0 532 15 60)) 532 8 60] [] (P4 531 4 532 60),
 .iff (zh (qt 1 533 7 11) [.In] [zd (qu 6 533 15 24) 4 (P3 533 15 30) [qz 5 533 31 34] 533 15 35] 533 7 35) [zr (some (zl [zc (qu 2 534 16 26) [qt 1 534 27 31] 534 16 32,zc (qu 7 534 34 45) [qt 0 534 46 50] 534 34 51] 0 534 15 52)) 534 8 52] [] (P4 533 4 534 52),
 .iff (zh (qt 1 535 7 11) [.In] [zd (qu 8 535 15 23) 4 (P3 535 15 29) [qz 5 535 30 33] 535 15 34] 535 7 34) [zr (some (zl [zc (qu 2 536 16 26) [qt 1 536 27 31] 536 16 32,zc (qu 9 536 34 42) [qt 0 536 43 47] 536 34 48] 0 536 15 49)) 536 8 49] [] (P4 535 4 536 49),
 .iff (zh (qt 1 537 7 11) [.Eq] [qz 82 537 15 20] 537 7 20) [zp (zd (qt 0 538 8 12) 24 (P3 538 8 18) [] 538 8 20) 538 8 20,zr (some (zl [qz 83 539 16 21,zc (qu 10 539 23 31) [qt 0 539 32 36] 539 23 37] 0 539 15 38)) 539 8 38] [] (P4 537 4 539 38),
 .iff (zh (qt 1 540 7 11) [.Eq] [qz 84 540 15 23] 540 7 23) [zr (some (zl [qz 85 541 16 24,zc (qu 11 541 26 37) [qt 0 541 38 42] 541 26 43] 0 541 15 44)) 541 8 44] [] (P4 540 4 541 44),
 zs (zc (qu 12 542 10 20) [zg (qz 86 542 21 42) .Add (qt 1 542 45 49) 542 21 49,zb (qt 0 542 51 55) 2 542 51 58] 542 10 59) 542 4 59],748,[]⟩
def f_bracket:FI:=⟨⟨[sO "wire",sO "charset",sO "depth",sO "tree"],[100,78]⟩,3,[
 zp (zd (qt 0 544 4 8) 13 (P3 544 4 13) [za [40] 544 14 18] 544 4 19) 544 4 19,
 zq [qt 3 545 4 8] (zc (qu 0 545 11 20) [qt 0 545 21 25,qt 1 545 27 34,zg (qt 2 545 36 41) .Add (qy 1 545 44 45) 545 36 45] 545 11 46) 545 4 46,
 .iff (zj .Not (zd (qt 0 546 11 15) 13 (P3 546 11 20) [za [41] 546 21 25] 546 11 26) 546 7 26) [zs (zc (qu 1 547 14 24) [qz 87 547 25 55,zb (qt 0 547 57 61) 2 547 57 64] 547 14 65) 547 8 65] [] (P4 546 4 547 65),
 zr (some (qt 3 548 11 15)) 548 4 15],755,[]⟩
def f_read_key:FI:=⟨⟨[sO "wire",sO "charset",sO "depth",sO "code",sO "word",sO "one",sO "leaf"],[101,78,102,103,104,98,105,106,107,108]⟩,3,[
 .iff (zh (qt 2 550 7 12) [.Gt] [qu 0 550 15 31] 550 7 31) [zs (zc (qu 1 551 14 24) [qz 88 551 25 47,zb (qt 0 551 49 53) 2 551 49 56] 551 14 57) 551 8 57] [] (P4 550 4 551 57),
 zq [qt 3 552 4 8] (zd (qt 0 552 11 15) 19 (P3 552 11 20) [] 552 11 22) 552 4 22,
 .iff (zh (qt 3 553 7 11) [.Eq] [qu 2 553 15 19] 553 7 19) [zr (some (zc (qu 3 554 15 22) [qt 0 554 23 27,qt 1 554 29 36,qt 2 554 38 43] 554 15 44)) 554 8 44] [] (P4 553 4 554 44),
 .iff (zi .And [zh (qt 3 555 7 11) [.GtE] [qy 0 555 15 16] 555 7 16,zh (qt 3 555 21 25) [.In] [qu 4 555 29 38] 555 21 38] 555 7 38) [zr (some (zl [qz 89 556 16 21,zc (qu 5 556 23 31) [qt 0 556 32 36] 556 23 37] 0 556 15 38)) 556 8 38] [] (P4 555 4 556 38),
 zq [qt 4 557 4 8] (zc (qu 6 557 11 19) [qt 0 557 20 24] 557 11 25) 557 4 25,
 .iff (zh (qt 4 558 7 11) [.Eq] [qz 90 558 15 20] 558 7 20) [zp (zd (qt 0 559 8 12) 24 (P3 559 8 18) [] 559 8 20) 559 8 20,zr (some (zl [qz 62 560 16 21,zc (qu 7 560 23 31) [qt 0 560 32 36,qt 1 560 38 45,zg (qt 2 560 47 52) .Add (qy 1 560 55 56) 560 47 56] 560 23 57] 0 560 15 58)) 560 8 58] [] (P4 558 4 560 58),
 .iff (zh (qt 4 561 7 11) [.Eq] [qz 91 561 15 19] 561 7 19) [zp (zd (qt 0 562 8 12) 24 (P3 562 8 18) [] 562 8 20) 562 8 20,zq [qt 5 563 8 11] (zc (qu 7 563 14 22) [qt 0 563 23 27,qt 1 563 29 36,zg (qt 2 563 38 43) .Add (qy 1 563 46 47) 563 38 47] 563 14 48) 563 8 48,zp (zd (qt 0 564 8 12) 24 (P3 564 8 18) [] 564 8 20) 564 8 20,zr (some (zl [qz 92 565 16 20,qt 5 565 22 25,zc (qu 7 565 27 35) [qt 0 565 36 40,qt 1 565 42 49,zg (qt 2 565 51 56) .Add (qy 1 565 59 60) 565 51 60] 565 27 61] 0 565 15 62)) 565 8 62] [] (P4 561 4 565 62),
 zq [qt 6 566 4 8] (zc (qu 8 566 11 20) [qt 4 566 21 25] 566 11 26) 566 4 26,
 zr (some (zk (zh (qt 6 567 19 23) [.IsNot] [qw 567 31 35] 567 19 35) (qt 6 567 11 15) (zc (qu 9 567 41 48) [qt 0 567 49 53,qt 4 567 55 59,qt 1 567 61 68] 567 41 69) 567 11 69)) 567 4 69],762,[]⟩
def f_read_keys:FI:=⟨⟨[sO "wire",sO "charset",sO "depth",sO "tree"],[106,109]⟩,3,[
 zq [qt 3 569 4 8] (zc (qu 0 569 11 19) [qt 0 569 20 24,qt 1 569 26 33,qt 2 569 35 40] 569 11 41) 569 4 41,
 .whl (zh (zd (qt 0 570 10 14) 19 (P3 570 10 19) [] 570 10 21) [.Eq] [qu 1 570 25 30] 570 10 30) [zp (zd (qt 0 571 8 12) 24 (P3 571 8 18) [] 571 8 20) 571 8 20,zq [qt 3 572 8 12] (zl [qz 93 572 16 21,qt 3 572 23 27,zc (qu 0 572 29 37) [qt 0 572 38 42,qt 1 572 44 51,qt 2 572 53 58] 572 29 59] 0 572 15 60) 572 8 60] (P4 570 4 572 60),
 zr (some (qt 3 573 11 15)) 573 4 15],769,[]⟩
def f_charset_here:FI:=⟨⟨[sO "wire",sO "begin",sO "charset"],[55,54,77,110,85,78]⟩,1,[
 zq [qt 1 575 4 9] (zb (qt 0 575 12 16) 2 575 12 19) 575 4 19,
 .iff (zh (zc (qu 0 576 7 17) [zc (qu 1 576 18 28) [zd (qt 0 576 29 33) 16 (P3 576 29 37) [qu 2 576 38 52] 576 29 53] 576 18 54] 576 7 55) [.NotEq] [qz 94 576 59 68] 576 7 68) [zq [zb (qt 0 577 8 12) 2 577 8 15] (qt 1 577 18 23) 577 8 23,zr (some (qz 24 578 15 22)) 578 8 22] [] (P4 576 4 578 22),
 zq [qt 2 579 4 11] (zc (qu 3 579 14 26) [zc (qu 4 579 27 36) [qt 0 579 37 41] 579 27 42] 579 14 43) 579 4 43,
 .iff (zh (qt 2 580 7 14) [.Eq] [qz 0 580 18 20] 580 7 20) [zs (zc (qu 5 581 14 24) [qz 95 581 25 42,qt 1 581 44 49] 581 14 50) 581 8 50] [] (P4 580 4 581 50),
 zp (zd (qt 0 582 4 8) 24 (P3 582 4 14) [] 582 4 16) 582 4 16,
 zr (some (qt 2 583 11 18)) 583 4 18],776,[]⟩
def f_read_query:FI:=⟨⟨[sO "wire"],[100,111]⟩,1,[
 zr (some (zc (qu 0 585 11 20) [qt 0 585 21 25,zc (qu 1 585 27 39) [qt 0 585 40 44] 585 27 45,qy 0 585 47 48] 585 11 49)) 585 4 49],783,[]⟩
def f_read_query_in:FI:=⟨⟨[sO "wire",sO "text",sO "charset"],[110,78,100]⟩,2,[
 zq [qt 2 587 4 11] (zc (qu 0 587 14 26) [qt 1 587 27 31] 587 14 32) 587 4 32,
 .iff (zh (qt 2 588 7 14) [.Eq] [qz 0 588 18 20] 588 7 20) [zs (zc (qu 1 589 14 24) [qz 95 589 25 42,zb (qt 0 589 44 48) 2 589 44 51] 589 14 52) 589 8 52] [] (P4 588 4 589 52),
 zr (some (zc (qu 2 590 11 20) [qt 0 590 21 25,qt 2 590 27 34,qy 0 590 36 37] 590 11 38)) 590 4 38],790,[]⟩
def f_row_of:FI:=⟨⟨[sO "tree",sO "found"],[]⟩,1,[
 zq [qt 1 592 4 9] (zm [] 592 12 14) 592 4 14,
 .whl (zh (ze (qt 0 593 10 14) (qy 0 593 15 16) 593 10 17) [.Eq] [qz 93 593 21 26] 593 10 26) [zp (zd (qt 1 594 8 13) 8 (P3 594 8 20) [ze (qt 0 594 21 25) (qy 2 594 26 27) 594 21 28] 594 8 29) 594 8 29,zq [qt 0 595 8 12] (ze (qt 0 595 15 19) (qy 1 595 20 21) 595 15 22) 595 8 22] (P4 593 4 595 22),
 zp (zd (qt 1 596 4 9) 8 (P3 596 4 16) [qt 0 596 17 21] 596 4 22) 596 4 22,
 zr (some (ze (qt 1 597 11 16) (zf none none (some (zj .USub (qy 1 597 20 21) 597 19 21)) 597 17 21) 597 11 22)) 597 4 22],797,[]⟩
def f_show_flag:FI:=⟨⟨[sO "name",sO "front"],[52,55]⟩,2,[
 .iff (zh (ze (qt 0 599 7 11) (zf none (some (qy 1 599 13 14)) none 599 12 14) 599 7 15) [.Eq] [qz 48 599 19 23] 599 7 23) [zr (some (zc (qu 0 600 15 26) [zg (qt 1 600 27 32) .Add (zc (qu 1 600 35 45) [ze (qt 0 600 46 50) (zf (some (qy 1 600 51 52)) none none 600 51 53) 600 46 54] 600 35 55) 600 27 55] 600 15 56)) 600 8 56] [] (P4 599 4 600 56),
 zr (some (zc (qu 0 601 11 22) [zg (zg (qt 1 601 23 28) .Add (qz 96 601 31 41) 601 23 41) .Add (qt 0 601 44 48) 601 23 48] 601 11 49)) 601 4 49],804,[]⟩
def f_show_leaf:FI:=⟨⟨[sO "tree",sO "kind",sO "worth"],[112,52,113,55,32,114,115]⟩,1,[
 zq [zl [qt 1 603 4 8,qt 2 603 10 15] 0 603 4 15] (zl [ze (qt 0 603 19 23) (qy 0 603 24 25) 603 19 26,ze (qt 0 603 28 32) (zj .USub (qy 1 603 34 35) 603 33 35) 603 28 36] 0 603 18 37) 603 4 37,
 .iff (zh (qt 1 604 7 11) [.Eq] [qz 71 604 15 21] 604 7 21) [zr (some (zc (qu 0 605 15 24) [qt 2 605 25 30,qz 0 605 32 34] 605 15 35)) 605 8 35] [] (P4 604 4 605 35),
 .iff (zh (qt 1 606 7 11) [.Eq] [qz 89 606 15 20] 606 7 20) [zr (some (zc (qu 1 607 15 26) [zc (qu 2 607 27 35) [qt 2 607 36 41] 607 27 42] 607 15 43)) 607 8 43] [] (P4 606 4 607 43),
 .iff (zh (qt 1 608 7 11) [.Eq] [qz 83 608 15 20] 608 7 20) [zr (some (zc (qu 1 609 15 26) [zg (qz 97 609 27 33) .Add (zc (qu 2 609 36 44) [qt 2 609 45 50] 609 36 51) 609 27 51] 609 15 52)) 609 8 52] [] (P4 608 4 609 52),
 .iff (zh (qt 1 610 7 11) [.In] [zl [qz 98 610 16 24,qz 99 610 26 35,qz 85 610 37 45] 0 610 15 46] 610 7 46) [zr (some (zc (qu 1 611 15 26) [zg (zg (zc (qu 3 611 27 37) [qt 1 611 38 42] 611 27 43) .Add (qz 5 611 46 49) 611 27 49) .Add (zc (qu 4 611 52 55) [qt 2 611 56 61] 611 52 62) 611 27 62] 611 15 63)) 611 8 63] [] (P4 610 4 611 63),
 .iff (zh (qt 1 612 7 11) [.Eq] [qz 80 612 15 23] 612 7 23) [zr (some (zg (zg (zg (za [72,69,65,68,69,82,32] 613 15 25) .Add (zc (qu 5 613 28 42) [zc (qu 1 613 43 54) [ze (qt 0 613 55 59) (qy 1 613 60 61) 613 55 62] 613 43 63] 613 28 64) 613 15 64) .Add (za [32] 613 67 71) 613 15 71) .Add (zc (qu 5 613 74 88) [qt 2 613 89 94] 613 74 95) 613 15 95)) 613 8 95] [] (P4 612 4 613 95),
 .iff (zh (qt 1 614 7 11) [.In] [zl [qz 100 614 16 22,qz 101 614 24 30] 0 614 15 31] 614 7 31) [zr (some (zg (zc (qu 1 615 15 26) [zg (zc (qu 3 615 27 37) [qt 1 615 38 42] 615 27 43) .Add (qz 5 615 46 49) 615 27 49] 615 15 50) .Add (zc (qu 5 615 53 67) [qt 2 615 68 73] 615 53 74) 615 15 74)) 615 8 74] [] (P4 614 4 615 74),
 zr (some (zc (qu 1 616 11 22) [zg (zg (zc (qu 3 616 23 33) [qt 1 616 34 38] 616 23 39) .Add (qz 5 616 42 45) 616 23 45) .Add (zc (qu 6 616 48 57) [qt 2 616 58 63] 616 48 64) 616 23 64] 616 11 65)) 616 4 65],811,[]⟩
def jo:FI:=⟨⟨[sO "tree",sO "kind"],[116,117,112,118]⟩,1,[
 zq [qt 1 618 4 8] (ze (qt 0 618 11 15) (qy 0 618 16 17) 618 11 18) 618 4 18,
 .iff (zh (qt 1 619 7 11) [.Eq] [qz 61 619 15 20] 619 7 20) [zr (some (za [65,76,76] 620 15 21)) 620 8 21] [] (P4 619 4 620 21),
 .iff (zh (qt 1 621 7 11) [.Eq] [qz 93 621 15 20] 621 7 20) [zr (some (zg (zg (za [40] 622 15 19) .Add (zc (qu 0 622 22 32) [qt 0 622 33 37] 622 22 38) 622 15 38) .Add (za [41] 622 41 45) 622 15 45)) 622 8 45] [] (P4 621 4 622 45),
 .iff (zh (qt 1 623 7 11) [.Eq] [qz 92 623 15 19] 623 7 19) [zr (some (zg (zg (zg (za [79,82,32] 624 15 21) .Add (zc (qu 1 624 24 32) [ze (qt 0 624 33 37) (qy 1 624 38 39) 624 33 40] 624 24 41) 624 15 41) .Add (za [32] 624 44 48) 624 15 48) .Add (zc (qu 1 624 51 59) [ze (qt 0 624 60 64) (qy 2 624 65 66) 624 60 67] 624 51 68) 624 15 68)) 624 8 68] [] (P4 623 4 624 68),
 .iff (zi .And [zh (qt 1 625 7 11) [.Eq] [qz 62 625 15 20] 625 7 20,zh (ze (ze (qt 0 625 25 29) (qy 1 625 30 31) 625 25 32) (qy 0 625 33 34) 625 25 35) [.Eq] [qz 71 625 39 45] 625 25 45] 625 7 45) [zr (some (zc (qu 2 626 15 24) [ze (ze (qt 0 626 25 29) (qy 1 626 30 31) 626 25 32) (qy 1 626 33 34) 626 25 35,qz 72 626 37 41] 626 15 42)) 626 8 42] [] (P4 625 4 626 42),
 .iff (zh (qt 1 627 7 11) [.Eq] [qz 62 627 15 20] 627 7 20) [zr (some (zg (za [78,79,84,32] 628 15 22) .Add (zc (qu 1 628 25 33) [ze (qt 0 628 34 38) (qy 1 628 39 40) 628 34 41] 628 25 42) 628 15 42)) 628 8 42] [] (P4 627 4 628 42),
 zr (some (zc (qu 3 629 11 20) [qt 0 629 21 25] 629 11 26)) 629 4 26],818,[]⟩
def f_show_query:FI:=⟨⟨[sO "tree"],[119]⟩,1,[
 zr (some (zd (za [32] 631 11 15) 3 (P3 631 11 20) [zo 12 (zc (qu 0 631 22 30) [qt 0 631 31 35] 631 22 36) (qt 0 631 41 45) (zc (qu 0 631 49 55) [qt 0 631 56 60] 631 49 61) [] 631 21 62] 631 11 63)) 631 4 63],823,[]⟩
def f_words_part:FI:=⟨⟨[sO "words"],[52]⟩,1,[
 zr (some (zg (zg (za [32,40] 634 11 16) .Add (zc (qu 0 634 19 30) [zd (qz 5 634 31 34) 3 (P3 634 31 39) [qt 0 634 40 45] 634 31 46] 634 19 47) 634 11 47) .Add (za [41] 634 50 54) 634 11 54)) 634 4 54],830,[]⟩
def f_write_search:FI:=⟨⟨[sO "args",sO "tree",sO "wants",sO "found"],[120,116]⟩,1,[
 zq [zl [qt 1 636 4 8,qt 2 636 10 15] 0 636 4 15] (qt 0 636 18 22) 636 4 22,
 zq [qt 3 637 4 9] (zk (zh (qt 2 637 19 24) [.Is] [qw 637 28 32] 637 19 32) (za [] 637 12 15) (zg (za [32,82,69,84,85,82,78] 637 38 48) .Add (zc (qu 0 637 51 61) [qt 2 637 62 67] 637 51 68) 637 38 68) 637 12 68) 637 4 68,
 zr (some (zg (zg (qt 3 638 11 16) .Add (za [32] 638 19 23) 638 11 23) .Add (zc (qu 1 638 26 36) [qt 1 638 37 41] 638 26 42) 638 11 42)) 638 4 42],837,[]⟩
def f_write_thread:FI:=⟨⟨[sO "args"],[52,116]⟩,1,[
 zr (some (zg (zg (zg (za [32] 640 11 15) .Add (zc (qu 0 640 18 29) [ze (qt 0 640 30 34) (qy 0 640 35 36) 640 30 37] 640 18 38) 640 11 38) .Add (za [32,85,84,70,45,56,32] 640 41 51) 640 11 51) .Add (zc (qu 1 640 54 64) [ze (qt 0 640 65 69) (qy 1 640 70 71) 640 65 72] 640 54 73) 640 11 73)) 640 4 73],844,[]⟩
def f_one_of:FI:=⟨⟨[sO "word",sO "words",sO "wire"],[]⟩,3,[
 .iff (zh (qt 0 645 7 11) [.NotIn] [zd (qt 1 645 19 24) 4 (P3 645 19 30) [qz 5 645 31 34] 645 19 35] 645 7 35) [zs (zd (qt 2 646 14 18) 14 (P3 646 14 24) [qz 102 646 25 55] 646 14 56) 646 8 56] [] (P4 645 4 646 56),
 zr (some (qt 0 647 11 15)) 647 4 15],851,[]⟩
def jm:FI:=⟨⟨[sO "wire",sO "words"],[44]⟩,2,[
 zr (some (zc (qu 0 649 11 16) [zo 13 (zc (qu 0 649 18 24) [qt 0 649 25 29,qt 1 649 31 36,qt 2 649 38 42] 649 18 43) (qt 0 649 48 52) (zd (qt 0 649 56 60) 30 (P3 649 56 68) [zb (qt 0 649 69 73) 31 649 69 78] 649 56 79) [] 649 17 80] 649 11 81)) 649 4 81],856,[]⟩
def f_read_search:FI:=⟨⟨[sO "wire",sO "wants"],[122,123,124]⟩,1,[
 zp (zd (qt 0 651 4 8) 24 (P3 651 4 14) [] 651 4 16) 651 4 16,
 zq [qt 1 652 4 9] (qw 652 12 16) 652 4 16,
 .iff (zd (qt 0 653 7 11) 32 (P3 653 7 21) [qz 103 653 22 30] 653 7 31) [zq [qt 1 654 8 13] (zc (qu 0 654 16 26) [qt 0 654 27 31,qu 1 654 33 38] 654 16 39) 654 8 39,zp (zd (qt 0 655 8 12) 24 (P3 655 8 18) [] 655 8 20) 655 8 20] [] (P4 653 4 655 20),
 zr (some (zl [zc (qu 2 656 12 22) [qt 0 656 23 27] 656 12 28,qt 1 656 30 35] 0 656 11 36)) 656 4 36],863,[]⟩
def f_query_in_charset:FI:=⟨⟨[sO "wire",sO "charset"],[54,125]⟩,1,[
 zq [qt 1 658 4 11] (zc (qu 0 658 14 24) [zd (qt 0 658 25 29) 28 (P3 658 25 37) [] 658 25 39] 658 14 40) 658 4 40,
 zp (zd (qt 0 659 4 8) 24 (P3 659 4 14) [] 659 4 16) 659 4 16,
 zr (some (zc (qu 1 660 11 24) [qt 0 660 25 29,qt 1 660 31 38] 660 11 39)) 660 4 39],870,[]⟩
def f_read_thread:FI:=⟨⟨[sO "wire",sO "way"],[121,126,127]⟩,1,[
 zp (zd (qt 0 662 4 8) 24 (P3 662 4 14) [] 662 4 16) 662 4 16,
 zq [qt 1 663 4 7] (zc (qu 0 663 10 16) [zd (qt 0 663 17 21) 31 (P3 663 17 26) [] 663 17 28,qu 1 663 30 42,qt 0 663 44 48] 663 10 49) 663 4 49,
 zp (zd (qt 0 664 4 8) 24 (P3 664 4 14) [] 664 4 16) 664 4 16,
 zr (some (zl [qt 1 665 12 15,zc (qu 2 665 17 33) [qt 0 665 34 38] 665 17 39] 0 665 11 40)) 665 4 40],877,[]⟩
def f_law_keys:FI:=⟨⟨[],[]⟩,0,[
 zr (some (zm [zl [zl [qz 61 668 14 19] 0 668 13 21,za [65,76,76] 668 23 29,za [97,108,108] 668 31 37] 0 668 12 38,zl [zl [qz 71 668 42 48,qz 104 668 50 58] 0 668 41 59,za [83,69,69,78] 668 61 68,za [115,101,101,110] 668 70 77] 0 668 40 78,zl [zl [qz 62 668 82 87,zl [qz 71 668 90 96,qz 105 668 98 107] 0 668 89 108] 0 668 81 109,za [85,78,68,82,65,70,84] 668 111 121,za [117,110,100,114,97,102,116] 668 123 133] 0 668 80 134,zl [zl [qz 71 668 138 144,qz 106 668 146 152] 0 668 137 153,za [75,69,89,87,79,82,68,32,87,111,114,107] 668 155 170,za [107,101,121,119,111,114,100,32,87,111,114,107] 668 172 187] 0 668 136 188,zl [zl [qz 89 668 192 197,zl [zl [qy 2 668 201 202,qy 4 668 204 205] 0 668 200 206,zl [qy 9 668 209 210,qy 0 668 212 213] 0 668 208 214] 0 668 199 215] 0 668 191 216,za [50,58,52,44,57,58,42] 668 218 228,za [50,58,52,44,57,58,42] 668 230 240] 0 668 190 241,zl [zl [qz 83 668 245 250,zl [zl [qy 0 668 254 255,qy 0 668 257 258] 0 668 253 259] 0 668 252 261] 0 668 244 262,za [85,73,68,32,42] 668 264 272,za [117,105,100,32,42] 668 274 282] 0 668 243 283,zl [zl [qz 98 668 287 295,qy 100 668 297 300] 0 668 286 301,za [76,65,82,71,69,82,32,49,48,48] 668 303 316,za [108,97,114,103,101,114,32,48,49,48,48] 668 318 332] 0 668 285 333,zl [zl [qz 107 668 337 344,zl [qy 2000 668 347 351,qy 2 668 353 354,qy 29 668 356 358] 0 668 346 359] 0 668 336 360,za [83,73,78,67,69,32,50,57,45,70,101,98,45,50,48,48,48] 668 362 382,za [115,105,110,99,101,32,34,50,57,45,102,101,98,45,50,48,48,48,34] 668 384 406] 0 668 335 407,zl [zl [qz 80 668 411 419,qz 108 668 421 426,za [116,119,111,32,119,111,114,100,115] 668 428 440] 0 668 410 441,za [72,69,65,68,69,82,32,120,45,97,32,34,116,119,111,32,119,111,114,100,115,34] 668 443 468,za [104,101,97,100,101,114,32,88,45,65,32,34,116,119,111,32,119,111,114,100,115,34] 668 470 495] 0 668 409 496,zl [zl [qz 92 668 500 504,zl [qz 61 668 507 512] 0 668 506 514,zl [qz 71 668 517 523,qz 104 668 525 533] 0 668 516 534] 0 668 499 535,za [79,82,32,65,76,76,32,83,69,69,78] 668 537 551,za [111,114,32,97,108,108,32,40,115,101,101,110,41] 668 553 569] 0 668 498 570,zl [zl [qz 62 668 574 579,zl [qz 62 668 582 587,zl [qz 61 668 590 595] 0 668 589 597] 0 668 581 598] 0 668 573 599,za [78,79,84,32,78,79,84,32,65,76,76] 668 601 615,za [110,111,116,32,40,110,111,116,32,97,108,108,41] 668 617 633] 0 668 572 634] 668 11 635)) 668 4 635],884,[]⟩
def f_law_is_refused:FI:=⟨⟨[sO "read",sO "octets"],[128,129]⟩,2,[
 .tri [zp (zc (qt 0 671 8 12) [zc (qu 0 671 13 17) [qt 1 671 18 24] 671 13 25] 671 8 26) 671 8 26] [.mk (qu 1 672 11 20) none [zr (some (qx true 673 15 19)) 673 8 19] (P4 672 4 673 19)] (P4 670 4 673 19),
 zr (some (qx false 674 11 16)) 674 4 16],891,[]⟩
def f_law_is_read:FI:=⟨⟨[sO "read",sO "octets",sO "args",sO "wire"],[128,6]⟩,3,[
 zq [qt 3 676 4 8] (zc (qu 0 676 11 15) [zg (qt 1 676 16 22) .Add (za [41] 676 25 29) 676 16 29] 676 11 30) 676 4 30,
 zr (some (zi .And [zh (zc (qt 0 677 11 15) [qt 3 677 16 20] 677 11 21) [.Eq] [qt 2 677 25 29] 677 11 29,zh (zb (qt 3 677 34 38) 2 677 34 41) [.Eq] [zc (qu 1 677 45 48) [qt 1 677 49 55] 677 45 56] 677 34 56] 677 11 56)) 677 4 56],898,[]⟩
def jp:FI:=⟨⟨[sO "script",sO "here",sO "rows",sO "wants",sO "cell",sO "number",sO "tree",sO "row",sO "query",sO "small",sO "ahead",sO "low",sO "way",sO "told",sO "odd"],[35,130,131,132,133,6,134,135,136]⟩,1,[
 zq [zl [qt 1 679 4 8,qt 2 679 10 14] 0 679 4 14] (zl [qy 0 679 18 19,zm [] 679 21 23] 0 679 17 24) 679 4 24,
 zq [qt 3 680 4 9] (qw 680 12 16) 680 4 16,
 .fre (qt 4 681 8 12) (ze (qt 0 681 16 22) (zf none (some (qy 4 681 24 25)) none 681 23 25) 681 16 26) [zq [qt 5 682 8 14] (zg (zc (qu 0 682 17 20) [qt 4 682 21 25] 682 17 26) .Mod (qy 44 682 29 31) 682 17 31) 682 8 31,.iff (zh (qt 1 683 11 15) [.Eq] [qy 0 683 19 20] 683 11 20) [zq [qt 3 684 12 17] (ze (zm [qw 684 21 25,zl [] 0 684 27 29,zl [qz 109 684 32 37,qz 110 684 39 44] 0 684 31 45,zl [qz 111 684 48 55] 0 684 47 57] 684 20 58) (zg (qt 5 684 59 65) .Mod (qy 4 684 68 69) 684 59 69) 684 20 70) 684 12 70] [zp (zd (qt 2 686 12 16) 8 (P3 686 12 23) [ze (zc (qu 1 686 24 33) [] 686 24 35) (zg (qt 5 686 36 42) .Mod (qy 11 686 45 47) 686 36 47) 686 24 48] 686 12 49) 686 12 49] (P4 683 8 686 49),zq [qt 1 687 8 12] (zg (qt 1 687 15 19) .Add (qy 1 687 22 23) 687 15 23) 687 8 23] (P4 681 4 687 23),
 .iff (zh (qt 2 688 7 11) [.Eq] [zm [] 688 15 17] 688 7 17) [zq [qt 2 689 8 12] (zm [ze (zc (qu 1 689 16 25) [] 689 16 27) (qy 4 689 28 29) 689 16 30,ze (zc (qu 1 689 32 41) [] 689 32 43) (qy 9 689 44 45) 689 32 46] 689 15 47) 689 8 47] [] (P4 688 4 689 47),
 zq [qt 6 690 4 8] (ze (ze (qt 2 690 11 15) (qy 0 690 16 17) 690 11 18) (qy 0 690 19 20) 690 11 21) 690 4 21,
 .fre (qt 7 691 8 11) (ze (qt 2 691 15 19) (zf (some (qy 1 691 20 21)) none none 691 20 22) 691 15 23) [zq [qt 6 692 8 12] (zl [qz 93 692 16 21,qt 6 692 23 27,ze (qt 7 692 29 32) (qy 0 692 33 34) 692 29 35] 0 692 15 36) 692 8 36] (P4 691 4 692 36),
 zq [zl [qt 8 693 4 9,qt 9 693 11 16] 0 693 4 16] (zl [zd (za [32] 693 20 24) 3 (P3 693 20 29) [zo 14 (ze (qt 0 693 31 34) (qy 1 693 35 36) 693 31 37) (qt 0 693 42 45) (qt 2 693 49 53) [] 693 30 54] 693 20 55,zd (za [32] 693 57 61) 3 (P3 693 57 66) [zo 15 (ze (qt 0 693 68 71) (qy 2 693 72 73) 693 68 74) (qt 0 693 79 82) (qt 2 693 86 90) [] 693 67 91] 693 57 92] 0 693 19 93) 693 4 93,
 .iff (zh (qt 3 694 7 12) [.Is] [qw 694 16 20] 694 7 20) [zq [zl [qt 10 695 8 13,qt 11 695 15 18] 0 695 8 18] (zl [za [32] 695 22 26,za [32] 695 28 32] 0 695 21 33) 695 8 33] [zq [qt 10 697 8 13] (zg (zg (za [32,82,69,84,85,82,78,32,40] 697 16 28) .Add (zd (zd (qz 5 697 31 34) 3 (P3 697 31 39) [qt 3 697 40 45] 697 31 46) 33 (P3 697 31 53) [qz 8 697 54 61] 697 31 62) 697 16 62) .Add (za [41,32] 697 65 70) 697 16 70) 697 8 70,zq [qt 11 698 8 11] (zg (zg (za [32,114,101,116,117,114,110,32,40] 698 14 26) .Add (zd (zd (qz 5 698 29 32) 3 (P3 698 29 37) [zo 16 (zd (qt 0 698 39 43) 5 (P3 698 39 49) [] 698 39 51) (qt 0 698 56 60) (qt 3 698 64 69) [] 698 38 70] 698 29 71) 33 (P3 698 29 78) [qz 8 698 79 86] 698 29 87) 698 14 87) .Add (za [41,32] 698 90 95) 698 14 95) 698 8 95] (P4 694 4 698 95),
 .iff (zh (zc (qu 2 699 7 19) [zl [qt 6 699 21 25,qt 3 699 27 32] 0 699 20 33] 699 7 34) [.NotEq] [zg (qt 10 699 38 43) .Add (qt 8 699 46 51) 699 38 51] 699 7 51) [zr (some (qx false 700 15 20)) 700 8 20] [] (P4 699 4 700 20),
 .iff (zi .Or [zj .Not (zc (qu 3 701 11 23) [qu 4 701 24 35,zg (qt 10 701 37 42) .Add (qt 8 701 45 50) 701 37 50,zl [qt 6 701 53 57,qt 3 701 59 64] 0 701 52 65] 701 11 66) 701 7 66,zj .Not (zc (qu 3 701 74 86) [qu 4 701 87 98,zg (qt 11 701 100 103) .Add (qt 9 701 106 111) 701 100 111,zl [qt 6 701 114 118,qt 3 701 120 125] 0 701 113 126] 701 74 127) 701 70 127] 701 7 127) [zr (some (qx false 702 15 20)) 702 8 20] [] (P4 701 4 702 20),
 .iff (zj .Not (zc (qu 3 703 11 23) [qu 4 703 24 35,zg (zg (qt 11 703 37 40) .Add (za [99,104,97,114,115,101,116,32,117,115,45,97,115,99,105,105,32] 703 43 63) 703 37 63) .Add (qt 9 703 66 71) 703 37 71,zl [qt 6 703 74 78,qt 3 703 80 85] 0 703 73 86] 703 11 87) 703 7 87) [zr (some (qx false 704 15 20)) 704 8 20] [] (P4 703 4 704 20),
 zq [qt 12 705 4 7] (ze (zm [qz 112 705 11 23,qz 113 705 25 41] 705 10 42) (zg (zc (qu 5 705 43 46) [qt 2 705 47 51] 705 43 52) .Mod (qy 2 705 55 56) 705 43 56) 705 10 57) 705 4 57,
 zq [qt 13 706 4 8] (zg (zg (zg (za [32] 706 11 15) .Add (zd (qt 12 706 18 21) 33 (P3 706 18 28) [qz 8 706 29 36] 706 18 37) 706 11 37) .Add (za [32,85,84,70,45,56,32] 706 40 50) 706 11 50) .Add (qt 8 706 53 58) 706 11 58) 706 4 58,
 .iff (zi .Or [zh (zc (qu 6 707 7 19) [zl [qt 12 707 21 24,qt 6 707 26 30] 0 707 20 31] 707 7 32) [.NotEq] [qt 13 707 36 40] 707 7 40,zj .Not (zc (qu 3 707 48 60) [qu 7 707 61 72,qt 13 707 74 78,zl [qt 12 707 81 84,qt 6 707 86 90] 0 707 80 91] 707 48 92) 707 44 92] 707 7 92) [zr (some (qx false 708 15 20)) 708 8 20] [] (P4 707 4 708 20),
 .fre (qt 14 709 8 11) (zl [za [32,82,69,84,85,82,78,32,40,77,79,83,84,41,32,65,76,76] 709 16 37,za [32,82,69,84,85,82,78,32,77,73,78,32,65,76,76] 709 39 57,za [32,82,69,84,85,82,78,32,40,41,32] 709 59 73,za [] 709 75 78,za [32,67,72,65,82,83,69,84,32,120,45,110,111,110,101,32,65,76,76] 709 80 102] 0 709 15 103) [.iff (zj .Not (zc (qu 8 710 15 30) [qu 4 710 31 42,qt 14 710 44 47] 710 15 48) 710 11 48) [zr (some (qx false 711 19 24)) 711 12 24] [] (P4 710 8 711 24)] (P4 709 4 711 24),
 .fre (qt 14 712 8 11) (zl [za [32,84,72,82,69,65,68,83,32,85,84,70,45,56,32,65,76,76] 712 16 37,za [32,82,69,70,69,82,69,78,67,69,83,32,65,76,76] 712 39 57,za [32,82,69,70,69,82,69,78,67,69,83,32,120,45,110,111,110,101,32,65,76,76] 712 59 84,za [32,82,69,70,69,82,69,78,67,69,83,32,85,84,70,45,56,32] 712 86 107] 0 712 15 108) [.iff (zj .Not (zc (qu 8 713 15 30) [qu 7 713 31 42,qt 14 713 44 47] 713 15 48) 713 11 48) [zr (some (qx false 714 19 24)) 714 12 24] [] (P4 713 8 714 24)] (P4 712 4 714 24),
 zr (some (qx true 715 11 15)) 715 4 15],903,[]⟩
noncomputable def ftab:Tr FI:=.node f_wall (.node jl (.node f_lower_code (.node f_ascii_text (.node jn (.node f_read_day (.node f_Wire_quoted (.nil) (.nil)) (.node f_read_query (.nil) (.nil))) (.node f_figures_of (.node f_no_letter (.nil) (.nil)) (.node f_law_is_refused (.nil) (.nil)))) (.node f_is_leap (.node f_Atom_told (.node f_Wire_plain_value (.nil) (.nil)) (.node f_write_search (.nil) (.nil))) (.node f_Wire_run (.node f_modseq_here (.nil) (.nil)) (.nil)))) (.node f_flag_name (.node f_sign_at (.node f_show_end (.node f_Wire_astring (.nil) (.nil)) (.node f_show_leaf (.nil) (.nil))) (.node f_Wire_skip (.node f_looked_for (.nil) (.nil)) (.nil))) (.node f_padded (.node f_is_value_code (.node f_literal_octets (.nil) (.nil)) (.node f_read_search (.nil) (.nil))) (.node zz (.node f_bracket (.nil) (.nil)) (.nil))))) (.node f_lower_text (.node f_system_flags (.node f_follower_span (.node f_read_end (.node f_Wire_string (.nil) (.nil)) (.node f_row_of (.nil) (.nil))) (.node f_Wire_fault (.node f_key_word (.nil) (.nil)) (.node jp (.nil) (.nil)))) (.node f_is_day (.node f_is_atom_code (.node f_is_quotable (.nil) (.nil)) (.node f_one_of (.nil) (.nil))) (.node f_Wire_atom (.node f_keyword_leaf (.nil) (.nil)) (.nil)))) (.node f_charset_name (.node f_has_sign (.node f_show_set (.node f_Wire_nstring (.nil) (.nil)) (.node f_show_query (.nil) (.nil))) (.node f_Wire_space (.node f_number_here (.nil) (.nil)) (.nil))) (.node f_day_text (.node f_is_figure (.node f_astring_octets (.nil) (.nil)) (.node f_read_thread (.nil) (.nil))) (.node f_Wire_flag (.node f_read_keys (.nil) (.nil)) (.nil)))))) (.node f_PostError_told (.node f_lower (.node f_text_octets (.node f_utf8_octets (.node f_write_day (.node f_Wire_literal (.nil) (.nil)) (.node f_read_query_in (.nil) (.nil))) (.node f_Wire_init (.node f_is_letter_code (.nil) (.nil)) (.node f_law_is_read (.nil) (.nil)))) (.node f_month_length (.node f_is_printable (.node f_Wire_value (.nil) (.nil)) (.node f_write_thread (.nil) (.nil))) (.node f_Wire_word_of (.node f_flag_leaf (.nil) (.nil)) (.nil)))) (.node f_charset_names (.node f_strict_text (.node f_show_pair (.node f_Wire_pattern (.nil) (.nil)) (.node jo (.nil) (.nil))) (.node f_Wire_need (.node f_day_here (.nil) (.nil)) (.nil))) (.node f_is_figures (.node f_is_set_code (.node f_string_octets (.nil) (.nil)) (.node f_query_in_charset (.nil) (.nil))) (.node f_Wire_set_text (.node f_read_key (.nil) (.nil)) (.nil))))) (.node f_upper_text (.node f_is_keyword (.node f_utf8_sign (.node f_read_set (.node f_Wire_string_or (.nil) (.nil)) (.node f_show_flag (.nil) (.nil))) (.node f_Wire_peek (.node f_set_here (.nil) (.nil)) (.nil))) (.node f_month_number (.node f_is_astring_code (.node f_quoted_octets (.nil) (.nil)) (.node jm (.nil) (.nil))) (.node f_Wire_word (.node f_leaf_of (.nil) (.nil)) (.nil)))) (.node f_need_charset (.node f_octets_in (.node f_Atom_init (.node ga (.nil) (.nil)) (.node f_words_part (.nil) (.nil))) (.node f_Wire_done (.node f_word_here (.nil) (.nil)) (.nil))) (.node f_day_in (.node f_number_of_figures (.node f_every_letter (.nil) (.nil)) (.node f_law_keys (.nil) (.nil))) (.node f_Wire_number (.node f_charset_here (.nil) (.nil)) (.nil))))))
noncomputable def wmeth:List (Nat × Nat):=[(0,48),(14,49),(19,50),(13,51),(15,52),(24,53),(16,55),(17,56),(18,57),(31,58),(32,59),(27,60),(29,62),(21,63),(20,64),(22,65),(23,66),(28,67),(30,70),(25,71),(26,72)]
noncomputable def qk:List Nat:=[46,59,71,83,95,107,119,374,619]
end
structure Par where
 orc:Nat->Nat->List AV->Mine.St->Option (AV × Mine.St)
 kt:List AV
 n:Nat
 w:Nat
abbrev RunTy:=Nat->EC->List AV->Mine.St->Task->Res
noncomputable def AV.ob?:AV->Option Nat
 |.ob k=>some k
 |_=>none
noncomputable def AV.ce?:AV->Option Nat
 |.ce k=>some k
 |_=>none
noncomputable def AV.it?:AV->Option Int
 |.it k=>some k
 |_=>none
noncomputable def AV.bo?:AV->Option Bool
 |.bo k=>some k
 |_=>none
noncomputable def Cell.id?:Cell->Option (List (Nat × AV))
 |.id k=>some k
 |_=>none
noncomputable def Cell.exc?:Cell->Option Nat
 |.exc k=>some k
 |_=>none
noncomputable def Cell.ba?:Cell->Option (List Nat)
 |.ba k=>some k
 |_=>none
noncomputable def Cell.di?:Cell->Option (List (List Nat × AV))
 |.di k=>some k
 |_=>none
noncomputable def Cell.li?:Cell->Option (List AV)
 |.li k=>some k
 |_=>none
noncomputable def AV.tu?:AV->Option (List AV)
 |.tu k=>some k
 |_=>none
noncomputable def AV.ln?:AV->Option (List Nat × Nat)
 |.ln js c=>some (js,c)
 |_=>none
noncomputable def AV.st?:AV->Option (List Nat)
 |.st k=>some k
 |_=>none
noncomputable def AV.by?:AV->Option (List Ck)
 |.by k=>some k
 |_=>none
noncomputable def AV.itN?:AV->Option Nat
 |.it (.ofNat k)=>some k
 |_=>none
noncomputable def XE.nm?:XE->Option (Nat × Pos)
 |.nm i q=>some (i,q)
 |_=>none
noncomputable def XE.tup?:XE->Option (List XE)
 |.tup l _ _=>some l
 |_=>none
noncomputable def XE.slc?:XE->Option (Option XE × Option XE × Option XE)
 |.slc a b c _=>some (a,b,c)
 |_=>none
noncomputable def ki {α:Type}:List α->Nat->Bool
 |_,0=>false
 |[],_+1=>true
 |_ :: r,n+1=>ki r n
noncomputable def conc?:List Ck->Option (List Nat)
 |[]=>some []
 |.lit l :: r=>match r with
  |[]=>some l
  |_=>none
 |.atm _ :: _=>none
noncomputable def mkCk:List Nat->List Ck
 |[]=>[]
 |x :: l=>[.lit (x :: l)]
noncomputable def mkBy (l:List Nat):AV:=.by (mkCk l)
noncomputable def catCk:List Ck->List Ck->List Ck
 |[],ys=>ys
 |x :: xs,ys=>match x,xs,ys with
  |.lit a,[],.lit b :: r=>.lit (a ++ b) :: r
  |x,xs,ys=>x :: catCk xs ys
noncomputable def lenCk:List Ck->List Nat × Nat
 |[]=>([],0)
 |.lit l :: r=>match lenCk r with
  |(js,c)=>(js,l.length+c)
 |.atm j :: r=>match lenCk r with
  |(js,c)=>(j :: js,c)
noncomputable def mkPos (js:List Nat) (c:Nat):AV:=match js with
 |[]=>.it (.ofNat c)
 |j :: js=>.ln (j :: js) c
noncomputable def pos?:AV->Option (List Nat × Nat)
 |.it i=>match i with
  |.ofNat c=>some ([],c)
  |.negSucc _=>none
 |.ln js c=>some (js,c)
 |_=>none
noncomputable def sfx:List Nat->List Nat->Option (List Nat)
 |[],r=>some r
 |a :: as,b :: bs=>match Nat.beq a b with
  |true=>sfx as bs
  |false=>none
 |_ :: _,[]=>none
noncomputable def ltPos (js:List Nat) (c:Nat) (js':List Nat) (c':Nat):Option Bool:=match sfx js js' with
 |some r=>match Nat.blt c c' with
  |true=>some true
  |false=>match r with
   |[]=>some false
   |_ :: _=>none
 |none=>none
noncomputable def rest:List Ck->List Nat->Nat->Option (List Ck)
 |[],js,c=>match js with
  |[]=>match c with
   |0=>some []
   |_+1=>none
  |_ :: _=>none
 |.lit l :: r,js,c=>match Nat.ble l.length c with
  |true=>rest r js (c - l.length)
  |false=>match js with
   |[]=>some (.lit (l.drop c) :: r)
   |_ :: _=>none
 |.atm j :: r,js,c=>match js with
  |[]=>match c with
   |0=>some (.atm j :: r)
   |_+1=>none
  |i :: js=>match Nat.beq j i with
   |true=>rest r js c
   |false=>none
noncomputable def cut (l:List Nat) (lo hi:Option Nat):List Nat:=match hi with
 |some h=>match lo with
  |some i=>(l.take h).drop i
  |none=>l.take h
 |none=>match lo with
  |some i=>l.drop i
  |none=>l
noncomputable def part?:AV->Option (Option Nat)
 |.no=>some none
 |.it i=>match i with
  |.ofNat n=>some (some n)
  |.negSucc _=>none
 |_=>none
noncomputable def splitG (c:Nat):List Nat->List Nat->List (List Nat)
 |[],acc=>[acc]
 |y :: r,acc=>match Nat.beq y c with
  |true=>acc :: splitG c r []
  |false=>splitG c r (acc ++ [y])
noncomputable def lowC (c:Nat):Nat:=match Nat.ble 65 c with
 |true=>match Nat.ble c 90 with
  |true=>c+32
  |false=>c
 |false=>c
noncomputable def lowL:List Nat->List Nat
 |[]=>[]
 |c :: r=>lowC c :: lowL r
noncomputable def ascii:List Nat->Bool
 |[]=>true
 |c :: r=>match Nat.blt c 128 with
  |true=>ascii r
  |false=>false
noncomputable def digs:List Nat->Nat->Option Nat
 |[],n=>some n
 |c :: r,n=>match Nat.ble 48 c with
  |true=>match Nat.ble c 57 with
   |true=>digs r (10 * n+(c - 48))
   |false=>none
  |false=>none
noncomputable def figs:Nat->Nat->List Nat->List Nat
 |0,_,acc=>acc
 |f+1,n,acc=>match Nat.blt n 10 with
  |true=>(n+48) :: acc
  |false=>figs f (n / 10) ((n % 10+48) :: acc)
noncomputable def joinL (sep:List Nat):List (List Nat)->List Nat
 |[]=>[]
 |x :: r=>match r with
  |[]=>x
  |_ :: _=>x ++ (sep ++ joinL sep r)
noncomputable def joinCk (sep:List Ck):List (List Ck)->List Ck
 |[]=>[]
 |x :: r=>match r with
  |[]=>x
  |_ :: _=>catCk x (catCk sep (joinCk sep r))
noncomputable def sts?:List AV->Option (List (List Nat))
 |[]=>some []
 |a :: r=>match a with
  |.st l=>match sts? r with
   |some xs=>some (l :: xs)
   |none=>none
  |_=>none
noncomputable def bys?:List AV->Option (List (List Ck))
 |[]=>some []
 |a :: r=>match a with
  |.by l=>match bys? r with
   |some xs=>some (l :: xs)
   |none=>none
  |_=>none
noncomputable def its?:List AV->Option (List Nat)
 |[]=>some []
 |a :: r=>match a with
  |.it (.ofNat n)=>match Nat.blt n 256 with
   |true=>match its? r with
    |some xs=>some (n :: xs)
    |none=>none
   |false=>none
  |_=>none
noncomputable def bos?:List AV->Option (List Bool)
 |[]=>some []
 |a :: r=>match a with
  |.bo l=>match bos? r with
   |some xs=>some (l :: xs)
   |none=>none
  |_=>none
noncomputable def allB:List Bool->Bool
 |[]=>true
 |b :: r=>match b with
  |true=>allB r
  |false=>false
noncomputable def hasN (n:Nat):List Nat->Bool
 |[]=>false
 |x :: r=>match Nat.beq x n with
  |true=>true
  |false=>hasN n r
noncomputable def hasL (x:List Nat):List (List Nat)->Bool
 |[]=>false
 |y :: r=>match eqL y x with
  |true=>true
  |false=>hasL x r
noncomputable def findL (x:List Nat):List (List Nat)->Nat->Option Nat
 |[],_=>none
 |y :: r,n=>match eqL y x with
  |true=>some n
  |false=>findL x r (n+1)
noncomputable def strLe:List Nat->List Nat->Bool
 |[],_=>true
 |a :: r,l=>match l with
  |[]=>false
  |b :: s=>match Nat.blt a b with
   |true=>true
   |false=>match Nat.blt b a with
    |true=>false
    |false=>strLe r s
noncomputable def addOp (a b:AV):Option AV:=match a with
 |.it x=>match b with
  |.it y=>some (.it (Int.add x y))
  |_=>none
 |.ln js x=>match b with
  |.it (.ofNat y)=>some (.ln js (x+y))
  |_=>none
 |.st x=>match b with
  |.st y=>some (.st (x ++ y))
  |_=>none
 |.by x=>match b with
  |.by y=>some (.by (catCk x y))
  |_=>none
 |_=>none
noncomputable def subOp (a b:AV):Option AV:=match a with
 |.it x=>match b with
  |.it y=>some (.it (Int.sub x y))
  |_=>none
 |_=>none
noncomputable def mulOp (a b:AV):Option AV:=match a with
 |.it (.ofNat x)=>match Nat.blt x 1000000000000000 with
  |true=>match b with
   |.it y=>some (.it (Int.mul (.ofNat x) y))
   |_=>none
  |false=>none
 |.st x=>match b with
  |.it y=>match Z.leB y 0 with
   |true=>match Z.leB (.negSucc 100000) y with
    |true=>some (.st [])
    |false=>none
   |false=>none
  |_=>none
 |_=>none
noncomputable def modOp (p:Par) (a b:AV):Option AV:=match b with
 |.it (.ofNat (m+1))=>match a with
  |.it (.ofNat n)=>some (.it (.ofNat (n % (m+1))))
  |.sc k=>match Nat.beq m 43 with
   |true=>some (.sm k)
   |false=>none
  |.sm k=>match k with
   |0=>match Nat.beq m 3 with
    |true=>some (.it (.ofNat p.w))
    |false=>none
   |k+1=>match Nat.beq m 10 with
    |true=>some (.kx k)
    |false=>none
  |_=>none
 |_=>none
noncomputable def binOp (p:Par) (op:Operator) (a b:AV):Option AV:=match op with
 |.Add=>addOp a b
 |.Sub=>subOp a b
 |.Mult=>mulOp a b
 |.Mod=>modOp p a b
 |_=>none
mutual
noncomputable def dep:Nat->AV->Bool
 |n,.tu l=>match n with
  |0=>false
  |n+1=>deps n l
 |_,_=>true
noncomputable def deps:Nat->List AV->Bool
 |_,[]=>true
 |n,a :: r=>match dep n a with
  |true=>deps n r
  |false=>false
end
noncomputable def eqCe (sto:List (Nat × Cell)) (i j:Nat):Option Bool:=match look sto j with
 |some (.li m)=>match m with
  |[]=>match look sto i with
   |some (.li l)=>match l with
    |[]=>some true
    |_ :: _=>some false
   |_=>none
  |_ :: _=>none
 |_=>none
noncomputable def eqOp (sto:List (Nat × Cell)) (a b:AV):Option Bool:=match a with
 |.it x=>match b with
  |.it y=>some (Z.eqB x y)
  |_=>none
 |.ln js x=>match b with
  |.ln js' y=>match eqL js js' with
   |true=>some (Nat.beq x y)
   |false=>none
  |_=>none
 |.st x=>match b with
  |.st y=>some (eqL x y)
  |_=>none
 |.hd _=>match b with
  |.st y=>match eqL y [97,110,100] with
   |true=>some false
   |false=>none
  |_=>none
 |.by x=>match b with
  |.by y=>match eqC x y with
   |true=>some true
   |false=>match conc? x with
    |some x=>match conc? y with
     |some y=>some (eqL x y)
     |none=>none
    |none=>none
  |_=>none
 |.tu x=>match b with
  |.tu y=>match AV.eqs x y with
   |true=>match deps 30 x with
    |true=>some true
    |false=>none
   |false=>none
  |_=>none
 |.ce i=>match b with
  |.ce j=>eqCe sto i j
  |_=>none
 |_=>none
noncomputable def isNo (a b:AV):Option Bool:=match b with
 |.no=>match a with
  |.no=>some true
  |.tu _=>some false
  |.tr _=>some false
  |_=>none
 |_=>none
noncomputable def isIn (sto:List (Nat × Cell)) (a b:AV):Option Bool:=match a with
 |.st x=>match b with
  |.st y=>match x with
   |[c]=>some (hasN c y)
   |_=>none
  |.tu l=>match sts? l with
   |some l=>some (hasL x l)
   |none=>none
  |.ce i=>match look sto i with
   |some (.li l)=>match sts? l with
    |some l=>some (hasL x l)
    |none=>none
   |_=>none
  |_=>none
 |.it (.ofNat x)=>match b with
  |.by y=>match Nat.blt x 256 with
   |true=>match conc? y with
    |some l=>some (hasN x l)
    |none=>none
   |false=>none
  |_=>none
 |_=>none
noncomputable def notO:Option Bool->Option Bool
 |some b=>some (!b)
 |none=>none
noncomputable def neOp (sto:List (Nat × Cell)) (a b:AV):Option Bool:=match a with
 |.it _|.st _|.by _=>notO (eqOp sto a b)
 |_=>none
noncomputable def leOp (a b:AV):Option Bool:=match a with
 |.it x=>match b with
  |.it y=>some (Z.leB x y)
  |_=>none
 |.st x=>match b with
  |.st y=>some (strLe x y)
  |_=>none
 |_=>none
noncomputable def ltOp (a b:AV):Option Bool:=match pos? a with
 |some (js,x)=>match pos? b with
  |some (js',y)=>ltPos js x js' y
  |none=>none
 |none=>none
noncomputable def gtOp (a b:AV):Option Bool:=match a with
 |.it x=>match b with
  |.it y=>some (Z.ltB y x)
  |_=>none
 |_=>none
noncomputable def geOp (a b:AV):Option Bool:=match a with
 |.it x=>match b with
  |.it y=>some (Z.leB y x)
  |_=>none
 |_=>none
noncomputable def cmpOp (sto:List (Nat × Cell)) (op:CmpOp) (a b:AV):Option Bool:=match op with
 |.Eq=>eqOp sto a b
 |.NotEq=>neOp sto a b
 |.Lt=>ltOp a b
 |.LtE=>leOp a b
 |.Gt=>gtOp a b
 |.Is=>isNo a b
 |.IsNot=>notO (isNo a b)
 |.In=>isIn sto a b
 |.NotIn=>notO (isIn sto a b)
 |.GtE=>geOp a b
noncomputable def last?:List AV->Option AV
 |[]=>none
 |x :: r=>match r with
  |[]=>some x
  |_ :: _=>last? r
noncomputable def small (n:Nat):Bool:=Nat.blt n 100000
noncomputable def subN {α:Type} (l:List α) (n:Nat):Option α:=match small n with
 |true=>nth l n
 |false=>none
noncomputable def subTu (l:List AV) (i:Int):Option AV:=match i with
 |.ofNat n=>subN l n
 |.negSucc n=>match n with
  |0=>last? l
  |_+1=>none
noncomputable def posOk (js:List Nat) (c:Nat):Bool:=match ki js 1000 with
 |true=>small c
 |false=>false
noncomputable def subBy (cs:List Ck) (i:AV):Option AV:=match pos? i with
 |some (js,c)=>match posOk js c with
  |true=>match rest cs js c with
   |some (.lit (x :: _) :: _)=>some (.it (.ofNat x))
   |_=>none
  |false=>none
 |none=>none
noncomputable def subCe (kt:List AV) (sto:List (Nat × Cell)) (k:Nat) (i:AV):Option AV:=match look sto k with
 |some (.li l)=>match i with
  |.it (.ofNat n)=>subN l n
  |.kx j=>match Nat.blt j 50 with
   |true=>match AV.eqs l kt with
    |true=>some (.tu [.tr j,.by [.atm (2 * j)],.by [.atm (2 * j+1)]])
    |false=>none
   |false=>none
  |_=>none
 |_=>none
noncomputable def subI (kt:List AV) (sto:List (Nat × Cell)) (o i:AV):Option AV:=match o with
 |.st l=>match i with
  |.it (.ofNat n)=>match subN l n with
   |some c=>some (.st [c])
   |none=>none
  |_=>none
 |.by cs=>subBy cs i
 |.tu l=>match i with
  |.it n=>subTu l n
  |_=>none
 |.tr j=>match i with
  |.it (.ofNat 0)=>some (.hd j)
  |_=>none
 |.ce k=>subCe kt sto k i
 |_=>none
noncomputable def newC (s:Mine.St) (c:Cell) (k:Nat->Mine.St->Res):Res:=match s with
 |⟨sto,nx⟩=>fN nx fun nx=>fN (nx+1) fun nx'=>k nx ⟨(nx,c) :: sto,nx'⟩
noncomputable def setC (s:Mine.St) (i:Nat) (c:Cell) (k:Mine.St->Res):Res:=match s with
 |⟨sto,nx⟩=>put sto i c fun sto=>k ⟨sto,nx⟩
noncomputable def delC (s:Mine.St) (i:Nat) (k:Mine.St->Res):Res:=match s with
 |⟨sto,nx⟩=>del sto i fun sto=>k ⟨sto,nx⟩
noncomputable def scs:Nat->Nat->List AV
 |0,_=>[]
 |n+1,i=>.sc i :: scs n (i+1)
noncomputable def fitCk (cs:List Ck):Bool:=match lenCk cs with
 |(js,c)=>match ki js 1000 with
  |true=>Nat.blt c 100000
  |false=>false
noncomputable def fitA:AV->Bool
 |.st l=>Nat.blt l.length 100000
 |.by cs=>fitCk cs
 |_=>true
noncomputable def newL (s:Mine.St) (l:List AV):Res:=match ki l 10000 with
 |true=>fSp l fun l=>newC s (.li l) fun i s=>.v (.ce i) s
 |false=>.fail 78
noncomputable def retA (s:Mine.St) (a:AV):Res:=fA a fun a=>match fitA a with
 |true=>.v a s
 |false=>.fail 77
noncomputable def ofO (n:Nat) (s:Mine.St):Option AV->Res
 |some a=>retA s a
 |none=>.fail n
noncomputable def ofB (n:Nat) (s:Mine.St):Option Bool->Res
 |some b=>match b with
  |true=>.v (.bo true) s
  |false=>.v (.bo false) s
 |none=>.fail n
noncomputable def slcBy (s:Mine.St) (cs:List Ck) (lo hi:AV):Res:=match conc? cs with
 |some l=>match part? lo with
  |some lo=>match part? hi with
   |some hi=>retA s (mkBy (cut l lo hi))
   |none=>.fail 101
  |none=>.fail 101
 |none=>match pos? lo with
  |some (js,a)=>match pos? hi with
   |some (js',b)=>match rest cs js a with
    |some (.lit l :: r)=>match eqL js js' with
     |true=>match Nat.ble a b with
      |true=>match Nat.ble (b - a) l.length with
       |true=>retA s (mkBy (l.take (b - a)))
       |false=>match r with
        |[]=>retA s (mkBy l)
        |_ :: _=>.fail 102
      |false=>.fail 102
     |false=>.fail 102
    |_=>.fail 102
   |none=>.fail 102
  |none=>.fail 102
noncomputable def slcCe (s:Mine.St) (l:List AV) (lo hi st:AV):Res:=match hi with
 |.no=>match st with
  |.no=>match lo with
   |.it (.ofNat 1)=>newL s (l.drop 1)
   |_=>.fail 103
  |.it (.negSucc 0)=>match lo with
   |.no=>newL s l.reverse
   |_=>.fail 103
  |_=>.fail 103
 |_=>.fail 103
noncomputable def slc (p:Par) (s:Mine.St) (o lo hi st:AV):Res:=match o with
 |.st l=>match st with
  |.no=>match small l.length with
   |true=>match part? lo with
    |some lo=>match part? hi with
     |some hi=>retA s (.st (cut l lo hi))
     |none=>.fail 104
    |none=>.fail 104
   |false=>.fail 104
  |_=>.fail 104
 |.by cs=>match st with
  |.no=>slcBy s cs lo hi
  |_=>.fail 104
 |.ce k=>match look s.sto k with
  |some (.li l)=>slcCe s l lo hi st
  |_=>.fail 104
 |.scr=>match lo with
  |.no=>match hi with
   |.it (.ofNat 4)=>match st with
    |.no=>newL s (scs p.n 0)
    |_=>.fail 105
   |_=>.fail 105
  |_=>.fail 105
 |_=>.fail 104
noncomputable def lenA (s:Mine.St) (a:AV):Res:=match a with
 |.st l=>match ki l 10000 with
  |true=>retA s (.it (.ofNat l.length))
  |false=>.fail 106
 |.by cs=>match lenCk cs with
  |(js,c)=>match ki js 10000 with
   |true=>match small c with
    |true=>retA s (mkPos js c)
    |false=>.fail 106
   |false=>.fail 106
 |.tu l=>match ki l 10000 with
  |true=>retA s (.it (.ofNat l.length))
  |false=>.fail 106
 |.ce k=>match look s.sto k with
  |some (.li l)=>match ki l 10000 with
   |true=>retA s (.it (.ofNat l.length))
   |false=>.fail 106
  |_=>.fail 106
 |_=>.fail 106
noncomputable def bytesA (s:Mine.St) (a:AV):Res:=match a with
 |.ce k=>match look s.sto k with
  |some (.li l)=>match its? l with
   |some l=>match ki l 10000 with
    |true=>retA s (mkBy l)
    |false=>.fail 107
   |none=>.fail 107
  |some (.ba l)=>retA s (mkBy l)
  |_=>.fail 107
 |.by cs=>.v (.by cs) s
 |_=>.fail 107
noncomputable def bi1 (b:Bi) (a:AV) (s:Mine.St):Res:=match b with
 |.len=>lenA s a
 |.ord=>match a with
  |.st l=>match l with
   |[c]=>.v (.it (.ofNat c)) s
   |_=>.fail 108
  |_=>.fail 108
 |.chr=>match a with
  |.it (.ofNat n)=>match Nat.blt n 128 with
   |true=>.v (.st [n]) s
   |false=>.fail 108
  |_=>.fail 108
 |.str=>match a with
  |.it (.ofNat n)=>match Nat.blt n 10000 with
   |true=>retA s (.st (figs 5 n []))
   |false=>.fail 108
  |_=>.fail 108
 |.int=>match a with
  |.st l=>match l with
   |[]=>.fail 108
   |x :: r=>match Nat.ble r.length 5 with
    |true=>match digs (x :: r) 0 with
     |some n=>retA s (.it (.ofNat n))
     |none=>.fail 108
    |false=>.fail 108
  |.sc k=>.v (.sc k) s
  |_=>.fail 108
 |.range=>match a with
  |.it (.ofNat n)=>match Nat.blt n 10000 with
   |true=>.v (.rg n) s
   |false=>.fail 108
  |_=>.fail 108
 |.bytes=>bytesA s a
 |.bytearray=>match a with
  |.by cs=>match conc? cs with
   |some l=>match ki l 10000 with
    |true=>newC s (.ba l) fun i s=>.v (.ce i) s
    |false=>.fail 108
   |none=>.fail 108
  |_=>.fail 108
 |.tuple=>match a with
  |.ce k=>match look s.sto k with
   |some (.li l)=>match ki l 10000 with
    |true=>.v (.tu l) s
    |false=>.fail 108
   |_=>.fail 108
  |_=>.fail 108
 |.all=>match a with
  |.ce k=>match look s.sto k with
   |some (.li l)=>match bos? l with
    |some l=>ofB 108 s (some (allB l))
    |none=>.fail 108
   |_=>.fail 108
  |_=>.fail 108
 |_=>.fail 108
noncomputable def biCall (b:Bi) (args:List AV) (s:Mine.St):Res:=match args with
 |[]=>match b with
  |.bytearray=>newC s (.ba []) fun i s=>.v (.ce i) s
  |_=>.fail 109
 |a :: r=>match r with
  |[]=>bi1 b a s
  |c :: r=>match r with
   |[]=>match b with
    |.min=>match a with
     |.it x=>match c with
      |.it y=>match Z.ltB y x with
       |true=>.v (.it y) s
       |false=>.v (.it x) s
      |_=>.fail 109
     |_=>.fail 109
    |_=>.fail 109
   |_=>.fail 109
noncomputable def mapSt:List (List Nat)->List AV
 |[]=>[]
 |x :: r=>.st x :: mapSt r
noncomputable def joinA (s:Mine.St) (sep:List Nat) (l:List AV):Res:=match small sep.length with
 |true=>match sts? l with
  |some xs=>retA s (.st (joinL sep xs))
  |none=>.fail 110
 |false=>.fail 110
noncomputable def methSt (l:List Nat) (a:Nat) (args:List AV) (s:Mine.St):Res:=match args with
 |[]=>match Nat.beq a 5 with
  |true=>match ascii l with
   |true=>retA s (.st (lowL l))
   |false=>.fail 111
  |false=>.fail 111
 |x :: r=>match r with
  |_ :: _=>.fail 111
  |[]=>match x with
   |.ce k=>match Nat.beq a 3 with
    |true=>match look s.sto k with
     |some (.li xs)=>joinA s l xs
     |_=>.fail 112
    |false=>.fail 112
   |.tu xs=>match Nat.beq a 3 with
    |true=>joinA s l xs
    |false=>.fail 112
   |.st y=>match Nat.beq a 4 with
    |true=>match y with
     |[c]=>match Nat.blt l.length 10000 with
      |true=>fAs (mapSt (splitG c l [])) fun l=>newC s (.li l) fun i s=>.v (.ce i) s
      |false=>.fail 113
     |_=>.fail 113
    |false=>match Nat.beq a 33 with
     |true=>match eqL y [97,115,99,105,105] with
      |true=>match ascii l with
       |true=>retA s (mkBy l)
       |false=>.fail 113
      |false=>.fail 113
     |false=>.fail 113
   |_=>.fail 112
noncomputable def methBy (l:List Ck) (a:Nat) (args:List AV) (s:Mine.St):Res:=match args with -- methCe0
 |[x]=>match x with
  |.ce k=>match Nat.beq a 3 with
   |true=>match look s.sto k with
    |some (.li xs)=>match bys? xs with
     |some xs=>retA s (.by (joinCk l xs))
     |none=>.fail 114
    |_=>.fail 114
   |false=>.fail 114
  |_=>.fail 114
 |_=>.fail 114
noncomputable def methLi (k:Nat) (l:List AV) (a:Nat) (x:AV) (s:Mine.St):Res:=match Nat.beq a 8 with
 |true=>fSp (l ++ [x]) fun l=>match ki l 10000 with
  |true=>setC s k (.li l) fun s=>.v .no s
  |false=>.fail 115
 |false=>match Nat.beq a 9 with
  |true=>match x with
   |.ce j=>match look s.sto j with
    |some (.li m)=>fSp (l ++ m) fun l=>match ki l 10000 with
     |true=>setC s k (.li l) fun s=>.v .no s
     |false=>.fail 115
    |_=>.fail 115
   |_=>.fail 115
  |false=>match Nat.beq a 10 with
   |true=>match x with
    |.st x=>match sts? l with
     |some l=>match findL x l 0 with
      |some n=>match small n with
       |true=>retA s (.it (.ofNat n))
       |false=>.fail 115
      |none=>.fail 115
     |none=>.fail 115
    |_=>.fail 115
   |false=>.fail 115
noncomputable def lookS {α:Type}:List (List Nat × α)->List Nat->Option α
 |[],_=>none
 |(y,d) :: r,x=>match eqL y x with
  |true=>some d
  |false=>lookS r x
noncomputable def methCe (k:Nat) (a:Nat) (args:List AV) (s:Mine.St):Res:=match look s.sto k with
 |some (.li l)=>match args with
  |[x]=>methLi k l a x s
  |_=>.fail 116
 |some (.ba l)=>match args with
  |[x]=>match x with
   |.it (.ofNat n)=>match Nat.beq a 8 with
    |true=>match Nat.blt n 256 with
     |true=>fL (l ++ [n]) fun l=>match ki l 10000 with
      |true=>setC s k (.ba l) fun s=>.v .no s
      |false=>.fail 116
     |false=>.fail 116
    |false=>.fail 116
   |_=>.fail 116
  |_=>.fail 116
 |some (.di es)=>match args with
  |[x,d]=>match x with
   |.st x=>match Nat.beq a 6 with
    |true=>match lookS es x with
     |some y=>.v y s
     |none=>.v d s
    |false=>.fail 116
   |_=>.fail 116
  |_=>.fail 116
 |_=>.fail 116
noncomputable def methB (o:AV) (a:Nat) (args:List AV) (s:Mine.St):Res:=match o with
 |.st l=>methSt l a args s
 |.by cs=>methBy cs a args s
 |.ce k=>methCe k a args s
 |_=>.fail 117
noncomputable def mkIter (s:Mine.St) (a:AV) (k:Nat->Mine.St->Res):Res:=match a with
 |.ce i=>match look s.sto i with
  |some (.li _)=>newC s (.iL i 0) k
  |_=>.fail 118
 |.tu l=>newC s (.iV l 0) k
 |.by cs=>match conc? cs with
  |some l=>newC s (.iB l 0) k
  |none=>.fail 118
 |.st l=>match ascii l with
  |true=>newC s (.iS l 0) k
  |false=>.fail 118
 |.rg n=>match small n with
  |true=>newC s (.iR n 0) k
  |false=>.fail 118
 |_=>.fail 118
noncomputable def nextIn (s:Mine.St) (c:Nat) (k:Option AV->Mine.St->Res):Res:=match look s.sto c with
 |some (.iL j i)=>match look s.sto j with
  |some (.li l)=>match nth l i with
   |some x=>fN (i+1) fun i=>setC s c (.iL j i) (k (some x))
   |none=>delC s c (k none)
  |_=>.fail 119
 |some (.iV l i)=>match nth l i with
  |some x=>fN (i+1) fun i=>setC s c (.iV l i) (k (some x))
  |none=>delC s c (k none)
 |some (.iB l i)=>match nth l i with
  |some x=>fN (i+1) fun i=>setC s c (.iB l i) (k (some (.it (.ofNat x))))
  |none=>delC s c (k none)
 |some (.iS l i)=>match nth l i with
  |some x=>fN (i+1) fun i=>setC s c (.iS l i) (k (some (.st [x])))
  |none=>delC s c (k none)
 |some (.iR n i)=>match Nat.blt i n with
  |true=>fN (i+1) fun i'=>setC s c (.iR n i') (k (some (.it (.ofNat i))))
  |false=>delC s c (k none)
 |_=>.fail 119
noncomputable def putA:List (Nat × AV)->Nat->AV->List (Nat × AV)
 |[],i,a=>[(i,a)]
 |(j,d) :: r,i,a=>match Nat.beq j i with
  |true=>(j,a) :: r
  |false=>(j,d) :: putA r i a
noncomputable def putS:List (List Nat × AV)->List Nat->AV->List (List Nat × AV)
 |[],x,a=>[(x,a)]
 |(y,d) :: r,x,a=>match eqL y x with
  |true=>(y,a) :: r
  |false=>(y,d) :: putS r x a
abbrev KLoc:=List AV->Mine.St->Res
noncomputable def asNm (i:Nat) (a:AV) (loc:List AV) (s:Mine.St) (k:KLoc):Res:=match Nat.blt i loc.length with
 |true=>upd loc i a fun loc=>k loc s
 |false=>.fail 120
noncomputable def okA (a:Nat):Bool:=match Nat.beq a 2 with
 |true=>true
 |false=>Nat.beq a 12
noncomputable def okEs:List (Nat × AV)->Bool
 |[]=>true
 |(j,_) :: r=>match okA j with
  |true=>okEs r
  |false=>false
noncomputable def asAt (o:AV) (at_:Nat) (a:AV) (loc:List AV) (s:Mine.St) (k:KLoc):Res:=match o with
 |.ob c=>match look s.sto c with
  |some (.id es)=>match okA at_ with
   |true=>match okEs es with
    |true=>match ki es 100 with
     |true=>fSp (putA es at_ a) fun es=>setC s c (.id es) fun s=>k loc s
     |false=>.fail 121
    |false=>.fail 121
   |false=>.fail 121
  |_=>.fail 121
 |_=>.fail 121
noncomputable def asSu (o x a:AV) (loc:List AV) (s:Mine.St) (k:KLoc):Res:=match o with
 |.ce c=>match x with
  |.st x=>match look s.sto c with
   |some (.di es)=>match ki es 10000 with
    |true=>fSp (putS es x a) fun es=>setC s c (.di es) fun s=>k loc s
    |false=>.fail 122
   |_=>.fail 122
  |_=>.fail 122
 |_=>.fail 122
noncomputable def asgn1 (t:XE) (a:AV) (loc:List AV) (s:Mine.St) (k:KLoc):Res:=match t with
 |.nm i _=>asNm i a loc s k
 |.att e at_ _=>match e with
  |.nm i _=>match nth loc i with
   |some o=>asAt o at_ a loc s k
   |none=>.fail 123
  |_=>.fail 123
 |.sub e f _=>match e with
  |.nm i _=>match f with
   |.nm j _=>match nth loc i with
    |some o=>match nth loc j with
     |some x=>asSu o x a loc s k
     |none=>.fail 123
    |none=>.fail 123
   |_=>.fail 123
  |_=>.fail 123
 |_=>.fail 123
noncomputable def tidx:List XE->Option (List Nat)
 |[]=>some []
 |t :: r=>match t with
  |.nm i _=>match tidx r with
   |some is=>some (i :: is)
   |none=>none
  |_=>none
noncomputable def hasI (n:Nat):List Nat->Bool
 |[]=>false
 |x :: r=>match Nat.beq x n with
  |true=>true
  |false=>hasI n r
noncomputable def ndp:List Nat->Bool
 |[]=>true
 |x :: r=>match hasI x r with
  |true=>false
  |false=>ndp r
noncomputable def asgns:List Nat->List AV->List AV->Mine.St->KLoc->Res
 |[],as,loc,s,k=>match as with
  |[]=>k loc s
  |_ :: _=>.fail 124
 |i :: ts,as,loc,s,k=>match as with
  |[]=>.fail 124
  |a :: as=>asNm i a loc s fun loc s=>asgns ts as loc s k
noncomputable def asgnT (is:Option (List Nat)) (as:List AV) (loc:List AV) (s:Mine.St) (k:KLoc):Res:=match is with
 |some is=>match ndp is with
  |true=>asgns is as loc s k
  |false=>.fail 124
 |none=>.fail 124
noncomputable def asgn (t:XE) (a:AV) (loc:List AV) (s:Mine.St) (k:KLoc):Res:=match t.tup? with
 |some ts=>match a with
  |.tu as=>asgnT (tidx ts) as loc s k
  |_=>.fail 124
 |none=>asgn1 t a loc s k
structure Z where
 p:Par
 ih:RunTy
noncomputable def stv (k:Nat):List Nat:=match stab.get k with
 |some p=>p.2
 |none=>[]
noncomputable def gval (C:EC) (j:Nat):AV:=match nth C.gls j with
 |some g=>match gtab.get g with
  |some p=>p.2
  |none=>.un
 |none=>.un
noncomputable def up:Res->Res
 |.fail n=>.fail n
 |_=>.fail 250
noncomputable def upX:Res->Res
 |.fail n=>.fail n
 |.ex k s=>.ex k s
 |_=>.fail 251
noncomputable def flO:Res->Res
 |.fl f loc s=>.fl f loc s
 |r=>up r
noncomputable def noCe (s0nx:Nat) (a:AV) (s:Mine.St):Res:=match AV.free a with
 |true=>match s with
  |⟨sto,nx⟩=>fSp (dropN sto s0nx) fun sto=>.v a ⟨sto,nx⟩
 |false=>.v a s
section
variable (z:Z) (cd:Nat) (C:EC) (loc:List AV) (s:Mine.St)
noncomputable def e_nm (i:Nat):Res:=match nth loc i with
 |some a=>match a with
  |.un=>.fail 1
  |a=>.v a s
 |none=>.fail 1
noncomputable def e_gl (j:Nat):Res:=match gval C j with
 |.un=>.fail 2
 |a=>.v a s
noncomputable def e_att2 (a:Nat):Res->Res
 |.v o s=>match o with
  |.ob k=>match look s.sto k with
   |some (.id es)=>match okEs es with
    |true=>match look es a with
     |some x=>.v x s
     |none=>match look wmeth a with
      |some f=>.v (.bm k f) s
      |none=>.fail 3
    |false=>.fail 3
   |_=>.fail 3
  |_=>.fail 3
 |r=>up r
noncomputable def calleeB:AV->Bool
 |.fn _=>true
 |.kl _=>true
 |.bi _=>true
 |.bm _ _=>true
 |_=>false
noncomputable def e_call3 (f:AV):Res->Res
 |.vs as s=>z.ih cd C loc s (.cal f as)
 |r=>upX r
noncomputable def e_call2 (args:List XE):Res->Res
 |.v f s=>match calleeB f with
  |true=>e_call3 z cd C loc f (z.ih cd C loc s (.evs args))
  |false=>.fail 5
 |r=>upX r
noncomputable def e_mcl3 (k f:Nat):Res->Res
 |.vs as s=>z.ih cd C loc s (.cal (.fn f) (.ob k :: as))
 |r=>upX r
noncomputable def mkind (o:AV) (s:Mine.St):Nat:=match o with
 |.st _=>1
 |.by _=>2
 |.ce k=>match look s.sto k with
  |some (.li _)=>3
  |some (.ba _)=>4
  |some (.di _)=>5
  |_=>0
 |_=>0
noncomputable def lkS (a:Nat):List (Nat × String)->Option String
 |[]=>none
 |(b,s) :: r=>match Nat.beq a b with
  |true=>some s
  |false=>lkS a r
noncomputable def mTab:Nat->List (Nat × String)
 |1=>[(3,"str.join"),(4,"str.split"),(5,"str.lower"),(33,"str.encode")]
 |2=>[(3,"bytes.join")]
 |3=>[(8,"list.append"),(9,"list.extend"),(10,"list.index")]
 |4=>[(8,"bytearray.append")]
 |5=>[(6,"dict.get")]
 |_=>[]
noncomputable def mId (k a:Nat):Option String:=lkS a (mTab k)
noncomputable def e_mcl4 (kd:Nat) (o:AV) (a:Nat):Res->Res
 |.vs as s=>match Nat.beq (mkind o s) kd with
  |true=>methB o a as s
  |false=>.fail 4
 |r=>up r
noncomputable def nameOk (f:XE):Bool:=match f with
 |.nm _ _=>true
 |.gl _ _=>true
 |_=>false
noncomputable def baseOk (o:XE):Bool:=match o with
 |.cal f _ _=>match f with
  |.nm _ _=>false
  |_=>true
 |_=>true
noncomputable def mclOk (o:XE) (ap:Pos) (args:List XE) (p:Pos):Bool:=match baseOk o with
 |true=>match Nat.beq ap.endLine p.line with
  |true=>ki args 29
  |false=>false
 |false=>false
noncomputable def e_mcl2 (a:Nat) (args:List XE):Res->Res
 |.v o s=>match o.ob? with
  |some k=>match look s.sto k with
   |some (.id es)=>match okEs es with
    |true=>match look es a with
     |some _=>.fail 4
     |none=>match look wmeth a with
      |some f=>e_mcl3 z cd C loc k f (z.ih cd C loc s (.evs args))
      |none=>.fail 4
    |false=>.fail 4
   |_=>.fail 4
  |none=>match mId (mkind o s) a with
   |some _=>e_mcl4 (mkind o s) o a (z.ih cd C loc s (.evs args))
   |none=>.fail 4
 |r=>up r
noncomputable def xopt:Option XE->XE
 |some e=>e
 |none=>.cN ⟨0,0,0,0⟩
noncomputable def e_slc5 (o lo hi:AV):Res->Res
 |.v st s=>slc z.p s o lo hi st
 |r=>up r
noncomputable def e_slc4 (st:Option XE) (o lo:AV):Res->Res
 |.v hi s=>e_slc5 z o lo hi (z.ih cd C loc s (.ev (xopt st)))
 |r=>up r
noncomputable def e_slc3 (hi st:Option XE) (o:AV):Res->Res
 |.v lo s=>e_slc4 z cd C loc st o lo (z.ih cd C loc s (.ev (xopt hi)))
 |r=>up r
noncomputable def e_slc2 (lo hi st:Option XE):Res->Res
 |.v o s=>e_slc3 z cd C loc hi st o (z.ih cd C loc s (.ev (xopt lo)))
 |r=>up r
noncomputable def e_sub3 (o:AV):Res->Res
 |.v i s=>ofO 7 s (subI z.p.kt s.sto o i)
 |r=>up r
noncomputable def e_sub2 (i:XE):Res->Res
 |.v o s=>e_sub3 z o (z.ih cd C loc s (.ev i))
 |r=>up r
noncomputable def e_sub (o i:XE):Res:=match i.slc? with
 |some (lo,hi,st)=>e_slc2 z cd C loc lo hi st (z.ih cd C loc s (.ev o))
 |none=>e_sub2 z cd C loc i (z.ih cd C loc s (.ev o))
noncomputable def e_mulL (k:Nat) (b:AV) (s:Mine.St):Res:=match b with
 |.it (.ofNat 1)=>match look s.sto k with
  |some (.li l)=>newL s l
  |_=>.fail 9
 |_=>.fail 9
noncomputable def e_bin3 (op:Operator) (a:AV):Res->Res
 |.v b s=>match a.ce? with
  |some k=>match op with
   |.Mult=>e_mulL k b s
   |_=>.fail 9
  |none=>ofO 9 s (binOp z.p op a b)
 |r=>up r
noncomputable def e_bin2 (op:Operator) (r:XE):Res->Res
 |.v a s=>e_bin3 z op a (z.ih cd C loc s (.ev r))
 |r=>up r
noncomputable def e_cmp4 (op:CmpOp) (b:AV):Res->Res
 |.v c s=>ofB 10 s (cmpOp s.sto op b c)
 |r=>up r
noncomputable def e_cmp3 (op:CmpOp) (a:AV) (op':CmpOp) (r':XE):Res->Res
 |.v b s=>match cmpOp s.sto op a b with
  |some true=>e_cmp4 op' b (z.ih cd C loc s (.ev r'))
  |some false=>.v (.bo false) s
  |none=>.fail 10
 |r=>up r
noncomputable def e_cmp2 (ops:List CmpOp) (rs:List XE):Res->Res
 |.v a s=>match ops with
  |[op]=>match rs with
   |[r]=>e_cmp4 op a (z.ih cd C loc s (.ev r))
   |_=>.fail 10
  |[op,op']=>match rs with
   |[r,r']=>e_cmp3 z cd C loc op a op' r' (z.ih cd C loc s (.ev r))
   |_=>.fail 10
  |_=>.fail 10
 |r=>up r
noncomputable def e_bop2 (op:BoolOp) (rest:List XE) (p:Pos):Res->Res
 |.v a s=>match a with
  |.bo b=>match op with
   |.And=>match b with
    |true=>z.ih cd C loc s (.ev (.bop .And rest p))
    |false=>.v (.bo false) s
   |.Or=>match b with
    |true=>.v (.bo true) s
    |false=>z.ih cd C loc s (.ev (.bop .Or rest p))
  |_=>.fail 11
 |r=>up r
noncomputable def e_bop (op:BoolOp) (vs:List XE) (p:Pos):Res:=match vs with
 |[]=>.fail 11
 |x :: r=>match r with
  |[]=>z.ih cd C loc s (.ev x)
  |y :: r=>e_bop2 z cd C loc op (y :: r) p (z.ih cd C loc s (.ev x))
noncomputable def e_uny2 (op:UnaryOp):Res->Res
 |.v a s=>match op with
  |.Not=>match a with
   |.bo b=>.v (.bo (!b)) s
   |_=>.fail 12
  |.USub=>match a with
   |.it i=>retA s (.it (Int.neg i))
   |_=>.fail 12
  |_=>.fail 12
 |r=>up r
noncomputable def e_ife2 (b o:XE):Res->Res
 |.b c s=>match c with
  |true=>z.ih cd C loc s (.ev b)
  |false=>z.ih cd C loc s (.ev o)
 |r=>up r
noncomputable def e_tup2:Res->Res
 |.vs as s=>match ki as 10000 with
  |true=>.v (.tu as) s
  |false=>.fail 79
 |r=>upX r
noncomputable def e_lst2:Res->Res
 |.vs as s=>newL s as
 |r=>up r
set_option tactic.hygienic true in
noncomputable def e_comp3 (acc:Nat):Res->Res
 |.fl f _ s=>match f with
  |.next=>.v (.ce acc) s
  |_=>.fail 14
 |r=>up r
noncomputable def uns:List Str->List AV
 |[]=>[]
 |_ :: r=>.un :: uns r
noncomputable def e_comp2 (cc:CI) (elt tgt:XE) (ifs:List XE):Res->Res
 |.v a s=>mkIter s a fun c s=>newC s (.li []) fun acc s=>
   e_comp3 acc (z.ih cd cc.ec (uns cc.ec.names) s (.cml elt tgt ifs c acc))
 |r=>up r
noncomputable def freeC (ci:Nat):Bool:=match Nat.beq ci 5 with
 |true=>true
 |false=>Nat.beq ci 13
noncomputable def e_comp (ci:Nat) (elt tgt it:XE) (ifs:List XE):Res:=match freeC ci with
 |true=>.fail 14
 |false=>match nth ctab ci with
  |some cc=>e_comp2 z cd cc elt tgt ifs (z.ih cd C loc s (.ev it))
  |none=>.fail 14
noncomputable def s_ev (e:XE):Res:=match e with
 |.nm i _=>e_nm loc s i
 |.gl j _=>e_gl C s j
 |.cN _=>.v .no s
 |.cB b _=>.v (.bo b) s
 |.cI i _=>retA s (.it i)
 |.cS k _=>.v (.st (stv k)) s
 |.cY l _=>retA s (mkBy (l.map UInt8.toNat))
 |.att e a _=>match baseOk e with
  |true=>e_att2 a (z.ih cd C loc s (.ev e))
  |false=>.fail 3
 |.cal f args _=>match nameOk f with
  |true=>e_call2 z cd C loc args (z.ih cd C loc s (.ev f))
  |false=>.fail 5
 |.mcl o a ap args p=>match mclOk o ap args p with
  |true=>e_mcl2 z cd C loc a args (z.ih cd C loc s (.ev o))
  |false=>.fail 4
 |.sub o i _=>e_sub z cd C loc s o i
 |.slc _ _ _ _=>.fail 8
 |.bin l op r _=>e_bin2 z cd C loc op r (z.ih cd C loc s (.ev l))
 |.cmp l ops rs _=>e_cmp2 z cd C loc ops rs (z.ih cd C loc s (.ev l))
 |.bop op vs p=>e_bop z cd C loc s op vs p
 |.uny op e _=>e_uny2 op (z.ih cd C loc s (.ev e))
 |.ife t b o _=>e_ife2 z cd C loc b o (z.ih cd C loc s (.tst t))
 |.tup es _ _=>e_tup2 (z.ih cd C loc s (.evs es))
 |.lst es _=>e_lst2 (z.ih cd C loc s (.evs es))
 |.dct ks vs _=>match ks with
  |[]=>match vs with
   |[]=>newC s (.di []) fun i s=>.v (.ce i) s
   |_ :: _=>.fail 13
  |_ :: _=>.fail 13
 |.cmp1 ci elt tgt it ifs _=>e_comp z cd C loc s ci elt tgt it ifs
noncomputable def s_evs3 (a:AV):Res->Res
 |.vs as s=>.vs (a :: as) s
 |r=>upX r
noncomputable def s_evs2 (r:List XE):Res->Res
 |.v a s=>s_evs3 a (z.ih cd C loc s (.evs r))
 |r=>upX r
noncomputable def s_evs (es:List XE):Res:=match es with
 |[]=>.vs [] s
 |e :: r=>s_evs2 z cd C loc r (z.ih cd C loc s (.ev e))
noncomputable def t_not:Res->Res
 |.b b s=>.b (!b) s
 |r=>up r
noncomputable def t_bop2 (op:BoolOp) (rest:List XE) (p:Pos):Res->Res
 |.b b s=>match op with
  |.And=>match b with
   |true=>z.ih cd C loc s (.tst (.bop .And rest p))
   |false=>.b false s
  |.Or=>match b with
   |true=>.b true s
   |false=>z.ih cd C loc s (.tst (.bop .Or rest p))
 |r=>up r
noncomputable def t_bop (op:BoolOp) (vs:List XE) (p:Pos):Res:=match vs with
 |[]=>match op with
  |.And=>.b true s
  |.Or=>.b false s
 |x :: rest=>t_bop2 z cd C loc op rest p (z.ih cd C loc s (.tst x))
noncomputable def t_ife2 (b o:XE):Res->Res
 |.b c s=>match c with
  |true=>z.ih cd C loc s (.tst b)
  |false=>z.ih cd C loc s (.tst o)
 |r=>up r
noncomputable def t_any:Res->Res
 |.v a s=>match a with
  |.bo b=>.b b s
  |_=>.fail 15
 |r=>up r
noncomputable def s_tst (e:XE):Res:=match e with
 |.uny op x p=>match op with
  |.Not=>t_not (z.ih cd C loc s (.tst x))
  |op=>t_any (z.ih cd C loc s (.ev (.uny op x p)))
 |.bop op vs p=>t_bop z cd C loc s op vs p
 |.ife t b o _=>t_ife2 z cd C loc b o (z.ih cd C loc s (.tst t))
 |.cmp l ops rs _=>t_any (e_cmp2 z cd C loc ops rs (z.ih cd C loc s (.ev l)))
 |e=>t_any (z.ih cd C loc s (.ev e))
noncomputable def x_exp:Res->Res
 |.v _ s=>.fl .next loc s
 |r=>upX r
noncomputable def expOk (e:XE):Bool:=match e with
 |.cmp1 _ _ _ _ _ _=>false
 |_=>true
noncomputable def x_asg2 (t:XE):Res->Res
 |.v a s=>asgn t a loc s fun loc s=>.fl .next loc s
 |r=>upX r
noncomputable def swNo (sc:Scope) (x:Str):Bool:=!(sc.names.any fun n=>n.1 == x && (n.2 == .local || n.2 == .cell))
noncomputable def x_asgC (i:Nat) (np:Pos) (ci:Nat) (elt tgt it:XE) (ifs:List XE) (q:Pos):Res:=match Nat.beq np.line q.line with
 |true=>match nth ctab ci with
  |some cc=>match nth C.names i with
   |some x=>match swNo cc.sc x with
    |true=>x_asg2 loc (.nm i np) (e_comp z cd C loc s ci elt tgt it ifs)
    |false=>.fail 16
   |none=>.fail 16
  |none=>.fail 16
 |false=>.fail 16
noncomputable def isK:XE->Bool
 |.cN _=>true
 |.cB _ _=>true
 |.cI _ _=>true
 |.cS _ _=>true
 |.cY _ _=>true
 |_=>false
noncomputable def allK:List XE->Bool
 |[]=>true
 |e :: r=>match isK e with
  |true=>allK r
  |false=>false
noncomputable def isN:XE->Bool
 |.nm _ _=>true
 |.cal _ _ _=>true
 |.mcl _ _ _ _ _=>true
 |.att _ _ _=>true
 |.lst _ _=>true
 |.sub e _ _=>match e with
  |.nm _ _=>true
  |_=>false
 |_=>false
noncomputable def anyN:List XE->Bool
 |[]=>false
 |e :: r=>match isN e with
  |true=>true
  |false=>anyN r
noncomputable def swK (vs:List XE):Bool:=match allK vs with
 |true=>true
 |false=>anyN vs
noncomputable def x_asg1 (t e:XE):Res:=match e with
 |.tup vs k q=>match swK vs with
  |true=>x_asg2 loc t (z.ih cd C loc s (.ev (.tup vs k q)))
  |false=>.fail 16
 |.cmp1 ci elt tgt it ifs q=>match t with
  |.nm i np=>x_asgC z cd C loc s i np ci elt tgt it ifs q
  |_=>.fail 16
 |e=>x_asg2 loc t (z.ih cd C loc s (.ev e))
noncomputable def x_asg (ts:List XE) (e:XE):Res:=match ts with
 |[]=>.fail 16
 |t :: r=>match r with
  |[]=>x_asg1 z cd C loc s t e
  |_ :: _=>.fail 16
noncomputable def x_aug3 (i:Nat) (s:Mine.St):Option AV->Res
 |some x=>fA x fun x=>asNm i x loc s fun loc s=>.fl .next loc s
 |none=>.fail 17
noncomputable def x_aug2 (i:Nat) (op:Operator) (a:AV):Res->Res
 |.v b s=>match a with
  |.it _=>match op with
   |.Add=>x_aug3 loc i s (binOp z.p .Add a b)
   |_=>.fail 17
  |_=>.fail 17
 |r=>up r
noncomputable def x_aug (i:Nat) (op:Operator) (e:XE):Res:=match nth loc i with
 |some a=>x_aug2 z loc i op a (z.ih cd C loc s (.ev e))
 |none=>.fail 17
noncomputable def x_iff2 (b o:List XS):Res->Res
 |.b c s=>match c with
  |true=>z.ih cd C loc s (.ex b)
  |false=>z.ih cd C loc s (.ex o)
 |r=>up r
noncomputable def x_for2 (t:XE) (b:List XS):Res->Res
 |.v a s=>mkIter s a fun c s=>flO (z.ih cd C loc s (.frl t c b))
 |r=>up r
noncomputable def x_ret2:Res->Res
 |.v a s=>.fl (.ret a) loc s
 |r=>upX r
noncomputable def x_ret (e:Option XE):Res:=match e with
 |none=>.fl (.ret .no) loc s
 |some e=>x_ret2 loc (z.ih cd C loc s (.ev e))
noncomputable def x_rai2:Res->Res
 |.v a s=>match a with
  |.ce i=>match look s.sto i with
   |some (.exc k)=>match Nat.blt k 7 with
    |true=>delC s i fun s=>.ex k s
    |false=>.fail 19
   |_=>.fail 19
  |_=>.fail 19
 |r=>up r
noncomputable def unl:List AV->List AV
 |[]=>[]
 |_ :: r=>.un :: unl r
noncomputable def x_triX (sto:List (Nat × Cell)) (hb:Bool):Res->Res
 |.ex k s=>match Nat.blt k 7 with
  |true=>match s with
   |⟨_,nx⟩=>.fl (.ret (.bo hb)) (unl loc) ⟨sto,nx⟩
  |false=>.fail 18
 |r=>up r
noncomputable def x_triN:Res->Res
 |.fl f loc s=>.fl f loc s
 |r=>up r
noncomputable def hbB:List XS->Option Bool
 |[s]=>match s with
  |.ret (some (.cB h _)) _=>some h
  |_=>none
 |_=>none
noncomputable def expB:List XS->Option XE
 |[s]=>match s with
  |.exp e _=>some e
  |_=>none
 |_=>none
noncomputable def x_triC (b:List XS) (hb:List XS):Res:=match hbB hb with
 |some h=>match expB b with
  |some e=>match expOk e with
   |true=>match s with
    |⟨sto,nx⟩=>x_triX loc sto h (z.ih cd C loc ⟨[],nx⟩ (.ev e))
   |false=>.fail 18
  |none=>.fail 18
 |none=>.fail 18
noncomputable def isKl0:AV->Bool
 |.kl k=>Nat.beq k 0
 |_=>false
noncomputable def hdG:List XH->Option (Nat × List XS)
 |[.mk t n hb _]=>match n with
  |none=>match t with
   |.gl j _=>some (j,hb)
   |_=>none
  |some _=>none
 |_=>none
noncomputable def triK (hs:List XH):Option (List XS):=match hdG hs with
 |some (j,hb)=>match isKl0 (gval C j) with
  |true=>some hb
  |false=>none
 |none=>none
noncomputable def x_tri (b:List XS) (hs:List XH):Res:=match triK C hs with
 |some hb=>x_triC z cd C loc s b hb
 |none=>match hs with
  |[]=>.fail 18
  |_ :: _=>x_triN (z.ih cd C loc s (.ex b))
noncomputable def s_st (st:XS):Res:=match st with
 |.exp e _=>match expOk e with
  |true=>x_exp loc (z.ih cd C loc s (.ev e))
  |false=>.fail 16
 |.asg ts e _=>x_asg z cd C loc s ts e
 |.aug i _ op e _=>x_aug z cd C loc s i op e
 |.iff t b o _=>x_iff2 z cd C loc b o (z.ih cd C loc s (.tst t))
 |.whl t b _=>flO (z.ih cd C loc s (.whl t b))
 |.fre t it b _=>x_for2 z cd C loc t b (z.ih cd C loc s (.ev it))
 |.ret e _=>x_ret z cd C loc s e
 |.rai e _=>x_rai2 (z.ih cd C loc s (.ev e))
 |.tri b hs _=>x_tri z cd C loc s b hs
 |.pas _=>.fl .next loc s
set_option tactic.hygienic true in
noncomputable def s_ex2 (rest:List XS):Res->Res
 |.fl f loc s=>match f with
  |.next=>z.ih cd C loc s (.ex rest)
  |f=>.fl f loc s
 |r=>upX r
noncomputable def s_ex (ss:List XS):Res:=match ss with
 |[]=>.fl .next loc s
 |st :: rest=>s_ex2 z cd C rest (s_st z cd C loc s st)
set_option tactic.hygienic true in
noncomputable def w_2 (t:XE) (b:List XS):Res->Res
 |.fl f loc s=>match f with
  |.next=>z.ih cd C loc s (.whl t b)
  |.cont=>z.ih cd C loc s (.whl t b)
  |.brk=>.fl .next loc s
  |.ret a=>.fl (.ret a) loc s
 |r=>up r
noncomputable def w_1 (t:XE) (b:List XS):Res->Res
 |.b c s=>match c with
  |true=>w_2 z cd C t b (z.ih cd C loc s (.ex b))
  |false=>.fl .next loc s
 |r=>up r
set_option tactic.hygienic true in
noncomputable def f_2 (t:XE) (c:Nat) (b:List XS):Res->Res
 |.fl f loc s=>match f with
  |.next=>z.ih cd C loc s (.frl t c b)
  |.cont=>z.ih cd C loc s (.frl t c b)
  |.brk=>.fl .next loc s
  |.ret a=>.fl (.ret a) loc s
 |r=>up r
noncomputable def f_1 (t:XE) (c:Nat) (b:List XS) (x:Option AV) (s:Mine.St):Res:=match x with
 |none=>.fl .next loc s
 |some a=>match t with
  |.nm i _=>asNm i a loc s fun loc s=>f_2 z cd C t c b (z.ih cd C loc s (.ex b))
  |_=>.fail 21
noncomputable def c_3 (elt tgt:XE) (ifs:List XE) (c acc:Nat):Res->Res
 |.v x s=>match look s.sto acc with
  |some (.li l)=>fSp (l ++ [x]) fun l=>match ki l 10000 with
   |true=>setC s acc (.li l) fun s=>z.ih cd C loc s (.cml elt tgt ifs c acc)
   |false=>.fail 22
  |_=>.fail 22
 |r=>up r
noncomputable def c_2 (elt tgt:XE) (ifs:List XE) (c acc:Nat):Res->Res
 |.b b s=>match b with
  |true=>c_3 z cd C loc elt tgt ifs c acc (z.ih cd C loc s (.ev elt))
  |false=>z.ih cd C loc s (.cml elt tgt ifs c acc)
 |r=>up r
noncomputable def c_ifs (ifs:List XE) (s:Mine.St):Res:=match ifs with
 |[]=>.b true s
 |e :: r=>match r with
  |[]=>z.ih cd C loc s (.tst e)
  |_ :: _=>.fail 22
noncomputable def c_1 (elt tgt:XE) (ifs:List XE) (c acc:Nat) (x:Option AV) (s:Mine.St):Res:=match x with
 |none=>.fl .next loc s
 |some a=>match tgt with
  |.nm i _=>asNm i a loc s fun loc s=>c_2 z cd C loc elt tgt ifs c acc (c_ifs z cd C loc ifs s)
  |_=>.fail 22
set_option tactic.hygienic true in
noncomputable def k_end (n0:Nat):Res->Res
 |.fl f _ s=>match f with
  |.ret a=>noCe n0 a s
  |.next=>noCe n0 .no s
  |_=>.fail 26
 |r=>upX r
noncomputable def bindA (np:Nat) (dfl args:List AV):Option (List AV):=match Nat.ble args.length np with
 |true=>match Nat.ble (np - args.length) dfl.length with
  |true=>some (args ++ dfl.drop (dfl.length - (np - args.length)))
  |false=>none
 |false=>none
noncomputable def k_fn2 (z:Z) (cd:Nat) (s:Mine.St) (fi:FI) (args:List AV):Res:=match bindA fi.np fi.dfl args with
 |some bs=>fSp (bs ++ uns (fi.ec.names.drop fi.np)) fun loc=>k_end s.nx (z.ih cd fi.ec loc s (.ex fi.body))
 |none=>.fail 27
noncomputable def k_fn (z:Z) (cd:Nat) (s:Mine.St) (k:Nat) (args:List AV):Res:=match cd with
 |0=>.fail 25
 |cd+1=>match ftab.get k with
  |some fi=>k_fn2 z cd s fi args
  |none=>.fail 25
noncomputable def k_u8 (s:Mine.St) (args:List AV):Res:=match args with
 |[.it (.ofNat n)]=>match Nat.blt n 128 with
  |true=>.v (.it (.ofNat 1)) s
  |false=>.fail 23
 |_=>.fail 23
noncomputable def wh_2 (acc:Nat) (k:Mine.St->Res):Res->Res
 |.v y s=>match look s.sto acc with
  |some (.li l)=>fSp (l ++ [y]) fun l=>match ki l 10000 with
   |true=>setC s acc (.li l) k
   |false=>.fail 24
  |_=>.fail 24
 |r=>upX r
noncomputable def wh_x (z:Z) (cd w:Nat) (ws:List Nat) (acc:Nat) (k:Mine.St->Res) (x:Option AV) (s:Mine.St):Res:=match x with
 |none=>.fl .next [] s
 |some x=>wh_2 acc k (z.ih cd ⟨[],[]⟩ [] s (.cal (.fn 105) [x,.st ws,.ob w]))
noncomputable def wh_go (z:Z) (cd w:Nat) (ws:List Nat) (c acc:Nat):Nat->Mine.St->Res
 |0=>fun _=>.fail 24
 |n+1=>fun s=>nextIn s c (wh_x z cd w ws acc (wh_go z cd w ws c acc n))
noncomputable def wh_4 (n0:Nat):Res->Res
 |.v a s=>noCe n0 a s
 |r=>upX r
set_option tactic.hygienic true in
noncomputable def wh_3 (n0 acc:Nat):Res->Res
 |.fl f _ s=>match f with
  |.next=>wh_4 n0 (bi1 .tuple (.ce acc) s)
  |_=>.fail 24
 |r=>upX r
noncomputable def wh_1 (z:Z) (cd n0 w:Nat) (ws:List Nat):Res->Res
 |.v a s=>mkIter s a fun c s=>newC s (.li []) fun acc s=>wh_3 n0 acc (wh_go z cd w ws c acc 40 s)
 |r=>upX r
noncomputable def wh_0 (z:Z) (cd n0 w:Nat) (ws:List Nat):Res->Res
 |.v a s=>wh_1 z cd n0 w ws (z.ih cd ⟨[],[]⟩ [] s (.cal (.fn 70) [.ob w,a]))
 |r=>up r
noncomputable def wh_5 (z:Z) (cd w:Nat) (ws:List Nat) (s:Mine.St):Option Cell->Res
 |some (.id es)=>match okEs es with
  |true=>match look es 30 with
   |none=>wh_0 z cd s.nx w ws (e_att2 31 (.v (.ob w) s))
   |some _=>.fail 24
  |false=>.fail 24
 |_=>.fail 24
noncomputable def k_wh (z:Z) (cd:Nat) (s:Mine.St) (args:List AV):Res:=match cd with
 |0=>.fail 24
 |cd+1=>match args with
  |[.ob w,.st ws]=>wh_5 z cd w ws s (look s.sto w)
  |_=>.fail 24
noncomputable def k_dif (z:Z) (cd:Nat) (s:Mine.St) (k:Nat) (args:List AV):Res:=match Nat.beq k 15 with
 |true=>k_u8 s args
 |false=>match Nat.beq k 106 with
  |true=>k_wh z cd s args
  |false=>k_fn z cd s k args
noncomputable def k_call (z:Z) (cd:Nat) (s:Mine.St) (k:Nat) (args:List AV):Res:=match z.p.orc cd k args s with
 |some (a,s)=>.v a s
 |none=>k_dif z cd s k args
noncomputable def k_new2 (c:Nat):Res->Res
 |.v a s=>match a with
  |.no=>.v (.ob c) s
  |_=>.fail 29
 |r=>up r
noncomputable def k_exc (s:Mine.St) (k:Nat) (args:List AV):Res:=match args with
 |[]=>.fail 28
 |a :: r=>match a with
  |.st _=>match r with
   |[]=>newC s (.exc k) fun i s=>.v (.ce i) s
   |b :: r=>match r with
    |[]=>match pos? b with
     |some _=>newC s (.exc k) fun i s=>.v (.ce i) s
     |none=>.fail 28
    |_ :: _=>.fail 28
  |_=>.fail 28
noncomputable def k_cls (z:Z) (cd:Nat) (C:EC) (loc:List AV) (s:Mine.St) (k:Nat) (args:List AV):Res:=match Nat.blt k 7 with
 |true=>match cd with
  |0=>.fail 29
  |_+1=>k_exc s k args
 |false=>match Nat.beq k 8 with
  |true=>match cd with
   |0=>.fail 29
   |cd+1=>newC s (.id []) fun c s=>k_new2 c (z.ih cd C loc s (.cal (.fn 48) (.ob c :: args)))
  |false=>.fail 29
noncomputable def s_cal (f:AV) (args:List AV):Res:=match f with
 |.fn k=>k_call z cd s k args
 |.kl k=>k_cls z cd C loc s k args
 |.bi b=>biCall b args s
 |.bm c k=>z.ih cd C loc s (.cal (.fn k) (.ob c :: args))
 |_=>.fail 31
noncomputable def step (t:Task):Res:=match t with
 |.ev e=>s_ev z cd C loc s e
 |.evs es=>s_evs z cd C loc s es
 |.tst e=>s_tst z cd C loc s e
 |.ex ss=>s_ex z cd C loc s ss
 |.cal f args=>s_cal z cd C loc s f args
 |.whl t b=>w_1 z cd C loc t b (z.ih cd C loc s (.tst t))
 |.frl t c b=>nextIn s c (f_1 z cd C loc t c b)
 |.cml elt tgt ifs c acc=>match look s.sto acc with
  |some (.li _)=>nextIn s c (c_1 z cd C loc elt tgt ifs c acc)
  |_=>.fail 22
end
noncomputable def run (p:Par):Nat->RunTy
 |0=>fun _ _ _ _ _=>.fail 99
 |n+1=>step ⟨p,run p n⟩
noncomputable def runK (p:Par) (n:Nat):RunTy:=Nat.rec (motive:=fun _=>RunTy) (fun _ _ _ _ _=>.fail 99) (fun _ ih=>step ⟨p,ih⟩) n
theorem runK_eq (p:Par) (n:Nat):runK p n=run p n:=by
 induction n with
 |zero=>rfl
 |succ n ih=>show step ⟨p,runK p n⟩=step ⟨p,run p n⟩;rw [ih]
noncomputable def strAt (k:Nat):Str:=match stab.get k with
 |some p=>p.1
 |none=>default
noncomputable def gname (g:Nat):Str:=match gtab.get g with
 |some p=>p.1
 |none=>default
noncomputable def glName (C:EC) (j:Nat):Str:=match nth C.gls j with
 |some g=>gname g
 |none=>default
noncomputable def qi (C:EC) (i:Nat):Str:=match nth C.names i with
 |some x=>x
 |none=>default
noncomputable def atAt (a:Nat):Str:=match nth atab a with
 |some x=>x
 |none=>default
noncomputable def ciAt (ci:Nat):CI:=match nth ctab ci with
 |some c=>c
 |none=>⟨⟨[],[]⟩,fsc []⟩
mutual
noncomputable def kj:XE->EC->PySem.Expr
 |.nm i p,C=>.Name (qi C i) p
 |.gl j p,C=>.Name (glName C j) p
 |.cN p,C=>.Constant .none 0 p
 |.cB b p,C=>.Constant (.bool b) 0 p
 |.cI i p,C=>.Constant (.int i) 0 p
 |.cS k p,C=>.Constant (.str (strAt k)) 0 p
 |.cY l p,C=>.Constant (.bytes l) 0 p
 |.att e a p,C=>.Attribute (kj e C) (atAt a) p
 |.cal f args p,C=>.Call (kj f C) (km args C) [] p
 |.mcl o a ap args p,C=>.Call (.Attribute (kj o C) (atAt a) ap) (km args C) [] p
 |.sub o i p,C=>.Subscript (kj o C) (kj i C) p
 |.slc a b c p,C=>.Slice (embO a C) (embO b C) (embO c C) p
 |.bin l op r p,C=>.BinOp (kj l C) op (kj r C) p
 |.cmp l ops rs p,C=>.Compare (kj l C) ops (km rs C) p
 |.bop op vs p,C=>.BoolOp op (km vs C) p
 |.uny op e p,C=>.UnaryOp op (kj e C) p
 |.ife t b o p,C=>.IfExp (kj t C) (kj b C) (kj o C) p
 |.tup es k p,C=>.Tuple (km es C) k p
 |.lst es p,C=>.List (km es C) p
 |.dct ks vs p,C=>.Dict (embEks ks C) (km vs C) p
 |.cmp1 ci elt tgt it ifs p,C=>.ListComp (kj elt (ciAt ci).ec) [⟨kj tgt (ciAt ci).ec,kj it C,km ifs (ciAt ci).ec,0⟩] (ciAt ci).sc p
noncomputable def km:List XE->EC->List PySem.Expr
 |[],C=>[]
 |e :: r,C=>kj e C :: km r C
noncomputable def embEks:List XE->EC->List (Option PySem.Expr)
 |[],C=>[]
 |e :: r,C=>some (kj e C) :: embEks r C
noncomputable def embO:Option XE->EC->Option PySem.Expr
 |none,C=>none
 |some e,C=>some (kj e C)
end
mutual
noncomputable def embS:XS->EC->Stmt
 |.exp e p,C=>.Expr (kj e C) p
 |.asg ts e p,C=>.Assign (km ts C) (kj e C) p
 |.aug i np op e p,C=>.AugAssign (.Name (qi C i) np) op (kj e C) p
 |.iff t b o p,C=>.If (kj t C) (kr b C) (kr o C) p
 |.whl t b p,C=>.While (kj t C) (kr b C) [] p
 |.fre t it b p,C=>.For (kj t C) (kj it C) (kr b C) [] p
 |.ret e p,C=>.Return (embO e C) p
 |.rai e p,C=>.Raise (some (kj e C)) none p
 |.tri b hs p,C=>.Try (kr b C) (embHs hs C) [] [] p
 |.pas p,C=>.Pass p
noncomputable def kr:List XS->EC->List Stmt
 |[],C=>[]
 |s :: r,C=>embS s C :: kr r C
noncomputable def embH:XH->EC->ExceptHandler
 |.mk t n b p,C=>.ExceptHandler (some (kj t C)) (match n with|some i=>some (qi C i)|none=>none) (kr b C) p
noncomputable def embHs:List XH->EC->List ExceptHandler
 |[],C=>[]
 |h :: r,C=>embH h C :: embHs r C
end
structure Vl where
 β:Nat->List Nat
 τ:Nat->AV
 cs:Nat->Int
 ix:Nat->Nat
 scr:Addr
noncomputable def flat (V:Vl):List Ck->List Nat
 |[]=>[]
 |.lit l :: r=>l ++ flat V r
 |.atm j :: r=>V.β j ++ flat V r
noncomputable def lens (V:Vl):List Nat->Nat
 |[]=>0
 |j :: r=>(V.β j).length+lens V r
noncomputable def bN (d:Array UInt8):List Nat:=d.toList.map UInt8.toNat
noncomputable def jk (l:List Nat):Str:=⟨l.toArray⟩
noncomputable def biV:Bi->Value
 |.len=>.builtin "len" |.ord=>.builtin "ord" |.chr=>.builtin "chr" |.min=>.builtin "min" |.max=>.builtin "max" |.all=>.builtin "all"
 |.bytes=>.type "bytes" |.bytearray=>.type "bytearray" |.str=>.type "str" |.int=>.type "int" |.range=>.type "range" |.tuple=>.type "tuple" |.Exception=>.type "Exception"
noncomputable def ql:Addr:=match nth qk 8 with
 |some a=>a
 |none=>0
noncomputable def ExOb (o:Obj) (C:Addr):Prop:=o.cls=.ref C/\∃ a0 a5:Value,o.data=.fields #[a0,.none,.none,.none,.bool false,a5]
mutual
noncomputable def RepG (T:Nat->Value->Prop) (V:Vl) (h:Heap) (ρ:Nat->Addr) (nx:Nat):AV->Value->Prop
 |.un,_=>False
 |.no,v=>v=.none
 |.bo b,v=>v=.bool b
 |.it i,v=>∃ t,v=.int i t
 |.ln js c,v=>∃ t,v=.int ((lens V js+c:Nat):Int) t
 |.st l,v=>∃ t,v=.str (jk l) t
 |.by cs,v=>∃ d t,v=.bytes d t/\bN d=flat V cs
 |.tu l,v=>∃ a vs,v=.ref a/\h.IsTuple a vs.toArray/\ku T V h ρ nx l vs
 |.rg n,v=>∃ a t u w,v=.ref a/\IsRange h a 0 (n:Int) 1 t u w
 |.ce i,v=>i < nx/\v=.ref (ρ i)
 |.ob i,v=>i < nx/\∃ a,v=.ref a/\h.get? a=some (instObj ql (ρ i))
 |.fn k,v=>∃ fi,ftab.get k=some fi/\v=.ref fi.addr
 |.kl k,v=>∃ a,nth qk k=some a/\v=.ref a
 |.bi b,v=>v=biV b
 |.bm i k,v=>i < nx/\∃ a o fi x,v=.ref a/\ftab.get k=some fi/\h.get? a=some o/\o.cls=.type "method"/\o.data=.fields #[.ref fi.addr,.ref x]/\h.get? x=some (instObj ql (ρ i))
 |.tr j,v=>T j v
 |.hd j,v=>∃ t l,(∃ r,V.τ j=.tu (.st l :: r))/\l ≠ [97,110,100]/\v=.str (jk l) t
 |.sc k,v=>∃ t,v=.int (V.cs k) t
 |.sm k,v=>∃ t,v=.int (V.cs k % 44) t
 |.kx k,v=>∃ t,v=.int ((V.ix k:Nat):Int) t
 |.scr,v=>v=.ref V.scr
noncomputable def ku (T:Nat->Value->Prop) (V:Vl) (h:Heap) (ρ:Nat->Addr) (nx:Nat):List AV->List Value->Prop
 |[],vs=>vs=[]
 |a :: r,vs=>∃ v s,vs=v :: s/\RepG T V h ρ nx a v/\ku T V h ρ nx r s
end
abbrev RepC (V:Vl) (h:Heap) (ρ:Nat->Addr) (nx:Nat):AV->Value->Prop:=RepG (fun _ _=>False) V h ρ nx
abbrev kz (V:Vl) (h:Heap) (ρ:Nat->Addr) (nx:Nat):AV->Value->Prop:=RepG (fun j v=>RepC V h ρ nx (V.τ j) v) V h ρ nx
abbrev ky (V:Vl) (h:Heap) (ρ:Nat->Addr) (nx:Nat):List AV->List Value->Prop:=ku (fun j v=>RepC V h ρ nx (V.τ j) v) V h ρ nx
noncomputable def qm (o:Obj):Prop:=(o.cls=.type "tuple" \/ o.cls=.type "range" \/ o.cls=.type "method" \/ (∃ C,o.cls=.ref C)/\o.data=.plain)/\∀ es ep,o.data ≠ .dict es ep
section
variable {T T':Nat->Value->Prop} {V:Vl} {h h':Heap} {ρ ρ':Nat->Addr} {nx nx':Nat}
mutual
theorem RepG.mono (hT:∀ j v,T j v->T' j v) (hi:∀ b o,h.get? b=some o->qm o->h'.get? b=some o) (hn:nx<=nx') (hρ:∀ i,i < nx->ρ' i=ρ i):
  ∀ (a:AV) (v:Value),RepG T V h ρ nx a v->RepG T' V h' ρ' nx' a v
 |.un,v,x=>x.elim
 |.no,v,x|.bo _,v,x|.it _,v,x|.ln _ _,v,x|.st _,v,x|.by _,v,x|.fn _,v,x|.kl _,v,x|.bi _,v,x|.hd _,v,x|.sc _,v,x|.sm _,v,x|.kx _,v,x|.scr,v,x=>x
 |.tu l,v,x=>by
  obtain ⟨a,vs,e,⟨o,ho,hc,hd⟩,r⟩:=x
  exact ⟨a,vs,e,⟨o,hi a o ho ⟨.inl hc,fun _ _ q=>by rw [hd.choose_spec] at q;cases q⟩,hc,hd⟩,ku.mono hT hi hn hρ l vs r⟩
 |.rg n,v,x=>by
  obtain ⟨a,t,u,w,e,r⟩:=x
  exact ⟨a,t,u,w,e,hi a _ r ⟨.inr (.inl rfl),fun _ _ q=>by cases q⟩⟩
 |.ce i,v,x=>by
  exact ⟨Nat.lt_of_lt_of_le x.1 hn,by rw [hρ i x.1];exact x.2⟩
 |.ob i,v,x=>by
  obtain ⟨l,a,e,r⟩:=x
  exact ⟨Nat.lt_of_lt_of_le l hn,a,e,by rw [hρ i l];exact hi a _ r ⟨.inr (.inr (.inr ⟨⟨_,rfl⟩,rfl⟩)),fun _ _ q=>by cases q⟩⟩
 |.bm i k,v,x=>by
  obtain ⟨l,a,o,fi,y,e,f,ho,hc,hd,r⟩:=x
  exact ⟨Nat.lt_of_lt_of_le l hn,a,o,fi,y,e,f,hi a o ho ⟨.inr (.inr (.inl hc)),fun _ _ q=>by rw [hd] at q;cases q⟩,hc,hd,by rw [hρ i l];exact hi y _ r ⟨.inr (.inr (.inr ⟨⟨_,rfl⟩,rfl⟩)),fun _ _ q=>by cases q⟩⟩
 |.tr j,v,x=>hT j v x
theorem ku.mono (hT:∀ j v,T j v->T' j v) (hi:∀ b o,h.get? b=some o->qm o->h'.get? b=some o) (hn:nx<=nx') (hρ:∀ i,i < nx->ρ' i=ρ i):
  ∀ (l:List AV) (vs:List Value),ku T V h ρ nx l vs->ku T' V h' ρ' nx' l vs
 |[],vs,x=>x
 |a :: r,vs,x=>by
  obtain ⟨v,s,e,x1,x2⟩:=x
  exact ⟨v,s,e,RepG.mono hT hi hn hρ a v x1,ku.mono hT hi hn hρ r s x2⟩
end
theorem kz.mono (hi:∀ b o,h.get? b=some o->qm o->h'.get? b=some o) (hn:nx<=nx') (hρ:∀ i,i < nx->ρ' i=ρ i) {a:AV} {v:Value} (x:kz V h ρ nx a v):kz V h' ρ' nx' a v:=
 RepG.mono (fun _ _ y=>RepG.mono (fun _ _ z=>z) hi hn hρ _ _ y) hi hn hρ a v x
theorem ky.mono (hi:∀ b o,h.get? b=some o->qm o->h'.get? b=some o) (hn:nx<=nx') (hρ:∀ i,i < nx->ρ' i=ρ i) {a:List AV} {v:List Value} (x:ky V h ρ nx a v):ky V h' ρ' nx' a v:=
 ku.mono (fun _ _ y=>RepG.mono (fun _ _ z=>z) hi hn hρ _ _ y) hi hn hρ a v x
theorem ku.nth {l:List AV} {vs:List Value} (x:ku T V h ρ nx l vs):∀ {i:Nat} {a:AV},l[i]?=some a->∃ v,vs[i]?=some v/\RepG T V h ρ nx a v:=by
 induction l generalizing vs with
 |nil=>intro i a e;exact (jg a (e.symm.trans List.getElem?_nil)).elim
 |cons b r ih=>
  intro i a e
  obtain ⟨v,s,rfl,x1,x2⟩:=x
  induction i using Nat.casesAuxOn with
  |zero=>exact jf e▸⟨v,rfl,x1⟩
  |succ i=>exact ih x2 e
theorem ku.length {l:List AV} {vs:List Value} (x:ku T V h ρ nx l vs):vs.length=l.length:=by
 induction l generalizing vs with
 |nil=>obtain rfl:vs=[]:=x;rfl
 |cons b r ih=>
  obtain ⟨v,s,rfl,x1,x2⟩:=x
  exact congrArg Nat.succ (ih x2)
theorem ku.app {l m:List AV} {vs ws:List Value} (x:ku T V h ρ nx l vs) (y:ku T V h ρ nx m ws):ku T V h ρ nx (l ++ m) (vs ++ ws):=by
 induction l generalizing vs with
 |nil=>obtain rfl:vs=[]:=x;exact y
 |cons b r ih=>
  obtain ⟨v,s,rfl,x1,x2⟩:=x
  exact ⟨v,s ++ ws,rfl,x1,ih x2⟩
theorem ku.one {a:AV} {v:Value} (x:RepG T V h ρ nx a v):ku T V h ρ nx [a] [v]:=⟨v,[],rfl,x,rfl⟩
theorem ku.consI {a:AV} {v:Value} {l:List AV} {vs:List Value} (x:RepG T V h ρ nx a v) (y:ku T V h ρ nx l vs):ku T V h ρ nx (a :: l) (v :: vs):=⟨v,vs,rfl,x,y⟩
end
structure Wd where
 h:Heap
 L:Addr
 ρ:Nat->Addr
 s:Mine.St
noncomputable def qb (s:Mine.St) (i:Nat) (c:Cell):Prop:=s.sto.lookup i=some c
noncomputable def Mu (W:Wd) (b:Addr):Prop:=b=W.L \/ ∃ i c,qb W.s i c/\b=W.ρ i
abbrev Wd.R (V:Vl) (W:Wd) (a:AV) (v:Value):Prop:=kz V W.h W.ρ W.s.nx a v
abbrev Wd.Rs (V:Vl) (W:Wd) (a:List AV) (v:List Value):Prop:=ky V W.h W.ρ W.s.nx a v
noncomputable def kc (P:Params):List (Nat × AV)->List Value->List Tok->List DictEntry
 |(a,_) :: r,v :: vs,t :: ts=>⟨PyData.keyHash P (atAt a),.str (atAt a) t,v⟩ :: kc P r vs ts
 |_,_,_=>[]
noncomputable def qa (V:Vl) (P:Params) (h:Heap) (ρ:Nat->Addr) (nx:Nat) (a:Addr):Cell->Prop
 |.li l=>∃ vs,h.PlainList a vs.toArray/\ky V h ρ nx l vs
 |.ba l=>∃ d,h.get? a=some { cls:=.type "bytearray",data:=.bytearray d 0 }/\bN d=l
 |.di es=>∃ kvs:List (Str × Value),kvs.map (·.1)=es.map (fun e=>jk e.1)/\(∃ (pg:Program) (w:World),w.params=P/\h.DictOf (PySem.strKind pg w) a kvs)/\ky V h ρ nx (es.map (·.2)) (kvs.map (·.2))
 |.id es=>∃ vs ts,ts.length=es.length/\h.get? a=some (dictOf (kc P es vs ts) es.length)/\ky V h ρ nx (es.map (·.2)) vs
 |.iL c k=>c < nx/\h.IsListIter a (ρ c) k
 |.iV l k=>∃ t vs,h.IsTupleIter a t k/\h.IsTuple t vs.toArray/\ky V h ρ nx l vs
 |.iB l k=>∃ d t,KBw.IsBytesIter h a d t k/\bN d=l
 |.iS l k=>∃ t,h.IsStrIter a "str_ascii_iterator" (jk l) t k
 |.iR n k=>k<=n/\IsRangeIter h a (k:Int) ((n:Int) - k) 1
 |.exc k=>∃ C o,nth qk k=some C/\h.get? a=some o/\ExOb o C
noncomputable def Sm (fs:List Addr) (b:Addr) (o o':Obj):Prop:=o'=o \/ (b ∈ fs/\∃ sl,o'={ o with slots:=sl })
theorem Sm.refl (fs:List Addr) (b:Addr) (o:Obj):Sm fs b o o:=.inl rfl
theorem Sm.trans {fs:List Addr} {d:Addr} {a b c:Obj} (x:Sm fs d a b) (y:Sm fs d b c):Sm fs d a c:=by
 rcases x with rfl|⟨hc,sl,rfl⟩
 ·exact y
 ·rcases y with rfl|⟨_,sl',rfl⟩
  ·exact .inr ⟨hc,sl,rfl⟩
  ·exact .inr ⟨hc,sl',rfl⟩
theorem Sm.data {fs:List Addr} {d:Addr} {a b:Obj} (x:Sm fs d a b):b.data=a.data:=by
 rcases x with rfl|⟨_,sl,rfl⟩<;>rfl
structure Stp (fs:List Addr) (W W':Wd):Prop where
 nx:W.s.nx<=W'.s.nx
 ρ:∀ i,i < W.s.nx->W'.ρ i=W.ρ i
 imm:∀ b o,W.h.get? b=some o->qm o->W'.h.get? b=some o
 oth:∀ b o,W.h.get? b=some o->¬ Mu W b->∃ o',W'.h.get? b=some o'/\Sm fs b o o'
 fr:∀ b,Mu W' b->Mu W b \/ W.h.get? b=none
theorem Stp.refl (fs:List Addr) (W:Wd):Stp fs W W:=⟨jj _,fun _ _=>rfl,fun _ _ e _=>e,fun _ o e _=>⟨o,e,.inl rfl⟩,fun _ h=>.inl h⟩
theorem Stp.trans {fs:List Addr} {W W₁ W₂:Wd} (x:Stp fs W W₁) (y:Stp fs W₁ W₂):Stp fs W W₂ where
 nx:=Nat.le_trans x.nx y.nx
 ρ:=fun i hi=>(y.ρ i (Nat.lt_of_lt_of_le hi x.nx)).trans (x.ρ i hi)
 imm:=fun b o e hi=>y.imm b o (x.imm b o e hi) hi
 oth:=fun b o e hm=>by
  obtain ⟨o₁,e₁,s₁⟩:=x.oth b o e hm
  have hm₁:¬ Mu W₁ b:=fun q=>(x.fr b q).elim hm fun z=>by rw [e] at z;exact (jg _ z).elim
  obtain ⟨o₂,e₂,s₂⟩:=y.oth b o₁ e₁ hm₁
  exact ⟨o₂,e₂,s₁.trans s₂⟩
 fr:=fun b q=>by
  rcases y.fr b q with q|q
  ·exact x.fr b q
  ·induction e:W.h.get? b with
   |none=>exact .inr rfl
   |some o=>
    by_cases hm:Mu W b
    ·exact .inl hm
    ·obtain ⟨o₁,e₁,_⟩:=x.oth b o e hm
     rw [e₁] at q;exact (jg _ q).elim
theorem Stp.R {V:Vl} {fs:List Addr} {W W':Wd} (x:Stp fs W W') {a:AV} {v:Value} (r:W.R V a v):W'.R V a v:=kz.mono x.imm x.nx x.ρ r
theorem Stp.Rs {V:Vl} {fs:List Addr} {W W':Wd} (x:Stp fs W W') {a:List AV} {v:List Value} (r:W.Rs V a v):W'.Rs V a v:=ky.mono x.imm x.nx x.ρ r
structure Rel (V:Vl) (P:Params) (Hz:Heap) (fs:List Addr) (C:EC) (W:Wd) (loc:List AV):Prop where
 base:∀ b o,Hz.get? b=some o->W.h.get? b=some o
 b0:∀ b,Mu W b->Hz.get? b=none
 len:loc.length=C.names.length
 ns:∃ m:Str->Option Value,W.h.Ns W.L m/\∀ (i:Nat) (x:Str) (a:AV),C.names[i]?=some x->loc[i]?=some a->a=.un \/ ∃ v,m x=some v/\W.R V a v
 cell:∀ i c,qb W.s i c->i < W.s.nx/\qa V P W.h W.ρ W.s.nx (W.ρ i) c
 inj:∀ i j c d,qb W.s i c->qb W.s j d->W.ρ i=W.ρ j->i=j
 nL:∀ i c,qb W.s i c->W.ρ i ≠ W.L
 nF:∀ i c,qb W.s i c->W.ρ i ∉ fs
 f0:∀ b,b ∈ fs->Hz.get? b=none/\∃ o es ep,W.h.get? b=some o/\o.data=.dict es ep
 srt:(W.s.sto.map (·.1)).Pairwise (· > ·)
section
variable {V:Vl} {P:Params} {h h':Heap} {ρ ρ':Nat->Addr} {nx nx':Nat} {a:Addr} {c:Cell}
theorem qa.mono (own:∀ o,h.get? a=some o->h'.get? a=some o) (hi:∀ b o,h.get? b=some o->qm o->h'.get? b=some o) (hn:nx<=nx') (hρ:∀ i,i < nx->ρ' i=ρ i)
  (x:qa V P h ρ nx a c):qa V P h' ρ' nx' a c:=by
 induction c with
 |li l=>obtain ⟨vs,⟨n,ho⟩,y⟩:=x;exact ⟨vs,⟨n,own _ ho⟩,y.mono hi hn hρ⟩
 |ba l=>obtain ⟨d,ho,r⟩:=x;exact ⟨d,own _ ho,r⟩
 |di es=>obtain ⟨kvs,e,⟨pg,w,ew,o,en,ep,ho,r⟩,y⟩:=x;exact ⟨kvs,e,⟨pg,w,ew,o,en,ep,own _ ho,r⟩,y.mono hi hn hρ⟩
 |id es=>obtain ⟨vs,ts,hl,ho,y⟩:=x;exact ⟨vs,ts,hl,own _ ho,y.mono hi hn hρ⟩
 |iL c k=>obtain ⟨hc,o,ho,r⟩:=x;exact ⟨Nat.lt_of_lt_of_le hc hn,by rw [hρ c hc];exact ⟨o,own o ho,r⟩⟩
 |iV l k=>obtain ⟨t,vs,⟨o,ho,r⟩,⟨o',ho',hc,hd⟩,y⟩:=x;exact ⟨t,vs,⟨o,own o ho,r⟩,⟨o',hi t o' ho' ⟨.inl hc,fun _ _ q=>by rw [hd.choose_spec] at q;cases q⟩,hc,hd⟩,y.mono hi hn hρ⟩
 |iB l k=>obtain ⟨d,t,⟨o,ho,r⟩,y⟩:=x;exact ⟨d,t,⟨o,own o ho,r⟩,y⟩
 |iS l k=>obtain ⟨t,⟨o,ho,r⟩⟩:=x;exact ⟨t,⟨o,own o ho,r⟩⟩
 |iR n k=>obtain ⟨hk,ho⟩:=x;exact ⟨hk,own _ ho⟩
 |exc k=>obtain ⟨C,o,e,ho,r⟩:=x;exact ⟨C,o,e,own o ho,r⟩
theorem qa.there (x:qa V P h ρ nx a c):∃ o,h.get? a=some o/\¬ qm o:=by
 have no (o:Obj) (T:String) (hc:o.cls=.type T) (h1:T ≠ "tuple") (h2:T ≠ "range") (h3:T ≠ "method"):¬ qm o:=by
  rintro ⟨q|q|q|⟨⟨_,q⟩,_⟩,_⟩<;>rw [hc] at q<;>simp_all
 induction c with
 |li l=>obtain ⟨vs,⟨n,ho⟩,y⟩:=x;exact ⟨_,ho,no _ "list" rfl (by decide) (by decide) (by decide)⟩
 |ba l=>obtain ⟨d,ho,r⟩:=x;exact ⟨_,ho,no _ "bytearray" rfl (by decide) (by decide) (by decide)⟩
 |di es=>obtain ⟨kvs,e,⟨pg,w,ew,o,en,ep,ho,r⟩,y⟩:=x;exact ⟨o,ho,no o "dict" r.1.1 (by decide) (by decide) (by decide)⟩
 |id es=>obtain ⟨vs,ts,hl,ho,y⟩:=x;exact ⟨_,ho,no _ "dict" rfl (by decide) (by decide) (by decide)⟩
 |iL c k=>obtain ⟨hc,o,ho,hcl,r⟩:=x;exact ⟨o,ho,no o _ hcl (by decide) (by decide) (by decide)⟩
 |iV l k=>obtain ⟨t,vs,⟨o,ho,hcl,r⟩,_⟩:=x;exact ⟨o,ho,no o _ hcl (by decide) (by decide) (by decide)⟩
 |iB l k=>obtain ⟨d,t,⟨o,ho,hcl,r⟩,y⟩:=x;exact ⟨o,ho,no o _ hcl (by decide) (by decide) (by decide)⟩
 |iS l k=>obtain ⟨t,⟨o,ho,hcl,r⟩⟩:=x;exact ⟨o,ho,no o _ hcl (by decide) (by decide) (by decide)⟩
 |iR n k=>obtain ⟨hk,ho⟩:=x;exact ⟨_,ho,no _ "range_iterator" rfl (by decide) (by decide) (by decide)⟩
 |exc k=>
  obtain ⟨C,o,e,ho,hc,a0,a5,hd⟩:=x
  refine ⟨o,ho,?_⟩
  rintro ⟨q|q|q|⟨_,q⟩,_⟩
  ·rw [hc] at q;cases q
  ·rw [hc] at q;cases q
  ·rw [hc] at q;cases q
  ·rw [hd] at q;cases q
end
section
variable {V:Vl} {P:Params} {Hz:Heap} {fs:List Addr} {C:EC} {W:Wd} {loc:List AV}
theorem Rel.kind (R:Rel V P Hz fs C W loc):∃ o,W.h.get? W.L=some o/\¬ qm o:=
 Exists.elim R.ns fun _ x=>Exists.elim x.1 fun o x=>Exists.elim x fun es x=>Exists.elim x fun ep x=>⟨o,x.1,fun q=>q.2 es ep x.2.1⟩
theorem Rel.mu (R:Rel V P Hz fs C W loc) {b:Addr} (hm:Mu W b):∃ o,W.h.get? b=some o/\¬ qm o:=by
 rcases hm with rfl|⟨i,c,hl,rfl⟩
 ·exact R.kind
 ·exact (R.cell i c hl).2.there
theorem Rel.imm_ne (R:Rel V P Hz fs C W loc) {b:Addr} {o:Obj} (e:W.h.get? b=some o) (hi:qm o):¬ Mu W b:=fun hm=>by
 obtain ⟨o',e',n⟩:=R.mu hm
 rw [e] at e';obtain rfl:=jf e';exact n hi
theorem Rel.ext (R:Rel V P Hz fs C W loc) {h':Heap} (hk:∀ b o,W.h.get? b=some o->h'.get? b=some o):Rel V P Hz fs C { W with h:=h' } loc/\Stp fs W { W with h:=h' }:=by
 refine ⟨⟨fun b o e=>hk b o (R.base b o e),R.b0,R.len,?_,fun i c hl=>⟨(R.cell i c hl).1,(R.cell i c hl).2.mono (fun o e=>hk _ o e) (fun b o e _=>hk b o e) (jj _) fun _ _=>rfl⟩,R.inj,R.nL,R.nF,fun b hb=>let ⟨x,o,es,ep,e,d⟩:=R.f0 b hb;⟨x,o,es,ep,hk b o e,d⟩,R.srt⟩,
  ⟨jj _,fun _ _=>rfl,fun b o e _=>hk b o e,fun b o e _=>⟨o,hk b o e,.inl rfl⟩,fun _ q=>.inl q⟩⟩
 ·obtain ⟨m,hm,hl⟩:=R.ns
  refine ⟨m,hm.keeps hk,fun i x a e1 e2=>(hl i x a e1 e2).imp_right fun ⟨v,e3,r⟩=>⟨v,e3,?_⟩⟩
  exact kz.mono (fun b o e _=>hk b o e) (jj _) (fun _ _=>rfl) r
set_option tactic.hygienic true in
theorem live_cons {s:Mine.St} {n:Nat} {c d:Cell} {i:Nat} (h:qb ⟨(n,c) :: s.sto,n+1⟩ i d):(i=n/\d=c) \/ (i ≠ n/\qb s i d):=by
 unfold qb at h
 simp only [List.lookup] at h
 split at h
 ·rename_i e;exact .inl ⟨by simpa using e,(jf h).symm⟩
 ·rename_i e;exact .inr ⟨by simpa using e,h⟩
theorem live_lt (R:Rel V P Hz fs C W loc) {i:Nat} {c:Cell} (h:qb W.s i c):i < W.s.nx:=(R.cell i c h).1
set_option tactic.hygienic true in
theorem mem_of_live {s:Mine.St} {i:Nat} {c:Cell} (h:qb s i c):(i,c) ∈ s.sto:=by
 unfold qb at h
 generalize s.sto=l at h
 induction l with
 |nil=>exact (jg _ h.symm).elim
 |cons x r ih=>
  obtain ⟨j,d⟩:=x
  simp only [List.lookup] at h
  split at h
  ·rename_i e;obtain rfl:=jf h;rw [show i=j by simpa using e];exact List.mem_cons_self
  ·exact List.mem_cons_of_mem _ (ih h)
theorem live_of_mem:∀ {l:List (Nat × Cell)} {i:Nat} {c:Cell},(l.map (·.1)).Pairwise (· > ·)->(i,c) ∈ l->l.lookup i=some c:=by
 intro l
 induction l with
 |nil=>intro i c _ hm;exact (List.not_mem_nil hm).elim
 |cons x r ih=>
  obtain ⟨j,d⟩:=x
  intro i c hs hm
  rw [List.map_cons,List.pairwise_cons] at hs
  rcases List.mem_cons.mp hm with e|hm
  ·cases e;simp [List.lookup]
  ·have hlt:=hs.1 i (List.mem_map_of_mem hm)
   have:(i == j)=false:=by simpa using Nat.ne_of_lt hlt
   simp only [List.lookup,this]
   exact ih hs.2 hm
theorem Rel.new (R:Rel V P Hz fs C W loc) {h':Heap} {a:Addr} {c:Cell} (hk:∀ b o,W.h.get? b=some o->h'.get? b=some o) (ha:W.h.get? a=none)
  (hc:∀ ρ':Nat->Addr,(∀ i,i < W.s.nx->ρ' i=W.ρ i)->ρ' W.s.nx=a->qa V P h' ρ' (W.s.nx+1) a c):
  ∃ W',W'.h=h'/\W'.L=W.L/\W'.s=⟨(W.s.nx,c) :: W.s.sto,W.s.nx+1⟩/\W'.ρ W.s.nx=a/\Rel V P Hz fs C W' loc/\Stp fs W W':=by
 let ρ':Nat->Addr:=fun i=>if i=W.s.nx then a else W.ρ i
 have hρ:∀ i,i < W.s.nx->ρ' i=W.ρ i:=fun i hi=>if_neg (Nat.ne_of_lt hi)
 have hρa:ρ' W.s.nx=a:=if_pos rfl
 have hmu:∀ b,Mu ⟨h',W.L,ρ',⟨(W.s.nx,c) :: W.s.sto,W.s.nx+1⟩⟩ b->Mu W b \/ b=a:=fun b q=>by
  rcases q with q|⟨i,d,hl,rfl⟩
  ·exact .inl (.inl q)
  ·rcases live_cons hl with ⟨rfl,_⟩|⟨hi,hl⟩
   ·exact .inr hρa
   ·exact .inl (.inr ⟨i,d,hl,hρ i (live_lt R hl)⟩)
 have hnot:∀ b,Mu W b->b ≠ a:=fun b q e=>by
  obtain ⟨o,e',_⟩:=R.mu q
  rw [e,ha] at e';exact (jg _ e'.symm).elim
 refine ⟨⟨h',W.L,ρ',⟨(W.s.nx,c) :: W.s.sto,W.s.nx+1⟩⟩,rfl,rfl,rfl,hρa,⟨fun b o e=>hk b o (R.base b o e),?_,R.len,?_,?_,?_,?_,?_,fun b hb=>let ⟨x,o,es,ep,e,d⟩:=R.f0 b hb;⟨x,o,es,ep,hk b o e,d⟩,?_⟩,⟨Nat.le_succ _,hρ,fun b o e _=>hk b o e,fun b o e _=>⟨o,hk b o e,.inl rfl⟩,?_⟩⟩
 ·intro b q
  rcases hmu b q with q|rfl
  ·exact R.b0 b q
  ·induction e:Hz.get? b with
   |none=>rfl
   |some o=>have:=R.base b o e;rw [ha] at this;exact (jg _ this.symm).elim
 ·obtain ⟨m,hm,hl⟩:=R.ns
  refine ⟨m,hm.keeps hk,fun i x a e1 e2=>(hl i x a e1 e2).imp_right fun ⟨v,e3,r⟩=>⟨v,e3,?_⟩⟩
  exact kz.mono (fun b o e _=>hk b o e) (Nat.le_succ _) hρ r
 ·intro i d hl
  rcases live_cons hl with ⟨rfl,rfl⟩|⟨hi,hl⟩
  ·exact ⟨Nat.lt_succ_self _,by show qa V P h' ρ' _ (ρ' W.s.nx) d;rw [hρa];exact hc ρ' hρ hρa⟩
  ·have y:=R.cell i d hl
   refine ⟨Nat.lt_succ_of_lt y.1,?_⟩
   show qa V P h' ρ' _ (ρ' i) d
   rw [hρ i y.1]
   exact y.2.mono (fun o e=>hk _ o e) (fun b o e _=>hk b o e) (Nat.le_succ _) hρ
 ·intro i j d e hl hl' hij
  rcases live_cons hl with ⟨p1,_⟩|⟨hi,hl2⟩<;>rcases live_cons hl' with ⟨p2,_⟩|⟨hj,hl3⟩
  ·rw [p1,p2]
  ·exfalso
   have hij:ρ' i=ρ' j:=hij
   rw [p1,hρa,hρ j (live_lt R hl3)] at hij
   exact hnot (W.ρ j) (.inr ⟨j,e,hl3,rfl⟩) hij.symm
  ·exfalso
   have hij:ρ' i=ρ' j:=hij
   rw [p2,hρa,hρ i (live_lt R hl2)] at hij
   exact hnot (W.ρ i) (.inr ⟨i,d,hl2,rfl⟩) hij
  ·have hij:ρ' i=ρ' j:=hij
   rw [hρ i (live_lt R hl2),hρ j (live_lt R hl3)] at hij
   exact R.inj i j d e hl2 hl3 hij
 ·intro i d hl
  rcases live_cons hl with ⟨rfl,rfl⟩|⟨hi,hl⟩
  ·show ρ' W.s.nx ≠ W.L
   rw [hρa];exact (hnot W.L (.inl rfl)).symm
  ·show ρ' i ≠ W.L
   rw [hρ i (live_lt R hl)];exact R.nL i d hl
 ·intro i d hl
  rcases live_cons hl with ⟨rfl,rfl⟩|⟨hi,hl⟩
  ·show ρ' W.s.nx ∉ fs
   rw [hρa];intro q
   obtain ⟨_,o,_,_,e,_⟩:=R.f0 a q
   rw [ha] at e;exact (jg _ e.symm).elim
  ·show ρ' i ∉ fs
   rw [hρ i (live_lt R hl)];exact R.nF i d hl
 ·show ((W.s.nx,c) :: W.s.sto).map (·.1) |>.Pairwise (· > ·)
  rw [List.map_cons,List.pairwise_cons]
  refine ⟨fun j hj=>?_,R.srt⟩
  obtain ⟨⟨j',d⟩,hm,rfl⟩:=List.mem_map.mp hj
  exact live_lt R (live_of_mem R.srt hm)
 ·intro b q
  rcases hmu b q with q|rfl
  ·exact .inl q
  ·exact .inr ha
end
section
variable {V:Vl} {P:Params} {Hz:Heap} {fs:List Addr} {C:EC} {W:Wd} {loc:List AV}
theorem Rel.turn (R:Rel V P Hz fs C W loc) {i:Nat} {c:Cell} (hi:qb W.s i c) {h':Heap} {s':Mine.St} (hk:∀ b o,b ≠ W.ρ i->W.h.get? b=some o->h'.get? b=some o)
  (hnx:s'.nx=W.s.nx) (hs:∀ j d,qb s' j d->(j ≠ i/\qb W.s j d) \/ (j=i/\qa V P h' W.ρ W.s.nx (W.ρ i) d)) (hsrt:(s'.sto.map (·.1)).Pairwise (· > ·)):
  Rel V P Hz fs C ⟨h',W.L,W.ρ,s'⟩ loc/\Stp fs W ⟨h',W.L,W.ρ,s'⟩:=by
 have hmi:Mu W (W.ρ i):=.inr ⟨i,c,hi,rfl⟩
 have himm:∀ b o,W.h.get? b=some o->qm o->h'.get? b=some o:=fun b o e y=>hk b o (fun q=>R.imm_ne e y (q▸hmi)) e
 have hmu:∀ b,Mu ⟨h',W.L,W.ρ,s'⟩ b->Mu W b:=fun b q=>by
  rcases q with q|⟨j,d,hl,rfl⟩
  ·exact .inl q
  ·rcases hs j d hl with ⟨_,hl⟩|⟨rfl,_⟩
   ·exact .inr ⟨j,d,hl,rfl⟩
   ·exact hmi
 have hcell:∀ j d,qb s' j d->j < W.s.nx/\qa V P h' W.ρ W.s.nx (W.ρ j) d:=fun j d hl=>by
  rcases hs j d hl with ⟨hj,hl⟩|⟨rfl,hc⟩
  ·have y:=R.cell j d hl
   exact ⟨y.1,y.2.mono (fun o e=>hk _ o (fun q=>hj (R.inj j i d c hl hi q)) e) himm (jj _) fun _ _=>rfl⟩
  ·exact ⟨(R.cell j c hi).1,hc⟩
 refine ⟨⟨fun b o e=>hk b o (fun q=>?_) (R.base b o e),fun b q=>R.b0 b (hmu b q),R.len,?_,?_,?_,?_,?_,fun b hb=>?_,hsrt⟩,⟨Nat.le_of_eq hnx.symm,fun _ _=>rfl,himm,fun b o e hm=>⟨o,hk b o (fun q=>hm (q▸hmi)) e,.inl rfl⟩,fun b q=>.inl (hmu b q)⟩⟩
 ·have:=R.b0 b (q▸hmi);rw [e] at this;exact (jg _ this).elim
 ·obtain ⟨m,hm,hl⟩:=R.ns
  refine ⟨m,?_,fun i x a e1 e2=>(hl i x a e1 e2).imp_right fun ⟨v,e3,r⟩=>⟨v,e3,?_⟩⟩
  ·obtain ⟨o,es,ep,e,r⟩:=hm
   exact ⟨o,es,ep,hk _ _ (R.nL i c hi).symm e,r⟩
  ·exact kz.mono himm (Nat.le_of_eq hnx.symm) (fun _ _=>rfl) r
 ·intro j d hl
  show j < s'.nx/\qa V P h' W.ρ s'.nx (W.ρ j) d
  rw [hnx];exact hcell j d hl
 ·intro a b d e ha hb hab
  have f:∀ j d,qb s' j d->∃ d',qb W.s j d':=fun j d hl=>(hs j d hl).elim (fun y=>⟨d,y.2⟩) fun y=>⟨c,y.1▸hi⟩
  obtain ⟨d',hd⟩:=f a d ha
  obtain ⟨e',he⟩:=f b e hb
  exact R.inj a b d' e' hd he hab
 ·intro j d hl
  rcases hs j d hl with ⟨_,hl⟩|⟨rfl,_⟩
  ·exact R.nL j d hl
  ·exact R.nL j c hi
 ·intro j d hl
  rcases hs j d hl with ⟨_,hl⟩|⟨rfl,_⟩
  ·exact R.nF j d hl
  ·exact R.nF j c hi
 ·obtain ⟨x,o,es,ep,e,d⟩:=R.f0 b hb
  exact ⟨x,o,es,ep,hk b o (fun q=>R.nF i c hi (q▸hb)) e,d⟩
theorem qc {k:Nat} {e:Cell} {r:List (Nat × Cell)} {j:Nat} {d:Cell}:List.lookup j ((k,e) :: r)=some d ↔ (j=k/\e=d) \/ (j ≠ k/\r.lookup j=some d):=by
 by_cases h:j=k
 ·subst h;simp [List.lookup]
 ·have hb:(j == k)=false:=by simpa using h
  simp [List.lookup,hb,h]
theorem live_putP {l:List (Nat × Cell)} {i:Nat} {c:Cell} {j:Nat} {d:Cell} (h:(putP l i c).lookup j=some d):(j ≠ i/\l.lookup j=some d) \/ (j=i/\d=c):=by
 induction l with
 |nil=>simp [putP] at h
 |cons x r ih=>
  obtain ⟨k,e⟩:=x
  by_cases hk:k=i
  ·subst hk
   simp only [putP,if_true] at h
   rcases qc.mp h with ⟨q,y⟩|⟨q,y⟩
   ·exact .inr ⟨q,y.symm⟩
   ·exact .inl ⟨q,qc.mpr (.inr ⟨q,y⟩)⟩
  ·simp only [putP,if_neg hk] at h
   rcases qc.mp h with ⟨q,y⟩|⟨q,y⟩
   ·exact .inl ⟨by rw [q];exact hk,qc.mpr (.inl ⟨q,y⟩)⟩
   ·exact (ih y).imp_left fun z=>⟨z.1,qc.mpr (.inr ⟨q,z.2⟩)⟩
theorem keys_putP (l:List (Nat × Cell)) (i:Nat) (c:Cell):(putP l i c).map (·.1)=l.map (·.1):=by
 induction l with
 |nil=>rfl
 |cons x r ih=>
  obtain ⟨k,e⟩:=x
  by_cases hk:k=i<;>simp [putP,hk,ih]
theorem sub_delP (l:List (Nat × Cell)) (i:Nat):List.Sublist (delP l i) l:=by
 induction l with
 |nil=>exact .slnil
 |cons y r ih=>
  obtain ⟨k,e⟩:=y
  by_cases hk:k=i
  ·simp only [delP,if_pos hk];exact .cons _ (.refl _)
  ·simp only [delP,if_neg hk];exact .cons_cons _ ih
theorem live_delP {l:List (Nat × Cell)} {i:Nat} {j:Nat} {d:Cell} (hs:(l.map (·.1)).Pairwise (· > ·)) (h:(delP l i).lookup j=some d):j ≠ i/\l.lookup j=some d:=by
 induction l with
 |nil=>simp [delP] at h
 |cons x r ih=>
  obtain ⟨k,e⟩:=x
  rw [List.map_cons,List.pairwise_cons] at hs
  by_cases hk:k=i
  ·subst hk
   simp only [delP,if_true] at h
   have hm:(j,d) ∈ r:=mem_of_live (s:=⟨r,0⟩) h
   have hlt:=hs.1 j (List.mem_map_of_mem hm)
   have hne:j ≠ k:=Nat.ne_of_lt hlt
   exact ⟨hne,qc.mpr (.inr ⟨hne,h⟩)⟩
  ·simp only [delP,if_neg hk] at h
   rcases qc.mp h with ⟨q,y⟩|⟨q,y⟩
   ·exact ⟨by rw [q];exact hk,qc.mpr (.inl ⟨q,y⟩)⟩
   ·exact ⟨(ih hs.2 y).1,qc.mpr (.inr ⟨q,(ih hs.2 y).2⟩)⟩
theorem Rel.set (R:Rel V P Hz fs C W loc) {i:Nat} {c c':Cell} (hi:qb W.s i c) {h':Heap} (hk:∀ b o,b ≠ W.ρ i->W.h.get? b=some o->h'.get? b=some o)
  (hc:qa V P h' W.ρ W.s.nx (W.ρ i) c'):
  Rel V P Hz fs C ⟨h',W.L,W.ρ,⟨putP W.s.sto i c',W.s.nx⟩⟩ loc/\Stp fs W ⟨h',W.L,W.ρ,⟨putP W.s.sto i c',W.s.nx⟩⟩:=
 R.turn hi hk rfl (fun j d hl=>(live_putP hl).imp_right fun ⟨a,b⟩=>⟨a,b▸hc⟩) (by rw [keys_putP];exact R.srt)
theorem Rel.del (R:Rel V P Hz fs C W loc) {i:Nat} {c:Cell} (hi:qb W.s i c) {h':Heap} (hk:∀ b o,b ≠ W.ρ i->W.h.get? b=some o->h'.get? b=some o):
  Rel V P Hz fs C ⟨h',W.L,W.ρ,⟨delP W.s.sto i,W.s.nx⟩⟩ loc/\Stp fs W ⟨h',W.L,W.ρ,⟨delP W.s.sto i,W.s.nx⟩⟩:=
 R.turn hi hk rfl (fun j d hl=>.inl (live_delP R.srt hl)) (R.srt.sublist ((sub_delP _ _).map _))
theorem Rel.sub (R:Rel V P Hz fs C W loc) {s':Mine.St} (hnx:s'.nx=W.s.nx) (hs:List.Sublist s'.sto W.s.sto):Rel V P Hz fs C { W with s:=s' } loc/\Stp fs W { W with s:=s' }:=by
 have hsrt:=R.srt.sublist (hs.map (·.1))
 have f:∀ j d,qb s' j d->qb W.s j d:=fun j d hl=>live_of_mem R.srt (hs.subset (mem_of_live hl))
 have hmu:∀ b,Mu { W with s:=s' } b->Mu W b:=fun b q=>q.imp_right fun ⟨j,d,hl,e⟩=>⟨j,d,f j d hl,e⟩
 refine ⟨⟨R.base,fun b q=>R.b0 b (hmu b q),R.len,?_,?_,fun i j c d a b e=>R.inj i j c d (f _ _ a) (f _ _ b) e,fun i c a=>R.nL i c (f _ _ a),fun i c a=>R.nF i c (f _ _ a),R.f0,hsrt⟩,
  ⟨Nat.le_of_eq hnx.symm,fun _ _=>rfl,fun _ _ e _=>e,fun b o e _=>⟨o,e,.inl rfl⟩,fun b q=>.inl (hmu b q)⟩⟩
 ·obtain ⟨m,hm,hl⟩:=R.ns
  exact ⟨m,hm,fun i x a e1 e2=>(hl i x a e1 e2).imp_right fun ⟨v,e3,r⟩=>⟨v,e3,kz.mono (fun _ _ e _=>e) (Nat.le_of_eq hnx.symm) (fun _ _=>rfl) r⟩⟩
 ·intro i c hl
  show i < s'.nx/\qa V P W.h W.ρ s'.nx (W.ρ i) c
  rw [hnx];exact R.cell i c (f _ _ hl)
theorem Rel.store (R:Rel V P Hz fs C W loc) (hnd:C.names.Nodup) {i:Nat} {x:Str} {a:AV} {v:Value} (hx:C.names[i]?=some x) (hv:W.R V a v) {h':Heap}
  (hk:∀ b o,b ≠ W.L->W.h.get? b=some o->h'.get? b=some o) {m:Str->Option Value} (hm:W.h.Ns W.L m) (hn:h'.Ns W.L fun y=>if y=x then some v else m y):
  Rel V P Hz fs C { W with h:=h' } (loc.set i a)/\Stp fs W { W with h:=h' }:=by
 have himm:∀ b o,W.h.get? b=some o->qm o->h'.get? b=some o:=fun b o e y=>hk b o (fun q=>R.imm_ne e y (.inl q)) e
 refine ⟨⟨fun b o e=>hk b o (fun q=>?_) (R.base b o e),R.b0,by rw [List.length_set];exact R.len,?_,?_,R.inj,R.nL,R.nF,fun b hb=>?_,R.srt⟩,⟨jj _,fun _ _=>rfl,himm,fun b o e hq=>⟨o,hk b o (fun q=>hq (.inl q)) e,.inl rfl⟩,fun b q=>.inl q⟩⟩
 ·have:=R.b0 b (.inl q);rw [e] at this;exact (jg _ this).elim
 ·refine ⟨_,hn,fun j y b e1 e2=>?_⟩
  obtain ⟨m₀,hm₀,hl⟩:=R.ns
  by_cases hj:i=j
  ·subst hj
   rw [hx] at e1;obtain rfl:=jf e1
   rw [List.getElem?_set] at e2
   simp only [if_true] at e2
   split at e2
   ·obtain rfl:=jf e2
    exact .inr ⟨v,by simp,kz.mono himm (jj _) (fun _ _=>rfl) hv⟩
   ·exact (jg _ e2.symm).elim
  ·rw [List.getElem?_set_ne hj] at e2
   refine (hl j y b e1 e2).imp_right fun ⟨u,e3,r⟩=>⟨u,?_,kz.mono himm (jj _) (fun _ _=>rfl) r⟩
   have hne:y ≠ x:=fun q=>hj ((List.getElem?_inj (by obtain ⟨q,_⟩:=List.getElem?_eq_some_iff.mp hx;exact q) hnd).mp (by rw [hx,e1,q]))
   rw [if_neg hne,<- Heap.Ns.agree hm₀ hm y];exact e3
 ·intro j c hl
  have y:=R.cell j c hl
  exact ⟨y.1,y.2.mono (fun o e=>hk _ o (fun q=>R.nL j c hl q) e) himm (jj _) fun _ _=>rfl⟩
 ·obtain ⟨x,o,es,ep,e,d⟩:=R.f0 b hb
  by_cases q:b=W.L
  ·subst q
   obtain ⟨o',es',ep',e',d',_⟩:=hn
   exact ⟨x,o',es',ep',e',d'⟩
  ·exact ⟨x,o,es,ep,hk b o q e,d⟩
theorem Rel.enter (R:Rel V P Hz fs C W loc) {fs':List Addr} {C':EC} {loc':List AV} {h':Heap} {L':Addr} {m:Str->Option Value} (hk:∀ b o,W.h.get? b=some o->h'.get? b=some o)
  (hL:W.h.get? L'=none) (hlen:loc'.length=C'.names.length) (hm:h'.Ns L' m) (hfs:∀ b,b ∈ fs'->b ∈ fs \/ b=L')
  (hl:∀ (i:Nat) (x:Str) (a:AV),C'.names[i]?=some x->loc'[i]?=some a->a=.un \/ ∃ v,m x=some v/\W.R V a v):
  Rel V P Hz fs' C' { W with h:=h',L:=L' } loc'/\Stp fs W { W with h:=h',L:=L' }:=by
 have hmu:∀ b,Mu { W with h:=h',L:=L' } b->Mu W b \/ b=L':=fun b q=>q.elim .inr fun y=>.inl (.inr y)
 refine ⟨⟨fun b o e=>hk b o (R.base b o e),fun b q=>?_,hlen,⟨m,hm,fun i x a e1 e2=>(hl i x a e1 e2).imp_right fun ⟨v,e3,r⟩=>⟨v,e3,kz.mono (fun b o e _=>hk b o e) (jj _) (fun _ _=>rfl) r⟩⟩,?_,R.inj,?_,?_,fun b hb=>?_,R.srt⟩,
  ⟨jj _,fun _ _=>rfl,fun b o e _=>hk b o e,fun b o e _=>⟨o,hk b o e,.inl rfl⟩,fun b q=>?_⟩⟩
 ·rcases hmu b q with q|rfl
  ·exact R.b0 b q
  ·induction e:Hz.get? b with
   |none=>rfl
   |some o=>have:=R.base b o e;rw [hL] at this;exact (jg _ this.symm).elim
 ·intro j c hl
  have y:=R.cell j c hl
  exact ⟨y.1,y.2.mono (fun o e=>hk _ o e) (fun b o e _=>hk b o e) (jj _) fun _ _=>rfl⟩
 ·intro j c hl e
  obtain ⟨o,e',_⟩:=(R.cell j c hl).2.there
  rw [show W.ρ j=L' from e,hL] at e';exact (jg _ e'.symm).elim
 ·intro j c hl q
  rcases hfs _ q with q|q
  ·exact R.nF j c hl q
  ·obtain ⟨o,e',_⟩:=(R.cell j c hl).2.there
   rw [show W.ρ j=L' from q,hL] at e';exact (jg _ e'.symm).elim
 ·rcases hfs b hb with q|rfl
  ·obtain ⟨x,o,es,ep,e,d⟩:=R.f0 b q
   exact ⟨x,o,es,ep,hk b o e,d⟩
  ·obtain ⟨o',es',ep',e',d',_⟩:=hm
   refine ⟨?_,o',es',ep',e',d'⟩
   induction e:Hz.get? b with
   |none=>rfl
   |some o=>have:=R.base b o e;rw [hL] at this;exact (jg _ this.symm).elim
 ·rcases hmu b q with q|rfl
  ·exact .inl q
  ·exact .inr hL
theorem Rel.back (R:Rel V P Hz fs C W loc) {fs':List Addr} {C':EC} {loc':List AV} {h₁:Heap} {L':Addr} {W':Wd} (hk:∀ b o,W.h.get? b=some o->h₁.get? b=some o) (hLn:W.h.get? L'=none)
  (hfs:∀ b,b ∈ fs'->b ∈ fs \/ b=L') (hfs':∀ b,b ∈ fs->b ∈ fs') (hL':W'.L=L') (R':Rel V P Hz fs' C' W' loc') (S:Stp fs' { W with h:=h₁,L:=L' } W'):
  Rel V P Hz fs C { W' with L:=W.L } loc/\Stp fs W { W' with L:=W.L }:=by
 obtain ⟨_,⟨oL,_,_,eL,_,_⟩,_⟩:=R.ns
 have hLL:W.L ≠ L':=fun q=>by rw [q,hLn] at eL;exact (jg _ eL.symm).elim
 have notMu:∀ b,Mu { W with h:=h₁,L:=L' } b->b=L' \/ ∃ i c,qb W.s i c/\b=W.ρ i:=fun b q=>q
 have notL:¬ Mu { W with h:=h₁,L:=L' } W.L:=fun q=>(notMu _ q).elim (fun e=>hLL e) fun ⟨i,c,hl,e⟩=>R.nL i c hl e.symm
 obtain ⟨oL',eL',sL⟩:=S.oth W.L oL (hk _ _ eL) notL
 have himm:∀ b o,W.h.get? b=some o->qm o->W'.h.get? b=some o:=fun b o e y=>S.imm b o (hk b o e) y
 have hρ:∀ i,i < W.s.nx->W'.ρ i=W.ρ i:=S.ρ
 have hfr:∀ b,Mu { W' with L:=W.L } b->Mu W b \/ W.h.get? b=none:=fun b q=>by
  rcases q with q|⟨i,c,hl,e⟩
  ·exact .inl (.inl q)
  ·rcases S.fr b (.inr ⟨i,c,hl,e⟩) with q|q
   ·rcases notMu b q with rfl|⟨j,d,hl',e'⟩
    ·exact .inr hLn
    ·exact .inl (.inr ⟨j,d,hl',e'⟩)
   ·induction e2:W.h.get? b with
    |none=>exact .inr rfl
    |some o=>have:=hk b o e2;rw [show (Wd.h { W with h:=h₁,L:=L' })=h₁ from rfl] at q;rw [q] at this;exact (jg _ this.symm).elim
 refine ⟨⟨R'.base,fun b q=>?_,R.len,?_,R'.cell,R'.inj,?_,fun i c a q=>R'.nF i c a (hfs' _ q),fun b hb=>R'.f0 b (hfs' b hb),R'.srt⟩,⟨S.nx,hρ,himm,fun b o e hm=>?_,hfr⟩⟩
 ·rcases hfr b q with q|q
  ·exact R.b0 b q
  ·induction e:Hz.get? b with
   |none=>rfl
   |some o=>have:=R.base b o e;rw [q] at this;exact (jg _ this.symm).elim
 ·obtain ⟨m,⟨o,es,ep,e,hd,r⟩,hl⟩:=R.ns
  rw [eL] at e;obtain rfl:=jf e
  exact ⟨m,⟨oL',es,ep,eL',sL.data.trans hd,r⟩,fun i x a e1 e2=>(hl i x a e1 e2).imp_right fun ⟨v,e3,r⟩=>⟨v,e3,kz.mono himm S.nx hρ r⟩⟩
 ·intro i c hl e
  have e:W'.ρ i=W.L:=e
  rcases S.fr (W'.ρ i) (.inr ⟨i,c,hl,rfl⟩) with q|q
  ·rw [e] at q;exact notL q
  ·rw [e] at q
   have:=hk _ _ eL;rw [show (Wd.h { W with h:=h₁,L:=L' })=h₁ from rfl] at q;rw [q] at this;exact (jg _ this.symm).elim
 ·obtain ⟨o',e',sm⟩:=S.oth b o (hk b o e) fun q=>by
   rcases notMu b q with rfl|⟨j,d,hl',e'⟩
   ·rw [hLn] at e;exact (jg _ e.symm).elim
   ·exact hm (.inr ⟨j,d,hl',e'⟩)
  refine ⟨o',e',sm.imp_right fun ⟨q,y⟩=>⟨(hfs b q).resolve_right fun z=>?_,y⟩⟩
  rw [z,hLn] at e;exact (jg _ e.symm).elim
theorem Rel.unl (R:Rel V P Hz fs C W loc) {loc':List AV} (hl:loc'.length=C.names.length) (hu:∀ (i:Nat) (a:AV),loc'[i]?=some a->a=AV.un):Rel V P Hz fs C W loc':=
 ⟨R.base,R.b0,hl,let ⟨m,hm,_⟩:=R.ns;⟨m,hm,fun i x a _ e=>.inl (hu i a e)⟩,R.cell,R.inj,R.nL,R.nF,R.f0,R.srt⟩
theorem Rel.again (R:Rel V P Hz fs C W loc) {W':Wd} {loc':List AV} (hL:W'.L=W.L) {s₀:Mine.St} (hs₀:s₀=⟨[],W.s.nx⟩) (R':Rel V P Hz fs C W' loc') (S:Stp fs { W with s:=s₀ } W'):
  Rel V P Hz fs C { W' with s:=⟨W.s.sto,W'.s.nx⟩ } loc'/\Stp fs W { W' with s:=⟨W.s.sto,W'.s.nx⟩ }:=by
 subst hs₀
 have hMu:∀ b,Mu { W with s:=⟨[],W.s.nx⟩ } b->b=W.L:=fun b q=>q.elim id fun ⟨i,c,hl,_⟩=>by exact (jg _ hl.symm).elim
 have hρ:∀ i,i < W.s.nx->W'.ρ i=W.ρ i:=S.ρ
 have hnx:W.s.nx<=W'.s.nx:=S.nx
 have hcl:∀ i c,qb W.s i c->i < W'.s.nx/\qa V P W'.h W'.ρ W'.s.nx (W'.ρ i) c:=fun i c hl=>by
  have y:=R.cell i c hl
  refine ⟨Nat.lt_of_lt_of_le y.1 hnx,?_⟩
  rw [hρ i y.1]
  refine y.2.mono (fun o e=>?_) S.imm hnx hρ
  obtain ⟨o',e',sm⟩:=S.oth (W.ρ i) o e fun q=>R.nL i c hl (hMu _ q)
  rcases sm with rfl|⟨q,_⟩
  ·exact e'
  ·exact absurd q (R.nF i c hl)
 have hfr:∀ b,Mu { W' with s:=⟨W.s.sto,W'.s.nx⟩ } b->Mu W b:=fun b q=>by
  rcases q with q|⟨i,c,hl,e⟩
  ·exact .inl (q.trans hL)
  ·exact .inr ⟨i,c,hl,e.trans (hρ i (R.cell i c hl).1)⟩
 refine ⟨⟨R'.base,fun b q=>R.b0 b (hfr b q),R'.len,R'.ns,hcl,fun i j c d a b e=>?_,fun i c a e=>?_,fun i c a e=>?_,R'.f0,R.srt⟩,⟨hnx,hρ,S.imm,fun b o e hm=>S.oth b o e fun q=>hm (.inl (hMu b q)),fun b q=>.inl (hfr b q)⟩⟩
 ·have e:W'.ρ i=W'.ρ j:=e
  rw [hρ i (R.cell i c a).1,hρ j (R.cell j d b).1] at e
  exact R.inj i j c d a b e
 ·have e:W'.ρ i=W'.L:=e
  rw [hρ i (R.cell i c a).1,hL] at e
  exact R.nL i c a e
 ·have e:W'.ρ i ∈ fs:=e
  rw [hρ i (R.cell i c a).1] at e
  exact R.nF i c a e
theorem Rel.slots (R:Rel V P Hz fs C W loc) {h':Heap} (hk:∀ b o,W.h.get? b=some o->∃ o',h'.get? b=some o'/\Sm fs b o o'):Rel V P Hz fs C { W with h:=h' } loc/\Stp fs W { W with h:=h' }:=by
 have keep:∀ b o,b ∉ fs->W.h.get? b=some o->h'.get? b=some o:=fun b o hb e=>by
  obtain ⟨o',e',sm⟩:=hk b o e
  rcases sm with rfl|⟨q,_⟩
  ·exact e'
  ·exact absurd q hb
 have himm:∀ b o,W.h.get? b=some o->qm o->h'.get? b=some o:=fun b o e y=>keep b o (fun q=>by
  obtain ⟨_,o',es,ep,e',d⟩:=R.f0 b q
  rw [e] at e';obtain rfl:=jf e';exact y.2 _ _ d) e
 refine ⟨⟨fun b o e=>keep b o (fun q=>?_) (R.base b o e),R.b0,R.len,?_,fun i c hl=>?_,R.inj,R.nL,R.nF,fun b hb=>?_,R.srt⟩,⟨jj _,fun _ _=>rfl,himm,fun b o e _=>hk b o e,fun _ q=>.inl q⟩⟩
 ·rw [(R.f0 b q).1] at e;exact (jg _ e.symm).elim
 ·obtain ⟨m,⟨o,es,ep,e,d,r⟩,hl⟩:=R.ns
  obtain ⟨o',e',sm⟩:=hk _ o e
  exact ⟨m,⟨o',es,ep,e',sm.data.trans d,r⟩,fun i x a e1 e2=>(hl i x a e1 e2).imp_right fun ⟨v,e3,r⟩=>⟨v,e3,kz.mono himm (jj _) (fun _ _=>rfl) r⟩⟩
 ·have y:=R.cell i c hl
  exact ⟨y.1,y.2.mono (fun o e=>keep _ o (R.nF i c hl) e) himm (jj _) fun _ _=>rfl⟩
 ·obtain ⟨x,o,es,ep,e,d⟩:=R.f0 b hb
  obtain ⟨o',e',sm⟩:=hk b o e
  exact ⟨x,o',es,ep,e',sm.data.trans d⟩
end
end Mine
end
section
open PySem PySem.W PyProof.Rows PySem.Calls
namespace Mine
set_option backward.match.sparseCases true
noncomputable def okC:Code->Bool
 |.builtin id _=>!Builtin.Bytes.decodersThatHold.contains id
 |_=>true
noncomputable def Okay (Γ:Ctx):Prop:=okC Γ.code=true/\∀ x ∈ Γ.below,okC x.1=true
noncomputable def wpR {α:Type} (M:Model) (A:Around) (t:Sem α) (Q:α->Shared->Prop) (E:VP) (s:Shared):Prop:=
 ∀ Γ p,Γ.In A->Okay Γ->Sem.wp M Γ t (fun a _ s'=>Q a s') (fun e _ s'=>E e s') p s
noncomputable def kb (M:Model) (A:Around) (c:Code) (R:Result->Shared->Prop) (s:Shared):Prop:=
 ∀ Γ p,Γ.code=c->Γ.Below A->Okay Γ->wpCode M Γ R p s
section
variable {α β:Type} {M:Model} {A:Around} {E:VP} {s:Shared}
theorem wpR.of {t:Sem α} {Q:α->Shared->Prop} (h:wpAny M A t Q E s):wpR M A t Q E s:=fun Γ p hΓ _=>h Γ p hΓ
theorem kb.of {c:Code} {R:Result->Shared->Prop} (h:codeAny M A c R s):kb M A c R s:=fun Γ p e hΓ _=>h Γ p e hΓ
theorem Okay.enter {Γ:Ctx} {c:Code} {h:Option Value} {p:Pos} (k:Okay Γ) (hc:okC c=true):Okay (Γ.enter c h p):=
 ⟨hc,fun x hx=>by
  have hx:x ∈ (Γ.code,p) :: Γ.below:=hx
  rcases List.mem_cons.mp hx with rfl|hx
  ·exact k.1
  ·exact k.2 x hx⟩
theorem Okay.goto {Γ:Ctx} {c:Code} (k:Okay Γ) (hc:okC c=true):Okay (Γ.goto c):=⟨hc,k.2⟩
theorem jv {a:α} {Q:α->Shared->Prop} (h:Q a s):wpR M A (pure a) Q E s:=.of (ji h)
theorem jq {t:Sem α} {Q Q':α->Shared->Prop} {E':VP} (h:wpR M A t Q E s)
  (hQ:∀ a s,Q a s->Q' a s) (hE:∀ e s,E e s->E' e s):wpR M A t Q' E' s:=
 fun Γ p hΓ k=>Sem.wp_mono M Γ t (fun a _ s=>hQ a s) (fun e _ s=>hE e s) p s (h Γ p hΓ k)
theorem wpR_gen {t:Sem α} {Q:α->Shared->Prop} (h:∀ (Q':α->Shared->Prop) (E':VP),(∀ a s,Q a s->Q' a s)->(∀ e s,E e s->E' e s)->wpR M A t Q' E' s):wpR M A t Q E s:=h Q E (fun _ _ x=>x) fun _ _ x=>x
theorem codeR_gen {c:Code} {R:Result->Shared->Prop} (h:∀ R':Result->Shared->Prop,(∀ r s,R r s->R' r s)->kb M A c R' s):kb M A c R s:=h R fun _ _ x=>x
theorem jr {m:Sem α} {f:α->Sem β} {Q:β->Shared->Prop} (h:wpR M A m (fun a s'=>wpR M A (f a) Q E s') E s):wpR M A (m >>= f) Q E s:=fun Γ p hΓ k=>by
 rw [Sem.wp_bind']
 exact Sem.wp_mono M Γ m (fun a p' s' h'=>h' Γ p' hΓ k) (fun _ _ _ h'=>h') p s (h Γ p hΓ k)
theorem wpR_onRaise {m:Sem α} {k:Value->Sem Unit} {Q:α->Shared->Prop} (h:wpR M A m Q (fun e s'=>wpR M A (k e) (fun _ s''=>E e s'') E s') s):wpR M A (m.onRaise k) Q E s:=fun Γ p hΓ kk=>by
 rw [Sem.wp_onRaise]
 exact Sem.wp_mono M Γ m (fun _ _ _ h'=>h') (fun e p' s' h'=>h' Γ p' hΓ kk) p s (h Γ p hΓ kk)
theorem wpR_attempt {m:Sem α} {Q:Except Value α->Shared->Prop} (h:wpR M A m (fun a=>Q (.ok a)) (fun e=>Q (.error e)) s):wpR M A m.attempt Q E s:=fun Γ p hΓ k=>by
 rw [Sem.wp_attempt];exact h Γ p hΓ k
theorem ju {vs:List Value} {m:Sem α} {Q:α->Shared->Prop} (h:wpR M A m Q E s):wpR M A (holding vs m) Q E s:=fun Γ p hΓ k=>by rw [Sem.wp_holding];exact h Γ p hΓ k
theorem wpR_keep {vs:List Value} {m:Sem α} {Q:α->Shared->Prop} (h:wpR M A m Q E s):wpR M A (m.keep vs) Q E s:=fun Γ p hΓ k=>by rw [Sem.wp_keep];exact h Γ p hΓ k
theorem gf {vs:List Value} {m:Sem Value} {Q:VP} (h:wpR M A m Q E s):wpR M A (operate vs m) Q E s:=fun Γ p hΓ k=>by rw [Sem.wp_operate];exact h Γ p hΓ k
theorem wpR_ite {c:Prop} [Decidable c] {a b:Sem α} {Q:α->Shared->Prop} (h:if c then wpR M A a Q E s else wpR M A b Q E s):wpR M A (if c then a else b) Q E s:=by split<;>simp_all
theorem wpR_run {c:Code} {h:Option Value} {Q:Flow->Shared->Prop} (hc:kb M (A.mark h) c (fun r s'=>match r with|.ok f=>Q f s'|.error e=>E e s') s) (ok:okC c=true) (hnb:h ≠ some byPass:=by intro x;cases x):
  wpR M A (PySem.run c h) Q E s:=fun Γ p hΓ k=>by rw [Sem.wp_run];exact hc _ p rfl (hΓ.enter c h p hnb) (k.enter ok)
theorem wpR_runValue {c:Code} {Q:VP} (hc:kb M A c (fun r s'=>match r with|.ok (.ret v)=>Q v s'|.ok _=>False|.error e=>E e s') s) (ok:okC c=true):wpR M A (runValue c) Q E s:=
 fun Γ p hΓ k=>by rw [Sem.wp_runValue];exact hc _ p rfl (hΓ.enter c none p (by intro x;cases x)) (k.enter ok)
theorem ge {f:Value} {pos:List Value} {kw:List (Str × Value)} {Q:VP}
  (hc:kb M A (.call f ⟨pos,kw⟩) (fun r s'=>match r with|.ok (.ret v)=>Q v s'|.ok _=>False|.error e=>E e s') s):wpR M A (call f pos kw) Q E s:=wpR_runValue hc rfl
theorem ka {c:Code} {R:Result->Shared->Prop} (h:wpR M (A.under c) (M.den c) (fun fin s'=>match fin with|.done f=>R (.ok f) s'|.again c'=>c'.quiet=true/\okC c'=true/\kb M A c' R s') (fun e s'=>R (.error e) s') s):kb M A c R s:=fun Γ p hc hΓ k=>by
 rw [wpCode_iff_wp,hc]
 refine Sem.wp_mono M Γ _ (fun fin p' s' h'=>?_) (fun _ _ _ h'=>h') p s (h Γ p (hc▸hΓ.in) k)
 cases fin with
 |done f=>exact h'
 |again c'=>exact ⟨h'.1,h'.2.2 (Γ.goto c') p' rfl (hΓ.goto c') (k.goto h'.2.1)⟩
theorem codeR_mono {c:Code} {R R':Result->Shared->Prop} (h:kb M A c R s) (hR:∀ r s,R r s->R' r s):kb M A c R' s:=fun Γ p hc hΓ k=>wpCode_mono hR (h Γ p hc hΓ k)
noncomputable def noteR (M:Model) (A:Around) (env:Env) (E:VP):VP:=fun x s'=>wpR M A (noteFrame x env) (fun _ s''=>E x s'') E s'
noncomputable def cameR (M:Model) (A:Around) (env:Env) (E:VP):VP:=fun x s'=>wpR M A (do
  if (<- field x 1) == .none then unsupported "frame.own-activation:exception-without-traceback"
  setFlight x env.frame) (fun _ s''=>E x s'') E s'
theorem wpR_noted {env:Env} {m:Sem α} {Q:α->Shared->Prop} (h:wpR M A m Q (noteR M A env E) s):wpR M A (m.onRaise fun x=>do noteFrame x env;theTreesLotGoes x) Q E s:=
 wpR_onRaise (jq h (fun _ _ q=>q) fun _ _ hx=>jr (jq hx (fun _ _ e=>.of (wpAny_theTreesLotGoes e)) fun _ _ e=>e))
theorem wpR_notedAt {env:Env} {m:Sem α} {pos:Pos} {Q:α->Shared->Prop} (h:wpR M A m Q (noteR M A env E) s):wpR M A (m.onRaise fun x=>do noteFrame x env;standAt pos) Q E s:=
 wpR_onRaise (jq h (fun _ _ q=>q) fun _ _ hx=>jr (jq hx (fun _ _ e=>.of (wpAny_standAt e)) fun _ _ e=>e))
theorem wpR_runOwn {env:Env} {c:Code} {h:Option Value} {Q:Flow->Shared->Prop} (hc:kb M (A.mark h) c (fun r s'=>match r with|.ok f=>Q f s'|.error e=>cameR M A env E e s') s) (ok:okC c=true) (hnb:h ≠ some byPass:=by intro x;cases x):
  wpR M A (runOwn c env h) Q E s:=by
 unfold runOwn
 exact wpR_onRaise (wpR_run hc ok hnb)
theorem jt {pos:Pos} {Q:Unit->Shared->Prop} (h:Q () s):wpR M A (standAt pos) Q E s:=.of (wpAny_standAt h)
theorem wpR_rule {tag:String} {Q:Unit->Shared->Prop} (h:Q () s):wpR M A (rule tag) Q E s:=.of (wpAny_rule h)
theorem wpR_fresh {Q:Tok->Shared->Prop} (h:Q s.toks { s with toks:=s.toks+1 }):wpR M A fresh Q E s:=.of (wpAny_fresh h)
theorem wpR_point {Q:Unit->Shared->Prop} (h:Q () s):wpR M A point Q E s:=.of (wpAny_point h)
theorem jw {t:Sem α} {a:α} {Q:α->Shared->Prop} (e:t=pure a) (h:Q a s):wpR M A t Q E s:=.of (wpAny_of_eq e h)
theorem jy {b:Bool} {Q:Bool->Shared->Prop} (h:Q b s):wpR M A (truthy (.bool b)) Q E s:=.of (wpAny_truthy_bool h)
theorem wpR_release {vs keep:List Value} {Q:Unit->Shared->Prop} (h:Q () s):wpR M A (release vs keep) Q E s:=.of (wpAny_release h)
theorem wpR_standIf {c:Prop} [Decidable c] {pos:Pos} {k:PUnit->Sem α} {Q:α->Shared->Prop} (h:wpR M A (k ()) Q E s):wpR M A (if c then (standAt pos >>= k) else k ()) Q E s:=by
 split
 ·exact jr (jt h)
 ·exact h
variable {env:Env}
theorem wpR_BinOp {l r:PySem.Expr} {op:Operator} {pos:Pos} {Q:VP} (h:wpR M A (eval l env) (fun a s₁=>wpR M A (eval r env) (fun b s₂=>wpR M A (binaryOp op a b) Q E s₂) E s₁) E s):wpR M A (eval (.BinOp l op r pos) env) Q E s:=by
 rw [eval_BinOp]
 exact jr (jq h (fun a s₁ h₁=>jr (ju (jq h₁ (fun b s₂ h₂=>jr (jt (gf h₂))) fun _ _ x=>x))) fun _ _ x=>x)
theorem wpR_UnaryOp {op:UnaryOp} {x:PySem.Expr} {pos:Pos} {Q:VP} (h:wpR M A (eval x env) (fun v s₁=>wpR M A (unaryOp op v) Q E s₁) E s):wpR M A (eval (.UnaryOp op x pos) env) Q E s:=by
 rw [arm_eval_UnaryOp]
 exact jr (jq h (fun v s₁ h₁=>jr (jt (ju h₁))) fun _ _ x=>x)
theorem wpR_IfExp {test body orelse:PySem.Expr} {pos:Pos} {Q:VP}
  (h:wpR M A (isTrue test env (eval test env)) (fun b s₁=>if b then wpR M A (eval body env) Q E s₁ else wpR M A (eval orelse env) Q E s₁) E s):wpR M A (eval (.IfExp test body orelse pos) env) Q E s:=by
 rw [arm_eval_IfExp]
 refine jr (jq h (fun b s₁ h₁=>?_) fun _ _ x=>x)
 cases b<;>exact h₁
theorem wpR_Tuple {elts:List PySem.Expr} {k:Nat} {pos:Pos} {Q:VP} (h:wpR M A (spliced (backTo pos (starEach elts env)))
   (fun vs s₁=>vs.length<=sizeLine/\Q (.ref s₁.heap.objs.size) { s₁ with heap:=s₁.heap.push { cls:=.type "tuple",data:=.seq vs.toArray } }) E s):wpR M A (eval (.Tuple elts k pos) env) Q E s:=by
 rw [arm_eval_Tuple]
 exact jr (jt (jr (jq h (fun vs s₁ h₁=>.of (wpAny_newObj_type h₁.2 (by show vs.toArray.size<=sizeLine;rw [List.size_toArray];exact h₁.1))) fun _ _ x=>x)))
theorem wpR_List {elts:List PySem.Expr} {pos:Pos} {Q:VP} (h:wpR M A (spliced (backTo pos (starEach elts env)))
   (fun vs s₁=>vs.length<=sizeLine/\Q (.ref s₁.heap.objs.size) { s₁ with heap:=s₁.heap.push { cls:=.type "list",data:=.seq vs.toArray } }) E s):wpR M A (eval (.List elts pos) env) Q E s:=by
 rw [arm_eval_List]
 exact jr (jt (jr (jq h (fun vs s₁ h₁=>.of (wpAny_newObj_type h₁.2 (by show vs.toArray.size<=sizeLine;rw [List.size_toArray];exact h₁.1))) fun _ _ x=>x)))
theorem wpR_isTrue_Not {x:PySem.Expr} {pos:Pos} {whole:Sem Value} {Q:Bool->Shared->Prop} (h:wpR M A (isTrue x env (eval x env)) (fun b s₁=>Q (!b) s₁) E s):wpR M A (isTrue (.UnaryOp .Not x pos) env whole) Q E s:=by
 rw [arm_isTrue_UnaryOp]
 exact jr (jq h (fun b s₁ h₁=>jv h₁) fun _ _ x=>x)
theorem wpR_isTrue_BoolOp {op:BoolOp} {values:List PySem.Expr} {pos:Pos} {whole:Sem Value} {Q:Bool->Shared->Prop} (h:wpR M A (allTrue op values env) Q E s):wpR M A (isTrue (.BoolOp op values pos) env whole) Q E s:=by
 rw [arm_isTrue_BoolOp];exact h
theorem wpR_isTrue_value {e:PySem.Expr} {whole:Sem Value} {Q:Bool->Shared->Prop} (h:wpR M A whole (fun v s₁=>wpR M A (truthy v) Q E s₁) E s)
  (he:isTrue e env whole=(do let v <- whole;standAt e.pos;holding [v] (truthy v))):wpR M A (isTrue e env whole) Q E s:=by
 rw [he]
 exact jr (jq h (fun v s₁ h₁=>jr (jt (ju h₁))) fun _ _ x=>x)
theorem wpR_Constant_none {k:Nat} {pos:Pos} {Q:VP} (h:Q .none s):wpR M A (eval (.Constant .none k pos) env) Q E s:=.of (wpAny_Constant_none h)
theorem spliced_nil {Q:List Value->Shared->Prop} (h:Q [] s):wpR M A (spliced []) Q E s:=.of (PySem.Calls.spliced_nil h)
theorem spliced_cons {x:Sem Value} {rest:List (Bool × Sem Value)} {Q:List Value->Shared->Prop} (h:wpR M A x (fun v s₁=>wpR M A (spliced rest) (fun vs s₂=>Q (v :: vs) s₂) E s₁) E s):wpR M A (spliced ((false,x) :: rest)) Q E s:=by
 rw [spliced]
 refine jr (jq h (fun v s₁ h₁=>?_) fun _ _ x=>x)
 simp only [Bool.false_eq_true,if_false]
 exact jr (jv (jr (ju (jq h₁ (fun vs s₂ h₂=>jv h₂) fun _ _ x=>x))))
theorem evalArgs_plain {f:Value} {x:Sem Value} {rest:List (Bool × Sem Value)} {Q:Args->Shared->Prop} (h:wpR M A (spliced ((false,x) :: rest)) (fun vs s'=>Q ⟨vs,[]⟩ s') E s):wpR M A (evalArgs f true ((false,x) :: rest) []) Q E s:=by
 unfold evalArgs
 show wpR M A (spliced ((false,x) :: rest) >>= _) Q E s
 exact jr (jq h (fun vs s' h'=>ju (jr (jv (jr (jv (jv h')))))) fun _ _ x=>x)
theorem callWith_builtin {pos:Pos} {id:String} {first:List Value} {args:List (Bool × Sem Value)} {Q:VP} (hplain:args.any (·.1)=false)
  (h:wpR M A (evalArgs (.builtin id) true args []) (fun a s₁=>wpR M A (call (.builtin id) (first ++ a.pos) a.kw) Q E s₁) E s):wpR M A (callWith pos (.builtin id) first args []) Q E s:=by
 unfold callWith
 refine jr (ju (jq h (fun a s₁ h₁=>jr (jt ?_)) fun _ _ x=>x))
 simp only [hplain,List.any_nil,Bool.or_false]
 refine jr (jv ?_)
 exact jr (jq h₁ (fun r s₂ hr=>jr (ju (wpR_point (jv hr)))) fun _ _ x=>x)
theorem callWith_of {f:Value} {first:List Value} {pos:Pos} {Q:VP} {P:Heap->Prop} {args:List (Bool × Sem Value)} {keywords:List (Option Str × Sem Value)} (hplain:(args.any (·.1) || keywords.any (·.1.isNone))=false)
  (hk:∀ h,P h->∃ k,(k=Keeper.frame \/ k=Keeper.machine \/ k=Keeper.boundFrame)/\Looks M h (keeperOf f) k)
  (h:wpR M A (evalArgs f true args keywords) (fun a s₁=>P s₁.heap/\wpR M A (call f (first ++ a.pos) a.kw) Q E s₁) E s):wpR M A (callWith pos f first args keywords) Q E s:=by
 unfold callWith
 refine jr (ju (jq h (fun a s₁ h₁=>jr (jt ?_)) fun _ _ x=>x))
 obtain ⟨k,hk',L⟩:=hk _ h₁.1
 simp only [hplain]
 refine jr (.of (L.here ?_))
 have tail:∀ {t:Sem Value},wpR M A t Q E s₁->wpR M A (t >>= fun r=>holding [r] point >>= fun _=>pure r) Q E s₁:=
  fun ht=>jr (jq ht (fun r s₂ hr=>jr (ju (wpR_point (jv hr)))) fun _ _ x=>x)
 have marked (mk:Value):wpR M A (callMarked mk f (first ++ a.pos) a.kw) Q E s₁:=by unfold callMarked;exact wpR_keep h₁.2
 rcases hk' with rfl|rfl|rfl<;>dsimp only<;>first|exact tail h₁.2|(split<;>first|exact tail h₁.2|exact tail (marked _))
theorem wpR_execs_nil {Q:Flow->Shared->Prop} (h:Q .next s):wpR M A (execs [] env) Q E s:=.of (wpAny_execs_nil h)
set_option tactic.hygienic true in
theorem wpR_execs_cons {st:Stmt} {rest:List Stmt} {Q:Flow->Shared->Prop} (h:wpR M A (exec st env) (fun f s'=>match f with|.next=>wpR M A (execs rest env) Q E s'|f=>Q f s') E s):wpR M A (execs (st :: rest) env) Q E s:=by
 rw [execs_cons]
 refine jr (jq h (fun f s' h'=>?_) fun _ _ x=>x)
 cases f<;>first|exact h'|exact jv h'
theorem wpR_If {test:PySem.Expr} {body orelse:List Stmt} {pos:Pos} {Q:Flow->Shared->Prop}
  (h:wpR M A (isTrue test env (eval test env)) (fun b s₂=>if b then wpR M A (execs body env) Q E s₂ else wpR M A (execs orelse env) Q E s₂) E s):wpR M A (exec (.If test body orelse pos) env) Q E s:=by
 rw [exec_If]
 refine jr (jt (jr (jq h (fun b s₂ h₂=>?_) fun _ _ x=>x)))
 cases b<;>exact h₂
theorem wpR_While {test:PySem.Expr} {body orelse:List Stmt} {pos:Pos} {Q:Flow->Shared->Prop}
  (h:kb M A (.whileLoop test body orelse env) (fun r s'=>match r with|.ok f=>Q f s'|.error e=>cameR M A env E e s') s):wpR M A (exec (.While test body orelse pos) env) Q E s:=by
 rw [exec_While];exact jr (jt (wpR_runOwn h rfl))
theorem wpR_For {target iter:PySem.Expr} {body orelse:List Stmt} {pos:Pos} {Q:Flow->Shared->Prop}
  (h:wpR M A (eval iter env) (fun x s₁=>wpR M A (pyIter x) (fun it s₂=>kb M A (.forLoop target it body orelse env) (fun r s'=>match r with|.ok f=>Q f s'|.error e=>cameR M A env E e s') s₂) E s₁) E s)
  (hs:∀ x,foldedSetIterable iter env x=pure x):wpR M A (exec (.For target iter body orelse pos) env) Q E s:=by
 rw [exec_For]
 exact jr (jt (jr (jq h (fun x s₁ h₁=>jr (jw (hs x) (jr (jt (jr (ju (jq h₁ (fun it s₂ h₂=>wpR_runOwn h₂ rfl) fun _ _ h'=>h'))))))) fun _ _ h'=>h')))
theorem wpR_Return_some {e:PySem.Expr} {pos:Pos} {Q:Flow->Shared->Prop} (h:wpR M A (eval e env) (fun v=>Q (.ret v)) E s):wpR M A (exec (.Return (some e) pos) env) Q E s:=by
 rw [exec_Return_some]
 exact jr (jt (jr (jq h (fun v s' h'=>jv h') fun _ _ x=>x)))
theorem wpR_Return_none {pos:Pos} {Q:Flow->Shared->Prop} (h:Q (.ret .none) s):wpR M A (exec (.Return none pos) env) Q E s:=.of (wpAny_Return_none h)
theorem wpR_Pass {pos:Pos} {Q:Flow->Shared->Prop} (h:Q .next s):wpR M A (exec (.Pass pos) env) Q E s:=.of (wpAny_Pass h)
theorem wpR_bindName {x:Str} {v:Value} {Q:Unit->Shared->Prop} (h:wpR M A (storeName env x v) Q E s):wpR M A (bindName env x v) Q E s:=fun Γ p hΓ k=>by rw [Sem.wp_bindName];exact h Γ p hΓ k
theorem wpR_assign_Name {x:Str} {pos:Pos} {v:Value} {Q:Unit->Shared->Prop} (h:wpR M A (storeName env x v) Q E s):wpR M A (assign (.Name x pos) env v) Q E s:=by
 rw [PySem.assign_Name];exact jr (jt (wpR_bindName h))
theorem wpR_AugAssign_Name {x:Str} {pos' pos:Pos} {op:Operator} {value:PySem.Expr} {Q:Flow->Shared->Prop}
  (h:wpR M A (loadName env x) (fun old s₁=>wpR M A (eval value env) (fun v s₂=>wpR M A (inplaceOp op old v) (fun r s₃=>wpR M A (storeName env x r) (fun _=>Q .next) E s₃) E s₂) E s₁) E s):
  wpR M A (exec (.AugAssign (.Name x pos') op value pos) env) Q E s:=fun Γ p hΓ k=>by
 simp only [exec_AugAssign_Name,Sem.wp_bind',Sem.wp_holding,Sem.wp_cmd_standAt,Sem.wp_operate,Sem.wp_bindName,Sem.wp_pure']
 exact Sem.wp_mono M Γ _ (fun old p₁ s₁ h₁=>Sem.wp_mono M Γ _ (fun v _ s₂ h₂=>Sem.wp_mono M Γ _ (fun r _ s₃ h₃=>h₃ Γ _ hΓ k)
  (fun _ _ _ h'=>h') _ _ (h₂ Γ _ hΓ k)) (fun _ _ _ h'=>h') _ _ (h₁ Γ p₁ hΓ k)) (fun _ _ _ h'=>h') _ _ (h Γ _ hΓ k)
theorem gc {scope:Scope} {globals:Addr} {closure:List (Str × Addr)} {binds:List (Str × Value)} {qual:Str} {func:Option Addr} {code:Value} {around:Option Env} {builtins:Addr} {Q:Env->Shared->Prop}
  (hc:∀ x ∈ scope.names,x.2 ≠ .cell) (hl:∀ x ∈ binds,scope.names.lookup x.1=some .local)
  (hQ:∀ h',h'.Ns s.heap.objs.size (fun x=>binds.reverse.lookup x)->Heap.SameBut s.heap.objs.size (s.heap.push { cls:=.type (if around.isSome then "dict" else "frame"),data:=.dict #[] }) h'->
   Q (newEnv scope s.heap.objs.size globals closure qual func code around builtins) { s with heap:=h',toks:=s.toks+binds.length }) (hk:scope.kind=.function):
  wpR M A (newFunctionEnv scope globals closure binds qual func code around builtins) Q E s:=.of (wpAny_newFunctionEnv hc hl hQ hk)
theorem wpR_newList {items:List Value} {Q:VP} (h:Q (.ref s.heap.objs.size) { s with heap:=s.heap.push { cls:=.type "list",data:=.seq items.toArray } }) (hsz:items.length<=sizeLine):wpR M A (newList items) Q E s:=.of (wpAny_newList h hsz)
theorem wpR_newObj_type {T:String} {data:Data} {dict:Option Addr} {Q:VP}
  (h:Q (.ref s.heap.objs.size) { s with heap:=s.heap.push { cls:=.type T,data:=data,dict:=dict } }) (hd:sizeOk data:=by size_fits):wpR M A (newObj (.type T) data dict) Q E s:=.of (wpAny_newObj_type h hd)
theorem wpR_comprehension {e:PySem.Expr} {scope:Scope} {pos:Pos} {newAcc first:Sem Value} {g:Comprehension} {gs:List Comprehension} {Q:VP}
  (hcl:clausesOf e=g :: gs) (hs:∀ x,foldedSetIterable g.iter env x=pure x) (hfree:∀ x ∈ scope.names,x.2 ≠ .free) (hkind:scope.kind=.function) (hnames:∀ x ∈ scope.names,x.2=.local->scope.names.lookup x.1=some .local)
  (h:wpR M A first (fun x s₁=>wpR M A (pyIter x) (fun it s₂=>wpR M A newAcc (fun acc s₃=>wpR M A (newFunctionEnv scope env.globals [] [] env.qual none .none (some env)) (fun cenv s₄=>
    kb M A (.compStart e 0 it acc { cenv with scope:=scope }) (fun r s'=>∃ m,s'.heap.Ns cenv.locals m/\∀ h',Heap.SameBut cenv.locals s'.heap h'->
     match r with|.ok _=>Q acc { s' with heap:=h' }|.error x=>wpR M A (PySem.passOn "comprehension.variables-let-go" x { cenv with scope:=scope }) Q E { s' with heap:=h' }) s₄) E s₃) E s₂) E s₁) E s):
  wpR M A (comprehension e scope env pos newAcc false first) Q E s:=by
 unfold comprehension
 rw [closureFor_none hfree,hcl]
 refine jr (jq h (fun x s₁ h₁=>jr (jt (jr (jw (hs x) (jr (ju (jq h₁ (fun it s₂ h₂=>
  wpR_standIf (jr (jq h₂ (fun acc s₃ h₃=>jr (jv (jr (jq h₃ (fun cenv s₄ h₄=>?_) fun _ _ h'=>h')))) fun _ _ h'=>h')))
   fun _ _ h'=>h'))))))) fun _ _ h'=>h')
 dsimp only
 rw [map_eq_self (l:=scope.names) (fun x hx=>by
  obtain ⟨n,k⟩:=x
  have:(k == NameKind.free)=false:=by simpa using hfree _ hx
  simp [this])]
 refine ju (jr (wpR_attempt (ju (wpR_run (codeR_mono h₄ fun r s' hr=>?_) rfl))))
 obtain ⟨m,hn,hr⟩:=hr
 have hv:∀ x ∈ (scope.names.filter fun x=>(x.2 == .local || x.2 == .cell) && x.1 != (".0":Str)).reverse,x.2=.local->Env.kindOf { cenv with scope:=scope } x.1=some .local:=
  fun x hx hl=>hnames x (List.mem_filter.mp (List.mem_reverse.mp hx)).1 hl
 cases r with
 |ok f=>exact jr (ju (.of (wpAny_comp_letGo (cenv:={ cenv with scope:=scope }) hkind _ s' m hv hn fun h' m' _ hs'=>jv (hr h' hs'))))
 |error x=>exact jr (ju (.of (wpAny_comp_letGo (cenv:={ cenv with scope:=scope }) hkind _ s' m hv hn fun h' m' _ hs'=>hr h' hs')))
theorem wpR_ListComp {elt target iter:PySem.Expr} {ifs:List PySem.Expr} {rest:List Comprehension} {scope:Scope} {pos:Pos} {Q:VP}
  (hfree:∀ x ∈ scope.names,x.2 ≠ .free) (hkind:scope.kind=.function) (hnames:∀ x ∈ scope.names,x.2=.local->scope.names.lookup x.1=some .local)
  (h:wpR M A (eval iter env) (fun x s₁=>wpR M A (pyIter x) (fun it s₂=>wpR M A (newList []) (fun acc s₃=>
   wpR M A (newFunctionEnv scope env.globals [] [] env.qual none .none (some env)) (fun cenv s₄=>
    kb M A (.compStart (.ListComp elt (⟨target,iter,ifs,0⟩ :: rest) scope pos) 0 it acc { cenv with scope:=scope })
     (fun r s'=>∃ m,s'.heap.Ns cenv.locals m/\∀ h',Heap.SameBut cenv.locals s'.heap h'->
      match r with|.ok _=>Q acc { s' with heap:=h' }|.error x=>wpR M A (PySem.passOn "comprehension.variables-let-go" x { cenv with scope:=scope }) Q E { s' with heap:=h' }) s₄) E s₃) E s₂) E s₁) E s)
  (hs:∀ x,foldedSetIterable iter env x=pure x):wpR M A (eval (.ListComp elt (⟨target,iter,ifs,0⟩ :: rest) scope pos) env) Q E s:=by
 rw [eval_ListComp];exact wpR_comprehension rfl hs hfree hkind hnames h
theorem wpR_comprehension_use {e:PySem.Expr} {scope:Scope} {pos:Pos} {newAcc first:Sem Value} {g:Comprehension} {gs:List Comprehension} {u:Value->Sem Unit} {Q:VP}
  (hcl:clausesOf e=g :: gs) (hs:∀ x,foldedSetIterable g.iter env x=pure x) (hfree:∀ x ∈ scope.names,x.2 ≠ .free) (hkind:scope.kind=.function) (hnames:∀ x ∈ scope.names,x.2=.local->scope.names.lookup x.1=some .local)
  (h:wpR M A first (fun x s₁=>wpR M A (pyIter x) (fun it s₂=>wpR M A newAcc (fun acc s₃=>wpR M A (newFunctionEnv scope env.globals [] [] env.qual none .none (some env)) (fun cenv s₄=>
    kb M A (.compStart e 0 it acc { cenv with scope:=scope }) (fun r s'=>match r with
     |.ok _=>wpR M A (u acc) (fun _ s''=>∃ m,s''.heap.Ns cenv.locals m/\∀ h',Heap.SameBut cenv.locals s''.heap h'->Q .none { s'' with heap:=h' }) E s'
     |.error x=>∃ m,s'.heap.Ns cenv.locals m/\∀ h',Heap.SameBut cenv.locals s'.heap h'->wpR M A (PySem.passOn "comprehension.variables-let-go" x { cenv with scope:=scope }) Q E { s' with heap:=h' }) s₄) E s₃) E s₂) E s₁) E s):
  wpR M A (comprehension e scope env pos newAcc false first (some u)) Q E s:=by
 unfold comprehension
 rw [closureFor_none hfree,hcl]
 refine jr (jq h (fun x s₁ h₁=>jr (jt (jr (jw (hs x) (jr (ju (jq h₁ (fun it s₂ h₂=>
  wpR_standIf (jr (jq h₂ (fun acc s₃ h₃=>jr (jv (jr (jq h₃ (fun cenv s₄ h₄=>?_) fun _ _ h'=>h')))) fun _ _ h'=>h')))
   fun _ _ h'=>h'))))))) fun _ _ h'=>h')
 dsimp only
 rw [map_eq_self (l:=scope.names) (fun x hx=>by
  obtain ⟨n,k⟩:=x
  have:(k == NameKind.free)=false:=by simpa using hfree _ hx
  simp [this])]
 have hv:∀ x ∈ (scope.names.filter fun x=>(x.2 == .local || x.2 == .cell) && x.1 != (".0":Str)).reverse,x.2=.local->Env.kindOf { cenv with scope:=scope } x.1=some .local:=
  fun x hx hl=>hnames x (List.mem_filter.mp (List.mem_reverse.mp hx)).1 hl
 have hv':∀ x ∈ (scope.names.filter fun x=>(x.2 == .local || x.2 == .cell) && x.1 != (".0":Str)).reverse.drop 1 ++ (scope.names.filter fun x=>(x.2 == .local || x.2 == .cell) && x.1 != (".0":Str)).reverse.take 1,
   x.2=.local->Env.kindOf { cenv with scope:=scope } x.1=some .local:=fun x hx hl=>by
  rcases List.mem_append.mp hx with h1|h1
  ·exact hv x (List.mem_of_mem_drop h1) hl
  ·exact hv x (List.mem_of_mem_take h1) hl
 refine ju (jr (wpR_attempt (ju (wpR_run (codeR_mono h₄ fun r s' hr=>?_) rfl))))
 cases r with
 |ok f=>
  refine jr (wpR_rule (jr (ju (jq hr (fun _ s'' hr'=>?_) fun _ _ h'=>h'))))
  obtain ⟨m,hn,hr'⟩:=hr'
  exact jr (.of (wpAny_comp_letGo (cenv:={ cenv with scope:=scope }) hkind _ s'' m hv' hn fun h' m' _ hs'=>jv (hr' h' hs')))
 |error x=>
  obtain ⟨m,hn,hr⟩:=hr
  exact jr (ju (.of (wpAny_comp_letGo (cenv:={ cenv with scope:=scope }) hkind _ s' m hv hn fun h' m' _ hs'=>hr h' hs')))
end
section
variable {M:Model} {A:Around} {E:VP} {s:Shared} {env:Env}
theorem wpR_Constant_bool {b:Bool} {k:Nat} {pos:Pos} {Q:VP} (h:Q (.bool b) s):wpR M A (eval (.Constant (.bool b) k pos) env) Q E s:=.of (wpAny_Constant_bool h)
theorem wpR_Constant_int {i:Int} {k:Nat} {pos:Pos} {Q:VP} (h:Q (.int i s.toks) { s with toks:=s.toks+1 }):wpR M A (eval (.Constant (.int i) k pos) env) Q E s:=.of (wpAny_Constant_int h)
theorem wpR_Constant_str {x:Str} {k:Nat} {pos:Pos} {Q:VP} (h:Q (.str x s.toks) { s with toks:=s.toks+1 }):wpR M A (eval (.Constant (.str x) k pos) env) Q E s:=.of (wpAny_Constant_str h)
theorem wpR_loadName_local {name:Str} {m:Str->Option Value} {v:Value} {Q:VP} (hk:env.scope.kind=.function) (hn:env.kindOf name=some .local) (hm:s.heap.Ns env.locals m) (hv:m name=some v) (h:Q v s):
  wpR M A (loadName env name) Q E s:=.of (wpAny_loadName_local hk hn hm hv h)
end
section
variable {prog:Program} {w:World} {A:Around} {E:VP} {s:Shared} {env:Env}
theorem zy {base:PySem.Expr} {o r:Value} {Q:Unit->Shared->Prop} (h:Q () s):wpR (model prog w) A (letTemporaryGo base o r) Q E s:=.of (wpAny_letTemporaryGo h)
theorem wpR_Expr_any {e:PySem.Expr} {pos:Pos} {Q:Flow->Shared->Prop} (h:wpR (model prog w) A (eval e env) (fun _=>Q .next) E s) (hi:interactive env=false) (hs:swapsWith e none pos.line env=pure false):
  wpR (model prog w) A (exec (.Expr e pos) env) Q E s:=by
 rw [exec_Expr env e pos hi hs]
 exact jr (jt (jr (jq h (fun v s' h'=>.of (wpAny_dropValue h')) fun _ _ x=>x)))
set_option tactic.hygienic true in
theorem wpR_Try_except {body orelse:List Stmt} {h₀:ExceptHandler} {hs:List ExceptHandler} {pos:Pos} {Q:Flow->Shared->Prop}
  (h:wpR (model prog w) A (execs body env) (fun f s₁=>match f with|.next=>wpR (model prog w) A (execs orelse env) Q E s₁|f=>Q f s₁)
   (fun e s₁=>wpR (model prog w) A (noteFrame e env) (fun _ s₂=>wpR (model prog w) A (setFlight e none) (fun _ s₃=>wpR (model prog w) A (handleBy e env (h₀ :: hs)) Q E s₃) E s₂) E s₁) s):
  wpR (model prog w) A (exec (.Try body (h₀ :: hs) orelse [] pos) env) Q E s:=by
 rw [arm_exec_Try]
 refine jr (jt ?_)
 unfold tryStmt
 simp only [List.isEmpty_nil,if_true,List.isEmpty_cons,Bool.false_and,Bool.false_eq_true,if_false]
 refine jr (wpR_attempt (jq h (fun f s₁ h₁=>?_) fun e s₁ h₁=>?_))
 ·cases f<;>first|exact h₁|exact jv h₁
 ·exact jr (jq h₁ (fun _ _ h₂=>jr h₂) fun _ _ x=>x)
theorem wpR_assign_Tuple {elts:List PySem.Expr} {x1:Nat} {pos:Pos} {t:Addr} {items:Array Value} {Q:Unit->Shared->Prop} (hh:A.handled=none) (ht:s.heap.IsTuple t items)
  (hn:(assignEach elts env).length=items.size) (hstar:(assignEach elts env).findIdx? (·.1)=none)
  (h:∀ h',Heap.ExtBut s.heap.objs.size s.heap h'->wpR (model prog w) A (assignInOrder ((assignEach elts env).map (·.2)) items.toList) Q E { s with heap:=h' }):
  wpR (model prog w) A (assign (.Tuple elts x1 pos) env (.ref t)) Q E s:=by
 rw [arm_assign_Tuple]
 refine jr (jt ?_)
 unfold unpack
 rw [hn,hstar]
 exact jr (ju (.of (wpAny_unpackItems_tuple hh ht h)))
theorem wpR_unpackItems_tuple {t:Addr} {items:Array Value} {Q:List Value->Shared->Prop} (hh:A.handled=none) (ht:s.heap.IsTuple t items)
  (hQ:∀ h',Heap.ExtBut s.heap.objs.size s.heap h'->Q items.toList { s with heap:=h' }):wpR (model prog w) A (unpackItems (.ref t) items.size none) Q E s:=.of (wpAny_unpackItems_tuple hh ht hQ)
theorem codeR_block {stmts:List Stmt} {R:Result->Shared->Prop} (h:wpR (model prog w) A (execs stmts env) (fun f s'=>R (.ok f) s') (noteR (model prog w) A env fun e s'=>R (.error e) s') s):kb (model prog w) A (.block stmts env) R s:=by
 refine ka ?_
 show wpR _ _ (do return Fin.done (<- (execs stmts env).onRaise (fun x=>do noteFrame x env;theTreesLotGoes x))) _ _ s
 exact jr (wpR_noted (jq h (fun f s' h'=>jv h') fun _ _ h'=>h'))
theorem codeR_compStart_list {elt target iter:PySem.Expr} {ifs:List PySem.Expr} {rest:List Comprehension} {scope:Scope} {pos:Pos} {it acc:Value} {R:Result->Shared->Prop}
  (h0:kb (model prog w) A (.compLoop (.ListComp elt (⟨target,iter,ifs,0⟩ :: rest) scope pos) 0 it acc env) R s)
  (h:wpR (model prog w) A (pyIter it) (fun it' s'=>kb (model prog w) A (.compLoop (.ListComp elt (⟨target,iter,ifs,0⟩ :: rest) scope pos) 0 it' acc env) R s') (noteR (model prog w) A env fun x s'=>R (.error x) s') s):
  kb (model prog w) A (.compStart (.ListComp elt (⟨target,iter,ifs,0⟩ :: rest) scope pos) 0 it acc env) R s:=by
 refine ka ?_
 show wpR _ _ ((compStart (.ListComp elt (⟨target,iter,ifs,0⟩ :: rest) scope pos) 0 it acc env).onRaise (fun x=>do noteFrame x env;standAt theWindowsPlace)) _ _ s
 refine wpR_notedAt ?_
 unfold compStart
 show wpR _ _ (ask >>= _) _ _ s
 refine jr (.of (wpAny_askSetting (wpR_ite ?_)))
 split
 ·first
   |exact jr (jv (jv ⟨rfl,rfl,h0⟩))
   |exact jv ⟨rfl,rfl,h0⟩
 ·first
   |exact jr (wpR_rule (jr (jt (jr (jq h (fun it' s' h'=>jv ⟨rfl,rfl,h'⟩) fun _ _ x=>x)))))
   |(refine jr (wpR_rule ?_);show wpR _ _ (standAt iter.pos >>= _) _ _ s;exact jr (jt (jr (jq h (fun it' s' h'=>jv ⟨rfl,rfl,h'⟩) fun _ _ x=>x))))
end
set_option backward.match.sparseCases false
noncomputable def at' (sh:Shared) (W:Wd) (t:Nat):Shared:={ sh with heap:=W.h,toks:=t }
structure AOk (cd:Nat) (l:List Env) (fs:List Addr) (A:Around):Prop where
 hd:A.handled=none
 dp:A.depth+4 * cd+20 < recursionLimit
 un:A.units+40 * cd+100 < cLine
 fr:A.frames=some l
 fs:l.filterMap (·.frame)=fs
 lk:∀ env ∈ l,env.scope.kind ≠ .module/\∃ L,env.frame=some L
 gd:A.guards=some []
structure EnvOk (C:EC) (L:Addr) (env:Env):Prop where
 kind:env.scope.kind=.function
 loc:env.locals=L
 gl:env.globals=mainGlobals
 bu:env.builtins=builtinsNs
 names:∀ (i:Nat) (x:Str),C.names[i]?=some x->env.kindOf x=some .local/\(x == ("__debug__":Str))=false
 gls:∀ (j g:Nat),C.gls[j]?=some g->env.kindOf (gname g)=some .globalImplicit/\(gname g == ("__debug__":Str))=false
 nd:C.names.Nodup
noncomputable def Thrown (fs:List Addr) (l:List Env) (W:Wd) (k:Nat) (e:Addr) (h:Heap):Prop:=
 ∃ Ck B a0,nth qk k=some Ck/\(∀ b o,W.h.get? b=some o->b ∉ fs->B.get? b=some o)/\W.h.UpToSlots h/\Heap.FlyingW B l e (.ref Ck) a0 h
noncomputable def Raised (fs:List Addr) (l:List Env) (W:Wd) (k:Nat) (e:Addr) (h:Heap):Prop:=
 Thrown fs l W k e h \/ ∃ Ck oe,nth qk k=some Ck/\(∀ b o,W.h.get? b=some o->h.get? b=some o)/\W.h.get? e=none/\h.get? e=some oe/\ExOb oe Ck
section
variable (P:Params) (V:Vl) (Hz:Heap) (fs:List Addr) (l:List Env) (C:EC) (W:Wd) (loc:List AV) (sh:Shared)
noncomputable def exE (k:Nat) (s:Mine.St) (E:VP):Prop:=
 ∀ e W' h t,W'.L=W.L->W'.s=s->Rel V P Hz fs C W' (uns C.names)->Stp fs W W'->Thrown fs l W' k e h->E (.ref e) { at' sh W' t with heap:=h }
noncomputable def exS (k:Nat) (s:Mine.St) (E:VP):Prop:=
 ∀ e W' h t,W'.L=W.L->W'.s=s->Rel V P Hz fs C W' (uns C.names)->Stp fs W W'->Raised fs l W' k e h->E (.ref e) { at' sh W' t with heap:=h }
noncomputable def PV (r:Res) (Q:VP) (E:VP):Prop:=match r with
 |.v a s=>∀ v W' t,W'.L=W.L->W'.s=s->Rel V P Hz fs C W' loc->Stp fs W W'->W'.R V a v->Q v (at' sh W' t)
 |.ex k s=>exE P V Hz fs l C W sh k s E
 |_=>False
noncomputable def PVs (r:Res) (Q:List Value->Shared->Prop) (E:VP):Prop:=match r with
 |.vs a s=>∀ v W' t,W'.L=W.L->W'.s=s->Rel V P Hz fs C W' loc->Stp fs W W'->W'.Rs V a v->Q v (at' sh W' t)
 |.ex k s=>exE P V Hz fs l C W sh k s E
 |_=>False
noncomputable def PB (r:Res) (Q:Bool->Shared->Prop) (E:VP):Prop:=match r with
 |.b b s=>∀ W' t,W'.L=W.L->W'.s=s->Rel V P Hz fs C W' loc->Stp fs W W'->Q b (at' sh W' t)
 |.ex k s=>exE P V Hz fs l C W sh k s E
 |_=>False
set_option tactic.hygienic true in
noncomputable def FlR (V:Vl) (W:Wd):Fl->Flow->Prop
 |.next,f=>f=.next
 |.brk,f=>f=.brk
 |.cont,f=>f=.cont
 |.ret a,f=>∃ v,f=.ret v/\W.R V a v
noncomputable def PF (r:Res) (Q:Flow->Shared->Prop) (E:VP):Prop:=match r with
 |.fl f loc' s=>∀ f' W' t,W'.L=W.L->W'.s=s->Rel V P Hz fs C W' loc'->Stp fs W W'->FlR V W' f f'->Q f' (at' sh W' t)
 |.ex k s=>exS P V Hz fs l C W sh k s E
 |_=>False
end
structure Gd (prog:Program) (w:World) (V:Vl) (Hz:Heap):Prop where
 nl:Hz.NoLimit
 glo:∃ mg mb,Hz.Ns mainGlobals mg/\Hz.Ns builtinsNs mb/\∀ g p,gtab.get g=some p->p.2=.un \/ ∃ v,(mg p.1=some v \/ (mg p.1=none/\mb p.1=some v))/\∀ h ρ nx,(∀ b o,Hz.get? b=some o->h.get? b=some o)->kz V h ρ nx p.2 v
 sta:∀ k p,stab.get k=some p->p.1=jk p.2
section
variable {prog:Program} {w:World} {V:Vl} {Hz:Heap} {fs:List Addr} {l:List Env} {C:EC} {W:Wd} {loc:List AV} {sh:Shared} {t:Nat} {A:Around} {env:Env} {E:VP} {cd:Nat}
theorem Stp.id' (W:Wd):Stp fs W W:=.refl fs W
theorem PV.now {a:AV} {s:Mine.St} {Q} (h:PV w.params V Hz fs l C W loc sh (.v a s) Q E) (hs:W.s=s) (R:Rel V w.params Hz fs C W loc) {v:Value} (hv:W.R V a v) (t:Nat):Q v (at' sh W t):=
 h v W t rfl hs R (.refl fs W) hv
theorem nmAt_of {C:EC} {i:Nat} {x:Str} (h:C.names[i]?=some x):qi C i=x:=by unfold qi;rw [qh,h]
theorem glName_of {C:EC} {j g:Nat} {x:Str} (h:C.gls[j]?=some g) (e:gname g=x):glName C j=x:=by unfold glName;rw [qh,h];exact e
theorem snd_nm (R:Rel V w.params Hz fs C W loc) (O:EnvOk C W.L env) {i:Nat} {p:Pos} {Q} (hQ:PV w.params V Hz fs l C W loc sh (e_nm loc W.s i) Q E):
  wpAny (model prog w) A (eval (kj (.nm i p) C) env) Q E (at' sh W t):=by
 simp only [e_nm,qh] at hQ
 induction ha:loc[i]? with
 |none=>rw [ha] at hQ;exact hQ.elim
 |some a=>
  rw [ha] at hQ
  have hi:i < C.names.length:=by rw [<- R.len];exact (List.getElem?_eq_some_iff.mp ha).1
  obtain ⟨x,hx⟩:∃ x,C.names[i]?=some x:=⟨_,List.getElem?_eq_getElem hi⟩
  obtain ⟨hk,hd⟩:=O.names i x hx
  have hQ':a ≠ .un/\PV w.params V Hz fs l C W loc sh (.v a W.s) Q E:=by
   induction a using AV.casesOn<;>first|exact hQ.elim|exact ⟨by simp,hQ⟩
  obtain ⟨m,hm,hl⟩:=R.ns
  rcases hl i x a hx ha with e|⟨v,hv,hr⟩
  ·exact absurd e hQ'.1
  ·show wpAny (model prog w) A (eval (.Name (qi C i) p) env) Q E (at' sh W t)
   rw [nmAt_of hx]
   refine wpAny_Name (wpAny_loadName_local O.kind hk (m:=m) (by rw [O.loc];exact hm) hv ?_) hd
   exact hQ'.2.now rfl R hr t
theorem snd_gl (G:Gd prog w V Hz) (R:Rel V w.params Hz fs C W loc) (O:EnvOk C W.L env) {j:Nat} {p:Pos} {Q} (hQ:PV w.params V Hz fs l C W loc sh (e_gl C W.s j) Q E):
  wpAny (model prog w) A (eval (kj (.gl j p) C) env) Q E (at' sh W t):=by
 simp only [e_gl,gval,qh] at hQ
 induction hj:C.gls[j]? with
 |none=>rw [hj] at hQ;exact hQ.elim
 |some g=>
  rw [hj] at hQ
  simp only at hQ
  induction hg:gtab.get g with
  |none=>rw [hg] at hQ;exact hQ.elim
  |some q=>
   rw [hg] at hQ
   simp only at hQ
   obtain ⟨hk,hd⟩:=O.gls j g hj
   obtain ⟨mg,mb,hmg,hmb,hgl⟩:=G.glo
   have hQ':q.2 ≠ .un/\PV w.params V Hz fs l C W loc sh (.v q.2 W.s) Q E:=by
    cases e:q.2<;>rw [e] at hQ<;>first|exact hQ.elim|exact ⟨by simp,hQ⟩
   rcases hgl g q hg with e|⟨v,hv,hr⟩
   ·exact absurd e hQ'.1
   ·have hn:gname g=q.1:=by simp only [gname,hg]
    rw [hn] at hk hd
    show wpAny (model prog w) A (eval (.Name (glName C j) p) env) Q E (at' sh W t)
    rw [glName_of hj hn]
    refine Name_function_global O.kind hk ?_ hd
    have fin:=hQ'.2.now rfl R (hr W.h W.ρ W.s.nx R.base) t
    have k1:W.h.Ns env.globals mg:=by rw [O.gl];exact hmg.keeps R.base
    have k2:W.h.Ns env.builtins mb:=by rw [O.bu];exact hmb.keeps R.base
    rcases hv with hv|⟨hn,hv⟩
    ·exact loadGlobal_global (s:=at' sh W t) k1 hv fin
    ·exact loadGlobal_builtin (s:=at' sh W t) k1 hn k2 hv fin
end
local macro_rules |`(tactic| trivial)=>`(tactic| first|(rintro (_|_|_|_|_|_)<;>exact Eq.refl true)|exact ⟨by rintro (_|_|_|_|_|_)<;>exact Eq.refl true,fun k s=>Eq.refl (Res.ex k s)⟩)
section
variable {P:Params} {V:Vl} {Hz:Heap} {fs:List Addr} {l:List Env} {C:EC} {W W₁:Wd} {loc:List AV} {sh:Shared} {E:VP}
theorem exE.mv {k:Nat} {s:Mine.St} (S:Stp fs W W₁) (hL:W₁.L=W.L) (h:exE P V Hz fs l C W sh k s E):exE P V Hz fs l C W₁ sh k s E:=
 fun e W' g t a b R S' x=>h e W' g t (a.trans hL) b R (S.trans S') x
theorem exS.mv {k:Nat} {s:Mine.St} (S:Stp fs W W₁) (hL:W₁.L=W.L) (h:exS P V Hz fs l C W sh k s E):exS P V Hz fs l C W₁ sh k s E:=
 fun e W' g t a b R S' x=>h e W' g t (a.trans hL) b R (S.trans S') x
theorem exS.toE {k:Nat} {s:Mine.St} (h:exS P V Hz fs l C W sh k s E):exE P V Hz fs l C W sh k s E:=
 fun e W' g t a b R S' x=>h e W' g t a b R S' (.inl x)
theorem PV.mv {r:Res} {Q:VP} (S:Stp fs W W₁) (hL:W₁.L=W.L) (h:PV P V Hz fs l C W loc sh r Q E):PV P V Hz fs l C W₁ loc sh r Q E:=by
 induction r with
 |v a s=>exact fun v W' t a b R S' x=>h v W' t (a.trans hL) b R (S.trans S') x
 |ex k s=>exact exE.mv S hL h
 |_=>exact h
theorem PVs.mv {r:Res} {Q:List Value->Shared->Prop} (S:Stp fs W W₁) (hL:W₁.L=W.L) (h:PVs P V Hz fs l C W loc sh r Q E):PVs P V Hz fs l C W₁ loc sh r Q E:=by
 induction r with
 |vs a s=>exact fun v W' t a b R S' x=>h v W' t (a.trans hL) b R (S.trans S') x
 |ex k s=>exact exE.mv S hL h
 |_=>exact h
theorem PB.mv {r:Res} {Q:Bool->Shared->Prop} (S:Stp fs W W₁) (hL:W₁.L=W.L) (h:PB P V Hz fs l C W loc sh r Q E):PB P V Hz fs l C W₁ loc sh r Q E:=by
 induction r with
 |b a s=>exact fun W' t a b R S'=>h W' t (a.trans hL) b R (S.trans S')
 |ex k s=>exact exE.mv S hL h
 |_=>exact h
theorem PF.mv {r:Res} {Q:Flow->Shared->Prop} (S:Stp fs W W₁) (hL:W₁.L=W.L) (h:PF P V Hz fs l C W sh r Q E):PF P V Hz fs l C W₁ sh r Q E:=by
 induction r with
 |fl f loc' s=>exact fun f' W' t a b R S' x=>h f' W' t (a.trans hL) b R (S.trans S') x
 |ex k s=>exact exS.mv S hL h
 |_=>exact h
end
section
variable (prog:Program) (w:World) (V:Vl) (Hz:Heap) (A:Around) (fs:List Addr) (l:List Env) (C:EC) (W:Wd) (loc:List AV)
noncomputable def Does (m:Sem Value) (r:Res):Prop:=∀ sh t Q E,PV w.params V Hz fs l C W loc sh r Q E->wpR (model prog w) A m Q E (at' sh W t)
noncomputable def DoesVs (m:Sem (List Value)) (r:Res):Prop:=∀ sh t Q E,PVs w.params V Hz fs l C W loc sh r Q E->wpR (model prog w) A m Q E (at' sh W t)
noncomputable def DoesB (m:Sem Bool) (r:Res):Prop:=∀ sh t Q E,PB w.params V Hz fs l C W loc sh r Q E->wpR (model prog w) A m Q E (at' sh W t)
noncomputable def DoesF (m:Sem Flow) (r:Res):Prop:=∀ sh t Q E,PF w.params V Hz fs l C W sh r Q E->wpR (model prog w) A m Q E (at' sh W t)
noncomputable def DoesC (c:Code) (r:Res):Prop:=∀ sh t Q E,PF w.params V Hz fs l C W sh r Q E->kb (model prog w) A c (fun r s=>match r with|.ok f=>Q f s|.error e=>E e s) (at' sh W t)
end
noncomputable def Res.kd:Res->Nat
 |.v _ _=>0|.vs _ _=>1|.b _ _=>2|.fl _ _ _=>3|.ex _ _=>4|.fail _=>5
noncomputable def Res.no:Res->Bool
 |.fail _=>true
 |_=>false
noncomputable def St0 (c:Nat) (F:Res->Res):Prop:=∀ r,(Nat.beq r.kd c || (F r).no)=true
noncomputable def StX (c:Nat) (F:Res->Res):Prop:=(∀ r,(Nat.beq r.kd c || (Nat.beq r.kd 4 || (F r).no))=true)/\∀ k s,F (.ex k s)=.ex k s
theorem Res.no_eq {r:Res} (h:r.no=true):∃ n,r=.fail n:=by cases r<;>first|exact ⟨_,rfl⟩|exact (jh h).elim
structure XOk (P:Params) (V:Vl) (Hz:Heap) (fs:List Addr) (l:List Env) (C:EC) (W:Wd) (sh:Shared) (E:VP) (X:Wd->Res->Prop):Prop where
 mv:∀ {W₁ r},Stp fs W W₁->W₁.L=W.L->X W r->X W₁ r
 ex:∀ {k s},X W (.ex k s)->exE P V Hz fs l C W sh k s E
 fl:∀ {n},¬ X W (.fail n)
section
variable {P:Params} {V:Vl} {Hz:Heap} {fs:List Addr} {l:List Env} {C:EC} {W:Wd} {loc:List AV} {sh:Shared} {E E':VP} {X:Wd->Res->Prop} {F:Res->Res} {r:Res}
theorem XOk.pv {Q}:XOk P V Hz fs l C W sh E fun W r=>PV P V Hz fs l C W loc sh r Q E:=⟨fun S h x=>PV.mv S h x,fun x=>x,fun x=>x⟩
theorem XOk.pvs {Q}:XOk P V Hz fs l C W sh E fun W r=>PVs P V Hz fs l C W loc sh r Q E:=⟨fun S h x=>PVs.mv S h x,fun x=>x,fun x=>x⟩
theorem XOk.pb {Q}:XOk P V Hz fs l C W sh E fun W r=>PB P V Hz fs l C W loc sh r Q E:=⟨fun S h x=>PB.mv S h x,fun x=>x,fun x=>x⟩
theorem XOk.pf {Q}:XOk P V Hz fs l C W sh E fun W r=>PF P V Hz fs l C W sh r Q E:=⟨fun S h x=>PF.mv S h x,fun x=>exS.toE x,fun x=>x⟩
section
variable (K:XOk P V Hz fs l C W sh E X)
include K
theorem XOk.ko {r:Res} (h:X W r) (e:r.no=true):False:=let ⟨_,e⟩:=Res.no_eq e;K.fl (e▸h)
theorem XOk.kd0 {c:Nat} (hF:St0 c F) (h:X W (F r)):r.kd=c:=(Bool.or_eq_true_iff.mp (hF r)).elim (fun e=>je e) fun e=>(K.ko h e).elim
theorem XOk.kdX {c:Nat} (hF:StX c F) (h:X W (F r)):r.kd=c \/ r.kd=4:=(Bool.or_eq_true_iff.mp (hF.1 r)).imp (fun e=>je e) fun e=>(Bool.or_eq_true_iff.mp e).elim (fun e=>je e) fun e=>(K.ko h e).elim
theorem XOk.v0 (hF:St0 0 F) (h:X W (F r)) {Q'} (k:∀ a v W₁ t,W₁.L=W.L->Rel V P Hz fs C W₁ loc->Stp fs W W₁->W₁.R V a v->X W₁ (F (.v a W₁.s))->Q' v (at' sh W₁ t)):PV P V Hz fs l C W loc sh r Q' E':=by
 have e:=K.kd0 hF h
 induction r with
 |v a s=>intro v W₁ t hL hs R S x;subst hs;exact k a v W₁ t hL R S x (K.mv S hL h)
 |_=>cases e
theorem XOk.vX (hF:StX 0 F) (h:X W (F r)) {Q'} (k:∀ a v W₁ t,W₁.L=W.L->Rel V P Hz fs C W₁ loc->Stp fs W W₁->W₁.R V a v->X W₁ (F (.v a W₁.s))->Q' v (at' sh W₁ t)):PV P V Hz fs l C W loc sh r Q' E:=by
 have e:=K.kdX hF h
 induction r with
 |v a s=>intro v W₁ t hL hs R S x;subst hs;exact k a v W₁ t hL R S x (K.mv S hL h)
 |ex n s=>exact K.ex (hF.2 n s▸h)
 |_=>rcases e with e|e<;>cases e
theorem XOk.vs0 (hF:St0 1 F) (h:X W (F r)) {Q'} (k:∀ a v W₁ t,W₁.L=W.L->Rel V P Hz fs C W₁ loc->Stp fs W W₁->W₁.Rs V a v->X W₁ (F (.vs a W₁.s))->Q' v (at' sh W₁ t)):PVs P V Hz fs l C W loc sh r Q' E':=by
 have e:=K.kd0 hF h
 induction r with
 |vs a s=>intro v W₁ t hL hs R S x;subst hs;exact k a v W₁ t hL R S x (K.mv S hL h)
 |_=>cases e
theorem XOk.vsX (hF:StX 1 F) (h:X W (F r)) {Q'} (k:∀ a v W₁ t,W₁.L=W.L->Rel V P Hz fs C W₁ loc->Stp fs W W₁->W₁.Rs V a v->X W₁ (F (.vs a W₁.s))->Q' v (at' sh W₁ t)):PVs P V Hz fs l C W loc sh r Q' E:=by
 have e:=K.kdX hF h
 induction r with
 |vs a s=>intro v W₁ t hL hs R S x;subst hs;exact k a v W₁ t hL R S x (K.mv S hL h)
 |ex n s=>exact K.ex (hF.2 n s▸h)
 |_=>rcases e with e|e<;>cases e
theorem XOk.b0 (hF:St0 2 F) (h:X W (F r)) {Q'} (k:∀ b W₁ t,W₁.L=W.L->Rel V P Hz fs C W₁ loc->Stp fs W W₁->X W₁ (F (.b b W₁.s))->Q' b (at' sh W₁ t)):PB P V Hz fs l C W loc sh r Q' E':=by
 have e:=K.kd0 hF h
 induction r with
 |b b s=>intro W₁ t hL hs R S;subst hs;exact k b W₁ t hL R S (K.mv S hL h)
 |_=>cases e
theorem XOk.f0 (hF:St0 3 F) (h:X W (F r)) {Q'} (k:∀ f loc f' W₁ t,W₁.L=W.L->Rel V P Hz fs C W₁ loc->Stp fs W W₁->FlR V W₁ f f'->X W₁ (F (.fl f loc W₁.s))->Q' f' (at' sh W₁ t)):PF P V Hz fs l C W sh r Q' E':=by
 have e:=K.kd0 hF h
 induction r with
 |fl f loc s=>intro f' W₁ t hL hs R S x;subst hs;exact k f loc f' W₁ t hL R S x (K.mv S hL h)
 |_=>cases e
end
end
theorem EnvOk.mv {C:EC} {L L':Addr} {env:Env} (EO:EnvOk C L env) (h:L'=L):EnvOk C L' env:=h▸EO
section
variable {prog:Program} {w:World} {V:Vl} {Hz:Heap} {A:Around} {fs:List Addr} {l:List Env} {C:EC} {W:Wd} {loc:List AV} {sh:Shared} {t:Nat} {E E':VP} {F:Res->Res} {r:Res}
theorem pv_v0 {m:Sem (Value)} {Q:VP} {Q':VP} (D:Does prog w V Hz A fs l C W loc m r) (h:PV w.params V Hz fs l C W loc sh (F r) Q E) (k:∀ a v W₁ t,W₁.L=W.L->Rel V w.params Hz fs C W₁ loc->Stp fs W W₁->W₁.R V a v->PV w.params V Hz fs l C W₁ loc sh (F (.v a W₁.s)) Q E->Q' v (at' sh W₁ t)) (hF:St0 0 F):wpR (model prog w) A m Q' E' (at' sh W t):=D sh t Q' E' (XOk.pv.v0 hF h k)
theorem pv_vX {m:Sem (Value)} {Q:VP} {Q':VP} (D:Does prog w V Hz A fs l C W loc m r) (h:PV w.params V Hz fs l C W loc sh (F r) Q E) (k:∀ a v W₁ t,W₁.L=W.L->Rel V w.params Hz fs C W₁ loc->Stp fs W W₁->W₁.R V a v->PV w.params V Hz fs l C W₁ loc sh (F (.v a W₁.s)) Q E->Q' v (at' sh W₁ t)) (hF:StX 0 F):wpR (model prog w) A m Q' E (at' sh W t):=D sh t Q' E (XOk.pv.vX hF h k)
theorem pv_vs0 {m:Sem (List Value)} {Q:VP} {Q':List Value->Shared->Prop} (D:DoesVs prog w V Hz A fs l C W loc m r) (h:PV w.params V Hz fs l C W loc sh (F r) Q E) (k:∀ a v W₁ t,W₁.L=W.L->Rel V w.params Hz fs C W₁ loc->Stp fs W W₁->W₁.Rs V a v->PV w.params V Hz fs l C W₁ loc sh (F (.vs a W₁.s)) Q E->Q' v (at' sh W₁ t)) (hF:St0 1 F):wpR (model prog w) A m Q' E' (at' sh W t):=D sh t Q' E' (XOk.pv.vs0 hF h k)
theorem pv_vsX {m:Sem (List Value)} {Q:VP} {Q':List Value->Shared->Prop} (D:DoesVs prog w V Hz A fs l C W loc m r) (h:PV w.params V Hz fs l C W loc sh (F r) Q E) (k:∀ a v W₁ t,W₁.L=W.L->Rel V w.params Hz fs C W₁ loc->Stp fs W W₁->W₁.Rs V a v->PV w.params V Hz fs l C W₁ loc sh (F (.vs a W₁.s)) Q E->Q' v (at' sh W₁ t)) (hF:StX 1 F):wpR (model prog w) A m Q' E (at' sh W t):=D sh t Q' E (XOk.pv.vsX hF h k)
theorem pv_b0 {m:Sem (Bool)} {Q:VP} {Q':Bool->Shared->Prop} (D:DoesB prog w V Hz A fs l C W loc m r) (h:PV w.params V Hz fs l C W loc sh (F r) Q E) (k:∀ b W₁ t,W₁.L=W.L->Rel V w.params Hz fs C W₁ loc->Stp fs W W₁->PV w.params V Hz fs l C W₁ loc sh (F (.b b W₁.s)) Q E->Q' b (at' sh W₁ t)) (hF:St0 2 F):wpR (model prog w) A m Q' E' (at' sh W t):=D sh t Q' E' (XOk.pv.b0 hF h k)
theorem pvs_vX {m:Sem (Value)} {Q:List Value->Shared->Prop} {Q':VP} (D:Does prog w V Hz A fs l C W loc m r) (h:PVs w.params V Hz fs l C W loc sh (F r) Q E) (k:∀ a v W₁ t,W₁.L=W.L->Rel V w.params Hz fs C W₁ loc->Stp fs W W₁->W₁.R V a v->PVs w.params V Hz fs l C W₁ loc sh (F (.v a W₁.s)) Q E->Q' v (at' sh W₁ t)) (hF:StX 0 F):wpR (model prog w) A m Q' E (at' sh W t):=D sh t Q' E (XOk.pvs.vX hF h k)
theorem pvs_vsX {m:Sem (List Value)} {Q:List Value->Shared->Prop} {Q':List Value->Shared->Prop} (D:DoesVs prog w V Hz A fs l C W loc m r) (h:PVs w.params V Hz fs l C W loc sh (F r) Q E) (k:∀ a v W₁ t,W₁.L=W.L->Rel V w.params Hz fs C W₁ loc->Stp fs W W₁->W₁.Rs V a v->PVs w.params V Hz fs l C W₁ loc sh (F (.vs a W₁.s)) Q E->Q' v (at' sh W₁ t)) (hF:StX 1 F):wpR (model prog w) A m Q' E (at' sh W t):=D sh t Q' E (XOk.pvs.vsX hF h k)
theorem pb_v0 {m:Sem (Value)} {Q:Bool->Shared->Prop} {Q':VP} (D:Does prog w V Hz A fs l C W loc m r) (h:PB w.params V Hz fs l C W loc sh (F r) Q E) (k:∀ a v W₁ t,W₁.L=W.L->Rel V w.params Hz fs C W₁ loc->Stp fs W W₁->W₁.R V a v->PB w.params V Hz fs l C W₁ loc sh (F (.v a W₁.s)) Q E->Q' v (at' sh W₁ t)) (hF:St0 0 F):wpR (model prog w) A m Q' E' (at' sh W t):=D sh t Q' E' (XOk.pb.v0 hF h k)
theorem pb_b0 {m:Sem (Bool)} {Q:Bool->Shared->Prop} {Q':Bool->Shared->Prop} (D:DoesB prog w V Hz A fs l C W loc m r) (h:PB w.params V Hz fs l C W loc sh (F r) Q E) (k:∀ b W₁ t,W₁.L=W.L->Rel V w.params Hz fs C W₁ loc->Stp fs W W₁->PB w.params V Hz fs l C W₁ loc sh (F (.b b W₁.s)) Q E->Q' b (at' sh W₁ t)) (hF:St0 2 F):wpR (model prog w) A m Q' E' (at' sh W t):=D sh t Q' E' (XOk.pb.b0 hF h k)
theorem pf_v0 {m:Sem (Value)} {Q:Flow->Shared->Prop} {Q':VP} (D:Does prog w V Hz A fs l C W loc m r) (h:PF w.params V Hz fs l C W sh (F r) Q E) (k:∀ a v W₁ t,W₁.L=W.L->Rel V w.params Hz fs C W₁ loc->Stp fs W W₁->W₁.R V a v->PF w.params V Hz fs l C W₁ sh (F (.v a W₁.s)) Q E->Q' v (at' sh W₁ t)) (hF:St0 0 F):wpR (model prog w) A m Q' E' (at' sh W t):=D sh t Q' E' (XOk.pf.v0 hF h k)
theorem pf_vX {m:Sem (Value)} {Q:Flow->Shared->Prop} {Q':VP} (D:Does prog w V Hz A fs l C W loc m r) (h:PF w.params V Hz fs l C W sh (F r) Q E) (k:∀ a v W₁ t,W₁.L=W.L->Rel V w.params Hz fs C W₁ loc->Stp fs W W₁->W₁.R V a v->PF w.params V Hz fs l C W₁ sh (F (.v a W₁.s)) Q E->Q' v (at' sh W₁ t)) (hF:StX 0 F):wpR (model prog w) A m Q' E (at' sh W t):=D sh t Q' E (XOk.pf.vX hF h k)
theorem pf_b0 {m:Sem (Bool)} {Q:Flow->Shared->Prop} {Q':Bool->Shared->Prop} (D:DoesB prog w V Hz A fs l C W loc m r) (h:PF w.params V Hz fs l C W sh (F r) Q E) (k:∀ b W₁ t,W₁.L=W.L->Rel V w.params Hz fs C W₁ loc->Stp fs W W₁->PF w.params V Hz fs l C W₁ sh (F (.b b W₁.s)) Q E->Q' b (at' sh W₁ t)) (hF:St0 2 F):wpR (model prog w) A m Q' E' (at' sh W t):=D sh t Q' E' (XOk.pf.b0 hF h k)
theorem pf_f0 {m:Sem (Flow)} {Q:Flow->Shared->Prop} {Q':Flow->Shared->Prop} (D:DoesF prog w V Hz A fs l C W m r) (h:PF w.params V Hz fs l C W sh (F r) Q E) (k:∀ f loc f' W₁ t,W₁.L=W.L->Rel V w.params Hz fs C W₁ loc->Stp fs W W₁->FlR V W₁ f f'->PF w.params V Hz fs l C W₁ sh (F (.fl f loc W₁.s)) Q E->Q' f' (at' sh W₁ t)) (hF:St0 3 F):wpR (model prog w) A m Q' E' (at' sh W t):=D sh t Q' E' (XOk.pf.f0 hF h k)
end
set_option backward.match.sparseCases true in
noncomputable def DoesK (prog:Program) (w:World) (V:Vl) (Hz:Heap) (A:Around) (fs:List Addr) (l:List Env) (C:EC) (W:Wd) (loc:List AV) (c:Code) (r:Res):Prop:=
 ∀ sh t Q E,PV w.params V Hz fs l C W loc sh r Q E->kb (model prog w) A c (fun r s'=>match r with|.ok (.ret v)=>Q v s'|.ok _=>False|.error e=>E e s') (at' sh W t)
structure TopOk (l:List Env) (L:Addr) (env:Env):Prop where
 top:∃ outer,l=env :: outer
 fr:env.frame=some L
theorem TopOk.mv {l:List Env} {L L':Addr} {env:Env} (TO:TopOk l L env) (h:L'=L):TopOk l L' env:=h▸TO
noncomputable def each (es:List XE) (C:EC) (env:Env):List (Bool × Sem Value):=es.map fun e=>(false,eval (kj e C) env)
theorem zv {M:Model} {A:Around} {E:VP} {s:Shared} {f:Value} {xs:List (Bool × Sem Value)} {Q:Args->Shared->Prop} (hp:xs.any (·.1)=false)
  (h:wpR M A (spliced xs) (fun vs s'=>Q ⟨vs,[]⟩ s') E s):wpR M A (evalArgs f true xs []) Q E s:=by
 match xs,hp with
 |[],_=>
  unfold evalArgs
  show wpR M A (spliced [] >>= _) Q E s
  refine jr (jq h (fun vs s' h'=>?_) fun _ _ x=>x)
  refine jr (jv ?_)
  refine ju ?_
  exact jr (jv (jr (jv (jv h'))))
 |(false,x) :: rest,_=>exact evalArgs_plain h
 |(true,x) :: rest,hp=>cases hp
theorem starEach_emb (env:Env) (C:EC):∀ es:List XE,starEach (km es C) env=each es C env
 |[]=>rfl
 |e :: r=>by
  have ih:=starEach_emb env C r
  simp only [km,each,List.map_cons]
  have h:starEach (kj e C :: km r C) env=(false,eval (kj e C) env) :: starEach (km r C) env:=by cases e<;>rfl
  rw [h,ih];rfl
theorem backTo_each (pos:Pos) (env:Env) (C:EC) (es:List XE):backTo pos (each es C env)=each es C env:=by
 unfold backTo each
 rw [List.map_map]
 rfl
theorem qo (pos:Pos) (env:Env) (C:EC) (es:List XE):backTo pos (starEach (km es C) env)=each es C env:=by rw [starEach_emb,backTo_each]
theorem kg (es:List XE) (C:EC) (env:Env):(each es C env).any (·.1)=false:=by
 induction es with
 |nil=>rfl
 |cons e r ih=>exact ih
noncomputable def isIt:Cell->Prop
 |.iL _ _|.iV _ _|.iB _ _|.iS _ _|.iR _ _=>True
 |_=>False
structure CiOk (cc:CI):Prop where
 cell:∀ x ∈ cc.sc.names,x.2 ≠ .cell
 free:∀ x ∈ cc.sc.names,x.2 ≠ .free
 kind:cc.sc.kind=.function
 loc:∀ x ∈ cc.sc.names,x.2=.local->cc.sc.names.lookup x.1=some .local
 nd:cc.ec.names.Nodup
 names:∀ (i:Nat) (x:Str),cc.ec.names[i]?=some x->cc.sc.names.lookup x=some .local/\(x == ("__debug__":Str))=false
 gls:∀ (j g:Nat),cc.ec.gls[j]?=some g->cc.sc.names.lookup (gname g)=some .globalImplicit/\(gname g == ("__debug__":Str))=false
structure Ih (prog:Program) (w:World) (V:Vl) (Hz:Heap) (ih:RunTy) (cd:Nat):Prop where
 ev:∀ {fs l C W loc A env},AOk cd l fs A->EnvOk C W.L env->Rel V w.params Hz fs C W loc->∀ e,Does prog w V Hz A fs l C W loc (eval (kj e C) env) (ih cd C loc W.s (.ev e))
 evs:∀ {fs l C W loc A env},AOk cd l fs A->EnvOk C W.L env->Rel V w.params Hz fs C W loc->∀ es,DoesVs prog w V Hz A fs l C W loc (spliced (each es C env)) (ih cd C loc W.s (.evs es))
 tst:∀ {fs l C W loc A env},AOk cd l fs A->EnvOk C W.L env->Rel V w.params Hz fs C W loc->∀ e,DoesB prog w V Hz A fs l C W loc (isTrue (kj e C) env (eval (kj e C) env)) (ih cd C loc W.s (.tst e))
 ex:∀ {fs l C W loc A env},AOk cd l fs A->EnvOk C W.L env->TopOk l W.L env->Rel V w.params Hz fs C W loc->∀ ss,DoesF prog w V Hz A fs l C W (execs (kr ss C) env) (ih cd C loc W.s (.ex ss))
 cal:∀ {fs l C W loc A},AOk cd l fs A->Rel V w.params Hz fs C W loc->∀ {f fv as vs},W.R V f fv->W.Rs V as vs->Does prog w V Hz A fs l C W loc (call fv vs []) (ih cd C loc W.s (.cal f as))
 fnc:∀ {fs l C W loc A},AOk cd l fs A->Rel V w.params Hz fs C W loc->∀ {k fi as vs},ftab.get k=some fi->W.Rs V as vs->DoesK prog w V Hz A fs l C W loc (.call (.ref fi.addr) ⟨vs,[]⟩) (ih cd C loc W.s (.cal (.fn k) as))
 whl:∀ {fs l C W loc A env},AOk cd l fs A->EnvOk C W.L env->TopOk l W.L env->Rel V w.params Hz fs C W loc->∀ tt b,DoesC prog w V Hz A fs l C W (Code.whileLoop (kj tt C) (kr b C) [] env) (flO (ih cd C loc W.s (.whl tt b)))
 frl:∀ {fs l C W loc A env},AOk cd l fs A->EnvOk C W.L env->TopOk l W.L env->Rel V w.params Hz fs C W loc->∀ tt c b,DoesC prog w V Hz A fs l C W (Code.forLoop (kj tt C) (.ref (W.ρ c)) (kr b C) [] env) (flO (ih cd C loc W.s (.frl tt c b)))
 cml:∀ {fs l C W loc A env},AOk cd l fs A->EnvOk C W.L env->Rel V w.params Hz fs C W loc->∀ elt tgt ifs c acc (itx:PySem.Expr) (sc:Scope) (q:Pos),DoesC prog w V Hz A fs l C W (Code.compLoop (.ListComp (kj elt C) [⟨kj tgt C,itx,km ifs C,0⟩] sc q) 0 (.ref (W.ρ c)) (.ref (W.ρ acc)) env) (flO (ih cd C loc W.s (.cml elt tgt ifs c acc)))
structure Prim (prog:Program) (w:World) (V:Vl) (Hz:Heap) (p:Par):Prop where
 bin:∀ {fs l C W loc A cd},AOk cd l fs A->Rel V w.params Hz fs C W loc->∀ {op a b va vb},W.R V a va->W.R V b vb->Does prog w V Hz A fs l C W loc (binaryOp op va vb) (e_bin3 ⟨p,fun _ _ _ _ _=>.fail 0⟩ op a (.v b W.s))
 cmp:∀ {fs l C W loc A cd},AOk cd l fs A->Rel V w.params Hz fs C W loc->∀ {op a b va vb},W.R V a va->W.R V b vb->∀ {r},cmpOp W.s.sto op a b=some r->∀ {sh t Q E},(∀ W' t',W'.L=W.L->W'.s=W.s->Rel V w.params Hz fs C W' loc->Stp fs W W'->Q (.bool r) (at' sh W' t'))->wpR (model prog w) A (compareOp op va vb) Q E (at' sh W t)
 neg:∀ {fs l C W loc A cd},AOk cd l fs A->Rel V w.params Hz fs C W loc->∀ {i va},W.R V (.it i) va->Does prog w V Hz A fs l C W loc (unaryOp .USub va) (retA W.s (.it (Int.neg i)))
 sub:∀ {fs l C W loc A cd},AOk cd l fs A->Rel V w.params Hz fs C W loc->∀ {a b va vb},W.R V a va->W.R V b vb->∀ (x:PySem.Expr) (hx:∀ a b c d,x ≠ .Slice a b c d),Does prog w V Hz A fs l C W loc (do let y <- getitemInPython va;subscripted x y va vb) (ofO 7 W.s (subI p.kt W.s.sto a b))
 att:∀ {fs l C W loc A cd},AOk cd l fs A->Rel V w.params Hz fs C W loc->∀ {a va i},W.R V a va->Does prog w V Hz A fs l C W loc (getAttr va (atAt i) true) (e_att2 i (.v a W.s))
 slc:∀ {fs l C W loc A cd},AOk cd l fs A->Rel V w.params Hz fs C W loc->∀ {o lo hi st vo vlo vhi vst},W.R V o vo->W.R V lo vlo->W.R V hi vhi->W.R V st vst->∀ (x1 x2 x3:Option PySem.Expr) (q:Pos) (a:Addr),W.h.get? a=some { cls:=.type "slice",data:=.fields #[vlo,vhi,vst] }->
  Does prog w V Hz A fs l C W loc (do let y <- getitemInPython vo;subscripted (.Slice x1 x2 x3 q) y vo (.ref a)) (slc p W.s o lo hi st)
 gm:∀ {fs l C W loc A cd},AOk cd l fs A->Rel V w.params Hz fs C W loc->∀ {o vo a id},W.R V o vo->mId (mkind o W.s) a=some id->∀ {sh t pl Q E},Q (.builtin id,[vo]) (at' sh W t)->wpR (model prog w) A (getMethod vo (atAt a) pl) Q E (at' sh W t)
 methB:∀ {fs l C W loc A cd},AOk cd l fs A->Rel V w.params Hz fs C W loc->∀ {o vo a as vs id},W.R V o vo->W.Rs V as vs->mId (mkind o W.s) a=some id->Does prog w V Hz A fs l C W loc (call (.builtin id) (vo :: vs) []) (methB o a as W.s)
 gi:∀ {fs l C W loc A cd},AOk cd l fs A->Rel V w.params Hz fs C W loc->∀ {k es a f},qb W.s k (.id es)->okEs es=true->look es a=none->look wmeth a=some f->∀ {vo},W.R V (.ob k) vo->∀ {sh t pl Q E},(∀ fi,ftab.get f=some fi->Q (.ref fi.addr,[vo]) (at' sh W t))->wpR (model prog w) A (getMethod vo (atAt a) pl) Q E (at' sh W t)
 dct:∀ {fs l C W loc A cd env},AOk cd l fs A->Rel V w.params Hz fs C W loc->∀ q,Does prog w V Hz A fs l C W loc (eval (.Dict [] [] q) env) (newC W.s (.di []) fun i s=>.v (.ce i) s)
 keep:∀ {fs C W loc f fv},Rel V w.params Hz fs C W loc->W.R V f fv->calleeB f=true->∃ k,(k=Keeper.frame \/ k=Keeper.machine \/ k=Keeper.boundFrame)/\Looks (model prog w) W.h (keeperOf fv) k
 iter:∀ {fs l C W loc A cd},AOk cd l fs A->Rel V w.params Hz fs C W loc->∀ {a va},W.R V a va->∀ {k:Nat->Mine.St->Res} {PP:Res->Prop},(∀ n,¬ PP (.fail n))->PP (mkIter W.s a k)->∀ {sh t Q E},(∀ i W' t' c,W'.L=W.L->qb W'.s i c->isIt c->Rel V w.params Hz fs C W' loc->Stp fs W W'->PP (k i W'.s)->Q (.ref (W'.ρ i)) (at' sh W' t'))->wpR (model prog w) A (pyIter va) Q E (at' sh W t)
 next:∀ {fs l C W loc A cd},AOk cd l fs A->Rel V w.params Hz fs C W loc->∀ {c} {k:Option AV->Mine.St->Res} {PP:Res->Prop},(∀ n,¬ PP (.fail n))->PP (nextIn W.s c k)->∀ {sh t Q E},(∀ x v W' t',W'.L=W.L->Rel V w.params Hz fs C W' loc->Stp fs W W'->W'.R V x v->PP (k (some x) W'.s)->Q (some v) (at' sh W' t'))->(∀ W' t',W'.L=W.L->Rel V w.params Hz fs C W' loc->Stp fs W W'->PP (k none W'.s)->Q none (at' sh W' t'))->wpR (model prog w) A (pyNext (.ref (W.ρ c))) Q E (at' sh W t)
 it2:∀ {fs l C W loc A cd},AOk cd l fs A->Rel V w.params Hz fs C W loc->∀ {i c},qb W.s i c->isIt c->∀ {sh t Q E},Q (.ref (W.ρ i)) (at' sh W t)->wpR (model prog w) A (pyIter (.ref (W.ρ i))) Q E (at' sh W t)
 sat:∀ {fs l C W loc A cd},AOk cd l fs A->Rel V w.params Hz fs C W loc->∀ {o vo a va i},W.R V o vo->W.R V a va->∀ {k:KLoc} {PP:Res->Prop},(∀ n,¬ PP (.fail n))->PP (asAt o i a loc W.s k)->∀ {sh t Q E},(∀ W' t',W'.L=W.L->Rel V w.params Hz fs C W' loc->Stp fs W W'->PP (k loc W'.s)->Q () (at' sh W' t'))->wpR (model prog w) A (setAttr vo (atAt i) va) Q E (at' sh W t)
 ssu:∀ {fs l C W loc A cd},AOk cd l fs A->Rel V w.params Hz fs C W loc->∀ {o vo x vx a va},W.R V o vo->W.R V x vx->W.R V a va->∀ {k:KLoc} {PP:Res->Prop},(∀ n,¬ PP (.fail n))->PP (asSu o x a loc W.s k)->∀ {sh t Q E},(∀ W' t',W'.L=W.L->Rel V w.params Hz fs C W' loc->Stp fs W W'->PP (k loc W'.s)->Q () (at' sh W' t'))->wpR (model prog w) A (setItem vo vx va) Q E (at' sh W t)
 aug:∀ {fs l C W loc A cd},AOk cd l fs A->Rel V w.params Hz fs C W loc->∀ {i b va vb x},W.R V (.it i) va->W.R V b vb->binOp p .Add (.it i) b=some x->∀ {sh t Q E},(∀ v W' t',W'.L=W.L->W'.s=W.s->Rel V w.params Hz fs C W' loc->Stp fs W W'->W'.R V x v->Q v (at' sh W' t'))->wpR (model prog w) A (inplaceOp .Add va vb) Q E (at' sh W t)
 rai:∀ {fs l C W loc A cd env},AOk cd l fs A->Rel V w.params Hz fs C W loc->∀ {x sh t Q E},wpR (model prog w) A x (fun v s₁=>∃ W' i k t',s₁=at' sh W' t'/\v=.ref (W'.ρ i)/\k < 7/\qb W'.s i (.exc k)/\Rel V w.params Hz fs C W' loc/\E v s₁) E (at' sh W t)->wpR (model prog w) A (raiseStmt env (some x) none) Q E (at' sh W t)
 tri:∀ {fs l C W loc A cd env outer},AOk cd l fs A->EnvOk C W.L env->l=env :: outer->env.frame=some W.L->Rel V w.params Hz fs C W loc->∀ {k e h sh t Q E} (j:Nat) (hb:Bool) (q1 q2 q3 q4:Pos),gval C j=.kl 0->k < 7->Thrown fs l W k e h->(∀ W' t',W'.L=W.L->W'.s=W.s->Rel V w.params Hz fs C W' (uns C.names)->Stp fs W W'->Q (.ret (.bool hb)) (at' sh W' t'))->
  wpR (model prog w) A (noteFrame (.ref e) env) (fun _ s₂=>wpR (model prog w) A (setFlight (.ref e) none) (fun _ s₃=>wpR (model prog w) A (handleBy (.ref e) env [.ExceptHandler (some (kj (.gl j q1) C)) none [.Return (some (.Constant (.bool hb) 0 q2)) q3] q4]) Q E s₃) E s₂) E { at' sh W t with heap:=h }
 ci:∀ ci cc,nth ctab ci=some cc->freeC ci=false->CiOk cc
 wm:∀ a f,look wmeth a=some f->∃ fi,ftab.get f=some fi
 sup:∀ g p,gtab.get g=some p->(p.1 == ("super":Str))=false
theorem kh {α:Type}:∀ {l:List α} {n:Nat},ki l n=true->l.length < n
 |[],0,h=>(jh h).elim
 |_ :: _,0,h=>(jh h).elim
 |[],n+1,_=>Nat.succ_pos _
 |_ :: r,n+1,h=>Nat.succ_lt_succ (kh (l:=r) h)
theorem le_line {n m:Nat} (h:n < m) (hm:m<=100000:=by decide):n<=sizeLine:=Nat.le_trans (Nat.le_of_lt h) (Nat.le_trans hm (by decide))
section
variable {P:Params} {V:Vl} {Hz:Heap} {fs:List Addr} {l:List Env} {C:EC} {W:Wd} {loc:List AV} {sh:Shared} {E:VP}
theorem Rel.push (R:Rel V P Hz fs C W loc) (o:Obj):Rel V P Hz fs C { W with h:=W.h.push o } loc/\Stp fs W { W with h:=W.h.push o }:=
 R.ext fun _ _ e=>ja o e
theorem at'_eq {W':Wd} {h:Heap} (e:W'.h=h) (t:Nat):at' sh W' t={ sh with heap:=h,toks:=t }:=by unfold at';rw [e]
theorem PV.imp {r:Res} {Q Q':VP} (h:PV P V Hz fs l C W loc sh r Q E) (k:∀ v s,Q v s->Q' v s):PV P V Hz fs l C W loc sh r Q' E:=by
 induction r with
 |v a s=>exact fun v W' t a b R S' x=>k _ _ (h v W' t a b R S' x)
 |ex k s=>exact h
 |_=>exact h
theorem wpR_assoc {α β γ:Type} {M:Model} {A:Around} {E:VP} {s:Shared} {m:Sem α} {f:α->Sem β} {g:β->Sem γ} {Q:γ->Shared->Prop}
  (h:wpR M A (m >>= f) (fun b s'=>wpR M A (g b) Q E s') E s):wpR M A (m >>= fun a=>f a >>= g) Q E s:=by
 have:=jr h
 rw [bind_assoc] at this
 exact this
theorem PV.newL (R:Rel V P Hz fs C W loc) {as:List AV} {vs:List Value} (hv:W.Rs V as vs) {Q} (hQ:PV P V Hz fs l C W loc sh (newL W.s as) Q E) (t:Nat):
  vs.length<=sizeLine/\Q (.ref W.h.objs.size) { sh with heap:=W.h.push { cls:=.type "list",data:=.seq vs.toArray },toks:=t }:=by
 simp only [Mine.newL] at hQ
 induction hl:ki as 10000 with
 |false=>rw [hl] at hQ;exact hQ.elim
 |true=>
  rw [hl] at hQ
  simp only [fSp_eq,newC,fN_eq] at hQ
  refine ⟨by rw [ku.length hv];exact le_line (kh hl),?_⟩
  obtain ⟨W',e1,e2,e3,e4,R',S'⟩:=R.new (h':=W.h.push { cls:=.type "list",data:=.seq vs.toArray }) (a:=W.h.objs.size) (c:=.li as) (fun _ _ e=>ja _ e) (Heap.get?_none_of_le (jj _))
   fun ρ' hρ hρa=>⟨vs,⟨_,Heap.get?_push_size _ rfl⟩,ky.mono (fun _ _ e _=>ja _ e) (Nat.le_succ _) hρ hv⟩
  have:=hQ (.ref W.h.objs.size) W' t e2 e3 R' S' ⟨by rw [e3];exact Nat.lt_succ_self _,by rw [e4]⟩
  rw [at'_eq e1] at this
  exact this
end
noncomputable def OpP {α:Type} (P:α->Prop) (o:Option α):Prop:=Option.rec True P o
theorem OpP.of {α:Type} {P:α->Prop} {o:Option α} {x:α} (h:OpP P o) (e:o=some x):P x:=by subst e;exact h
theorem AV.ob?_eq {a:AV} {k:Nat} (h:a.ob?=some k):a=.ob k:=OpP.of (P:=fun k=>a=.ob k) (by induction a using AV.casesOn<;>first|exact True.intro|exact Eq.refl _) h
theorem AV.ce?_eq {a:AV} {k:Nat} (h:a.ce?=some k):a=.ce k:=OpP.of (P:=fun k=>a=.ce k) (by induction a using AV.casesOn<;>first|exact True.intro|exact Eq.refl _) h
theorem AV.it?_eq {a:AV} {k:Int} (h:a.it?=some k):a=.it k:=OpP.of (P:=fun k=>a=.it k) (by induction a using AV.casesOn<;>first|exact True.intro|exact Eq.refl _) h
theorem AV.bo?_eq {a:AV} {k:Bool} (h:a.bo?=some k):a=.bo k:=OpP.of (P:=fun k=>a=.bo k) (by induction a using AV.casesOn<;>first|exact True.intro|exact Eq.refl _) h
theorem Cell.id?_eq {a:Cell} {k} (h:a.id?=some k):a=.id k:=OpP.of (P:=fun k=>a=.id k) (by induction a<;>first|exact True.intro|exact Eq.refl _) h
theorem Cell.exc?_eq {a:Cell} {k} (h:a.exc?=some k):a=.exc k:=OpP.of (P:=fun k=>a=.exc k) (by induction a<;>first|exact True.intro|exact Eq.refl _) h
theorem Cell.ba?_eq {a:Cell} {k} (h:a.ba?=some k):a=.ba k:=OpP.of (P:=fun k=>a=.ba k) (by induction a<;>first|exact True.intro|exact Eq.refl _) h
theorem Cell.di?_eq {a:Cell} {k} (h:a.di?=some k):a=.di k:=OpP.of (P:=fun k=>a=.di k) (by induction a<;>first|exact True.intro|exact Eq.refl _) h
theorem Cell.li?_eq {a:Cell} {k} (h:a.li?=some k):a=.li k:=OpP.of (P:=fun k=>a=.li k) (by induction a<;>first|exact True.intro|exact Eq.refl _) h
theorem AV.tu?_eq {a:AV} {k} (h:a.tu?=some k):a=.tu k:=OpP.of (P:=fun k=>a=.tu k) (by induction a using AV.casesOn<;>first|exact True.intro|exact Eq.refl _) h
theorem AV.st?_eq {a:AV} {k} (h:a.st?=some k):a=.st k:=OpP.of (P:=fun k=>a=.st k) (by induction a using AV.casesOn<;>first|exact True.intro|exact Eq.refl _) h
theorem AV.by?_eq {a:AV} {k} (h:a.by?=some k):a=.by k:=OpP.of (P:=fun k=>a=.by k) (by induction a using AV.casesOn<;>first|exact True.intro|exact Eq.refl _) h
theorem AV.itN?_eq {a:AV} {k:Nat} (h:a.itN?=some k):a=.it (.ofNat k):=OpP.of (P:=fun k=>a=.it (.ofNat k)) (by
 induction a using AV.casesOn with
 |it i=>induction i<;>first|exact True.intro|exact Eq.refl _
 |_=>exact True.intro) h
theorem AV.ln?_eq {a:AV} {x} (h:a.ln?=some x):a=.ln x.1 x.2:=OpP.of (P:=fun x=>a=.ln x.1 x.2) (by induction a using AV.casesOn<;>first|exact True.intro|exact Eq.refl _) h
theorem XE.tup?_eq {e:XE} {l:List XE} (h:e.tup?=some l):∃ k q,e=.tup l k q:=OpP.of (P:=fun l=>∃ k q,e=.tup l k q) (by cases e<;>first|exact True.intro|exact ⟨_,_,Eq.refl _⟩) h
theorem XE.slc?_eq {e:XE} {x} (h:e.slc?=some x):∃ q,e=.slc x.1 x.2.1 x.2.2 q:=OpP.of (P:=fun x=>∃ q,e=.slc x.1 x.2.1 x.2.2 q) (by cases e<;>first|exact True.intro|exact ⟨_,Eq.refl _⟩) h
theorem jz {α:Type} {M:Model} {A:Around} {m m':Sem α} {Q:α->Shared->Prop} {E:VP} {s:Shared} (e:m=m') (h:wpR M A m' Q E s):wpR M A m Q E s:=e▸h
section
variable {β:Type}
theorem M.id (c:Cell) (f:List (Nat × AV)->β) (d:β):(match some c with|some (.id es)=>f es|_=>d)=Option.rec d f c.id?:=by induction c<;>first|exact Eq.refl d|exact Eq.refl (f _)
theorem M.ex (c:Cell) (f:Nat->β) (d:β):(match some c with|some (.exc es)=>f es|_=>d)=Option.rec d f c.exc?:=by induction c<;>first|exact Eq.refl d|exact Eq.refl (f _)
theorem M.ba (c:Cell) (f:List Nat->β) (d:β):(match some c with|some (.ba es)=>f es|_=>d)=Option.rec d f c.ba?:=by induction c<;>first|exact Eq.refl d|exact Eq.refl (f _)
theorem M.di (c:Cell) (f:List (List Nat × AV)->β) (d:β):(match some c with|some (.di es)=>f es|_=>d)=Option.rec d f c.di?:=by induction c<;>first|exact Eq.refl d|exact Eq.refl (f _)
theorem M.li (c:Cell) (f:List AV->β) (d:β):(match some c with|some (.li es)=>f es|_=>d)=Option.rec d f c.li?:=by induction c<;>first|exact Eq.refl d|exact Eq.refl (f _)
theorem M.it (a:AV) (f:Int->β) (d:β):(match a with|.it x=>f x|_=>d)=Option.rec d f a.it?:=by induction a using AV.casesOn<;>first|exact Eq.refl d|exact Eq.refl (f _)
theorem M.bo (a:AV) (f:Bool->β) (d:β):(match a with|.bo x=>f x|_=>d)=Option.rec d f a.bo?:=by induction a using AV.casesOn<;>first|exact Eq.refl d|exact Eq.refl (f _)
theorem M.itN (a:AV) (f:Nat->β) (d:β):(match a with|.it (.ofNat x)=>f x|_=>d)=Option.rec d f a.itN?:=by
 induction a using AV.casesOn with
 |it i=>induction i<;>first|exact Eq.refl d|exact Eq.refl (f _)
 |_=>exact Eq.refl d
theorem M.ln (a:AV) (f:List Nat->Nat->β) (d:β):(match a with|.ln js c=>f js c|_=>d)=Option.rec d (fun x=>f x.1 x.2) a.ln?:=by induction a using AV.casesOn<;>first|exact Eq.refl d|exact Eq.refl (f _ _)
theorem M.ce (a:AV) (f:Nat->β) (d:β):(match a with|.ce x=>f x|_=>d)=Option.rec d f a.ce?:=by induction a using AV.casesOn<;>first|exact Eq.refl d|exact Eq.refl (f _)
theorem M.tu (a:AV) (f:List AV->β) (d:β):(match a with|.tu x=>f x|_=>d)=Option.rec d f a.tu?:=by induction a using AV.casesOn<;>first|exact Eq.refl d|exact Eq.refl (f _)
theorem M.st (a:AV) (f:List Nat->β) (d:β):(match a with|.st x=>f x|_=>d)=Option.rec d f a.st?:=by induction a using AV.casesOn<;>first|exact Eq.refl d|exact Eq.refl (f _)
theorem M.by (a:AV) (f:List Ck->β) (d:β):(match a with|.by x=>f x|_=>d)=Option.rec d f a.by?:=by induction a using AV.casesOn<;>first|exact Eq.refl d|exact Eq.refl (f _)
variable {Φ:β->Prop} {d:β} {G:Prop} (hd:¬ Φ d)
include hd
theorem J.tt {b:Bool} {r:β} (h:Φ (match b with|true=>r|false=>d)) (k:b=true->Φ r->G):G:=by
 induction b with
 |true=>exact k rfl h
 |false=>exact (hd h).elim
theorem J.so {α:Type} {o:Option α} {f:α->β} (h:Φ (match o with|some a=>f a|none=>d)) (k:∀ a,o=some a->Φ (f a)->G):G:=by
 induction o with
 |some a=>exact k a rfl h
 |none=>exact (hd h).elim
theorem J.so' {α:Type} {o:Option α} {f:α->β} (h:Φ (Option.rec d f o)) (k:∀ a,o=some a->Φ (f a)->G):G:=by
 induction o with
 |some a=>exact k a rfl h
 |none=>exact (hd h).elim
omit hd in
theorem J.so2 {α:Type} {o:Option α} {f:α->β} {g:β} (h:Φ (match o with|some a=>f a|none=>g)) (k1:∀ a,o=some a->Φ (f a)->G) (k2:o=none->Φ g->G):G:=by
 induction o with
 |some a=>exact k1 a rfl h
 |none=>exact k2 rfl h
omit hd in
theorem J.b2 {b:Bool} {r1 r2:β} (h:Φ (match b with|true=>r1|false=>r2)) (k1:b=true->Φ r1->G) (k2:b=false->Φ r2->G):G:=by
 induction b with
 |true=>exact k1 rfl h
 |false=>exact k2 rfl h
theorem J.l1 {α:Type} {as:List α} {f:α->β} (h:Φ (match as with|[x]=>f x|_=>d)) (k:∀ x,as=[x]->Φ (f x)->G):G:=by
 rcases as with _|⟨x,_|⟨_,_⟩⟩
 ·exact (hd h).elim
 ·exact k x rfl h
 ·exact (hd h).elim
theorem J.l2 {α:Type} {as:List α} {f:α->α->β} (h:Φ (match as with|[x,y]=>f x y|_=>d)) (k:∀ x y,as=[x,y]->Φ (f x y)->G):G:=by
 rcases as with _|⟨x,_|⟨y,_|⟨_,_⟩⟩⟩
 ·exact (hd h).elim
 ·exact (hd h).elim
 ·exact k x y rfl h
 ·exact (hd h).elim
theorem J.id {o:Option Cell} {f:List (Nat × AV)->β} (h:Φ (match o with|some (.id es)=>f es|_=>d)) (k:∀ es,o=some (.id es)->Φ (f es)->G):G:=by
 induction o with
 |none=>exact (hd h).elim
 |some c=>exact J.so' hd ((M.id c f d).subst (motive:=Φ) h) fun x e=>k x (congrArg some (Cell.id?_eq e))
theorem J.ex {o:Option Cell} {f:Nat->β} (h:Φ (match o with|some (.exc es)=>f es|_=>d)) (k:∀ es,o=some (.exc es)->Φ (f es)->G):G:=by
 induction o with
 |none=>exact (hd h).elim
 |some c=>exact J.so' hd ((M.ex c f d).subst (motive:=Φ) h) fun x e=>k x (congrArg some (Cell.exc?_eq e))
theorem J.ba {o:Option Cell} {f:List Nat->β} (h:Φ (match o with|some (.ba es)=>f es|_=>d)) (k:∀ es,o=some (.ba es)->Φ (f es)->G):G:=by
 induction o with
 |none=>exact (hd h).elim
 |some c=>exact J.so' hd ((M.ba c f d).subst (motive:=Φ) h) fun x e=>k x (congrArg some (Cell.ba?_eq e))
theorem J.di {o:Option Cell} {f:List (List Nat × AV)->β} (h:Φ (match o with|some (.di es)=>f es|_=>d)) (k:∀ es,o=some (.di es)->Φ (f es)->G):G:=by
 induction o with
 |none=>exact (hd h).elim
 |some c=>exact J.so' hd ((M.di c f d).subst (motive:=Φ) h) fun x e=>k x (congrArg some (Cell.di?_eq e))
theorem J.li {o:Option Cell} {f:List AV->β} (h:Φ (match o with|some (.li es)=>f es|_=>d)) (k:∀ es,o=some (.li es)->Φ (f es)->G):G:=by
 induction o with
 |none=>exact (hd h).elim
 |some c=>exact J.so' hd ((M.li c f d).subst (motive:=Φ) h) fun x e=>k x (congrArg some (Cell.li?_eq e))
theorem J.it {a:AV} {f:Int->β} (h:Φ (match a with|.it x=>f x|_=>d)) (k:∀ x,a=.it x->Φ (f x)->G):G:=J.so' hd ((M.it a f d).subst (motive:=Φ) h) fun x e=>k x (AV.it?_eq e)
theorem J.ce {a:AV} {f:Nat->β} (h:Φ (match a with|.ce x=>f x|_=>d)) (k:∀ x,a=.ce x->Φ (f x)->G):G:=J.so' hd ((M.ce a f d).subst (motive:=Φ) h) fun x e=>k x (AV.ce?_eq e)
theorem J.tu {a:AV} {f:List AV->β} (h:Φ (match a with|.tu x=>f x|_=>d)) (k:∀ x,a=.tu x->Φ (f x)->G):G:=J.so' hd ((M.tu a f d).subst (motive:=Φ) h) fun x e=>k x (AV.tu?_eq e)
theorem J.st {a:AV} {f:List Nat->β} (h:Φ (match a with|.st x=>f x|_=>d)) (k:∀ x,a=.st x->Φ (f x)->G):G:=J.so' hd ((M.st a f d).subst (motive:=Φ) h) fun x e=>k x (AV.st?_eq e)
theorem J.by {a:AV} {f:List Ck->β} (h:Φ (match a with|.by x=>f x|_=>d)) (k:∀ x,a=.by x->Φ (f x)->G):G:=J.so' hd ((M.by a f d).subst (motive:=Φ) h) fun x e=>k x (AV.by?_eq e)
theorem J.itN {a:AV} {f:Nat->β} (h:Φ (match a with|.it (.ofNat x)=>f x|_=>d)) (k:∀ x,a=.it (.ofNat x)->Φ (f x)->G):G:=J.so' hd ((M.itN a f d).subst (motive:=Φ) h) fun x e=>k x (AV.itN?_eq e)
theorem J.ln {a:AV} {f:List Nat->Nat->β} (h:Φ (match a with|.ln js c=>f js c|_=>d)) (k:∀ js c,a=.ln js c->Φ (f js c)->G):G:=J.so' hd ((M.ln a f d).subst (motive:=Φ) h) fun x e=>k x.1 x.2 (AV.ln?_eq e)
theorem J.bo {a:AV} {f:Bool->β} (h:Φ (match a with|.bo x=>f x|_=>d)) (k:∀ x,a=.bo x->Φ (f x)->G):G:=J.so' hd ((M.bo a f d).subst (motive:=Φ) h) fun x e=>k x (AV.bo?_eq e)
end
section
variable {β:Type} {z:β} {G:Prop}
theorem Op.tt {b:Bool} {r:Option β} (h:(match b with|true=>r|false=>none)=some z) (k:b=true->r=some z->G):G:=J.tt (Φ:=fun o=>o=some z) (d:=none) nofun h k
theorem Op.so {α:Type} {o:Option α} {f:α->Option β} (h:(match o with|some a=>f a|none=>none)=some z) (k:∀ a,o=some a->f a=some z->G):G:=J.so (Φ:=fun o=>o=some z) (d:=none) nofun h k
theorem Op.it {a:AV} {f:Int->Option β} (h:(match a with|.it x=>f x|_=>none)=some z) (k:∀ x,a=.it x->f x=some z->G):G:=J.it (Φ:=fun o=>o=some z) (d:=none) nofun h k
theorem Op.st {a:AV} {f:List Nat->Option β} (h:(match a with|.st x=>f x|_=>none)=some z) (k:∀ x,a=.st x->f x=some z->G):G:=J.st (Φ:=fun o=>o=some z) (d:=none) nofun h k
theorem Op.by {a:AV} {f:List Ck->Option β} (h:(match a with|.by x=>f x|_=>none)=some z) (k:∀ x,a=.by x->f x=some z->G):G:=J.by (Φ:=fun o=>o=some z) (d:=none) nofun h k
theorem Op.tu {a:AV} {f:List AV->Option β} (h:(match a with|.tu x=>f x|_=>none)=some z) (k:∀ x,a=.tu x->f x=some z->G):G:=J.tu (Φ:=fun o=>o=some z) (d:=none) nofun h k
theorem Op.itN {a:AV} {f:Nat->Option β} (h:(match a with|.it (.ofNat x)=>f x|_=>none)=some z) (k:∀ x,a=.it (.ofNat x)->f x=some z->G):G:=J.itN (Φ:=fun o=>o=some z) (d:=none) nofun h k
end
section
variable {P:Params} {V:Vl} {Hz:Heap} {fs:List Addr} {l:List Env} {C:EC} {W:Wd} {loc:List AV} {sh:Shared} {E:VP} {n:Nat}
variable {G:Prop}
theorem PV.tt {b:Bool} {r:Res} {Q} (h:PV P V Hz fs l C W loc sh (match b with|true=>r|false=>.fail n) Q E) (k:b=true->PV P V Hz fs l C W loc sh r Q E->G):G:=by
 induction b with
 |true=>exact k rfl h
 |false=>exact h.elim
theorem PV.so {α:Type} {o:Option α} {f:α->Res} {Q} (h:PV P V Hz fs l C W loc sh (match o with|some a=>f a|none=>.fail n) Q E) (k:∀ a,o=some a->PV P V Hz fs l C W loc sh (f a) Q E->G):G:=by
 induction o with
 |some a=>exact k a rfl h
 |none=>exact h.elim
theorem PF.tt {b:Bool} {r:Res} {Q} (h:PF P V Hz fs l C W sh (match b with|true=>r|false=>.fail n) Q E) (k:b=true->PF P V Hz fs l C W sh r Q E->G):G:=by
 induction b with
 |true=>exact k rfl h
 |false=>exact h.elim
theorem PF.so {α:Type} {o:Option α} {f:α->Res} {Q} (h:PF P V Hz fs l C W sh (match o with|some a=>f a|none=>.fail n) Q E) (k:∀ a,o=some a->PF P V Hz fs l C W sh (f a) Q E->G):G:=by
 induction o with
 |some a=>exact k a rfl h
 |none=>exact h.elim
theorem PV.li {o:Option Cell} {f:List AV->Res} {Q} (h:PV P V Hz fs l C W loc sh (match o with|some (.li x)=>f x|_=>.fail n) Q E) (k:∀ x,o=some (.li x)->PV P V Hz fs l C W loc sh (f x) Q E->G):G:=J.li (Φ:=fun r=>PV P V Hz fs l C W loc sh r Q E) (d:=.fail n) (fun h=>h) h k
theorem PV.ba {o:Option Cell} {f:List Nat->Res} {Q} (h:PV P V Hz fs l C W loc sh (match o with|some (.ba x)=>f x|_=>.fail n) Q E) (k:∀ x,o=some (.ba x)->PV P V Hz fs l C W loc sh (f x) Q E->G):G:=J.ba (Φ:=fun r=>PV P V Hz fs l C W loc sh r Q E) (d:=.fail n) (fun h=>h) h k
theorem PV.di {o:Option Cell} {f:List (List Nat × AV)->Res} {Q} (h:PV P V Hz fs l C W loc sh (match o with|some (.di x)=>f x|_=>.fail n) Q E) (k:∀ x,o=some (.di x)->PV P V Hz fs l C W loc sh (f x) Q E->G):G:=J.di (Φ:=fun r=>PV P V Hz fs l C W loc sh r Q E) (d:=.fail n) (fun h=>h) h k
theorem PV.id {o:Option Cell} {f:List (Nat × AV)->Res} {Q} (h:PV P V Hz fs l C W loc sh (match o with|some (.id x)=>f x|_=>.fail n) Q E) (k:∀ x,o=some (.id x)->PV P V Hz fs l C W loc sh (f x) Q E->G):G:=J.id (Φ:=fun r=>PV P V Hz fs l C W loc sh r Q E) (d:=.fail n) (fun h=>h) h k
theorem PV.st {a:AV} {f:List Nat->Res} {Q} (h:PV P V Hz fs l C W loc sh (match a with|.st x=>f x|_=>.fail n) Q E) (k:∀ x,a=.st x->PV P V Hz fs l C W loc sh (f x) Q E->G):G:=J.st (Φ:=fun r=>PV P V Hz fs l C W loc sh r Q E) (d:=.fail n) (fun h=>h) h k
theorem PV.ce {a:AV} {f:Nat->Res} {Q} (h:PV P V Hz fs l C W loc sh (match a with|.ce x=>f x|_=>.fail n) Q E) (k:∀ x,a=.ce x->PV P V Hz fs l C W loc sh (f x) Q E->G):G:=J.ce (Φ:=fun r=>PV P V Hz fs l C W loc sh r Q E) (d:=.fail n) (fun h=>h) h k
theorem PV.tu {a:AV} {f:List AV->Res} {Q} (h:PV P V Hz fs l C W loc sh (match a with|.tu x=>f x|_=>.fail n) Q E) (k:∀ x,a=.tu x->PV P V Hz fs l C W loc sh (f x) Q E->G):G:=J.tu (Φ:=fun r=>PV P V Hz fs l C W loc sh r Q E) (d:=.fail n) (fun h=>h) h k
theorem PV.by {a:AV} {f:List Ck->Res} {Q} (h:PV P V Hz fs l C W loc sh (match a with|.by x=>f x|_=>.fail n) Q E) (k:∀ x,a=.by x->PV P V Hz fs l C W loc sh (f x) Q E->G):G:=J.by (Φ:=fun r=>PV P V Hz fs l C W loc sh r Q E) (d:=.fail n) (fun h=>h) h k
theorem PV.itN {a:AV} {f:Nat->Res} {Q} (h:PV P V Hz fs l C W loc sh (match a with|.it (.ofNat x)=>f x|_=>.fail n) Q E) (k:∀ x,a=.it (.ofNat x)->PV P V Hz fs l C W loc sh (f x) Q E->G):G:=J.itN (Φ:=fun r=>PV P V Hz fs l C W loc sh r Q E) (d:=.fail n) (fun h=>h) h k
theorem PF.li {o:Option Cell} {f:List AV->Res} {Q} (h:PF P V Hz fs l C W sh (match o with|some (.li x)=>f x|_=>.fail n) Q E) (k:∀ x,o=some (.li x)->PF P V Hz fs l C W sh (f x) Q E->G):G:=J.li (Φ:=fun r=>PF P V Hz fs l C W sh r Q E) (d:=.fail n) (fun h=>h) h k
theorem PF.id {o:Option Cell} {f:List (Nat × AV)->Res} {Q} (h:PF P V Hz fs l C W sh (match o with|some (.id x)=>f x|_=>.fail n) Q E) (k:∀ x,o=some (.id x)->PF P V Hz fs l C W sh (f x) Q E->G):G:=J.id (Φ:=fun r=>PF P V Hz fs l C W sh r Q E) (d:=.fail n) (fun h=>h) h k
theorem PF.ce {a:AV} {f:Nat->Res} {Q} (h:PF P V Hz fs l C W sh (match a with|.ce x=>f x|_=>.fail n) Q E) (k:∀ x,a=.ce x->PF P V Hz fs l C W sh (f x) Q E->G):G:=J.ce (Φ:=fun r=>PF P V Hz fs l C W sh r Q E) (d:=.fail n) (fun h=>h) h k
theorem PV.bo {a:AV} {f:Bool->Res} {Q} (h:PV P V Hz fs l C W loc sh (match a with|.bo b=>f b|_=>.fail n) Q E) (k:∀ b,a=.bo b->PV P V Hz fs l C W loc sh (f b) Q E->G):G:=J.bo (Φ:=fun r=>PV P V Hz fs l C W loc sh r Q E) (d:=.fail n) (fun h=>h) h k
theorem PV.it {a:AV} {f:Int->Res} {Q} (h:PV P V Hz fs l C W loc sh (match a with|.it b=>f b|_=>.fail n) Q E) (k:∀ b,a=.it b->PV P V Hz fs l C W loc sh (f b) Q E->G):G:=J.it (Φ:=fun r=>PV P V Hz fs l C W loc sh r Q E) (d:=.fail n) (fun h=>h) h k
end
theorem slc_ne {i:XE} (h:i.slc?=none) (C:EC) (a b c d):kj i C ≠ .Slice a b c d:=fun e=>by
 have e:i.slc?.isSome=true:=(show i.slc?.isSome=Nat.beq (kj i C).ctorIdx 26 by cases i<;>first|exact Eq.refl false|exact Eq.refl true).trans (congrArg (fun e=>Nat.beq e.ctorIdx 26) e)
 rw [h] at e;exact (jh e).elim
theorem attBase1 {x name:Str} {p q:Pos} {env:Env} {whole:Sem Value} (hne:(x != ("super":Str))=true):attributeBase (.Call (.Name x p) [] [] q) name env whole=whole:=
 if_pos (by rw [hne];rfl)
theorem evalCal {f:XE} {args:List XE} {q:Pos} {C:EC} {env:Env} (hn:nameOk f=true):eval (kj (.cal f args q) C) env=(do callWith q (<- eval (kj f C) env) [] (backTo q (starEach (km args C) env)) (backToKw q (keywordEach [] env))):=by
 cases f<;>first|rfl|exact (jh hn).elim
section
variable {prog:Program} {w:World} {V:Vl} {Hz:Heap} {p:Par} {fs:List Addr} {l:List Env} {C:EC} {W:Wd} {loc:List AV} {A:Around} {env:Env} {cd:Nat} {ih:RunTy}
variable (I:Ih prog w V Hz ih cd) (Pr:Prim prog w V Hz p) (AO:AOk cd l fs A) (EO:EnvOk C W.L env) (R:Rel V w.params Hz fs C W loc)
include I AO EO R
theorem d_evs (es:List XE):DoesVs prog w V Hz A fs l C W loc (spliced (each es C env)) (s_evs ⟨p,ih⟩ cd C loc W.s es):=by
 intro sh t Q E hQ
 induction es using List.casesOn with
 |nil=>exact spliced_nil (hQ [] W t rfl rfl R (.refl fs W) rfl)
 |cons e r=>
  exact spliced_cons (pvs_vX (F:=s_evs2 ⟨p,ih⟩ cd C loc r) (I.ev AO EO R e) hQ (fun a va W1 t1 hL1 R1 S1 ha hQ=>pvs_vsX (F:=s_evs3 a) (I.evs AO (EO.mv hL1) R1 r) hQ (fun as vs W2 t2 hL2 R2 S2 hv hQ=>hQ (va :: vs) W2 t2 rfl rfl R2 (.refl fs W2) (ku.consI (S2.R ha) hv)) (by trivial)) (by trivial))
include Pr in
theorem d_bin (a b:XE) (op:Operator) (q:Pos):Does prog w V Hz A fs l C W loc (eval (kj (.bin a op b q) C) env) (e_bin2 ⟨p,ih⟩ cd C loc op b (ih cd C loc W.s (.ev a))):=by
 intro sh t Q E hQ
 exact wpR_BinOp (pv_v0 (I.ev AO EO R a) hQ (fun a va W1 t1 hL1 R1 S1 ha hQ=>pv_v0 (F:=e_bin3 ⟨p,ih⟩ op a) (I.ev AO (EO.mv hL1) R1 b) hQ (fun b vb W2 t2 hL2 R2 S2 hb hQ=>Pr.bin AO R2 (S2.R ha) hb sh t2 Q E hQ) (by trivial)) (by trivial))
theorem d_tup (es:List XE) (k:Nat) (q:Pos):Does prog w V Hz A fs l C W loc (eval (kj (.tup es k q) C) env) (e_tup2 (ih cd C loc W.s (.evs es))):=by
 intro sh t Q E hQ
 refine wpR_Tuple ?_
 rw [qo]
 refine pv_vsX (I.evs AO EO R es) hQ (fun as vs W1 t1 hL1 R1 S1 hv hQ=>?_) (by trivial)
 refine PV.tt hQ fun h2 hQ=>?_
 obtain ⟨R2,S2⟩:=R1.push { cls:=.type "tuple",data:=.seq vs.toArray }
 exact ⟨by rw [ku.length hv];exact le_line (kh h2),hQ (.ref W1.h.objs.size) { W1 with h:=W1.h.push { cls:=.type "tuple",data:=.seq vs.toArray } } t1 rfl rfl R2 S2 ⟨_,vs,rfl,⟨_,Heap.get?_push_size _ rfl,rfl,_,rfl⟩,S2.Rs hv⟩⟩
theorem d_lst (es:List XE) (q:Pos):Does prog w V Hz A fs l C W loc (eval (kj (.lst es q) C) env) (e_lst2 (ih cd C loc W.s (.evs es))):=by
 intro sh t Q E hQ
 refine wpR_List ?_
 rw [qo]
 exact pv_vs0 (I.evs AO EO R es) hQ (fun as vs W1 t1 hL1 R1 S1 hv hQ=>PV.newL R1 hv hQ t1) (by trivial)
theorem d_uny (e:XE) (op:UnaryOp) (q:Pos) (Pr:Prim prog w V Hz p):Does prog w V Hz A fs l C W loc (eval (kj (.uny op e q) C) env) (e_uny2 op (ih cd C loc W.s (.ev e))):=by
 intro sh t Q E hQ
 refine wpR_UnaryOp (pv_v0 (I.ev AO EO R e) hQ (fun a va W1 t1 hL1 R1 S1 ha hQ=>?_) (by trivial))
 induction op with
 |Not=>
  refine PV.bo hQ fun b e hQ=>?_
  subst e
  cases (show va=.bool b from ha)
  exact jr (m:=truthy (.bool b)) (jy (jv (hQ (.bool (!b)) W1 t1 rfl rfl R1 (.refl fs W1) rfl)))
 |USub=>exact PV.it hQ fun i e hQ=>Pr.neg AO R1 (e▸ha) sh t1 Q E hQ
 |_=>exact hQ.elim
theorem d_ife (a b o:XE) (q:Pos):Does prog w V Hz A fs l C W loc (eval (kj (.ife a b o q) C) env) (e_ife2 ⟨p,ih⟩ cd C loc b o (ih cd C loc W.s (.tst a))):=by
 intro sh t Q E hQ
 refine wpR_IfExp (pv_b0 (I.tst AO EO R a) hQ (fun c W1 t1 hL1 R1 S1 hQ=>?_) (by trivial))
 induction c with
 |true=>exact I.ev AO (EO.mv hL1) R1 b sh t1 Q E hQ
 |false=>exact I.ev AO (EO.mv hL1) R1 o sh t1 Q E hQ
include Pr
omit R EO AO I in
theorem glSuper (j:Nat):(glName C j != ("super":Str))=true:=by
 unfold glName gname
 induction nth C.gls j with
 |none=>decide
 |some g=>
  induction hg:gtab.get g with
  |none=>simp only [hg];decide
  |some q=>simp only [hg];exact congrArg (fun b=>!b) (Pr.sup g q hg)
omit R EO AO I in
theorem attBase {o:XE} {name:Str} {whole:Sem Value} (hb:baseOk o=true):attributeBase (kj o C) name env whole=whole:=by
 cases o with
 |cal f as q=>
  cases f with
  |nm i p=>exact (jh hb).elim
  |gl j p=>
   induction as using List.casesOn with
   |nil=>exact attBase1 (glSuper Pr j)
   |cons a r=>exact Eq.refl whole
  |_=>exact Eq.refl whole
 |_=>exact Eq.refl whole
theorem d_att (e:XE) (a:Nat) (q:Pos) (hb:baseOk e=true):Does prog w V Hz A fs l C W loc (eval (kj (.att e a q) C) env) (e_att2 a (ih cd C loc W.s (.ev e))):=by
 intro sh t Q E hQ
 show wpR _ _ (eval (.Attribute (kj e C) (atAt a) q) env) _ _ _
 rw [arm_eval_Attribute,attBase Pr hb]
 refine jr (pv_v0 (I.ev AO EO R e) hQ (fun x va W1 t1 hL1 R1 S1 ha hQ=>?_) (by trivial))
 exact jr (jt (jr (ju (Pr.att AO R1 ha sh t1 _ E (PV.imp hQ fun v s hq=>jr (zy (jv hq)))))))
theorem d_sub2 (o i:XE) (q:Pos) (hx:i.slc?=none):Does prog w V Hz A fs l C W loc (eval (kj (.sub o i q) C) env) (e_sub2 ⟨p,ih⟩ cd C loc i (ih cd C loc W.s (.ev o))):=by
 intro sh t Q E hQ
 show wpR _ _ (eval (.Subscript (kj o C) (kj i C) q) env) _ _ _
 rw [arm_eval_Subscript]
 refine jr (pv_v0 (I.ev AO EO R o) hQ (fun x va W1 t1 hL1 R1 S1 ha hQ=>jr (ju (pv_v0 (F:=e_sub3 ⟨p,ih⟩ x) (I.ev AO (EO.mv hL1) R1 i) hQ (fun b vb W2 t2 hL2 R2 S2 hb hQ=>?_) (by trivial)))) (by trivial))
 exact jr (jt (wpR_assoc (Pr.sub AO R2 (S2.R ha) hb (kj i C) (slc_ne hx C) sh t2 (fun r s=>wpR (model prog w) A (letTemporaryGo (kj o C) va r >>= fun _=>pure r) Q E s) E (PV.imp hQ fun v s hq=>jr (zy (jv hq))))))
omit Pr EO in
theorem d_callWith {f:AV} {fv:Value} (hf:W.R V f fv) (hk:calleeB f=true) (args:List XE) (EO:EnvOk C W.L env) (Pr:Prim prog w V Hz p) (q:Pos):
  Does prog w V Hz A fs l C W loc (callWith q fv [] (each args C env) []) (e_call3 ⟨p,ih⟩ cd C loc f (ih cd C loc W.s (.evs args))):=by
 intro sh t Q E hQ
 refine callWith_of (P:=fun h=>∃ W':Wd,W'.h=h/\Rel V w.params Hz fs C W' loc/\W'.R V f fv) (by rw [kg];rfl) (fun h ⟨W',e,R',r⟩=>e▸Pr.keep R' r hk) ?_
 exact zv (kg _ _ _) (pv_vsX (I.evs AO EO R args) hQ (fun as vs W1 t1 hL1 R1 S1 hv hQ=>⟨⟨W1,rfl,R1,S1.R hf⟩,I.cal AO R1 (S1.R hf) hv sh t1 Q E hQ⟩) (by trivial))
theorem d_call (f:XE) (args:List XE) (q:Pos) (hn:nameOk f=true):Does prog w V Hz A fs l C W loc (eval (kj (.cal f args q) C) env) (e_call2 ⟨p,ih⟩ cd C loc args (ih cd C loc W.s (.ev f))):=by
 intro sh t Q E hQ
 rw [evalCal hn,qo]
 refine jr (pv_vX (I.ev AO EO R f) hQ (fun x va W1 t1 hL1 R1 S1 ha hQ=>?_) (by trivial))
 exact PV.tt hQ fun hk hQ=>d_callWith I AO R1 ha hk args (EO.mv hL1) Pr q sh t1 Q E hQ
end
theorem embEs_length (C:EC):∀ es:List XE,(km es C).length=es.length
 |[]=>rfl
 |e :: r=>by simp [km,embEs_length C r]
theorem methodCall_of {M:Model} {A:Around} {E:VP} {s:Shared} {o:PySem.Expr} {name:Str} {apos pos:Pos} {env:Env} {ov f:Value} {first:List Value} {n:Nat} {xs:List (Bool × Sem Value)} {Q:VP}
  (hp:xs.any (·.1)=false) (hn:n < 30) (hl:(apos.endLine == pos.line)=true)
  (hg:∀ {pl Q'},Q' (f,first) s->wpR M A (getMethod ov name pl) Q' E s) (h:wpR M A (callWith pos f first xs []) Q E s):wpR M A (methodCall o name apos pos env ov n xs []) Q E s:=by
 have hall:xs.all (!·.1)=true:=by
  rw [List.all_eq_not_any_not]
  simpa using hp
 have hform:methodCallForm n xs []=true:=by
  unfold methodCallForm
  rw [hall]
  simp [hn]
 have hpos:methodCallPos true o env apos pos=pure pos:=by unfold methodCallPos;simp [hl]
 unfold methodCall
 rw [hform]
 refine jr (ju ?_)
 show wpR M A (getMethod ov name _) _ _ _
 refine hg ?_
 exact jr (jw hpos h)
theorem mclOk_of {o:XE} {ap q:Pos} {args:List XE} (h:mclOk o ap args q=true):baseOk o=true/\(ap.endLine == q.line)=true/\args.length < 29:=by
 unfold mclOk at h
 cases h1:baseOk o<;>rw [h1] at h
 ·exact (jh h).elim
 ·cases h2:Nat.beq ap.endLine q.line<;>rw [h2] at h
  ·exact (jh h).elim
  ·exact ⟨rfl,by rw [je h2];simp,kh h⟩
theorem ofB_eq (n:Nat) (s:Mine.St) (b:Bool):ofB n s (some b)=.v (.bo b) s:=by induction b<;>rfl
theorem marks_emb (op:CmpOp) (e:XE) (C:EC):behindInMarks op (kj e C)=false:=by cases e<;>exact Eq.refl false
set_option smartUnfolding false in
theorem mcl_inv {PP:Res->Prop} (hn:∀ n,¬ PP (.fail n)) {z:Z} {cd:Nat} {C:EC} {loc:List AV} {a:Nat} {args:List XE} {x:AV} {s:Mine.St} {G:Prop} (h:PP (e_mcl2 z cd C loc a args (.v x s)))
  (k1:∀ k es f,x=.ob k->qb s k (.id es)->okEs es=true->look es a=none->look wmeth a=some f->PP (e_mcl3 z cd C loc k f (z.ih cd C loc s (.evs args)))->G)
  (k2:∀ id,mId (mkind x s) a=some id->PP (e_mcl4 (mkind x s) x a (z.ih cd C loc s (.evs args)))->G):G:=by
 refine J.so2 (Φ:=PP) (o:=x.ob?) h (fun k e h=>J.id (hn 4) h fun es hc h=>J.tt (hn 4) h fun hok h=>J.so2 (Φ:=PP) (o:=look es a) h (fun _ _ h=>(hn 4 h).elim) fun ha h=>J.so (hn 4) h fun f hf h=>?_) fun _ h=>J.so (hn 4) h fun id e h=>k2 id e h
 exact k1 k es f (AV.ob?_eq e) (by rw [ke] at hc;exact hc) hok ha hf h
theorem cmp_inv {PP:Res->Prop} (hn:∀ n,¬ PP (.fail n)) {z:Z} {cd:Nat} {C:EC} {loc:List AV} {x:AV} {s:Mine.St} {M:List CmpOp->List XE->Prop} (h1:∀ op r,PP (e_cmp4 op x (z.ih cd C loc s (.ev r)))->M [op] [r]) (h2:∀ op op' r r',PP (e_cmp3 z cd C loc op x op' r' (z.ih cd C loc s (.ev r)))->M [op,op'] [r,r']):
  ∀ {ops rs},PP (e_cmp2 z cd C loc ops rs (.v x s))->M ops rs
 |[op],[r],h=>h1 op r h
 |[op,op'],[r,r'],h=>h2 op op' r r' h
 |[],_,h|[_],[],h|[_],_ :: _ :: _,h|[_,_],[],h|[_,_],[_],h|[_,_],_ :: _ :: _ :: _,h|_ :: _ :: _ :: _,_,h=>(hn 10 h).elim
theorem chain1 (q:Pos) (va:Value) (op:CmpOp) (r:XE) (C:EC) (env:Env):compareChain q va [op] (markedEach [op] (km [r] C) (evalEach (km [r] C) env))=(do let rv <- holding [va] (eval (kj r C) env);standAt q;operate [va,rv] (compareOp op va rv)):=by
 show compareChain q va [op] [markedBehindIn op (kj r C) (eval (kj r C) env)]=_
 rw [markedBehindIn_of_false (marks_emb op r C)]
 rfl
theorem chain2 (q:Pos) (va:Value) (op op':CmpOp) (r r':XE) (C:EC) (env:Env):compareChain q va [op,op'] (markedEach [op,op'] (km [r,r'] C) (evalEach (km [r,r'] C) env))=(do
   let rv <- holding [va] (eval (kj r C) env)
   standAt q
   let c <- holding [va,rv] (compareOp op va rv)
   release [va,rv] [c]
   if <- holding [c,rv] (truthy c) then (do let rv' <- holding [rv] (eval (kj r' C) env);standAt q;operate [rv,rv'] (compareOp op' rv rv')) else pure c):=by
 show compareChain q va [op,op'] [eval (kj r C) env,markedBehindIn op' (kj r' C) (eval (kj r' C) env)]=_
 rw [markedBehindIn_of_false (marks_emb op' r' C)]
 rfl
theorem mcl_len {o:XE} {ap q:Pos} {args:List XE} {C:EC} (h:mclOk o ap args q=true):(km args C).length+0 < 30:=by
 have:=(mclOk_of h).2.2
 rw [embEs_length];omega
theorem plain2 (es:List XE) (C:EC) (env:Env):((each es C env).any (·.1) || ([]:List (Option Str × Sem Value)).any (·.1.isNone))=false:=by rw [kg];rfl
theorem cmp3_inv {PP:Res->Prop} (hn:∀ n,¬ PP (.fail n)) {z:Z} {cd:Nat} {C:EC} {loc:List AV} {op op':CmpOp} {x b:AV} {r:XE} {s:Mine.St} (h:PP (e_cmp3 z cd C loc op x op' r (.v b s))) {G:Prop}
  (k:∀ c,cmpOp s.sto op x b=some c->PP (match c with|true=>e_cmp4 op' b (z.ih cd C loc s (.ev r))|false=>.v (.bo false) s)->G):G:=by
 have h:PP (match cmpOp s.sto op x b with
  |some true=>e_cmp4 op' b (z.ih cd C loc s (.ev r))
  |some false=>.v (.bo false) s
  |none=>.fail 10):=h
 induction hc:cmpOp s.sto op x b with
 |none=>rw [hc] at h;exact (hn 10 h).elim
 |some c=>rw [hc] at h;exact k c hc (by induction c<;>exact h)
section
variable {prog:Program} {w:World} {V:Vl} {Hz:Heap} {p:Par} {fs:List Addr} {l:List Env} {C:EC} {W:Wd} {loc:List AV} {A:Around} {env:Env} {cd:Nat} {ih:RunTy}
variable (I:Ih prog w V Hz ih cd) (Pr:Prim prog w V Hz p) (AO:AOk cd l fs A) (EO:EnvOk C W.L env) (R:Rel V w.params Hz fs C W loc)
include I AO EO R Pr
omit I AO EO R in
theorem evalMcl {o:XE} {a:Nat} {ap q:Pos} {args:List XE} (hb:baseOk o=true):eval (kj (.mcl o a ap args q) C) env=(do let ov <- eval (kj o C) env;standAt ap.atName;methodCall (kj o C) (atAt a) ap q env ov ((km args C).length+0) (each args C env) []):=by
 show eval (.Call (.Attribute (kj o C) (atAt a) ap) (km args C) [] q) env=_
 rw [arm_eval_Call,attBase Pr hb,qo]
 rfl
theorem d_mcl (o:XE) (a:Nat) (ap:Pos) (args:List XE) (q:Pos) (hm:mclOk o ap args q=true):
  Does prog w V Hz A fs l C W loc (eval (kj (.mcl o a ap args q) C) env) (e_mcl2 ⟨p,ih⟩ cd C loc a args (ih cd C loc W.s (.ev o))):=by
 intro sh t Q E hQ
 refine jz (evalMcl Pr (mclOk_of hm).1) (jr (pv_v0 (I.ev AO EO R o) hQ (fun x vo W1 t1 hL1 R1 S1 ho hQ=>jr (jt ?_)) (by trivial)))
 refine mcl_inv (PP:=fun r=>PV w.params V Hz fs l C W1 loc sh r Q E) (fun _ h=>h) hQ (fun k es f e hc hok ha hf hQ=>?_) fun id hid hQ=>?_
 ·have ⟨fi,hfi⟩:=Pr.wm a f hf
  have ho:W1.R V (.ob k) vo:=e▸ho
  have hfv:W1.R V (.fn f) (.ref fi.addr):=⟨fi,hfi,rfl⟩
  refine methodCall_of (f:=.ref fi.addr) (first:=[vo]) (kg _ _ _) (mcl_len hm) (mclOk_of hm).2.1 (fun {pl Q'} hq=>Pr.gi AO R1 hc hok ha hf ho fun fi' e=>jf (hfi.symm.trans e)▸hq) ?_
  exact callWith_of (P:=fun h=>∃ W':Wd,W'.h=h/\Rel V w.params Hz fs C W' loc/\W'.R V (.fn f) (.ref fi.addr)) (plain2 _ _ _) (fun h ⟨W',e,R',r⟩=>e▸Pr.keep R' r rfl) (zv (kg _ _ _) (pv_vsX (F:=e_mcl3 ⟨p,ih⟩ cd C loc k f) (I.evs AO (EO.mv hL1) R1 args) hQ (fun as vs W2 t2 hL2 R2 S2 hv hQ=>⟨⟨W2,rfl,R2,S2.R hfv⟩,I.cal AO R2 (S2.R hfv) (ku.consI (S2.R ho) hv) sh t2 Q E hQ⟩) (by trivial)))
 ·exact methodCall_of (f:=.builtin id) (first:=[vo]) (kg _ _ _) (mcl_len hm) (mclOk_of hm).2.1 (fun {pl Q'} hq=>Pr.gm AO R1 ho hid hq) (callWith_builtin (kg _ _ _) (zv (kg _ _ _) (pv_vs0 (F:=e_mcl4 (mkind x W1.s) x a) (I.evs AO (EO.mv hL1) R1 args) hQ (fun as vs W2 t2 hL2 R2 S2 hv hQ=>PV.tt hQ fun hkd hQ=>Pr.methB AO R2 (S2.R ho) hv ((je hkd).symm▸hid) sh t2 Q E hQ) (by trivial))))
theorem d_cmp4 (op:CmpOp) {a:AV} {va:Value} (ha:W.R V a va) (b:XE) {sh:Shared} {t:Nat} {Q:VP} {E:VP}
  (hQ:PV w.params V Hz fs l C W loc sh (e_cmp4 op a (ih cd C loc W.s (.ev b))) Q E):
  wpR (model prog w) A (eval (kj b C) env) (fun vb s=>wpR (model prog w) A (compareOp op va vb) Q E s) E (at' sh W t):=by
 refine pv_v0 (I.ev AO EO R b) hQ (fun b vb W2 t2 hL2 R2 S2 hb hQ=>?_) (by trivial)
 have hQ:PV w.params V Hz fs l C W2 loc sh (ofB 10 W2.s (cmpOp W2.s.sto op a b)) Q E:=hQ
 induction hc:cmpOp W2.s.sto op a b with
 |none=>rw [hc] at hQ;exact hQ.elim
 |some r=>
  rw [hc,ofB_eq] at hQ
  exact Pr.cmp AO R2 (S2.R ha) hb hc fun W' t' e1 e2 R' S'=>hQ (.bool r) W' t' e1 e2 R' S' rfl
theorem d_cmp (a:XE) (ops:List CmpOp) (rs:List XE) (q:Pos):
  Does prog w V Hz A fs l C W loc (eval (kj (.cmp a ops rs q) C) env) (e_cmp2 ⟨p,ih⟩ cd C loc ops rs (ih cd C loc W.s (.ev a))):=by
 intro sh t Q E hQ
 refine jz (m:=eval (.Compare (kj a C) ops (km rs C) q) env) (arm_eval_Compare ..) (jr (pv_v0 (I.ev AO EO R a) hQ (fun x va W1 t1 hL1 R1 S1 ha hQ=>?_) (by trivial)))
 have EO1:=EO.mv hL1
 revert hQ
 refine cmp_inv (PP:=fun r=>PV w.params V Hz fs l C W1 loc sh r Q E) (M:=fun ops rs=>wpR (model prog w) A (compareChain q va ops (markedEach ops (km rs C) (evalEach (km rs C) env))) Q E (at' sh W1 t1)) (fun _ h=>h) (fun op r hQ=>?_) fun op op' r r' hQ=>?_
 ·exact jz (chain1 q va op r C env) <| jr (ju (jq (d_cmp4 I Pr AO EO1 R1 op ha r hQ) (fun vb s hb=>jr (jt (gf hb))) fun _ _ x=>x))
 ·refine jz (chain2 q va op op' r r' C env) <| jr (ju (pv_v0 (F:=e_cmp3 ⟨p,ih⟩ cd C loc op x op' r') (I.ev AO EO1 R1 r) hQ (fun b vb W2 t2 hL2 R2 S2 hb hQ=>jr (jt (jr (ju ?_)))) (by trivial)))
  refine cmp3_inv (PP:=fun r=>PV w.params V Hz fs l C W2 loc sh r Q E) (fun _ h=>h) hQ fun c hc hQ=>?_
  refine Pr.cmp AO R2 (S2.R ha) hb hc fun W3 t3 e1 e2 R3 S3=>jr (wpR_release (jr (ju (jy ?_))))
  induction c with
  |false=>exact jv (hQ (.bool false) W3 t3 e1 e2 R3 S3 rfl)
  |true=>
   rw [<- e2] at hQ
   exact jr (ju (jq (d_cmp4 I Pr AO ((EO1.mv hL2).mv e1) R3 op' (S3.R hb) r' (PV.mv S3 e1 hQ)) (fun vb s hb=>jr (jt (gf hb))) fun _ _ x=>x))
end
theorem part_emb (C:EC) (env:Env) (x:Option XE):valueOrNone (evalOpt (embO x C) env)=eval (kj (xopt x) C) env:=by induction x<;>rfl
theorem chainT1 (q:Pos) (va:Value) (op:CmpOp) (r:XE) (C:EC) (env:Env):testChain q va [op] (markedEach [op] (km [r] C) (evalEach (km [r] C) env))=(do let rv <- holding [va] (eval (kj r C) env);standAt q;let c <- operate [va,rv] (compareOp op va rv);holding [c] (truthy c)):=by
 show testChain q va [op] [markedBehindIn op (kj r C) (eval (kj r C) env)]=_
 rw [markedBehindIn_of_false (marks_emb op r C)]
 rfl
theorem chainT2 (q:Pos) (va:Value) (op op':CmpOp) (r r':XE) (C:EC) (env:Env):testChain q va [op,op'] (markedEach [op,op'] (km [r,r'] C) (evalEach (km [r,r'] C) env))=(do
   let rv <- holding [va] (eval (kj r C) env)
   standAt q
   let c <- holding [va,rv] (compareOp op va rv)
   release [va,rv] [c]
   if <- holding [c,rv] (truthy c) then (do let rv' <- holding [rv] (eval (kj r' C) env);standAt q;let c' <- operate [rv,rv'] (compareOp op' rv rv');holding [c'] (truthy c')) else pure false):=by
 show testChain q va [op,op'] [eval (kj r C) env,markedBehindIn op' (kj r' C) (eval (kj r' C) env)]=_
 rw [markedBehindIn_of_false (marks_emb op' r' C)]
 rfl
theorem bop2_inv {PP:Res->Prop} (hn:∀ n,¬ PP (.fail n)) {z:Z} {cd:Nat} {C:EC} {loc:List AV} {op:BoolOp} {rest:List XE} {q:Pos} {a:AV} {s:Mine.St} (h:PP (e_bop2 z cd C loc op rest q (.v a s))) {M:BoolOp->AV->Prop}
  (k1:PP (z.ih cd C loc s (.ev (.bop .And rest q)))->M .And (.bo true)) (k2:PP (.v (.bo false) s)->M .And (.bo false)) (k3:PP (.v (.bo true) s)->M .Or (.bo true)) (k4:PP (z.ih cd C loc s (.ev (.bop .Or rest q)))->M .Or (.bo false)):M op a:=
 J.bo (hn 11) h fun b e h=>by
  subst e
  cases op<;>cases b
  ·exact k2 h
  ·exact k1 h
  ·exact k4 h
  ·exact k3 h
section
variable {prog:Program} {w:World} {V:Vl} {Hz:Heap} {p:Par} {fs:List Addr} {l:List Env} {C:EC} {W:Wd} {loc:List AV} {A:Around} {env:Env} {cd:Nat} {ih:RunTy}
variable (I:Ih prog w V Hz ih cd) (Pr:Prim prog w V Hz p) (AO:AOk cd l fs A) (EO:EnvOk C W.L env) (R:Rel V w.params Hz fs C W loc) (G:Gd prog w V Hz)
include I AO EO R Pr G
set_option backward.match.sparseCases true in
theorem d_bop (op:BoolOp) (vs:List XE) (q:Pos):Does prog w V Hz A fs l C W loc (eval (kj (.bop op vs q) C) env) (e_bop ⟨p,ih⟩ cd C loc W.s op vs q):=by
 intro sh t Q E hQ
 match vs with
 |[]=>exact hQ.elim
 |[x]=>exact I.ev AO EO R x sh t Q E hQ
 |x :: y :: r=>
  show wpR _ _ (do
   let v <- eval (kj x C) env
   standAt q
   let t <- holding [v] (truthy v)
   match op,t with
   |.And,false|.Or,true=>pure v
   |_,_=>boolOp q op (evalEach (km (y :: r) C) env)) _ _ _
  refine jr (pv_v0 (F:=e_bop2 ⟨p,ih⟩ cd C loc op (y :: r) q) (I.ev AO EO R x) hQ (fun a va W1 t1 hL1 R1 S1 ha hQ=>jr (jt ?_)) (by trivial))
  clear S1
  revert va
  refine bop2_inv (PP:=fun r=>PV w.params V Hz fs l C W1 loc sh r Q E) (M:=fun op a=>∀ va,W1.R V a va->wpR (model prog w) A (holding [va] (truthy va) >>= fun t=>match op,t with
   |.And,false|.Or,true=>pure va
   |_,_=>boolOp q op (evalEach (km (y :: r) C) env)) Q E (at' sh W1 t1)) (fun _ h=>h) hQ (fun h va e=>?_) (fun h va e=>?_) (fun h va e=>?_) fun h va e=>?_<;>cases (show va=.bool _ from e)<;>refine jr (ju (jy ?_))
  ·exact I.ev AO (EO.mv hL1) R1 (.bop .And (y :: r) q) sh t1 Q E h
  ·exact jv (h _ W1 t1 rfl rfl R1 (.refl fs W1) rfl)
  ·exact jv (h _ W1 t1 rfl rfl R1 (.refl fs W1) rfl)
  ·exact I.ev AO (EO.mv hL1) R1 (.bop .Or (y :: r) q) sh t1 Q E h
omit I Pr AO EO R G in
theorem evalSlc (o:XE) (lo hi st:Option XE) (q' q:Pos):eval (kj (.sub o (.slc lo hi st q') q) C) env=(do
  let ov <- eval (kj o C) env
  let iv <- holding [ov] (do
   let a <- eval (kj (xopt lo) C) env
   let b <- holding [a] (eval (kj (xopt hi) C) env)
   let c <- holding [a,b] (eval (kj (xopt st) C) env)
   newFields "slice" [a,b,c])
  standAt q
  let y <- getitemInPython ov
  let r <- subscripted (kj (.slc lo hi st q') C) y ov iv
  letTemporaryGo (kj o C) ov r
  pure r):=by
 show eval (.Subscript (kj o C) (.Slice (embO lo C) (embO hi C) (embO st C) q') q) env=_
 rw [arm_eval_Subscript,arm_eval_Slice,part_emb,part_emb,part_emb]
 rfl
theorem d_slc (o:XE) (lo hi st:Option XE) (q' q:Pos):Does prog w V Hz A fs l C W loc (eval (kj (.sub o (.slc lo hi st q') q) C) env) (e_slc2 ⟨p,ih⟩ cd C loc lo hi st (ih cd C loc W.s (.ev o))):=by
 intro sh t Q E hQ
 refine jz (evalSlc o lo hi st q' q) ?_
 refine jr (pv_v0 (I.ev AO EO R o) hQ (fun x vo W1 t1 hL1 R1 S1 ho hQ=>jr (ju (jr ?_))) (by trivial))
 refine pv_v0 (F:=e_slc3 ⟨p,ih⟩ cd C loc hi st x) (I.ev AO (EO.mv hL1) R1 (xopt lo)) hQ (fun a vl W2 t2 hL2 R2 S2 hl hQ=>jr (ju ?_)) (by trivial)
 refine pv_v0 (F:=e_slc4 ⟨p,ih⟩ cd C loc st x a) (I.ev AO ((EO.mv hL1).mv hL2) R2 (xopt hi)) hQ (fun b vh W3 t3 hL3 R3 S3 hh hQ=>jr (ju ?_)) (by trivial)
 refine pv_v0 (F:=e_slc5 ⟨p,ih⟩ x a b) (I.ev AO (((EO.mv hL1).mv hL2).mv hL3) R3 (xopt st)) hQ (fun c vs W4 t4 hL4 R4 S4 hc hQ=>?_) (by trivial)
 have P5:=R4.push { cls:=.type "slice",data:=.fields #[vl,vh,vs] }
 have S45:=S4.trans P5.2
 unfold newFields
 exact wpR_newObj_type (jr (jt (wpR_assoc (Pr.slc AO P5.1 ((S2.trans (S3.trans S45)).R ho) ((S3.trans S45).R hl) (S45.R hh) (P5.2.R hc) (embO lo C) (embO hi C) (embO st C) q' _ (Heap.get?_push_size _ rfl) sh t4 (fun r s=>wpR (model prog w) A (letTemporaryGo (kj o C) vo r >>= fun _=>pure r) Q E s) E
  (PV.imp (PV.mv P5.2 rfl hQ) fun v s hq=>jr (zy (jv hq)))))))
theorem PB.any {P:Params} {V:Vl} {Hz:Heap} {fs:List Addr} {l:List Env} {C:EC} {W:Wd} {loc:List AV} {sh:Shared} {r:Res} {Q:Bool->Shared->Prop} {E:VP} (h:PB P V Hz fs l C W loc sh (t_any r) Q E) (hx:r.kd ≠ 4):PV P V Hz fs l C W loc sh r (fun v s=>∃ b,v=.bool b/\Q b s) E:=by
 induction r with
 |v a s=>exact J.bo (Φ:=fun r=>PB P V Hz fs l C W loc sh r Q E) (d:=.fail 15) id h fun b e h v W' t a1 a2 R' S' hv=>⟨b,by subst e;exact hv,h W' t a1 a2 R' S'⟩
 |ex k s=>exact absurd rfl hx
 |_=>exact h.elim
omit I Pr AO EO R G in
theorem cmp4_kd (op:CmpOp) (x:AV) (r:Res):(e_cmp4 op x r).kd ≠ 4:=by
 induction r with
 |v b s2=>
  show (ofB 10 s2 (cmpOp s2.sto op x b)).kd ≠ 4
  induction cmpOp s2.sto op x b with
  |none=>exact nofun
  |some c=>rw [ofB_eq];exact nofun
 |_=>exact nofun
theorem d_tfin (op:CmpOp) {x:AV} {va:Value} (ha:W.R V x va) (r:XE) (q:Pos) {sh:Shared} {t:Nat} {Q:Bool->Shared->Prop} {E:VP} (h:PB w.params V Hz fs l C W loc sh (t_any (e_cmp4 op x (ih cd C loc W.s (.ev r)))) Q E) {hold:List Value}:
  wpR (model prog w) A (do let rv <- holding hold (eval (kj r C) env);standAt q;let c <- operate [va,rv] (compareOp op va rv);holding [c] (truthy c)) Q E (at' sh W t):=
 jr (ju (jq (d_cmp4 I Pr AO EO R op ha r (PB.any I Pr AO EO R G h (cmp4_kd _ _ _))) (fun vb s hb=>jr (jt (jr (gf (jq hb (fun c s' ⟨b,e,hq⟩=>e▸ju (jy hq)) fun _ _ x=>x))))) fun _ _ x=>x))
theorem d_tcmp (a:XE) (ops:List CmpOp) (rs:List XE) (q:Pos) (whole:Sem Value):
  DoesB prog w V Hz A fs l C W loc (isTrue (kj (.cmp a ops rs q) C) env whole) (t_any (e_cmp2 ⟨p,ih⟩ cd C loc ops rs (ih cd C loc W.s (.ev a)))):=by
 intro sh t Q E hQ
 refine jz (m:=isTrue (.Compare (kj a C) ops (km rs C) q) env whole) (arm_isTrue_Compare ..) (jr (pb_v0 (F:=fun r=>t_any (e_cmp2 ⟨p,ih⟩ cd C loc ops rs r)) (I.ev AO EO R a) hQ (fun x va W1 t1 hL1 R1 S1 ha hQ=>?_) (by trivial)))
 have EO1:=EO.mv hL1
 revert hQ
 refine cmp_inv (PP:=fun r=>PB w.params V Hz fs l C W1 loc sh (t_any r) Q E) (M:=fun ops rs=>wpR (model prog w) A (testChain q va ops (markedEach ops (km rs C) (evalEach (km rs C) env))) Q E (at' sh W1 t1)) (fun _ h=>h) (fun op r hQ=>?_) fun op op' r r' hQ=>?_
 ·exact jz (chainT1 q va op r C env) (d_tfin I Pr AO EO1 R1 G op ha r q hQ)
 ·refine jz (chainT2 q va op op' r r' C env) (jr (ju (pb_v0 (F:=fun y=>t_any (e_cmp3 ⟨p,ih⟩ cd C loc op x op' r' y)) (I.ev AO EO1 R1 r) hQ (fun b vb W2 t2 hL2 R2 S2 hb hQ=>jr (jt (jr (ju ?_)))) (by trivial))))
  refine cmp3_inv (PP:=fun r=>PB w.params V Hz fs l C W2 loc sh (t_any r) Q E) (fun _ h=>h) hQ fun c hc hQ=>?_
  refine Pr.cmp AO R2 (S2.R ha) hb hc fun W3 t3 e1 e2 R3 S3=>jr (wpR_release (jr (ju (jy ?_))))
  induction c with
  |false=>exact jv (hQ W3 t3 e1 e2 R3 S3)
  |true=>
   rw [<- e2] at hQ
   exact d_tfin I Pr AO ((EO1.mv hL2).mv e1) R3 G op' (S3.R hb) r' q (PB.mv S3 e1 hQ)
theorem d_tany (e:XE) (he:isTrue (kj e C) env (eval (kj e C) env)=(do let v <- eval (kj e C) env;standAt (kj e C).pos;holding [v] (truthy v))):
  DoesB prog w V Hz A fs l C W loc (isTrue (kj e C) env (eval (kj e C) env)) (t_any (ih cd C loc W.s (.ev e))):=by
 intro sh t Q E hQ
 refine wpR_isTrue_value (pb_v0 (I.ev AO EO R e) hQ (fun a va W1 t1 hL1 R1 S1 ha hQ=>?_) (by trivial)) he
 refine J.bo (Φ:=fun r=>PB w.params V Hz fs l C W1 loc sh r Q E) (d:=.fail 15) id hQ fun b e hQ=>?_
 subst e
 cases (show va=.bool b from ha)
 exact jy (hQ W1 t1 rfl rfl R1 (.refl fs W1))
set_option backward.match.sparseCases true in
theorem d_tbop (op:BoolOp) (vs:List XE) (q:Pos):DoesB prog w V Hz A fs l C W loc (allTrue op (km vs C) env) (t_bop ⟨p,ih⟩ cd C loc W.s op vs q):=by
 intro sh t Q E hQ
 induction vs using List.casesOn with
 |nil=>induction op<;>exact jv (hQ W t rfl rfl R (.refl fs W))
 |cons x r=>
  show wpR _ _ (do
   match op,<- isTrue (kj x C) env (eval (kj x C) env) with
   |.And,false=>pure false
   |.Or,true=>pure true
   |_,_=>allTrue op (km r C) env) _ _ _
  refine jr (pb_b0 (F:=t_bop2 ⟨p,ih⟩ cd C loc op r q) (I.tst AO EO R x) hQ (fun b W1 t1 hL1 R1 S1 hQ=>?_) (by trivial))
  have EO1:=EO.mv hL1
  induction op with
  |And=>induction b with
   |true=>exact I.tst AO EO1 R1 (.bop .And r q) sh t1 Q E hQ
   |false=>exact jv (hQ W1 t1 rfl rfl R1 (.refl fs W1))
  |Or=>induction b with
   |true=>exact jv (hQ W1 t1 rfl rfl R1 (.refl fs W1))
   |false=>exact I.tst AO EO1 R1 (.bop .Or r q) sh t1 Q E hQ
theorem d_tst (e:XE):DoesB prog w V Hz A fs l C W loc (isTrue (kj e C) env (eval (kj e C) env)) (s_tst ⟨p,ih⟩ cd C loc W.s e):=by
 cases e with
 |uny op x q=>
  induction op with
  |Not=>exact fun sh t Q E hQ=>wpR_isTrue_Not (pb_b0 (F:=t_not) (I.tst AO EO R x) hQ (fun b W1 t1 hL1 R1 S1 hQ=>hQ W1 t1 rfl rfl R1 (.refl fs W1)) (by trivial))
  |_=>exact d_tany I Pr AO EO R G _ rfl
 |bop op vs q=>exact fun sh t Q E hQ=>wpR_isTrue_BoolOp (d_tbop I Pr AO EO R G op vs q sh t Q E hQ)
 |ife a b o q=>
  intro sh t Q E hQ
  show wpR _ _ (do if <- isTrue (kj a C) env (eval (kj a C) env) then isTrue (kj b C) env (eval (kj b C) env) else isTrue (kj o C) env (eval (kj o C) env)) _ _ _
  refine jr (pb_b0 (F:=t_ife2 ⟨p,ih⟩ cd C loc b o) (I.tst AO EO R a) hQ (fun c W1 t1 hL1 R1 S1 hQ=>?_) (by trivial))
  induction c with
  |true=>exact I.tst AO (EO.mv hL1) R1 b sh t1 Q E hQ
  |false=>exact I.tst AO (EO.mv hL1) R1 o sh t1 Q E hQ
 |cmp a ops rs q=>exact d_tcmp I Pr AO EO R G a ops rs q _
 |_=>exact d_tany I Pr AO EO R G _ rfl
end
theorem qn (V:Vl) (l:List Nat):flat V (mkCk l)=l:=by
 induction l using List.casesOn with
 |nil=>rfl
 |cons x r=>simp [mkCk,flat]
section
variable {P:Params} {V:Vl} {Hz:Heap} {fs:List Addr} {l:List Env} {C:EC} {W:Wd} {loc:List AV} {sh:Shared} {E:VP}
theorem PV.retA {a:AV} {Q} (h:PV P V Hz fs l C W loc sh (retA W.s a) Q E):fitA a=true/\PV P V Hz fs l C W loc sh (.v a W.s) Q E:=by
 simp only [Mine.retA,fA_eq] at h
 induction hf:fitA a with
 |true=>rw [hf] at h;exact ⟨rfl,h⟩
 |false=>rw [hf] at h;exact h.elim
theorem qf:∀ (l:List Str),(uns l).length=l.length
 |[]=>rfl
 |_ :: r=>by simp [uns,qf r]
theorem qp:∀ (l:List Str) (i:Nat) (a:AV),(uns l)[i]?=some a->a=AV.un
 |[],_,_,h=>by simp [uns] at h
 |_ :: r,0,a,h=>by simp [uns] at h;exact h.symm
 |_ :: r,i+1,a,h=>qp r i a (by simpa [uns] using h)
theorem Rel.forget (R:Rel V P Hz fs C W loc) {h':Heap} (hk:∀ b o,b ≠ W.L->W.h.get? b=some o->h'.get? b=some o) {m:Str->Option Value} (hm:h'.Ns W.L m):
  Rel V P Hz fs C { W with h:=h' } (uns C.names)/\Stp fs W { W with h:=h' }:=by
 have himm:∀ b o,W.h.get? b=some o->qm o->h'.get? b=some o:=fun b o e y=>hk b o (fun q=>R.imm_ne e y (.inl q)) e
 refine ⟨⟨fun b o e=>hk b o (fun q=>?_) (R.base b o e),R.b0,qf _,⟨m,hm,fun i x a _ e=>.inl (qp _ _ _ e)⟩,fun j c hl=>?_,R.inj,R.nL,R.nF,fun b hb=>?_,R.srt⟩,⟨jj _,fun _ _=>rfl,himm,fun b o e hq=>⟨o,hk b o (fun q=>hq (.inl q)) e,.inl rfl⟩,fun b q=>.inl q⟩⟩
 ·have:=R.b0 b (.inl q);rw [e] at this;exact (jg _ this).elim
 ·have y:=R.cell j c hl
  exact ⟨y.1,y.2.mono (fun o e=>hk _ o (fun q=>R.nL j c hl q) e) himm (jj _) fun _ _=>rfl⟩
 ·obtain ⟨x,o,es,ep,e,d⟩:=R.f0 b hb
  by_cases q:b=W.L
  ·subst q
   refine fr fun G g=>?_
   obtain ⟨o',es',ep',e',d',_⟩:=hm
   refine g ?_
   exact ⟨x,o',es',ep',e',d'⟩
  ·exact ⟨x,o,es,ep,hk b o q e,d⟩
end
structure Off (Hz:Heap) (fs:List Addr) (W W':Wd) (L':Addr):Prop where
 ns:∃ m,W'.h.Ns L' m
 nL:L' ≠ W'.L
 nf:L' ∉ fs
 n0:Hz.get? L'=none
 nc:∀ i c,qb W'.s i c->W'.ρ i ≠ L'
 fr:∀ o,W.h.get? L'=some o->Mu W L'
theorem Rel.off {P:Params} {V:Vl} {Hz:Heap} {fs:List Addr} {C:EC} {W W':Wd} {loc:List AV} {L':Addr} (R:Rel V P Hz fs C W' loc) (S:Stp fs W W') (F:Off Hz fs W W' L') {h':Heap} (hk:∀ b o,b ≠ L'->W'.h.get? b=some o->h'.get? b=some o):
  Rel V P Hz fs C { W' with h:=h' } loc/\Stp fs W { W' with h:=h' }:=by
 refine fr fun G g=>?_
 obtain ⟨m',o',es',ep',e',d',_⟩:=F.ns
 refine g ?_
 have himm:∀ b o,W'.h.get? b=some o->qm o->h'.get? b=some o:=fun b o e y=>hk b o (fun q=>by
  rw [q,e'] at e;obtain rfl:=jf e;exact y.2 _ _ d') e
 refine ⟨⟨fun b o e=>hk b o (fun q=>?_) (R.base b o e),R.b0,R.len,?_,fun j c hl=>?_,R.inj,R.nL,R.nF,fun b hb=>?_,R.srt⟩,⟨S.nx,S.ρ,fun b o e y=>himm b o (S.imm b o e y) y,fun b o e hm=>?_,S.fr⟩⟩
 ·rw [q,F.n0] at e;exact (jg _ e.symm).elim
 ·obtain ⟨m,⟨o,es,ep,e,r⟩,hl⟩:=R.ns
  exact ⟨m,⟨o,es,ep,hk _ _ F.nL.symm e,r⟩,fun i x a e1 e2=>(hl i x a e1 e2).imp_right fun ⟨v,e3,r⟩=>⟨v,e3,kz.mono himm (jj _) (fun _ _=>rfl) r⟩⟩
 ·have y:=R.cell j c hl
  exact ⟨y.1,y.2.mono (fun o e=>hk _ o (F.nc j c hl) e) himm (jj _) fun _ _=>rfl⟩
 ·obtain ⟨x,o,es,ep,e,d⟩:=R.f0 b hb
  exact ⟨x,o,es,ep,hk b o (fun q=>F.nf (q▸hb)) e,d⟩
 ·obtain ⟨o',e',sm⟩:=S.oth b o e hm
  exact ⟨o',hk b o' (fun q=>hm (q▸F.fr o (q▸e))) e',sm⟩
section
variable {prog:Program} {w:World} {V:Vl} {Hz:Heap} {p:Par} {fs:List Addr} {l:List Env} {C:EC} {W:Wd} {loc:List AV} {A:Around} {env:Env} {cd:Nat} {ih:RunTy}
variable (I:Ih prog w V Hz ih cd) (Pr:Prim prog w V Hz p) (AO:AOk cd l fs A) (EO:EnvOk C W.L env) (R:Rel V w.params Hz fs C W loc) (G:Gd prog w V Hz)
include I AO EO R Pr G
theorem compEnvOk {cc:CI} (h:CiOk cc) (L:Addr):EnvOk cc.ec L { newEnv cc.sc L env.globals [] env.qual none .none (some env) builtinsNs with scope:=cc.sc }:=
 ⟨h.kind,rfl,EO.gl,EO.bu,h.names,h.gls,h.nd⟩
set_option tactic.hygienic true in
omit I Pr AO EO R G in
theorem comp3 {PP:Res->Prop} (hn:∀ n,¬ PP (.fail n)) {acc:Nat} {r:Res} (h:PP (e_comp3 acc r)) {G:Prop} (k:∀ loc s,flO r=.fl .next loc s->PP (.v (.ce acc) s)->G):G:=by
 induction r with
 |fl f loc s=>induction f with
  |next=>exact k loc s rfl h
  |_=>exact (hn _ h).elim
 |_=>exact (hn _ h).elim
omit I Pr AO EO R G in
theorem off_of {C':EC} {loc':List AV} {W2 W4:Wd} (R2:Rel V w.params Hz fs C W2 loc) (R4:Rel V w.params Hz fs C' W4 loc') (hL4:W4.L=W2.h.objs.size) (hno:∀ b o,W2.h.get? b=some o->b ≠ W2.h.objs.size) (S:Stp fs W W2):Off Hz fs W { W4 with L:=W2.L } W2.h.objs.size:=by
 refine ⟨?_,?_,?_,?_,?_,?_⟩
 ·exact R4.ns.imp fun m h=>hL4▸h.1
 ·exact R2.ns.elim fun _ ⟨⟨o,_,_,e,_⟩,_⟩ q=>hno _ _ e q.symm
 ·exact fun q=>(R2.f0 _ q).2.elim fun o ⟨_,_,e,_⟩=>hno _ _ e rfl
 ·induction e:Hz.get? W2.h.objs.size with
  |none=>rfl
  |some o=>exact absurd rfl (hno _ _ (R2.base _ _ e))
 ·exact fun j c hl q=>R4.nL j c hl (by rw [hL4];exact q)
 ·exact fun o e=>Classical.byContradiction fun hm=>(S.oth _ o e hm).elim fun o' h=>hno _ _ h.1 rfl
theorem comp_block {cc:CI} (hc:CiOk cc) (elt tgt:XE) (ifs:List XE) (itx:PySem.Expr) (q:Pos) {a:AV} {va:Value} (ha:W.R V a va) {sh:Shared} {t:Nat} {E:VP}
  {PP:Res->Prop} (hn:∀ n,¬ PP (.fail n)) (hP:PP (mkIter W.s a fun c s=>newC s (.li []) fun acc s=>e_comp3 acc (ih cd cc.ec (uns cc.ec.names) s (.cml elt tgt ifs c acc)))) {RR:Value->Env->Result->Shared->Prop}
  (K:∀ acc L' W' t',W'.L=W.L->Rel V w.params Hz fs C W' loc->Stp fs W W'->acc < W'.s.nx->PP (.v (.ce acc) W'.s)->Off Hz fs W W' L'->
   RR (.ref (W'.ρ acc)) { newEnv cc.sc L' env.globals [] env.qual none .none (some env) builtinsNs with scope:=cc.sc } (.ok .next) (at' sh W' t')):
  wpR (model prog w) A (pyIter va) (fun it s₂=>wpR (model prog w) A (newList []) (fun acc s₃=>
   wpR (model prog w) A (newFunctionEnv cc.sc env.globals [] [] env.qual none .none (some env)) (fun cenv s₄=>
    kb (model prog w) A (.compStart (.ListComp (kj elt cc.ec) [⟨kj tgt cc.ec,itx,km ifs cc.ec,0⟩] cc.sc q) 0 it acc { cenv with scope:=cc.sc }) (RR acc { cenv with scope:=cc.sc }) s₄) E s₃) E s₂) E (at' sh W t):=by
 refine Pr.iter AO R ha hn hP fun i W1 t1 ic hL1 hlive hit R1 S1 hP1=>?_
 have hi:i < W1.s.nx:=(R1.cell i ic hlive).1
 refine wpR_newList ?_ (by decide)
 simp only [newC,fN_eq] at hP1
 obtain ⟨W2,e1,e2,e3,e4,R2,S2⟩:=R1.new (h':=W1.h.push { cls:=.type "list",data:=.seq ([]:List Value).toArray }) (a:=W1.h.objs.size) (c:=.li []) (fun _ _ e=>ja _ e) (Heap.get?_none_of_le (jj _))
   fun ρ' hρ hρa=>⟨[],⟨_,Heap.get?_push_size _ rfl⟩,rfl⟩
 have hs:({ at' sh W1 t1 with heap:=(at' sh W1 t1).heap.push { cls:=.type "list",data:=.seq ([]:List Value).toArray } }:Shared)=at' sh W2 t1:=by
  rw [at'_eq e1];rfl
 show wpR _ _ _ _ _ ({ at' sh W1 t1 with heap:=(at' sh W1 t1).heap.push { cls:=.type "list",data:=.seq ([]:List Value).toArray } }:Shared)
 rw [hs]
 have hiρ:W1.ρ i=W2.ρ i:=(S2.ρ i hi).symm
 have hacc:W1.h.objs.size=W2.ρ W1.s.nx:=e4.symm
 refine gc hc.cell (by intro y hy;simp at hy) (fun h₁ hns₁ hsb₁=>?_) hc.kind
 have hLn:W2.h.get? W2.h.objs.size=none:=Heap.get?_none_of_le (jj _)
 have hk1:∀ b o,W2.h.get? b=some o->h₁.get? b=some o:=fun b o e=>hsb₁.extBut b o (Nat.ne_of_lt (Heap.lt_size e)) (ja _ e)
 obtain ⟨R3,S3⟩:=R2.enter (fs':=fs) (C':=cc.ec) (loc':=uns cc.ec.names) hk1 hLn (qf _) hns₁ (fun b hb=>.inl hb) (fun i x a _ e=>.inl (qp _ _ _ e))
 have EO3:=compEnvOk I Pr AO EO R G hc W2.h.objs.size
 rw [<- e3] at hP1
 have loop:kb (model prog w) A (.compLoop (.ListComp (kj elt cc.ec) [⟨kj tgt cc.ec,itx,km ifs cc.ec,0⟩] cc.sc q) 0 (.ref (W2.ρ i)) (.ref (W2.ρ W1.s.nx)) { newEnv cc.sc W2.h.objs.size env.globals [] env.qual none .none (some env) builtinsNs with scope:=cc.sc })
   (RR (.ref (W2.ρ W1.s.nx)) { newEnv cc.sc W2.h.objs.size env.globals [] env.qual none .none (some env) builtinsNs with scope:=cc.sc }) (at' sh { W2 with h:=h₁,L:=W2.h.objs.size } (t1+([]:List (Str × Value)).length)):=by
  refine codeR_mono (I.cml AO EO3 R3 elt tgt ifs i W1.s.nx itx cc.sc q sh _ (fun f s=>RR (.ref (W2.ρ W1.s.nx)) { newEnv cc.sc W2.h.objs.size env.globals [] env.qual none .none (some env) builtinsNs with scope:=cc.sc } (.ok f) s) (fun e s=>RR (.ref (W2.ρ W1.s.nx)) { newEnv cc.sc W2.h.objs.size env.globals [] env.qual none .none (some env) builtinsNs with scope:=cc.sc } (.error e) s) ?_) fun r s h=>by induction r<;>exact h
  refine comp3 (PP:=PP) hn hP1 fun loc' s4 hr hP1=>?_
  refine hr▸fun f' W4 t4 hL4 hs4 R4 S4 hf=>?_
  subst hs4
  refine fr fun G g=>?_
  obtain ⟨R5,S5⟩:=R2.back (fs':=fs) (L':=W2.h.objs.size) hk1 hLn (fun b hb=>.inl hb) (fun b hb=>hb) hL4 R4 S4
  have hlt:W1.s.nx < W2.s.nx:=by rw [e3];exact Nat.lt_succ_self _
  have hno:∀ b o,W2.h.get? b=some o->b ≠ W2.h.objs.size:=fun b o e q=>by rw [q,hLn] at e;exact (jg _ e.symm).elim
  have K':=K W1.s.nx W2.h.objs.size { W4 with L:=W2.L } t4 (e2.trans hL1) R5 (S1.trans (S2.trans S5)) (Nat.lt_of_lt_of_le hlt S4.nx) hP1
   (off_of R2 R4 hL4 hno (S1.trans S2))
  refine g ?_
  rw [show f'=.next from hf]
  rw [show (Wd.ρ { W4 with L:=W2.L } W1.s.nx)=W2.ρ W1.s.nx from S4.ρ _ hlt] at K'
  exact K'
 show kb _ _ (.compStart _ 0 (.ref (W1.ρ i)) (.ref W1.h.objs.size) _) (RR (.ref W1.h.objs.size) _) _
 rw [hiρ,hacc]
 have hb:env.builtins=builtinsNs:=EO.bu
 refine codeR_compStart_list loop ?_
 have live3:qb W2.s i ic:=by
  rw [e3]
  exact qc.mpr (.inr ⟨Nat.ne_of_lt hi,hlive⟩)
 exact Pr.it2 (W:={ W2 with h:=h₁,L:=W2.h.objs.size }) AO R3 live3 hit loop
theorem ciAt_eq {ci:Nat} {cc:CI} (h:nth ctab ci=some cc):ciAt ci=cc:=by unfold ciAt;rw [h]
omit I Pr AO EO R G in
theorem evalComp {ci:Nat} {cc:CI} (h:nth ctab ci=some cc) {elt tgt it:XE} {ifs:List XE} {q:Pos}:eval (kj (.cmp1 ci elt tgt it ifs q) C) env=eval (.ListComp (kj elt cc.ec) [⟨kj tgt cc.ec,kj it C,km ifs cc.ec,0⟩] cc.sc q) env:=by
 have h:ciAt ci=cc:=by unfold ciAt;rw [h]
 rw [<- h];rfl
omit I Pr AO EO R G in
theorem comp_inv {PP:Res->Prop} (hn:∀ n,¬ PP (.fail n)) {z:Z} {cd:Nat} {C:EC} {loc:List AV} {s:Mine.St} {ci:Nat} {elt tgt it:XE} {ifs:List XE} (h:PP (e_comp z cd C loc s ci elt tgt it ifs)) {G:Prop} (k:∀ cc,nth ctab ci=some cc->freeC ci=false->PP (e_comp2 z cd cc elt tgt ifs (z.ih cd C loc s (.ev it)))->G):G:=by
 have h:PP (match freeC ci with
  |true=>.fail 14
  |false=>match nth ctab ci with
   |some cc=>e_comp2 z cd cc elt tgt ifs (z.ih cd C loc s (.ev it))
   |none=>.fail 14):=h
 induction hf:freeC ci with
 |true=>rw [hf] at h;exact (hn _ h).elim
 |false=>
  rw [hf] at h
  induction hc:nth ctab ci with
  |some cc=>rw [hc] at h;exact k cc hc hf h
  |none=>rw [hc] at h;exact (hn _ h).elim
theorem d_comp (ci:Nat) (elt tgt it:XE) (ifs:List XE) (q:Pos):Does prog w V Hz A fs l C W loc (eval (kj (.cmp1 ci elt tgt it ifs q) C) env) (e_comp ⟨p,ih⟩ cd C loc W.s ci elt tgt it ifs):=by
 intro sh t Q E hQ
 refine comp_inv (PP:=fun r=>PV w.params V Hz fs l C W loc sh r Q E) (fun _ h=>h) hQ fun cc hc hf hQ=>?_
 have CO:=Pr.ci ci cc hc hf
 refine jz (evalComp hc) ?_
 refine wpR_ListComp CO.free CO.kind CO.loc (pv_v0 (F:=e_comp2 ⟨p,ih⟩ cd cc elt tgt ifs) (I.ev AO EO R it) hQ (fun a va W1 t1 hL1 R1 S1 ha hQ=>?_) (by trivial)) (fun x=>by cases it<;>rfl)
 refine comp_block I Pr AO (EO.mv hL1) R1 G CO elt tgt ifs (kj it C) q ha (PP:=fun r=>PV w.params V Hz fs l C W1 loc sh r Q E)
  (RR:=fun acc cenv r s'=>∃ m,s'.heap.Ns cenv.locals m/\∀ h',Heap.SameBut cenv.locals s'.heap h'->match r with|.ok _=>Q acc { s' with heap:=h' }|.error x=>wpR (model prog w) A (PySem.passOn "comprehension.variables-let-go" x cenv) Q E { s' with heap:=h' }) (fun n h=>h) hQ fun acc L' W' t' hL' R' S' hacc hP F=>?_
 exact F.ns.elim fun m hm=>⟨m,hm,fun h' hsb=>hP _ { W' with h:=h' } t' hL' rfl (R'.off S' F fun b o hb e=>hsb.extBut b o hb e).1 (R'.off S' F fun b o hb e=>hsb.extBut b o hb e).2 ⟨hacc,rfl⟩⟩
set_option smartUnfolding false in
theorem d_sub (o i:XE) (q:Pos):Does prog w V Hz A fs l C W loc (eval (kj (.sub o i q) C) env) (e_sub ⟨p,ih⟩ cd C loc W.s o i):=by
 have h:e_sub ⟨p,ih⟩ cd C loc W.s o i=match i.slc? with
  |some (lo,hi,st)=>e_slc2 ⟨p,ih⟩ cd C loc lo hi st (ih cd C loc W.s (.ev o))
  |none=>e_sub2 ⟨p,ih⟩ cd C loc i (ih cd C loc W.s (.ev o)):=rfl
 induction e:i.slc? with
 |none=>rw [h,e];exact d_sub2 I Pr AO EO R o i q e
 |some x=>
  rw [h,e]
  obtain ⟨q',rfl⟩:=XE.slc?_eq e
  exact d_slc I Pr AO EO R G o x.1 x.2.1 x.2.2 q' q
omit I Pr AO EO R in
theorem strAt_eq (k:Nat):strAt k=jk (stv k):=by
 unfold strAt stv
 induction hk:stab.get k with
 |none=>rfl
 |some q=>exact G.sta k q hk
theorem d_ev (e:XE):Does prog w V Hz A fs l C W loc (eval (kj e C) env) (s_ev ⟨p,ih⟩ cd C loc W.s e):=by
 cases e with
 |nm i q=>exact fun sh t Q E hQ=>.of (snd_nm R EO hQ)
 |gl j q=>exact fun sh t Q E hQ=>.of (snd_gl G R EO hQ)
 |cN q=>exact fun sh t Q E hQ=>wpR_Constant_none (hQ .none W t rfl rfl R (.refl fs W) rfl)
 |cB b q=>exact fun sh t Q E hQ=>wpR_Constant_bool (hQ (.bool b) W t rfl rfl R (.refl fs W) rfl)
 |cI i q=>exact fun sh t Q E hQ=>wpR_Constant_int ((PV.retA hQ).2 (.int i t) W (t+1) rfl rfl R (.refl fs W) ⟨t,rfl⟩)
 |cS k q=>exact fun sh t Q E hQ=>wpR_Constant_str (hQ (.str (strAt k) t) W (t+1) rfl rfl R (.refl fs W) ⟨t,by rw [strAt_eq G]⟩)
 |cY y q=>exact fun sh t Q E hQ=>jr (m:=fresh) (wpR_fresh (jv ((PV.retA hQ).2 (.bytes y.toArray t) W (t+1) rfl rfl R (.refl fs W) ⟨y.toArray,t,rfl,by rw [qn];rfl⟩)))
 |att e a q=>exact fun sh t Q E hQ=>PV.tt hQ fun hb hQ=>d_att I Pr AO EO R e a q hb sh t Q E hQ
 |cal f args q=>exact fun sh t Q E hQ=>PV.tt hQ fun hb hQ=>d_call I Pr AO EO R f args q hb sh t Q E hQ
 |mcl o a ap args q=>exact fun sh t Q E hQ=>PV.tt hQ fun hb hQ=>d_mcl I Pr AO EO R o a ap args q hb sh t Q E hQ
 |sub o i q=>exact d_sub I Pr AO EO R G o i q
 |slc _ _ _ _=>exact fun sh t Q E hQ=>hQ.elim
 |bin a op b q=>exact d_bin I Pr AO EO R a b op q
 |cmp a ops rs q=>exact d_cmp I Pr AO EO R a ops rs q
 |bop op vs q=>exact d_bop I Pr AO EO R G op vs q
 |uny op e q=>exact d_uny I AO EO R e op q Pr
 |ife a b o q=>exact d_ife I AO EO R a b o q
 |tup es k q=>exact d_tup I AO EO R es k q
 |lst es q=>exact d_lst I AO EO R es q
 |dct ks vs q=>
  induction ks using List.casesOn with
  |nil=>induction vs using List.casesOn with
   |nil=>exact Pr.dct AO R q
   |cons _ _=>exact fun sh t Q E hQ=>hQ.elim
  |cons _ _=>exact fun sh t Q E hQ=>hQ.elim
 |cmp1 ci elt tgt it ifs q=>exact d_comp I Pr AO EO R G ci elt tgt it ifs q
end
theorem XE.nm?_eq {e:XE} {x} (h:e.nm?=some x):e=.nm x.1 x.2:=OpP.of (P:=fun x=>e=.nm x.1 x.2) (by cases e<;>first|exact True.intro|exact Eq.refl _) h
theorem M.nm {β:Type} (a:XE) (f:Nat->Pos->β) (d:β):(match a with|.nm i q=>f i q|_=>d)=Option.rec d (fun x=>f x.1 x.2) a.nm?:=by cases a<;>first|exact Eq.refl d|exact Eq.refl (f _ _)
theorem J.nm {β:Type} {Φ:β->Prop} {d:β} {G:Prop} (hd:¬ Φ d) {a:XE} {f:Nat->Pos->β} (h:Φ (match a with|.nm i q=>f i q|_=>d)) (k:∀ i q,a=.nm i q->Φ (f i q)->G):G:=J.so' hd ((M.nm a f d).subst (motive:=Φ) h) fun x e=>k x.1 x.2 (XE.nm?_eq e)
set_option smartUnfolding false in
theorem tidx_cons {t:XE} {r:List XE} {is:List Nat} (h:tidx (t :: r)=some is):∃ i q js,t=.nm i q/\tidx r=some js/\is=i :: js:=
 J.nm (Φ:=fun o=>o=some is) (d:=none) nofun h fun i q e h=>J.so (Φ:=fun o=>o=some is) (o:=tidx r) (d:=none) nofun h fun js hr h=>⟨i,q,js,e,hr,(jf h).symm⟩
theorem tidx_of:∀ {ts:List XE} {is:List Nat},tidx ts=some is->ts.length=is.length/\∀ (C:EC) (env:Env),(assignEach (km ts C) env).length=ts.length/\(assignEach (km ts C) env).findIdx? (·.1)=none/\∃ ps:List Pos,ps.length=is.length/\(assignEach (km ts C) env).map (·.2)=(is.zip ps).map fun q=>assign (.Name (qi C q.1) q.2) env
 |[],is,h=>by obtain rfl:=jf h;exact ⟨rfl,fun C env=>⟨rfl,rfl,[],rfl,rfl⟩⟩
 |t :: r,is,h=>by
  obtain ⟨i,q,js,rfl,hr,rfl⟩:=tidx_cons h
  have H:=tidx_of hr
  refine ⟨congrArg (·+1) H.1,fun C env=>?_⟩
  have K:=H.2 C env
  obtain ⟨ps,c,d⟩:=K.2.2
  refine ⟨congrArg (·+1) K.1,?_,q :: ps,congrArg (·+1) c,congrArg (assign (.Name (qi C i) q) env :: ·) d⟩
  show List.findIdx? (·.1) ((false,_) :: assignEach (km r C) env)=none
  rw [List.findIdx?_cons,K.2.1]
  rfl
theorem hasI_iff (n:Nat):∀ l,hasI n l=true ↔ n ∈ l
 |[]=>by simp [hasI]
 |x :: r=>by
  by_cases h:x=n
  ·subst h;simp [hasI]
  ·have hb:Nat.beq x n=false:=nbeq h
   simp only [hasI,hb,hasI_iff n r,List.mem_cons]
   exact ⟨.inr,fun q=>q.resolve_left fun e=>h e.symm⟩
theorem ndp_nodup:∀ {l:List Nat},ndp l=true->l.Nodup
 |[],_=>List.nodup_nil
 |x :: r,h=>by
  simp only [ndp] at h
  induction hx:hasI x r with
  |true=>rw [hx] at h;exact (jh h).elim
  |false=>
   rw [hx] at h
   refine List.nodup_cons.mpr ⟨fun q=>?_,ndp_nodup h⟩
   rw [(hasI_iff x r).mpr q] at hx;cases hx
section
variable {prog:Program} {w:World} {V:Vl} {Hz:Heap} {p:Par} {fs:List Addr} {l:List Env} {C:EC} {W:Wd} {loc:List AV} {A:Around} {env:Env} {cd:Nat} {ih:RunTy}
variable (Pr:Prim prog w V Hz p) (AO:AOk cd l fs A) (EO:EnvOk C W.L env) (R:Rel V w.params Hz fs C W loc)
include Pr AO EO R
theorem d_load {i:Nat} {a:AV} (ha:loc[i]?=some a) (hu:a ≠ .un) {sh:Shared} {t:Nat} {Q:VP} {E:VP} (h:∀ v,W.R V a v->Q v (at' sh W t)):
  wpAny (model prog w) A (loadName env (qi C i)) Q E (at' sh W t)/\(qi C i == ("__debug__":Str))=false:=by
 have hi:i < C.names.length:=by rw [<- R.len];exact (List.getElem?_eq_some_iff.mp ha).1
 have hx:C.names[i]?=some C.names[i]:=List.getElem?_eq_getElem hi
 have hn:qi C i=C.names[i]:=by unfold qi;rw [qh,hx]
 have N:=EO.names i _ hx
 rw [hn]
 refine R.ns.elim fun m hm=>(hm.2 i _ a hx ha).elim (fun e=>absurd e hu) fun hv=>hv.elim fun v hv=>⟨wpAny_loadName_local EO.kind N.1 (m:=m) (by rw [EO.loc];exact hm.1) hv.1 (h v hv.2),N.2⟩
theorem d_nmR {i:Nat} {a:AV} (ha:loc[i]?=some a) (hu:a ≠ .un) {q:Pos} {sh:Shared} {t:Nat} {Q:VP} {E:VP} (h:∀ v,W.R V a v->Q v (at' sh W t)):
  wpR (model prog w) A (eval (kj (.nm i q) C) env) Q E (at' sh W t):=
 have L:=d_load Pr AO EO R (E:=E) ha hu h
 .of (wpAny_Name L.1 L.2)
theorem d_store {i:Nat} {a:AV} {va:Value} (hi:i < loc.length) (ha:W.R V a va) {sh:Shared} {t:Nat} {Q:Unit->Shared->Prop} {E:VP}
  (h:∀ W' t',W'.L=W.L->W'.s=W.s->Rel V w.params Hz fs C W' (loc.set i a)->Stp fs W W'->Q () (at' sh W' t')):wpR (model prog w) A (storeName env (qi C i) va) Q E (at' sh W t):=by
 have hi':i < C.names.length:=by rw [<- R.len];exact hi
 refine fr fun G g=>?_
 obtain ⟨x,hx⟩:∃ x,C.names[i]?=some x:=⟨_,List.getElem?_eq_getElem hi'⟩
 obtain ⟨hk,_⟩:=EO.names i x hx
 obtain ⟨m,hm,_⟩:=R.ns
 refine g ?_
 simp only [qi,qh,hx]
 refine .of (wpAny_storeName_local hk (m:=m) (by rw [EO.loc];exact hm) (fun h' hn hs=>?_) (by rw [EO.kind];rfl))
 rw [EO.loc] at hn hs
 obtain ⟨R',S'⟩:=R.store EO.nd hx ha (fun b o hb e=>(hs.2 b hb).trans e) hm hn
 exact h { W with h:=h' } (t+1) rfl rfl R' S'
theorem d_bind {i:Nat} {a:AV} {va:Value} (hi:i < loc.length) (ha:W.R V a va) {q:Pos} {sh:Shared} {t:Nat} {Q:Unit->Shared->Prop} {E:VP}
  (h:∀ W' t',W'.L=W.L->W'.s=W.s->Rel V w.params Hz fs C W' (loc.set i a)->Stp fs W W'->Q () (at' sh W' t')):wpR (model prog w) A (assign (.Name (qi C i) q) env va) Q E (at' sh W t):=
 wpR_assign_Name (d_store Pr AO EO R hi ha h)
theorem asNm_of {i:Nat} {a:AV} {s:Mine.St} {k:KLoc} {PP:Res->Prop} (hn:∀ n,¬ PP (.fail n)) (h:PP (asNm i a loc s k)):i < loc.length/\PP (k (loc.set i a) s):=by
 simp only [asNm,upd_eq] at h
 induction hb:Nat.blt i loc.length with
 |true=>rw [hb] at h;exact ⟨by simpa [Nat.blt_eq] using hb,h⟩
 |false=>rw [hb] at h;exact absurd h (hn _)
end
section
variable {prog:Program} {w:World} {V:Vl} {Hz:Heap} {p:Par} {fs:List Addr} {l:List Env} {C:EC} {A:Around} {env:Env} {cd:Nat} {ih:RunTy} (Pr:Prim prog w V Hz p) (AO:AOk cd l fs A)
include Pr AO
theorem d_order {sh:Shared} {E:VP}:∀ (is:List Nat) (ps:List Pos) (as:List AV) (vs:List Value) (W:Wd) (loc:List AV) (t:Nat) (Q:Unit->Shared->Prop),EnvOk C W.L env->Rel V w.params Hz fs C W loc->ps.length=is.length->as.length=is.length->W.Rs V as vs->(∀ i ∈ is,i < loc.length)->
  (∀ W' t',W'.L=W.L->W'.s=W.s->Rel V w.params Hz fs C W' ((is.zip as).foldl (fun l p=>l.set p.1 p.2) loc)->Stp fs W W'->Q () (at' sh W' t'))->
  wpR (model prog w) A (assignInOrder ((is.zip ps).map fun q=>assign (.Name (qi C q.1) q.2) env) vs) Q E (at' sh W t)
 |[],ps,as,vs,W,loc,t,Q,EO,R,h1,h2,hv,hi,hQ=>by
  have:as=[]:=List.length_eq_zero_iff.mp h2
  subst this
  exact jv (hQ W t rfl rfl R (.refl fs W))
 |i :: r,[],_,_,_,_,_,_,_,_,h1,_,_,_,_=>by cases h1
 |i :: r,_ :: _,[],_,_,_,_,_,_,_,_,h2,_,_,_=>by cases h2
 |i :: r,q :: ps,a :: as,vs,W,loc,t,Q,EO,R,h1,h2,hv,hi,hQ=>by
  obtain ⟨v,s,rfl,hv1,hv2⟩:=hv
  show wpR _ _ (do holding s (assign (.Name (qi C i) q) env v);assignInOrder ((r.zip ps).map fun q=>assign (.Name (qi C q.1) q.2) env) s) _ _ _
  refine jr (ju (d_bind Pr AO EO R (hi i List.mem_cons_self) hv1 fun W1 t1 e1 e2 R1 S1=>?_))
  refine d_order r ps as s W1 _ t1 Q (e1▸EO) R1 (by simpa using h1) (by simpa using h2) (S1.Rs hv2) (fun j hj=>by rw [List.length_set];exact hi j (List.mem_cons_of_mem _ hj)) fun W' t' a1 a2 R' S'=>?_
  exact hQ W' t' (a1.trans e1) (a2.trans e2) R' (S1.trans S')
end
theorem asgns_of {PP:Res->Prop} (hn:∀ n,¬ PP (.fail n)) {k:KLoc}:∀ {is:List Nat} {as:List AV} {loc:List AV} {s:Mine.St},PP (asgns is as loc s k)->as.length=is.length/\(∀ i ∈ is,i < loc.length)/\PP (k ((is.zip as).foldl (fun l p=>l.set p.1 p.2) loc) s)
 |[],[],loc,s,h=>⟨rfl,by simp,h⟩
 |[],_ :: _,loc,s,h=>absurd h (hn _)
 |_ :: _,[],loc,s,h=>absurd h (hn _)
 |i :: r,a :: as,loc,s,h=>by
  have h:PP (asNm i a loc s fun loc s=>asgns r as loc s k):=h
  simp only [asNm,upd_eq] at h
  induction hb:Nat.blt i loc.length with
  |true=>
   rw [hb] at h
   obtain ⟨a1,a2,a3⟩:=asgns_of hn h
   refine ⟨by simp [a1],fun j hj=>?_,a3⟩
   rcases List.mem_cons.mp hj with rfl|hj
   ·simpa [Nat.blt_eq] using hb
   ·have:=a2 j hj;rwa [List.length_set] at this
  |false=>rw [hb] at h;exact absurd h (hn _)
theorem set_comm {α:Type} (l:List α) (i j:Nat) (a b:α) (h:i ≠ j):(l.set i a).set j b=(l.set j b).set i a:=List.set_comm a b h
theorem foldl_set_last {i:Nat} {a:AV}:∀ (is:List Nat) (as:List AV) (l:List AV),i ∉ is->(is.zip as).foldl (fun l p=>l.set p.1 p.2) (l.set i a)=((is.zip as).foldl (fun l p=>l.set p.1 p.2) l).set i a
 |[],_,_,_=>rfl
 |j :: r,[],_,_=>rfl
 |j :: r,b :: as,l,h=>by
  simp only [List.zip_cons_cons,List.foldl_cons]
  rw [set_comm _ _ _ _ _ (fun e=>h (by rw [e];exact List.mem_cons_self)),foldl_set_last r as _ fun q=>h (List.mem_cons_of_mem _ q)]
theorem foldl_set_rev:∀ (is:List Nat) (as:List AV) (l:List AV),is.Nodup->as.length=is.length->(is.reverse.zip as.reverse).foldl (fun l p=>l.set p.1 p.2) l=(is.zip as).foldl (fun l p=>l.set p.1 p.2) l
 |[],[],_,_,_=>rfl
 |[],_ :: _,_,_,h=>by cases h
 |_ :: _,[],_,_,h=>by cases h
 |i :: r,a :: as,l,hd,h=>by
  rw [List.nodup_cons] at hd
  have hl:as.length=r.length:=by simpa using h
  rw [List.reverse_cons,List.reverse_cons,List.zip_append (by simp [hl]),List.foldl_append,foldl_set_rev r as l hd.2 hl]
  simp only [List.zip_cons_cons,List.foldl_cons,List.zip_nil_left,List.foldl_nil]
  rw [foldl_set_last r as l hd.1]
section
variable {prog:Program} {w:World} {V:Vl} {Hz:Heap} {p:Par} {fs:List Addr} {l:List Env} {C:EC} {W:Wd} {loc:List AV} {A:Around} {env:Env} {cd:Nat} {ih:RunTy}
variable (Pr:Prim prog w V Hz p) (AO:AOk cd l fs A) (EO:EnvOk C W.L env) (R:Rel V w.params Hz fs C W loc)
include Pr AO EO R
theorem PF.fin {sh:Shared} {W₁ W':Wd} {loc':List AV} {Q:Flow->Shared->Prop} {E:VP} (h:PF w.params V Hz fs l C W₁ sh (.fl .next loc' W'.s) Q E) (hL:W'.L=W₁.L) (R':Rel V w.params Hz fs C W' loc') (S:Stp fs W₁ W') (t:Nat):Q .next (at' sh W' t):=
 h .next W' t hL rfl R' S rfl
set_option tactic.hygienic true in
theorem d_asgnT {is:List Nat} {ts:List XE} (hi:tidx ts=some is) (hd:is.Nodup) {as:List AV} {va:Value} (ha:W.R V (.tu as) va) {sh:Shared} {t:Nat} {Q:Flow->Shared->Prop} {E:VP}
  (hP:PF w.params V Hz fs l C W sh (asgns is as loc W.s fun loc s=>.fl .next loc s) Q E) (k:Nat) (q:Pos):
  wpR (model prog w) A (assign (.Tuple (km ts C) k q) env va) (fun _ s=>Q .next s) E (at' sh W t):=by
 refine fr fun G g=>?_
 obtain ⟨h1,h2⟩:=tidx_of hi
 obtain ⟨a1,a2,ps,a3,a4⟩:=h2 C env
 obtain ⟨b1,b2,b3⟩:=asgns_of (PP:=fun r=>PF w.params V Hz fs l C W sh r Q E) (fun _ h=>h) hP
 refine g ?_
 obtain ⟨a,vs,rfl,ht,hv⟩:=ha
 refine wpR_assign_Tuple AO.hd ht (by rw [a1,List.size_toArray,ku.length hv,b1,h1]) a2 fun h' hx=>?_
 obtain ⟨R1,S1⟩:=R.ext (h':=h') fun b o e=>hx b o (Nat.ne_of_lt (Heap.lt_size e)) e
 rw [a4]
 exact d_order Pr AO (sh:=sh) is ps as vs { W with h:=h' } loc t (fun _ s=>Q .next s) EO R1 a3 b1 (S1.Rs hv) b2 fun W' t' c1 c2 R' S'=>PF.fin Pr AO EO R (W₁:=W) (by rw [c2];exact b3) c1 R' (S1.trans S') t'
set_option tactic.hygienic true in
theorem d_asgnR {is:List Nat} {ts:List XE} (hi:tidx ts=some is) (hd:is.Nodup) {as:List AV} {va:Value} (ha:W.R V (.tu as) va) {sh:Shared} {t:Nat} {Q:Flow->Shared->Prop} {E:VP}
  (hP:PF w.params V Hz fs l C W sh (asgns is as loc W.s fun loc s=>.fl .next loc s) Q E):
  wpR (model prog w) A (do
   let items <- unpackItems va is.length none
   assignInOrder ((is.map (qi C)).reverse.map fun n=>bindName env n) items.reverse) (fun _ s=>Q .next s) E (at' sh W t):=by
 obtain ⟨b1,b2,b3⟩:=asgns_of (PP:=fun r=>PF w.params V Hz fs l C W sh r Q E) (fun _ h=>h) hP
 obtain ⟨a,vs,rfl,ht,hv⟩:=ha
 have hl:vs.toArray.size=is.length:=by rw [List.size_toArray,ku.length hv,b1]
 rw [<- hl]
 refine jr (wpR_unpackItems_tuple AO.hd ht fun h' hx=>?_)
 obtain ⟨R1,S1⟩:=R.ext (h':=h') fun b o e=>hx b o (Nat.ne_of_lt (Heap.lt_size e)) e
 have gen:∀ (is:List Nat) (as:List AV) (vs:List Value) (W:Wd) (loc:List AV) (t:Nat) (Q:Unit->Shared->Prop),EnvOk C W.L env->Rel V w.params Hz fs C W loc->as.length=is.length->W.Rs V as vs->(∀ i ∈ is,i < loc.length)->
   (∀ W' t',W'.L=W.L->W'.s=W.s->Rel V w.params Hz fs C W' ((is.zip as).foldl (fun l p=>l.set p.1 p.2) loc)->Stp fs W W'->Q () (at' sh W' t'))->
   wpR (model prog w) A (assignInOrder ((is.map (qi C)).map fun n=>bindName env n) vs) Q E (at' sh W t):=by
  intro is
  induction is with
  |nil=>
   intro as vs W loc t Q EO R h2 hv hi hQ
   have:as=[]:=List.length_eq_zero_iff.mp h2
   subst this
   exact jv (hQ W t rfl rfl R (.refl fs W))
  |cons i r ih=>
   intro as vs W loc t Q EO R h2 hv hi hQ
   induction as using List.casesOn with
   |nil=>cases h2
   |cons a as=>
    obtain ⟨v,s,rfl,hv1,hv2⟩:=hv
    show wpR _ _ (do holding s (bindName env (qi C i) v);assignInOrder ((r.map (qi C)).map fun n=>bindName env n) s) _ _ _
    refine jr (ju (wpR_bindName (d_store Pr AO EO R (hi i List.mem_cons_self) hv1 fun W1 t1 e1 e2 R1 S1=>?_)))
    refine ih as s W1 _ t1 Q (e1▸EO) R1 (by simpa using h2) (S1.Rs hv2) (fun j hj=>by rw [List.length_set];exact hi j (List.mem_cons_of_mem _ hj)) fun W' t' a1 a2 R' S'=>?_
    exact hQ W' t' (a1.trans e1) (a2.trans e2) R' (S1.trans S')
 have hrev:∀ {as:List AV} {vs:List Value} {W:Wd},W.Rs V as vs->W.Rs V as.reverse vs.reverse:=by
  intro as vs W h
  induction as generalizing vs with
  |nil=>obtain rfl:vs=[]:=h;exact (show ([]:List Value)=[] from rfl)
  |cons a r ih=>
   obtain ⟨v,s,rfl,x1,x2⟩:=h
   rw [List.reverse_cons,List.reverse_cons]
   exact ku.app (ih x2) (ku.one x1)
 rw [<- List.map_reverse]
 refine gen is.reverse as.reverse vs.toArray.toList.reverse { W with h:=h' } loc t (fun _ s=>Q .next s) EO R1 (by simp [b1]) (hrev (S1.Rs hv)) (fun i hi=>b2 i (List.mem_reverse.mp hi)) fun W' t' c1 c2 R' S'=>?_
 rw [foldl_set_rev is as loc hd b1] at R'
 exact PF.fin Pr AO EO R (W₁:=W) (by rw [c2];exact b3) c1 R' (S1.trans S') t'
omit Pr AO EO R in
set_option smartUnfolding false in
theorem asgn1_inv {PP:Res->Prop} (hn:∀ n,¬ PP (.fail n)) {a:AV} {loc:List AV} {s:Mine.St} {k:KLoc} {M:XE->Prop} (k1:∀ i q,PP (asNm i a loc s k)->M (.nm i q)) (k2:∀ i q' c q o,loc[i]?=some o->PP (asAt o c a loc s k)->M (.att (.nm i q') c q))
  (k3:∀ i q' j q'' q o x,loc[i]?=some o->loc[j]?=some x->PP (asSu o x a loc s k)->M (.sub (.nm i q') (.nm j q'') q)):∀ t,PP (asgn1 t a loc s k)->M t:=fun t h=>by
 cases t with
 |nm i q=>exact k1 i q h
 |att e c q=>exact J.nm (hn 123) h fun i q' e h=>e▸J.so (hn 123) h fun o ho h=>k2 i q' c q o (qh loc i▸ho) h
 |sub e f q=>exact J.nm (hn 123) h fun i q' e h=>e▸J.nm (hn 123) h fun j q'' e h=>e▸J.so (hn 123) h fun o ho h=>J.so (hn 123) h fun x hx h=>k3 i q' j q'' q o x (qh loc i▸ho) (qh loc j▸hx) h
 |_=>exact (hn _ h).elim
omit Pr AO EO R in
theorem asAt_un {PP:Res->Prop} (hn:∀ n,¬ PP (.fail n)) {o a:AV} {c:Nat} {loc:List AV} {s:Mine.St} {k:KLoc} (h:PP (asAt o c a loc s k)):o ≠ .un:=fun q=>by subst q;exact hn _ h
omit Pr AO EO R in
theorem asSu_un {PP:Res->Prop} (hn:∀ n,¬ PP (.fail n)) {o x a:AV} {loc:List AV} {s:Mine.St} {k:KLoc} (h:PP (asSu o x a loc s k)):o ≠ .un/\x ≠ .un:=by
 refine ⟨fun q=>by subst q;exact hn _ h,fun q=>?_⟩
 subst q
 exact J.ce (Φ:=PP) (hn 122) (f:=fun _=>.fail 122) h fun _ _ h=>hn _ h
set_option tactic.hygienic true in
theorem d_asgn1 {tt:XE} {a:AV} {va:Value} (ha:W.R V a va) {sh:Shared} {t:Nat} {Q:Flow->Shared->Prop} {E:VP} (hP:PF w.params V Hz fs l C W sh (asgn1 tt a loc W.s fun loc s=>.fl .next loc s) Q E):
  wpR (model prog w) A (assign (kj tt C) env va) (fun _ s=>Q .next s) E (at' sh W t):=by
 refine asgn1_inv (PP:=fun r=>PF w.params V Hz fs l C W sh r Q E) (M:=fun tt=>wpR (model prog w) A (assign (kj tt C) env va) (fun _ s=>Q .next s) E (at' sh W t)) (fun _ h=>h) (fun i q hP=>?_) (fun i q' c q o ho hP=>?_) (fun i q' j q'' q o x ho hx hP=>?_) tt hP
 ·have H:=asNm_of Pr AO EO R (PP:=fun r=>PF w.params V Hz fs l C W sh r Q E) (fun _ h=>h) hP
  exact d_bind Pr AO EO R H.1 ha fun W' t' c1 c2 R' S'=>PF.fin Pr AO EO R (c2▸H.2) c1 R' S' t'
 ·show wpR _ _ (do
   let ov <- holding [va] (eval (kj (.nm i q') C) env)
   standAt q.atName
   holding [va,ov] (setAttr ov (atAt c) va)
   release [va,ov] []) _ _ _
  exact jr (ju (d_nmR Pr AO EO R ho (asAt_un (PP:=fun r=>PF w.params V Hz fs l C W sh r Q E) (fun _ h=>h) hP) fun vo hvo=>jr (jt (jr (ju (Pr.sat AO R hvo ha (PP:=fun r=>PF w.params V Hz fs l C W sh r Q E) (fun _ h=>h) hP fun W' t' c1 R' S' h=>wpR_release (PF.fin Pr AO EO R h c1 R' S' t')))))))
 ·have U:=asSu_un (PP:=fun r=>PF w.params V Hz fs l C W sh r Q E) (fun _ h=>h) hP
  show wpR _ _ (do
   let ov <- holding [va] (eval (kj (.nm i q') C) env)
   let iv <- holding [va,ov] (eval (kj (.nm j q'') C) env)
   standAt q
   holding [va,ov,iv] (setItem ov iv va)
   release [va,ov,iv] []) _ _ _
  exact jr (ju (d_nmR Pr AO EO R ho U.1 fun vo hvo=>jr (ju (d_nmR Pr AO EO R hx U.2 fun vx hvx=>jr (jt (jr (ju (Pr.ssu AO R hvo hvx ha (PP:=fun r=>PF w.params V Hz fs l C W sh r Q E) (fun _ h=>h) hP fun W' t' c1 R' S' h=>wpR_release (PF.fin Pr AO EO R h c1 R' S' t')))))))))
end
theorem filterMap_all {α β:Type} {f:α->Option β} {g:α->β} (h:∀ x,f x=some (g x) \/ f x=none):∀ l:List α,(l.filterMap f).length=l.length->l.filterMap f=l.map g
 |[],_=>rfl
 |x :: r,hl=>by
  have hle:(r.filterMap f).length<=r.length:=List.length_filterMap_le f r
  rcases h x with e|e
  ·rw [List.filterMap_cons,e] at hl ⊢
   rw [List.map_cons,filterMap_all h r (by simpa using hl)]
  ·rw [List.filterMap_cons,e] at hl
   exact absurd hl (by simp only [List.length_cons];omega)
theorem folded_isK {e:XE} (h:isK e=true) (C:EC):foldedForSure 8 (kj e C)=true:=by cases e<;>first|exact Eq.refl true|exact (jh h).elim
theorem debug_nm {C:EC} {env:Env} {L:Addr} (EO:EnvOk C L env) (i:Nat):(qi C i == ("__debug__":Str))=false:=by
 unfold qi
 rw [qh]
 induction h:C.names[i]? with
 |none=>decide +kernel
 |some x=>exact (EO.names i x h).2
theorem const_isN {e:XE} {C:EC} {env:Env} {L:Addr} (EO:EnvOk C L env) (h:isN e=true):constantsAlone 8 (kj e C)=false:=by
 cases e with
 |nm i q=>exact debug_nm EO i
 |sub a b q=>
  refine J.nm (Φ:=fun b=>b=true) (d:=false) nofun h fun i q' e _=>?_
  subst e
  show (constantsAlone 7 (.Name (qi C i) q') && _)=false
  rw [show constantsAlone 7 (.Name (qi C i) q')=false from debug_nm EO i];rfl
 |_=>first|exact Eq.refl false|exact (jh h).elim
theorem all_folded {C:EC}:∀ {vs:List XE},allK vs=true->(km vs C).all (foldedForSure 8)=true
 |[],_=>rfl
 |e :: r,h=>by
  simp only [allK] at h
  induction hk:isK e with
  |false=>rw [hk] at h;exact (jh h).elim
  |true=>rw [hk] at h;simp only [km,List.all_cons,folded_isK hk C,all_folded h,Bool.and_self]
theorem any_notAll {C:EC} {f:PySem.Expr->Bool} (hf:∀ e,isN e=true->f (kj e C)=false):∀ {vs:List XE},anyN vs=true->(km vs C).all f=false
 |[],h=>by exact (jh h).elim
 |e :: r,h=>by
  simp only [anyN] at h
  induction hk:isN e with
  |true=>simp only [km,List.all_cons,hf e hk,Bool.false_and]
  |false=>rw [hk] at h;simp only [km,List.all_cons,any_notAll hf h,Bool.and_false]
theorem tidx_names:∀ {ts:List XE} {is:List Nat},tidx ts=some is->∀ (C:EC),∃ ps:List Pos,ps.length=is.length/\km ts C=(is.zip ps).map fun q=>PySem.Expr.Name (qi C q.1) q.2
 |[],is,h,C=>by obtain rfl:=jf h;exact ⟨[],rfl,rfl⟩
 |t :: r,is,h,C=>by
  obtain ⟨i,q,js,rfl,hr,rfl⟩:=tidx_cons h
  obtain ⟨ps,a,b⟩:=tidx_names hr C
  exact ⟨q :: ps,congrArg (·+1) a,congrArg (PySem.Expr.Name (qi C i) q :: ·) b⟩
theorem zip_map_fst {C:EC}:∀ (is:List Nat) (ps:List Pos),ps.length=is.length->((is.zip ps).map fun q=>qi C q.1)=is.map (qi C)
 |[],_,_=>rfl
 |i :: r,[],h=>by cases h
 |i :: r,q :: ps,h=>by simp [zip_map_fst r ps (by simpa using h)]
theorem ite_or2 {α:Type} {c:Prop} [Decidable c] {a b:α}:(if c then a else b)=a \/ (if c then a else b)=b:=by
 by_cases e:c
 ·rw [if_pos e];exact .inl rfl
 ·rw [if_neg e];exact .inr rfl
theorem ite_or {α:Type} {c:Prop} [Decidable c] {a b y:α} (h:¬ c->b=a \/ b=y):(if c then a else b)=a \/ (if c then a else b)=y:=by
 by_cases e:c
 ·rw [if_pos e];exact .inl rfl
 ·rw [if_neg e];exact h e
theorem swapped_cases {C:EC} {env:Env} {L:Addr} (EO:EnvOk C L env) {ts vs:List XE} {is:List Nat} (hi:tidx ts=some is) (hsw:swK vs=true) (k k':Nat) (q q':Pos):
  swappedStores [.Tuple (km ts C) k q] (.Tuple (km vs C) k' q') env=pure none \/ swappedStores [.Tuple (km ts C) k q] (.Tuple (km vs C) k' q') env=pure (some (is.map (qi C))):=by
 refine ite_or fun _=>(tidx_names hi C).elim fun ps hpe=>ite_or fun _=>ite_or fun hl=>ite_or fun hf=>?_
 have hall:allK vs=false:=by
  induction h:allK vs with
  |false=>rfl
  |true=>exact absurd (all_folded h) hf
 have hany:anyN vs=true:=by unfold swK at hsw;rw [hall] at hsw;exact hsw
 refine .inr ((if_neg (by rw [any_notAll (fun e=>const_isN EO) hany];decide)).trans (congrArg (fun x=>pure (some x)) ?_))
 have hlen:=Classical.byContradiction fun h=>hl (Bool.or_eq_true_iff.mpr (.inl (bne_iff_ne.mpr h)))
 rw [hpe.2] at hlen ⊢
 rw [List.filterMap_map] at hlen ⊢
 rw [List.length_map] at hlen
 refine (filterMap_all (g:=fun q:Nat × Pos=>qi C q.1) ?_ _ hlen).trans (zip_map_fst is ps hpe.1)
 exact fun x=>ite_or2
noncomputable def isC (e:XE):Bool:=Nat.beq e.ctorIdx 20
noncomputable def isL (e:XE):Bool:=Nat.beq e.ctorIdx 18
section
variable {prog:Program} {w:World} {V:Vl} {Hz:Heap} {p:Par} {fs:List Addr} {l:List Env} {C:EC} {W:Wd} {loc:List AV} {A:Around} {env:Env} {cd:Nat} {ih:RunTy}
variable (I:Ih prog w V Hz ih cd) (Pr:Prim prog w V Hz p) (AO:AOk cd l fs A) (EO:EnvOk C W.L env) (TO:TopOk l W.L env) (R:Rel V w.params Hz fs C W loc) (G:Gd prog w V Hz)
include I Pr AO EO R G
omit I Pr AO EO R G in
theorem swaps_none {e:XE} (h:isC e=false) (tt:Option PySem.Expr) (n:Nat):swapsWith (kj e C) tt n env=pure false:=by
 cases e with
 |cmp1 a b c d f g=>cases h
 |_=>rfl
omit I Pr AO EO R G in
theorem sw_none1 {e:XE} (h:e.tup?=none) (hl:isL e=false) (v:PySem.Expr):swappedStores [kj e C] v env=pure none:=by
 cases e with
 |tup _ _ _=>exact (jg _ h).elim
 |lst _ _=>cases hl
 |_=>rfl
omit I Pr AO EO R G in
theorem assign1 (e:XE):(assignEach [kj e C] env).map (·.2)=[assign (kj e C) env]:=by cases e<;>exact Eq.refl [_]
omit I Pr AO EO R G in
theorem sw_none2 {e:XE} (h:e.tup?=none) (ts:List PySem.Expr) (k:Nat) (q:Pos):swappedStores [.Tuple ts k q] (kj e C) env=pure none:=by
 cases e with
 |tup _ _ _=>exact (jg _ h).elim
 |_=>rfl
omit I Pr AO EO R G in
theorem asgn1_L {tt:XE} {a:AV} {s:Mine.St} {kk:KLoc} (h:isL tt=true):asgn1 tt a loc s kk=.fail 123:=by cases tt<;>first|exact Eq.refl (Res.fail 123)|exact (jh h).elim
omit I Pr AO EO R G in
set_option smartUnfolding false in
theorem asgn_inv {PP:Res->Prop} (hn:∀ n,¬ PP (.fail n)) {tt:XE} {a:AV} {s:Mine.St} {kk:KLoc} (h:PP (asgn tt a loc s kk)) {G:Prop} (k1:∀ ts k q as is,tt=.tup ts k q->a=.tu as->tidx ts=some is->is.Nodup->PP (asgns is as loc s kk)->G) (k2:tt.tup?=none->isL tt=false->PP (asgn1 tt a loc s kk)->G):G:=
 J.so2 (Φ:=PP) (o:=tt.tup?) h (fun ts e h=>(XE.tup?_eq e).elim fun k e=>e.elim fun q e=>J.tu (hn 124) h fun as e' h=>by
   have h:PP (match tidx ts with
    |some is=>match ndp is with
     |true=>asgns is as loc s kk
     |false=>.fail 124
    |none=>.fail 124):=h
   induction hi:tidx ts with
   |none=>rw [hi] at h;exact (hn _ h).elim
   |some is=>rw [hi] at h;exact J.tt (hn 124) h fun hd h=>k1 ts k q as is e e' hi (ndp_nodup hd) h)
  fun e h=>k2 e (Bool.eq_false_iff.mpr fun q=>hn 123 (asgn1_L q▸h)) h
theorem d_asgU {ts:List XE} {k:Nat} {q':Pos} {is:List Nat} (hi:tidx ts=some is) (hd:is.Nodup) {e:XE} (hs:∀ vs,e.tup?=some vs->swK vs=true) {as:List AV} {va:Value} (ha:W.R V (.tu as) va) {sh:Shared} {t:Nat} {Q:Flow->Shared->Prop} {E:VP}
  (hP:PF w.params V Hz fs l C W sh (asgns is as loc W.s fun loc s=>.fl .next loc s) Q E):
  wpR (model prog w) A (do assignStores env va (<- swappedStores [kj (.tup ts k q') C] (kj e C) env) ((assignEach [kj (.tup ts k q') C] env).map (·.2))) Q E (at' sh W t):=by
 have plain (hw:swappedStores [kj (.tup ts k q') C] (kj e C) env=pure none):wpR (model prog w) A (do assignStores env va (<- swappedStores [kj (.tup ts k q') C] (kj e C) env) ((assignEach [kj (.tup ts k q') C] env).map (·.2))) Q E (at' sh W t):=
  jr (jw hw (jr (m:=assign (.Tuple (km ts C) k q') env va) (jq (d_asgnT Pr AO EO R hi hd ha hP k q') (fun _ _ x=>jv x) fun _ _ x=>x)))
 induction he:e.tup? with
 |none=>exact plain (sw_none2 he _ _ _)
 |some vs=>
  refine (XE.tup?_eq he).elim fun k' e'=>e'.elim fun q'' e'=>?_
  have sc:=swapped_cases EO hi (hs vs he) k k' q' q''
  rw [show Expr.Tuple (km vs C) k' q''=kj e C from e'▸rfl] at sc
  refine sc.elim plain fun hw=>jr (jw hw ?_)
  show wpR _ _ (do
   rule "assign.swapped-stores"
   let items <- unpackItems va (is.map (qi C)).length none
   assignInOrder ((is.map (qi C)).reverse.map fun n=>bindName env n) items.reverse
   (pure Flow.next:Sem Flow)) _ _ _
  rw [List.length_map]
  exact jr (wpR_rule (wpR_assoc (jq (d_asgnR Pr AO EO R hi hd ha hP) (fun _ _ x=>jv x) fun _ _ x=>x)))
theorem d_asg2 (tt e:XE) (hc:isC e=false) (hs:∀ vs,e.tup?=some vs->swK vs=true) (q:Pos):
  DoesF prog w V Hz A fs l C W (exec (.Assign [kj tt C] (kj e C) q) env) (x_asg2 loc tt (ih cd C loc W.s (.ev e))):=by
 intro sh t Q E hQ
 refine jz (exec_Assign_arm ..) (jr (jt (jr (jw (swaps_none hc _ _) ?_))))
 rw [if_neg (by decide)]
 refine jr (pf_vX (F:=x_asg2 loc tt) (I.ev AO EO R e) hQ (fun a va W1 t1 hL1 R1 S1 ha hP0=>?_) (by trivial))
 have EO1:=EO.mv hL1
 refine asgn_inv (PP:=fun r=>PF w.params V Hz fs l C W1 sh r Q E) (fun _ h=>h) hP0 (fun ts k q as is e1 e2 hi hd hP=>?_) fun h1 h2 hP=>?_
 ·subst e1
  exact d_asgU I Pr AO EO1 R1 G hi hd hs (e2▸ha) hP
 ·exact jr (jw (sw_none1 h1 h2 _) (jz (congrArg (assignStores env va none) (assign1 tt)) (jr (m:=assign (kj tt C) env va) (jq (d_asgn1 Pr AO EO1 R1 ha hP) (fun _ _ x=>jv x) fun _ _ x=>x))))
omit I Pr AO EO R G in
theorem asgC_inv {PP:Res->Prop} (hn:∀ n,¬ PP (.fail n)) {z:Z} {s:Mine.St} {i:Nat} {np:Pos} {ci:Nat} {elt tgt it:XE} {ifs:List XE} {q':Pos} (h:PP (x_asgC z cd C loc s i np ci elt tgt it ifs q')) {G:Prop}
  (k:∀ cc x,Nat.beq np.line q'.line=true->nth ctab ci=some cc->C.names[i]?=some x->swNo cc.sc x=true->freeC ci=false->PP (x_asg2 loc (.nm i np) (e_comp2 z cd cc elt tgt ifs (z.ih cd C loc s (.ev it))))->G):G:=
 J.tt (hn 16) h fun hb h=>by
  have h:PP (match nth ctab ci with
   |some cc=>match nth C.names i with
    |some x=>match swNo cc.sc x with
     |true=>x_asg2 loc (.nm i np) (e_comp z cd C loc s ci elt tgt it ifs)
     |false=>.fail 16
    |none=>.fail 16
   |none=>.fail 16):=h
  induction hc:nth ctab ci with
  |none=>rw [hc] at h;exact (hn _ h).elim
  |some cc=>
   rw [hc,qh] at h
   induction hx:C.names[i]? with
   |none=>rw [hx] at h;exact (hn _ h).elim
   |some x=>
    rw [hx] at h
    refine J.tt (hn 16) h fun hsw h=>?_
    exact comp_inv (PP:=fun r=>PP (x_asg2 loc (.nm i np) r)) (fun n h=>hn n h) h fun cc' hc' hf h=>k cc x hb hc hx hsw hf (jf (hc.symm.trans hc')▸h)
theorem swC {i:Nat} {np q q':Pos} {cc:CI} {x:Str} {elt tgt it:XE} {ifs:List XE} (hb:Nat.beq np.line q'.line=true) (hx:C.names[i]?=some x) (hsw:swNo cc.sc x=true):swapsWith (.ListComp (kj elt cc.ec) [⟨kj tgt cc.ec,kj it C,km ifs cc.ec,0⟩] cc.sc q') (some (.Name (qi C i) np)) q.line env=pure true:=by
 have hnm:qi C i=x:=by unfold qi;rw [qh,hx]
 have hk:=(EO.names i x hx).1
 have hbk:(env.blockKind == ScopeKind.function)=true:=by unfold Env.blockKind;rw [EO.kind];rfl
 show (pure (env.blockKind == .function && env.kindOf (qi C i) == some .local && np.line == q'.line && !(cc.sc.names.any fun n=>n.1 == qi C i && (n.2 == .local || n.2 == .cell))):Sem Bool)=pure true
 rw [hnm,hk,je hb,hbk,show (!(cc.sc.names.any fun n=>n.1 == x && (n.2 == .local || n.2 == .cell)))=true from hsw]
 simp
set_option tactic.hygienic true in
theorem d_asgC (i:Nat) (np:Pos) (ci:Nat) (elt tgt it:XE) (ifs:List XE) (q' q:Pos):
  DoesF prog w V Hz A fs l C W (exec (.Assign [kj (.nm i np) C] (kj (.cmp1 ci elt tgt it ifs q') C) q) env) (x_asgC ⟨p,ih⟩ cd C loc W.s i np ci elt tgt it ifs q'):=by
 intro sh t Q E hQ
 refine asgC_inv (PP:=fun r=>PF w.params V Hz fs l C W sh r Q E) (fun _ h=>h) hQ fun cc x hb hc hx hsw hf hQ=>?_
 have CO:=Pr.ci ci cc hc hf
 have hsw':=swC I Pr AO EO R G (elt:=elt) (tgt:=tgt) (it:=it) (ifs:=ifs) (q':=q') (np:=np) (q:=q) hb hx hsw
 show wpR _ _ (exec (.Assign [.Name (qi C i) np] (.ListComp (kj elt (ciAt ci).ec) [⟨kj tgt (ciAt ci).ec,kj it C,km ifs (ciAt ci).ec,0⟩] (ciAt ci).sc q') q) env) _ _ _
 rw [ciAt_eq I Pr AO EO R G hc]
 rw [exec_Assign_Name_used _ _ _ _ hsw']
 refine jr (jt (jr ?_))
 show wpR _ A (do let _ <- comprehension (.ListComp (kj elt cc.ec) [⟨kj tgt cc.ec,kj it C,km ifs cc.ec,0⟩] cc.sc q') cc.sc env _ (newList []) false (eval (kj it C) env) (some (assign (.Name (qi C i) np) env))) _ _ _
 refine jr (jq (wpR_comprehension_use (Q:=fun _ s'=>Q .next s') rfl (fun x=>by cases it<;>rfl) CO.free CO.kind CO.loc (pf_v0 (F:=fun r=>x_asg2 loc (.nm i np) (e_comp2 ⟨p,ih⟩ cd cc elt tgt ifs r)) (I.ev AO EO R it) hQ (fun a va W1 t1 hL1 R1 S1 ha hQ=>?_) (by trivial))) (fun _ s' hq=>jv (jv hq)) fun _ _ e=>e)
 have EO1:=EO.mv hL1
 refine comp_block I Pr AO EO1 R1 G CO elt tgt ifs (kj it C) q' ha (PP:=fun r=>PF w.params V Hz fs l C W1 sh (x_asg2 loc (.nm i np) r) Q E)
  (RR:=fun acc cenv r s'=>match r with
   |.ok _=>wpR (model prog w) A (assign (.Name (qi C i) np) env acc) (fun _ s''=>∃ m,s''.heap.Ns cenv.locals m/\∀ h',Heap.SameBut cenv.locals s''.heap h'->Q .next { s'' with heap:=h' }) E s'
   |.error x=>∃ m,s'.heap.Ns cenv.locals m/\∀ h',Heap.SameBut cenv.locals s'.heap h'->wpR (model prog w) A (PySem.passOn "comprehension.variables-let-go" x cenv) (fun _ s'=>Q .next s') E { s' with heap:=h' }) (fun n h=>h) hQ fun acc L' W' t' hL' R' S' hacc hP F=>?_
 obtain ⟨h1,h2⟩:=asNm_of Pr AO (hL'▸EO1) R' (PP:=fun r=>PF w.params V Hz fs l C W1 sh r Q E) (fun _ h=>h) hP
 refine d_bind Pr AO (hL'▸EO1) R' h1 (show W'.R V (.ce acc) _ from ⟨hacc,rfl⟩) fun W2 t2 c1 c2 R2 S2=>?_
 have F2:Off Hz fs W1 W2 L':=by
  refine fr fun G g=>?_
  obtain ⟨m,⟨o,es,ep,e,d,r⟩⟩:=F.ns
  refine g ?_
  have hnm:¬ Mu W' L':=by
   rintro (q|⟨j,c,hl,q⟩)
   ·exact F.nL q
   ·exact F.nc j c hl q.symm
  obtain ⟨o',e',sm⟩:=S2.oth L' o e hnm
  refine ⟨⟨m,o',es,ep,e',sm.data.trans d,r⟩,by rw [c1];exact F.nL,F.nf,F.n0,fun j c hl q=>?_,F.fr⟩
  rcases S2.fr (W2.ρ j) (.inr ⟨j,c,hl,rfl⟩) with q'|q'
  ·exact hnm (q▸q')
  ·rw [q] at q';rw [e] at q';exact (jg _ q').elim
 obtain ⟨m,hm⟩:=F2.ns
 refine ⟨m,hm,fun h' hsb=>?_⟩
 obtain ⟨R3,S3⟩:=R2.off (S'.trans S2) F2 fun b o hb e=>hsb.extBut b o hb e
 exact h2 .next { W2 with h:=h' } t2 (c1.trans hL') c2 R3 S3 rfl
end
theorem arm_exec_Raise' (e:PySem.Expr) (q:Pos) (env:Env):exec (.Raise (some e) none q) env=(do standAt q;raiseStmt env (some (do let v <- eval e env;standAt q;pure v)) none) \/ exec (.Raise (some e) none q) env=(do standAt q;raiseStmt env (some (eval e env)) none):=by
 first|exact .inl rfl|exact .inr rfl
section
variable {P:Params} {V:Vl} {Hz:Heap} {fs:List Addr} {l:List Env} {C:EC} {W:Wd} {loc:List AV} {sh:Shared} {Q:Flow->Shared->Prop} {E:VP}
theorem Flow.of {f:Fl} {f':Flow} {s:Mine.St} (h:PF P V Hz fs l C W sh (.fl f loc s) Q E) (hs:W.s=s) (R:Rel V P Hz fs C W loc) (hf:FlR V W f f') (t:Nat):Q f' (at' sh W t):=h f' W t rfl hs R (.refl fs W) hf
@[elab_as_elim] theorem turn_of {PP:Res->Prop} {f:Fl} {f':Flow} {loc':List AV} {s:Mine.St} {go:Res} (h:PP (match f with|.next=>go|.cont=>go|.brk=>.fl .next loc' s|.ret a=>.fl (.ret a) loc' s)) (hf:FlR V W f f') {M:Flow->Prop}
  (k1:PP go->M .next) (k2:PP go->M .cont) (k3:PP (.fl .next loc' s)->M .brk) (k4:∀ a v,W.R V a v->PP (.fl (.ret a) loc' s)->M (.ret v)):M f':=by
 induction f with
 |next=>cases (show f'=.next from hf);exact k1 h
 |cont=>cases (show f'=.cont from hf);exact k2 h
 |brk=>cases (show f'=.brk from hf);exact k3 h
 |ret a=>exact hf.elim fun v e=>e.1▸k4 a v e.2 h
theorem nextIn_lt {PP:Res->Prop} (hn:∀ n,¬ PP (.fail n)) {c:Nat} {k:Option AV->Mine.St->Res} (h:PP (nextIn W.s c k)) (R:Rel V P Hz fs C W loc):c < W.s.nx:=by
 induction hc:W.s.sto.lookup c with
 |none=>simp only [nextIn,ke,hc] at h;exact (hn _ h).elim
 |some x=>exact (R.cell c x hc).1
end
section
variable {prog:Program} {w:World} {V:Vl} {Hz:Heap} {p:Par} {fs:List Addr} {l:List Env} {C:EC} {W:Wd} {loc:List AV} {A:Around} {env:Env} {cd:Nat} {ih:RunTy}
variable (I:Ih prog w V Hz ih cd) (Pr:Prim prog w V Hz p) (AO:AOk cd l fs A) (EO:EnvOk C W.L env) (TO:TopOk l W.L env) (R:Rel V w.params Hz fs C W loc) (G:Gd prog w V Hz)
include I Pr AO EO TO R G
theorem PF.flO {P:Params} {V:Vl} {Hz:Heap} {fs:List Addr} {l:List Env} {C:EC} {W:Wd} {sh:Shared} {r:Res} {Q:Flow->Shared->Prop} {E E':VP} (h:PF P V Hz fs l C W sh (flO r) Q E):PF P V Hz fs l C W sh (flO r) Q E':=by
 induction r with
 |fl f loc' s=>exact h
 |_=>exact h.elim
set_option smartUnfolding false in
theorem d_whl (tt:XE) (b:List XS):DoesC prog w V Hz A fs l C W (Code.whileLoop (kj tt C) (kr b C) [] env) (flO (w_1 ⟨p,ih⟩ cd C loc tt b (ih cd C loc W.s (.tst tt)))):=by
 intro sh t Q E hQ
 refine ka ?_
 show wpR _ A ((whileTurn (kj tt C) (kr b C) [] env).onRaise (fun x=>do noteFrame x env;theTreesLotGoes x)) _ _ _
 refine wpR_noted ?_
 simp only [whileTurn]
 refine jr (pf_b0 (F:=fun r=>flO (w_1 ⟨p,ih⟩ cd C loc tt b r)) (I.tst AO EO R tt) hQ (fun c W1 t1 hL1 R1 S1 hQ=>?_) (by trivial))
 induction c with
 |false=>
  simp only [Bool.false_eq_true,if_false]
  exact jr (jv (jv (Flow.of hQ rfl R1 rfl t1)))
 |true=>
  simp only [if_true]
  refine jr (pf_f0 (F:=fun r=>flO (w_2 ⟨p,ih⟩ cd C tt b r)) (I.ex AO (EO.mv hL1) (TO.mv hL1) R1 b) hQ (fun f loc' f' W2 t2 hL2 R2 S2 hf hQ=>?_) (by trivial))
  have again_ (h:PF w.params V Hz fs l C W2 sh (flO (ih cd C loc' W2.s (.whl tt b))) Q E):kb (model prog w) A (Code.whileLoop (kj tt C) (kr b C) [] env) (fun r s=>match r with|.ok f=>Q f s|.error e=>E e s) (at' sh W2 t2):=
   I.whl AO ((EO.mv hL1).mv hL2) ((TO.mv hL1).mv hL2) R2 tt b sh t2 Q E h
  refine turn_of (PP:=fun r=>PF w.params V Hz fs l C W2 sh (flO r) Q E) (f:=f) (f':=f') (go:=ih cd C loc' W2.s (.whl tt b)) hQ hf (fun h=>?_) (fun h=>?_) (fun h=>?_) fun a v hv h=>?_
  ·exact jv ⟨rfl,rfl,again_ h⟩
  ·exact jv ⟨rfl,rfl,again_ h⟩
  ·exact jv (Flow.of h rfl R2 rfl t2)
  ·exact jv (Flow.of h rfl R2 ⟨v,rfl,hv⟩ t2)
set_option tactic.hygienic true in
set_option smartUnfolding false in
theorem d_frl (tt:XE) (c:Nat) (b:List XS):DoesC prog w V Hz A fs l C W (Code.forLoop (kj tt C) (.ref (W.ρ c)) (kr b C) [] env) (flO (nextIn W.s c (f_1 ⟨p,ih⟩ cd C loc tt c b))):=by
 intro sh t Q E hQ
 refine ka ?_
 show wpR _ _ ((forTurn (kj tt C) (.ref (W.ρ c)) (kr b C) [] env).onRaise (fun x=>do noteFrame x env;theTreesLotGoes x)) _ _ _
 refine wpR_noted ?_
 simp only [forTurn]
 have hlive:c < W.s.nx:=nextIn_lt (PP:=fun r=>PF w.params V Hz fs l C W sh (flO r) Q E) (fun _ h=>h) hQ R
 refine jr (jt (jr (wpR_onRaise (Pr.next AO R (PP:=fun r=>PF w.params V Hz fs l C W sh (flO r) Q E) (fun _ h=>h) hQ (fun x v W1 t1 hL1 R1 S1 hx hP=>?_) fun W1 t1 hL1 R1 S1 hP=>?_))))
 ·refine J.nm (Φ:=fun r=>PF w.params V Hz fs l C W sh (flO r) Q E) (d:=.fail 21) id hP fun i q e hP=>?_
  refine jr (jw (show letOwnedTupleGo (kj tt C) (.ref (W.ρ c)) v=pure () from e▸rfl) ?_)
  have EO1:=EO.mv hL1
  have H:=asNm_of Pr AO EO1 R1 (PP:=fun r=>PF w.params V Hz fs l C W1 sh (flO r) Q E) (fun _ h=>h) (PF.mv S1 hL1 hP)
  refine jr (m:=assign (kj tt C) env v) (jz (show assign (kj tt C) env v=assign (.Name (qi C i) q) env v from e▸rfl) (d_bind Pr AO EO1 R1 H.1 hx fun W2 t2 a1 a2 R2 S2=>?_))
  have EO2:=EO1.mv a1
  have TO2:=(TO.mv hL1).mv a1
  have h2:PF w.params V Hz fs l C W2 sh (flO (f_2 ⟨p,ih⟩ cd C tt c b (ih cd C (loc.set i x) W2.s (.ex b)))) Q E:=a2▸PF.mv S2 a1 H.2
  refine jr (pf_f0 (F:=fun r=>flO (f_2 ⟨p,ih⟩ cd C tt c b r)) (I.ex AO EO2 TO2 R2 b) h2 (fun f loc' f' W3 t3 hL3 R3 S3 hf hQ=>?_) (by trivial))
  have again_ (h:PF w.params V Hz fs l C W3 sh (flO (ih cd C loc' W3.s (.frl tt c b))) Q E):kb (model prog w) A (Code.forLoop (kj tt C) (.ref (W.ρ c)) (kr b C) [] env) (fun r s=>match r with|.ok f=>Q f s|.error e=>E e s) (at' sh W3 t3):=by
   rw [<- show W3.ρ c=W.ρ c from (S1.trans (S2.trans S3)).ρ c hlive]
   exact I.frl AO (EO2.mv hL3) (TO2.mv hL3) R3 tt c b sh t3 Q E h
  refine turn_of (PP:=fun r=>PF w.params V Hz fs l C W3 sh (flO r) Q E) (f:=f) (f':=f') (go:=ih cd C loc' W3.s (.frl tt c b)) hQ hf (fun h=>?_) (fun h=>?_) (fun h=>?_) fun a v hv h=>?_
  ·exact jv ⟨rfl,rfl,again_ h⟩
  ·exact jv ⟨rfl,rfl,again_ h⟩
  ·exact jv (Flow.of h rfl R3 rfl t3)
  ·exact jv (Flow.of h rfl R3 ⟨v,rfl,hv⟩ t3)
 ·exact jv ⟨rfl,rfl,codeR_block (jv ((show PF w.params V Hz fs l C W sh (.fl .next loc W1.s) Q E from hP) .next W1 t1 hL1 rfl R1 S1 rfl))⟩
omit I Pr AO EO TO R G in
theorem setC_eq (s:Mine.St) (i:Nat) (c:Cell) (k:Mine.St->Res):setC s i c k=k ⟨putP s.sto i c,s.nx⟩:=put_eq ..
omit I Pr AO EO TO R G in
theorem c3_inv {PP:Res->Prop} (hn:∀ n,¬ PP (.fail n)) {z:Z} {elt tgt:XE} {ifs:List XE} {c acc:Nat} {y:AV} {s:Mine.St} (h:PP (c_3 z cd C loc elt tgt ifs c acc (.v y s))) {G:Prop}
  (k:∀ l,qb s acc (.li l)->ki (l ++ [y]) 10000=true->PP (z.ih cd C loc ⟨putP s.sto acc (.li (l ++ [y])),s.nx⟩ (.cml elt tgt ifs c acc))->G):G:=
 J.li (hn 22) h fun l hl h=>by
  rw [fSp_eq] at h
  exact J.tt (hn 22) h fun hlt h=>k l (by rw [ke] at hl;exact hl) hlt (by rw [setC_eq] at h;exact h)
omit I Pr AO EO TO R G in
theorem app_methB {s:Mine.St} {acc:Nat} {l:List AV} {y:AV} (hl:qb s acc (.li l)) (hlt:ki (l ++ [y]) 10000=true):methB (.ce acc) 8 [y] s=.v .no ⟨putP s.sto acc (.li (l ++ [y])),s.nx⟩:=by
 have e1:methB (.ce acc) 8 [y] s=methLi acc l 8 y s:=by
  show methCe acc 8 [y] s=_
  delta methCe
  rw [ke,show s.sto.lookup acc=some (.li l) from hl]
 have e2:methLi acc l 8 y s=setC s acc (.li (l ++ [y])) fun s=>.v .no s:=by
  show (fSp (l ++ [y]) fun l=>match ki l 10000 with|true=>setC s acc (.li l) fun s=>.v .no s|false=>.fail 115)=_
  rw [fSp_eq,hlt]
 exact e1.trans (e2.trans (setC_eq ..))
omit I Pr AO EO TO R G in
theorem app_mId {s:Mine.St} {acc:Nat} {l:List AV} (hl:qb s acc (.li l)):mId (mkind (.ce acc) s) 8=some "list.append":=by
 have e:mkind (.ce acc) s=3:=by
  show (match look s.sto acc with|some (.li _)=>3|some (.ba _)=>4|some (.di _)=>5|_=>0)=3
  rw [ke,show s.sto.lookup acc=some (.li l) from hl]
 rw [e];rfl
omit TO in
theorem d_emit {sh:Shared} {t:Nat} {Q:Flow->Shared->Prop} {E E':VP} {acc:Nat} {a:Addr} (ha:W.ρ acc=a) (hl:acc < W.s.nx) {elt tgt:XE} {ifs:List XE} {c:Nat} {code:Code} (hq:code.quiet=true) (hk:okC code=true) {K:Result->Shared->Prop}
  (on:∀ W4 t4,W4.L=W.L->Rel V w.params Hz fs C W4 loc->Stp fs W W4->PF w.params V Hz fs l C W4 sh (flO (ih cd C loc W4.s (.cml elt tgt ifs c acc))) Q E->kb (model prog w) A code K (at' sh W4 t4))
  (h:PF w.params V Hz fs l C W sh (flO (c_3 ⟨p,ih⟩ cd C loc elt tgt ifs c acc (ih cd C loc W.s (.ev elt)))) Q E):
  wpR (model prog w) A ((eval (kj elt C) env >>= fun x=>call (.builtin "list.append") [.ref a,x] >>= fun _=>pure ()) >>= fun _=>again code) (fun fin s'=>match fin with|.done f=>K (.ok f) s'|.again c'=>c'.quiet=true/\okC c'=true/\kb (model prog w) A c' K s') E' (at' sh W t):=by
 refine jr (jr (pf_v0 (F:=fun r=>flO (c_3 ⟨p,ih⟩ cd C loc elt tgt ifs c acc r)) (I.ev AO EO R elt) h (fun y vy W4 t4 hL4 R4 S4 hy h=>?_) (by trivial)))
 refine c3_inv (PP:=fun r=>PF w.params V Hz fs l C W4 sh (flO r) Q E) (fun _ h=>h) h fun l4 hl4 hlt h=>?_
 have e4:W4.ρ acc=a:=(S4.ρ acc hl).trans ha
 refine jr (jz (e4▸rfl) (Pr.methB AO R4 (o:=.ce acc) (vo:=.ref (W4.ρ acc)) ⟨(R4.cell acc _ hl4).1,rfl⟩ (ku.one hy) (app_mId hl4) sh t4 _ _ ?_))
 rw [app_methB hl4 hlt]
 intro v5 W5 t5 hL5 hs5 R5 S5 hv5
 exact jv (jv ⟨hq,hk,on W5 t5 (hL5.trans hL4) R5 (S4.trans S5) (hs5▸PF.mv S5 hL5 h)⟩)
omit I Pr AO EO TO R G in
theorem cmlTree (elt tgt:XE) (ifs:List XE) (v1 v2:Value) (itx:PySem.Expr) (sc:Scope) (q:Pos):compTurn (.ListComp (kj elt C) [⟨kj tgt C,itx,km ifs C,0⟩] sc q) 0 v1 v2 env=(standAt itx.pos >>= fun _=>pyNext v1 >>= fun r=>match r with
   |none=>pure (.done .next)
   |some v=>letOwnedTupleGo (kj tgt C) v1 v >>= fun _=>assign (kj tgt C) env v >>= fun _=>
    (forIn (km ifs C) true fun e ok=>if ok=true then (do let ok <- isTrue e env (eval e env);pure (ForInStep.yield ok)) else pure (ForInStep.yield ok)) >>= fun ok=>
    if ok=true then ((eval (kj elt C) env >>= fun x=>call (.builtin "list.append") [v2,x] >>= fun _=>pure ()) >>= fun _=>again (.compLoop (.ListComp (kj elt C) [⟨kj tgt C,itx,km ifs C,0⟩] sc q) 0 v1 v2 env))
    else again (.compLoop (.ListComp (kj elt C) [⟨kj tgt C,itx,km ifs C,0⟩] sc q) 0 v1 v2 env)):=rfl
omit TO in
theorem d_cifs {sh:Shared} {t:Nat} {Q:Flow->Shared->Prop} {E E':VP} {acc:Nat} {a:Addr} (ha:W.ρ acc=a) (hl:acc < W.s.nx) {elt tgt:XE} {ifs:List XE} {c:Nat} {code:Code} (hq:code.quiet=true) (hk:okC code=true) {K:Result->Shared->Prop}
  (on:∀ W4 t4,W4.L=W.L->Rel V w.params Hz fs C W4 loc->Stp fs W W4->PF w.params V Hz fs l C W4 sh (flO (ih cd C loc W4.s (.cml elt tgt ifs c acc))) Q E->kb (model prog w) A code K (at' sh W4 t4))
  (h:PF w.params V Hz fs l C W sh (flO (c_2 ⟨p,ih⟩ cd C loc elt tgt ifs c acc (c_ifs ⟨p,ih⟩ cd C loc ifs W.s))) Q E):
  wpR (model prog w) A ((forIn (km ifs C) true fun e ok=>if ok=true then (do let ok <- isTrue e env (eval e env);pure (ForInStep.yield ok)) else pure (ForInStep.yield ok)) >>= fun ok=>
   if ok=true then ((eval (kj elt C) env >>= fun x=>call (.builtin "list.append") [.ref a,x] >>= fun _=>pure ()) >>= fun _=>again code) else again code) (fun fin s'=>match fin with|.done f=>K (.ok f) s'|.again c'=>c'.quiet=true/\okC c'=true/\kb (model prog w) A c' K s') E' (at' sh W t):=by
 match ifs with
 |[]=>exact jr (m:=pure true) (jv (d_emit I Pr AO EO R G ha hl hq hk on h))
 |[e]=>
  rw [show km [e] C=[kj e C] from rfl,List.forIn_cons]
  refine jr (jr ?_)
  rw [if_pos rfl]
  refine jr (pf_b0 (F:=fun r=>flO (c_2 ⟨p,ih⟩ cd C loc elt tgt [e] c acc r)) (I.tst AO EO R e) h (fun b W3 t3 hL3 R3 S3 h=>jv ?_) (by trivial))
  show wpR _ _ (forIn [] b _) _ _ _
  rw [List.forIn_nil]
  have on':∀ W4 t4,W4.L=W3.L->Rel V w.params Hz fs C W4 loc->Stp fs W3 W4->PF w.params V Hz fs l C W4 sh (flO (ih cd C loc W4.s (.cml elt tgt [e] c acc))) Q E->kb (model prog w) A code K (at' sh W4 t4):=fun W4 t4 e4 R4 S4=>on W4 t4 (e4.trans hL3) R4 (S3.trans S4)
  induction b with
  |true=>exact jv (d_emit I Pr AO (EO.mv hL3) R3 G ((S3.ρ _ hl).trans ha) (Nat.lt_of_lt_of_le hl S3.nx) hq hk on' h)
  |false=>exact jv (jv ⟨hq,hk,on W3 t3 hL3 R3 S3 h⟩)
 |_ :: _ :: _=>exact h.elim
set_option tactic.hygienic true in
omit TO in
theorem d_cml {acc:Nat} {li:List AV} (hacc:qb W.s acc (.li li)) (elt tgt:XE) (ifs:List XE) (c:Nat) (itx:PySem.Expr) (sc:Scope) (q:Pos):
  DoesC prog w V Hz A fs l C W (Code.compLoop (.ListComp (kj elt C) [⟨kj tgt C,itx,km ifs C,0⟩] sc q) 0 (.ref (W.ρ c)) (.ref (W.ρ acc)) env) (flO (nextIn W.s c (c_1 ⟨p,ih⟩ cd C loc elt tgt ifs c acc))):=by
 intro sh t Q E hQ
 refine ka ?_
 show wpR _ A ((compTurn (.ListComp (kj elt C) [⟨kj tgt C,itx,km ifs C,0⟩] sc q) 0 (.ref (W.ρ c)) (.ref (W.ρ acc)) env).onRaise (fun x=>do noteFrame x env;theTreesLotGoes x)) _ _ _
 refine wpR_noted (jz (cmlTree ..) ?_)
 have hlive:c < W.s.nx:=nextIn_lt (PP:=fun r=>PF w.params V Hz fs l C W sh (flO r) Q E) (fun _ h=>h) hQ R
 refine jr (jt (jr (Pr.next AO R (PP:=fun r=>PF w.params V Hz fs l C W sh (flO r) Q E) (fun _ h=>h) hQ (fun x v W1 t1 hL1 R1 S1 hx hP=>?_) fun W1 t1 hL1 R1 S1 hP=>jv ((show PF w.params V Hz fs l C W sh (.fl .next loc W1.s) Q E from hP) .next W1 t1 hL1 rfl R1 S1 rfl))))
 refine J.nm (Φ:=fun r=>PF w.params V Hz fs l C W sh (flO r) Q E) (d:=.fail 22) id hP fun i q' e hP=>?_
 subst e
 have EO1:=EO.mv hL1
 have H:=asNm_of Pr AO EO1 R1 (PP:=fun r=>PF w.params V Hz fs l C W1 sh (flO r) Q E) (fun _ h=>h) (PF.mv S1 hL1 hP)
 refine jr (jw (show letOwnedTupleGo (kj (.nm i q') C) (.ref (W.ρ c)) v=pure () from rfl) ?_)
 refine jr (d_bind Pr AO EO1 R1 H.1 hx fun W2 t2 a1 a2 R2 S2=>?_)
 have S12:=S1.trans S2
 have ltA:=(R.cell acc _ hacc).1
 refine d_cifs (code:=.compLoop (.ListComp (kj elt C) [⟨kj (.nm i q') C,itx,km ifs C,0⟩] sc q) 0 (.ref (W.ρ c)) (.ref (W.ρ acc)) env) (K:=fun r s=>match r with|.ok f=>Q f s|.error e=>E e s) I Pr AO (EO1.mv a1) R2 G (S12.ρ acc ltA) (Nat.lt_of_lt_of_le ltA S12.nx) (by rfl) (by rfl) (fun W3 t3 hL3 R3 S3 h=>?_) (a2▸PF.mv S2 a1 H.2)
 rw [<- show W3.ρ c=W.ρ c from (S12.trans S3).ρ c hlive,<- show W3.ρ acc=W.ρ acc from (S12.trans S3).ρ acc ltA]
 exact I.cml AO ((EO1.mv a1).mv hL3) R3 elt (.nm i q') ifs c acc itx sc q sh t3 Q E h
end
theorem freed_none (h:Heap) (a:Addr):(h.update a fun o=>{ o with data:=.freed }).get? a=none:=by
 unfold Heap.get? Heap.update
 simp only [Array.getElem?_modify,if_true]
 cases h.objs[a]?<;>rfl
theorem unl_uns:∀ {l:List AV} {n:List Str},l.length=n.length->unl l=uns n
 |[],[],_=>rfl
 |[],_ :: _,h=>by cases h
 |_ :: _,[],h=>by cases h
 |_ :: l,_ :: n,h=>by simp only [unl,uns];rw [unl_uns (l:=l) (n:=n) (by simpa using h)]
theorem hbB_eq {hb:List XS} {h:Bool} (e0:hbB hb=some h):∃ q2 q3,hb=[.ret (some (.cB h q2)) q3]:=OpP.of (P:=fun h=>∃ q2 q3,hb=[.ret (some (.cB h q2)) q3]) (by
 clear e0
 rcases hb with _|⟨s,_|⟨_,_⟩⟩
 ·exact True.intro
 ·cases s with
  |ret e q=>induction e with
   |none=>exact True.intro
   |some e=>cases e<;>first|exact True.intro|exact ⟨_,_,Eq.refl _⟩
  |_=>exact True.intro
 ·exact True.intro) e0
theorem expB_eq {b:List XS} {x:XE} (e:expB b=some x):∃ q,b=[.exp x q]:=OpP.of (P:=fun x=>∃ q,b=[.exp x q]) (by
 rcases b with _|⟨s,_|⟨_,_⟩⟩
 ·exact True.intro
 ·cases s<;>first|exact True.intro|exact ⟨_,Eq.refl _⟩
 ·exact True.intro) e
theorem hdG_eq {hs:List XH} {x} (e:hdG hs=some x):∃ q1 q4,hs=[.mk (.gl x.1 q1) none x.2 q4]:=OpP.of (P:=fun x=>∃ q1 q4,hs=[.mk (.gl x.1 q1) none x.2 q4]) (by
 rcases hs with _|⟨⟨t,n,b,q⟩,_|⟨_,_⟩⟩
 ·exact True.intro
 ·induction n with
  |none=>cases t<;>first|exact True.intro|exact ⟨_,_,Eq.refl _⟩
  |some _=>exact True.intro
 ·exact True.intro) e
theorem isKl0_eq {a:AV} (h:isKl0 a=true):a=.kl 0:=by
 induction a using AV.casesOn with
 |kl k=>rw [je (show Nat.beq k 0=true from h)]
 |_=>exact (jh h).elim
set_option smartUnfolding false in
theorem triK_of {C:EC} {hs:List XH} {hb:List XS} (h:triK C hs=some hb):∃ j q1 q4,hs=[.mk (.gl j q1) none hb q4]/\gval C j=.kl 0:=
 J.so (Φ:=fun o=>o=some hb) (o:=hdG hs) (d:=none) nofun h fun x e h=>J.tt (Φ:=fun o=>o=some hb) (d:=none) nofun h fun hg h=>(hdG_eq e).elim fun q1 e=>e.elim fun q4 e=>⟨x.1,q1,q4,jf h▸e,isKl0_eq hg⟩
theorem isC_of {e:XE} (he:expOk e=true):isC e=false:=by cases e<;>first|exact Eq.refl false|exact (jh he).elim
section
variable {prog:Program} {w:World} {V:Vl} {Hz:Heap} {p:Par} {fs:List Addr} {l:List Env} {C:EC} {W:Wd} {loc:List AV} {A:Around} {env:Env} {cd:Nat} {ih:RunTy}
variable (I:Ih prog w V Hz ih cd) (Pr:Prim prog w V Hz p) (AO:AOk cd l fs A) (EO:EnvOk C W.L env) (TO:TopOk l W.L env) (R:Rel V w.params Hz fs C W loc) (G:Gd prog w V Hz)
include I Pr AO EO TO R G
theorem interactive_no:interactive env=false:=by unfold interactive;rw [EO.kind];rfl
theorem d_exp (e:XE) (q:Pos) (he:expOk e=true):DoesF prog w V Hz A fs l C W (exec (embS (.exp e q) C) env) (x_exp loc (ih cd C loc W.s (.ev e))):=by
 intro sh t Q E hQ
 exact wpR_Expr_any (pf_vX (F:=x_exp loc) (I.ev AO EO R e) hQ (fun a va W1 t1 hL1 R1 S1 ha hQ=>hQ .next W1 t1 rfl rfl R1 (.refl fs W1) rfl) (by trivial)) (interactive_no I Pr AO EO TO R G) (swaps_none (isC_of he) _ _)
theorem d_asg (ts:List XE) (e:XE) (q:Pos):DoesF prog w V Hz A fs l C W (exec (embS (.asg ts e q) C) env) (x_asg ⟨p,ih⟩ cd C loc W.s ts e):=by
 intro sh t Q E hQ
 match ts with
 |[tt]=>
  cases e with
  |tup vs k q'=>exact PF.tt hQ fun hs hQ=>d_asg2 I Pr AO EO R G tt (.tup vs k q') rfl (fun vs' h=>jf h▸hs) q sh t Q E hQ
  |cmp1 ci elt tgt it ifs q'=>exact J.nm (Φ:=fun r=>PF w.params V Hz fs l C W sh r Q E) (d:=.fail 16) id hQ fun i np e' hQ=>e'▸d_asgC I Pr AO EO R G i np ci elt tgt it ifs q' q sh t Q E hQ
  |_=>exact d_asg2 I Pr AO EO R G tt _ rfl (fun _ h=>(jg _ h.symm).elim) q sh t Q E hQ
 |[]=>exact hQ.elim
 |_ :: _ :: _=>exact hQ.elim
omit I Pr AO EO TO R G in
theorem aug_inv {PP:Res->Prop} (hn:∀ n,¬ PP (.fail n)) {z:Z} {i:Nat} {op:Operator} {a b:AV} {s:Mine.St} (h:PP (x_aug2 z loc i op a (.v b s))) {G:Prop} (k:∀ j y,a=.it j->op=.Add->binOp z.p .Add (.it j) b=some y->PP (asNm i y loc s fun loc s=>.fl .next loc s)->G):G:=
 J.it (hn 17) (a:=a) (f:=fun _=>match (generalizing:=false) op with|.Add=>x_aug3 loc i s (binOp z.p .Add a b)|_=>.fail 17) h fun j e h=>by
  subst e
  induction op with
  |Add=>
   have h:PP (x_aug3 loc i s (binOp z.p .Add (.it j) b)):=h
   induction h2:binOp z.p .Add (.it j) b with
   |none=>rw [h2] at h;exact (hn _ h).elim
   |some y=>
    rw [h2] at h
    have h:PP (fA y fun x=>asNm i x loc s fun loc s=>.fl .next loc s):=h
    rw [fA_eq] at h
    exact k j y rfl rfl h2 h
  |_=>exact (hn _ h).elim
omit I Pr AO EO TO R G in
theorem aug_un {PP:Res->Prop} (hn:∀ n,¬ PP (.fail n)) {z:Z} {i:Nat} {op:Operator} {a:AV} {r:Res} (h:PP (x_aug2 z loc i op a r)):a ≠ .un:=fun q=>by
 subst q
 induction r<;>exact hn _ h
set_option smartUnfolding false in
theorem d_aug (i:Nat) (np:Pos) (op:Operator) (e:XE) (q:Pos):DoesF prog w V Hz A fs l C W (exec (embS (.aug i np op e q) C) env) (x_aug ⟨p,ih⟩ cd C loc W.s i op e):=by
 intro sh t Q E hQ
 refine PF.so hQ fun a ha hQ=>?_
 rw [qh] at ha
 have hu:=aug_un (PP:=fun r=>PF w.params V Hz fs l C W sh r Q E) (fun _ h=>h) hQ
 show wpR _ _ (exec (.AugAssign (.Name (qi C i) np) op (kj e C) q) env) _ _ _
 refine wpR_AugAssign_Name (.of (d_load Pr AO EO R ha hu fun v hr=>?_).1)
 refine pf_v0 (F:=x_aug2 ⟨p,ih⟩ loc i op a) (I.ev AO EO R e) hQ (fun b vb W1 t1 hL1 R1 S1 hb hQ=>?_) (by trivial)
 refine aug_inv (PP:=fun r=>PF w.params V Hz fs l C W1 sh r Q E) (fun _ h=>h) hQ fun j y e1 e2 h2 hQ2=>?_
 subst e2
 refine Pr.aug AO R1 (S1.R (e1▸hr)) hb h2 fun vy W2 t2 hL2 hs2 R2 S2 hy=>?_
 have EO2:=(EO.mv hL1).mv hL2
 have H:=asNm_of Pr AO EO2 R2 (PP:=fun r=>PF w.params V Hz fs l C W2 sh r Q E) (fun _ h=>h) (PF.mv S2 hL2 hQ2)
 exact d_store Pr AO EO2 R2 H.1 hy fun W' t' c1 c2 R' S'=>H.2 .next W' t' c1 (c2.trans hs2) R' S' rfl
theorem d_iff (c:XE) (b o:List XS) (q:Pos):DoesF prog w V Hz A fs l C W (exec (embS (.iff c b o q) C) env) (x_iff2 ⟨p,ih⟩ cd C loc b o (ih cd C loc W.s (.tst c))):=by
 intro sh t Q E hQ
 refine wpR_If (pf_b0 (F:=x_iff2 ⟨p,ih⟩ cd C loc b o) (I.tst AO EO R c) hQ (fun c W1 t1 hL1 R1 S1 hQ=>?_) (by trivial))
 induction c with
 |true=>exact I.ex AO (EO.mv hL1) (TO.mv hL1) R1 b sh t1 Q E hQ
 |false=>exact I.ex AO (EO.mv hL1) (TO.mv hL1) R1 o sh t1 Q E hQ
theorem d_whlS (c:XE) (b:List XS) (q:Pos):DoesF prog w V Hz A fs l C W (exec (embS (.whl c b q) C) env) (flO (ih cd C loc W.s (.whl c b))):=
 fun sh t Q E hQ=>wpR_While (I.whl AO EO TO R c b sh t Q _ (PF.flO I Pr AO EO TO R G hQ))
theorem d_fre (c e:XE) (b:List XS) (q:Pos):DoesF prog w V Hz A fs l C W (exec (embS (.fre c e b q) C) env) (x_for2 ⟨p,ih⟩ cd C loc c b (ih cd C loc W.s (.ev e))):=by
 intro sh t Q E hQ
 refine wpR_For (pf_v0 (F:=x_for2 ⟨p,ih⟩ cd C loc c b) (I.ev AO EO R e) hQ (fun a va W1 t1 hL1 R1 S1 ha hQ=>?_) (by trivial)) (fun x=>by cases e<;>rfl)
 refine Pr.iter AO R1 ha (PP:=fun r=>PF w.params V Hz fs l C W1 sh r Q E) (fun _ h=>h) hQ fun i W2 t2 cc hL2 hl hit R2 S2 hP=>?_
 exact I.frl AO ((EO.mv hL1).mv hL2) ((TO.mv hL1).mv hL2) R2 c i b sh t2 Q _ (PF.flO I Pr AO EO TO R G (PF.mv S2 hL2 hP))
theorem d_ret (e:Option XE) (q:Pos):DoesF prog w V Hz A fs l C W (exec (embS (.ret e q) C) env) (x_ret ⟨p,ih⟩ cd C loc W.s e):=by
 intro sh t Q E hQ
 induction e with
 |none=>exact wpR_Return_none (hQ (.ret .none) W t rfl rfl R (.refl fs W) ⟨.none,rfl,rfl⟩)
 |some e=>exact wpR_Return_some (pf_vX (F:=x_ret2 loc) (I.ev AO EO R e) hQ (fun a va W1 t1 hL1 R1 S1 ha hQ=>hQ (.ret va) W1 t1 rfl rfl R1 (.refl fs W1) ⟨va,rfl,ha⟩) (by trivial))
omit I Pr AO EO TO R G in
theorem rai_inv {PP:Res->Prop} (hn:∀ n,¬ PP (.fail n)) {a:AV} {s:Mine.St} (h:PP (x_rai2 (.v a s))) {G:Prop} (k:∀ i n,a=.ce i->qb s i (.exc n)->n < 7->PP (.ex n ⟨delP s.sto i,s.nx⟩)->G):G:=
 J.ce (hn 19) h fun i e h=>J.ex (hn 19) h fun n hl h=>J.tt (hn 19) h fun h7 h=>k i n e (by rw [ke] at hl;exact hl) (by rw [Nat.blt_eq] at h7;exact h7) (by
  have e:delC s i (fun s=>.ex n s)=.ex n ⟨delP s.sto i,s.nx⟩:=del_eq ..
  rw [e] at h;exact h)
omit I Pr AO EO TO G in
theorem freed_ex {sh:Shared} {Q:Flow->Shared->Prop} {E:VP} {i k:Nat} {t:Nat} (hl:qb W.s i (.exc k)) (hQ:PF w.params V Hz fs l C W sh (.ex k ⟨delP W.s.sto i,W.s.nx⟩) Q E):E (.ref (W.ρ i)) (at' sh W t):=by
 refine fr fun G g=>?_
 obtain ⟨_,Ck,o,hCk,ho,hex⟩:=R.cell i _ hl
 have hne:=freed_none W.h (W.ρ i)
 have hoth:∀ b o,b ≠ W.ρ i->W.h.get? b=some o->(W.h.update (W.ρ i) fun o=>{ o with data:=.freed }).get? b=some o:=fun b o hb e=>by
  rw [Heap.get?_update_other _ _ (Ne.symm hb)];exact e
 have H:=R.del hl hoth
 refine g (hQ (W.ρ i) ⟨_,W.L,W.ρ,⟨delP W.s.sto i,W.s.nx⟩⟩ W.h t rfl rfl (H.1.unl (loc':=uns C.names) (qf _) (qp _)) H.2 (.inr ⟨Ck,o,hCk,fun b o' e=>?_,hne,ho,hex⟩))
 by_cases hb:b=W.ρ i
 ·subst hb;rw [hne] at e;exact (jg _ e.symm).elim
 ·rw [Heap.get?_update_other _ _ (Ne.symm hb)] at e;exact e
theorem d_rai (e:XE) (q:Pos):DoesF prog w V Hz A fs l C W (exec (embS (.rai e q) C) env) (x_rai2 (ih cd C loc W.s (.ev e))):=by
 intro sh t Q E hQ
 have key {t':Nat}:wpR (model prog w) A (eval (kj e C) env) (fun v s₁=>∃ W' i k t',s₁=at' sh W' t'/\v=.ref (W'.ρ i)/\k < 7/\qb W'.s i (.exc k)/\Rel V w.params Hz fs C W' loc/\E v s₁) E (at' sh W t'):=
  pf_v0 (F:=x_rai2) (I.ev AO EO R e) hQ (fun a va W1 t1 hL1 R1 S1 ha hQ=>
   rai_inv (PP:=fun r=>PF w.params V Hz fs l C W1 sh r Q E) (fun _ h=>h) hQ fun i k e hl h7 hQ=>by
    have hv:va=.ref (W1.ρ i):=(show W1.R V (.ce i) va from e▸ha).2
    subst hv
    exact ⟨W1,i,k,t1,rfl,rfl,h7,hl,R1,freed_ex R1 hl hQ⟩) (by trivial)
 show wpR _ _ (exec (.Raise (some (kj e C)) none q) env) _ _ _
 rcases arm_exec_Raise' (kj e C) q env with h|h
 ·rw [h]
  refine jr (jt (Pr.rai AO R ?_))
  exact jr (jq key (fun v s hv=>jr (jt (jv hv))) fun _ _ x=>x)
 ·rw [h]
  exact jr (jt (Pr.rai AO R key))
omit I Pr AO EO TO R G in
set_option smartUnfolding false in
theorem triC_inv {b hb:List XS} {PP:Res->Prop} (hn:∀ n,¬ PP (.fail n)) {z:Z} {s:Mine.St} (h:PP (x_triC z cd C loc s b hb)) {M:List XS->List XS->Prop} (k:∀ h q2 q3 e q5,expOk e=true->PP (x_triX loc s.sto h (z.ih cd C loc ⟨[],s.nx⟩ (.ev e)))->M [.exp e q5] [.ret (some (.cB h q2)) q3]):M b hb:=by
 refine J.so (Φ:=PP) (o:=hbB hb) (hn 18) h fun hv e1 h=>J.so (Φ:=PP) (o:=expB b) (hn 18) h fun e e2 h=>J.tt (Φ:=PP) (hn 18) h fun he h=>?_
 exact (hbB_eq e1).elim fun q2 e1=>e1.elim fun q3 e1=>(expB_eq e2).elim fun q5 e2=>e1▸e2▸k hv q2 q3 e q5 he h
omit I Pr AO EO TO R G in
theorem triX_inv {PP:Res->Prop} (hn:∀ n,¬ PP (.fail n)) {hb:Bool} {sto:List (Nat × Cell)} {r:Res} (h:PP (x_triX loc sto hb r)) {G:Prop} (k:∀ n s,r=.ex n s->n < 7->PP (.fl (.ret (.bo hb)) (unl loc) ⟨sto,s.nx⟩)->G):G:=by
 induction r with
 |ex n s=>exact J.tt (Φ:=PP) (hn 18) (b:=Nat.blt n 7) (r:=.fl (.ret (.bo hb)) (unl loc) ⟨sto,s.nx⟩) h fun h7 h=>k n s rfl (by rw [Nat.blt_eq] at h7;exact h7) h
 |_=>exact (hn _ h).elim
theorem d_triC {hbv:Bool} {q2 q3 q5 q1 q4 q:Pos} {e:XE} {j:Nat} (he:expOk e=true) (hg:gval C j=.kl 0) {sh:Shared} {t:Nat} {Q:Flow->Shared->Prop} {E:VP} (hQ:PF w.params V Hz fs l C W sh (x_triX loc W.s.sto hbv (ih cd C loc ⟨[],W.s.nx⟩ (.ev e))) Q E):
  wpR (model prog w) A (exec (.Try (kr [.exp e q5] C) [embH (.mk (.gl j q1) none [.ret (some (.cB hbv q2)) q3] q4) C] [] [] q) env) Q E (at' sh W t):=by
 have R0:=(R.sub (s':=⟨[],W.s.nx⟩) rfl (List.nil_sublist _)).1
 refine wpR_Try_except (wpR_execs_cons (wpR_Expr_any ?_ (interactive_no I Pr AO EO TO R G) (swaps_none (isC_of he) _ _)))
 refine I.ev AO (W:={ W with s:=⟨[],W.s.nx⟩ }) EO R0 e sh t _ _ ?_
 refine triX_inv (PP:=fun r=>PF w.params V Hz fs l C W sh r Q E) (fun _ h=>h) hQ fun k s1 hr h7 hQ=>?_
 rw [show ih cd C loc (Wd.s { W with s:=⟨[],W.s.nx⟩ }) (.ev e)=.ex k s1 from hr]
 intro ea W1 h t1 hL1 hs1 R1 S1 hT
 refine TO.top.elim fun outer hl=>?_
 refine Pr.tri AO (W:=W1) (EO.mv hL1) hl (TO.fr.trans (congrArg some hL1.symm)) R1 j hbv q1 q2 q3 q4 hg h7 hT fun W2 t2 hL2 hs2 R2 S2=>?_
 have H:=R.again (W':=W2) (hL2.trans hL1) rfl R2 (S1.trans S2)
 exact hQ (.ret (.bool hbv)) { W2 with s:=⟨W.s.sto,W2.s.nx⟩ } t2 (hL2.trans hL1) (by rw [hs2,hs1]) (by rw [unl_uns R.len];exact H.1) H.2 ⟨_,rfl,rfl⟩
theorem d_tri (b:List XS) (hs:List XH) (q:Pos):DoesF prog w V Hz A fs l C W (exec (embS (.tri b hs q) C) env) (x_tri ⟨p,ih⟩ cd C loc W.s b hs):=by
 intro sh t Q E hQ
 have hQ:PF w.params V Hz fs l C W sh (match triK C hs with
  |some hb=>x_triC ⟨p,ih⟩ cd C loc W.s b hb
  |none=>match (generalizing:=false) hs with
   |[]=>.fail 18
   |_ :: _=>x_triN (ih cd C loc W.s (.ex b))) Q E:=hQ
 induction hk:triK C hs with
 |none=>
  rw [hk] at hQ
  induction hs using List.casesOn with
  |nil=>exact hQ.elim
  |cons h r=>
   exact wpR_Try_except (pf_f0 (F:=x_triN) (I.ex AO EO TO R b) hQ (fun f loc' f' W1 t1 hL1 R1 S1 hf hQ=>by
    have fin:=Flow.of hQ rfl R1 hf t1
    induction f'<;>first|exact wpR_execs_nil fin|exact fin) (by trivial))
 |some hb=>
  rw [hk] at hQ
  refine (triK_of hk).elim fun j hj=>hj.elim fun q1 hj=>hj.elim fun q4 hj=>?_
  rw [hj.1]
  exact triC_inv (PP:=fun r=>PF w.params V Hz fs l C W sh r Q E) (M:=fun b hb=>wpR (model prog w) A (exec (.Try (kr b C) [embH (.mk (.gl j q1) none hb q4) C] [] [] q) env) Q E (at' sh W t)) (fun _ h=>h) hQ fun h q2 q3 e q5 he hQ=>d_triC I Pr AO EO TO R G he hj.2 hQ
theorem d_st (st:XS):DoesF prog w V Hz A fs l C W (exec (embS st C) env) (s_st ⟨p,ih⟩ cd C loc W.s st):=by
 cases st with
 |exp e q=>
  exact fun sh t Q E hQ=>PF.tt hQ fun he hQ=>d_exp I Pr AO EO TO R G e q he sh t Q E hQ
 |asg ts e q=>exact d_asg I Pr AO EO TO R G ts e q
 |aug i np op e q=>exact d_aug I Pr AO EO TO R G i np op e q
 |iff c b o q=>exact d_iff I Pr AO EO TO R G c b o q
 |whl c b q=>exact d_whlS I Pr AO EO TO R G c b q
 |fre c e b q=>exact d_fre I Pr AO EO TO R G c e b q
 |ret e q=>exact d_ret I Pr AO EO TO R G e q
 |rai e q=>exact d_rai I Pr AO EO TO R G e q
 |tri b hs q=>exact d_tri I Pr AO EO TO R G b hs q
 |pas q=>
  intro sh t Q E hQ
  exact wpR_Pass (hQ .next W t rfl rfl R (.refl fs W) rfl)
set_option tactic.hygienic true in
theorem d_ex (ss:List XS):DoesF prog w V Hz A fs l C W (execs (kr ss C) env) (s_ex ⟨p,ih⟩ cd C loc W.s ss):=by
 intro sh t Q E hQ
 induction ss using List.casesOn with
 |nil=>exact wpR_execs_nil (hQ .next W t rfl rfl R (.refl fs W) rfl)
 |cons st rest=>
  refine wpR_execs_cons (d_st I Pr AO EO TO R G st sh t _ E ?_)
  have hQ:PF w.params V Hz fs l C W sh (s_ex2 ⟨p,ih⟩ cd C rest (s_st ⟨p,ih⟩ cd C loc W.s st)) Q E:=hQ
  generalize s_st ⟨p,ih⟩ cd C loc W.s st=r at hQ ⊢
  induction r with
  |fl f loc' s1=>
   intro f' W1 t1 hL1 hs1 R1 S1 hf
   subst hs1
   have hQ:=PF.mv S1 hL1 hQ
   induction f with
   |next=>
    cases (show f'=.next from hf)
    exact I.ex AO (EO.mv hL1) (TO.mv hL1) R1 rest sh t1 Q E hQ
   |brk=>cases (show f'=.brk from hf);exact Flow.of hQ rfl R1 rfl t1
   |cont=>cases (show f'=.cont from hf);exact Flow.of hQ rfl R1 rfl t1
   |ret a=>exact hf.elim fun v e=>e.1▸Flow.of hQ rfl R1 ⟨v,rfl,e.2⟩ t1
  |ex k s1=>exact hQ
  |_=>exact hQ.elim
end
section
variable (prog:Program) (w:World) (V:Vl) (Hz:Heap) (A:Around) (fs:List Addr) (l:List Env) (C:EC) (W:Wd) (loc:List AV)
noncomputable def DoesA (m:Sem Value) (r:Res):Prop:=∀ sh t Q E,PV w.params V Hz fs l C W loc sh r Q E->wpAny (model prog w) A m Q E (at' sh W t)
theorem DoesA.to {prog:Program} {w:World} {V:Vl} {Hz:Heap} {A:Around} {fs:List Addr} {l:List Env} {C:EC} {W:Wd} {loc:List AV} {m:Sem Value} {r:Res} (h:DoesA prog w V Hz A fs l C W loc m r):Does prog w V Hz A fs l C W loc m r:=
 fun sh t Q E hQ=>.of (h sh t Q E hQ)
end
mutual
noncomputable def plainA:AV->Bool
 |.no|.it _|.st _|.by _=>true
 |.tu l=>plainAs l
 |_=>false
noncomputable def plainAs:List AV->Bool
 |[]=>true
 |a :: r=>plainA a && plainAs r
end
structure VOk (V:Vl) (p:Par):Prop where
 β:∀ j,(V.β j).length<=10000
 w:V.cs 0 % 44 % 4=(p.w:Int)
 ix:∀ k,((V.ix k:Nat):Int)=V.cs (k+1) % 44 % 11
 kt:∀ j,j < 50->∃ t,p.kt[V.ix j]?=some (.tu [t,.by (mkCk (V.β (2 * j))),.by (mkCk (V.β (2 * j+1)))])/\V.τ j=t
 τ:∀ j,plainA (V.τ j)=true/\dep 20 (V.τ j)=true/\∃ x r,V.τ j=.tu (.st x :: r)/\x ≠ [97,110,100]
theorem lens_le {V:Vl} {p:Par} (O:VOk V p):∀ js:List Nat,lens V js<=10000 * js.length
 |[]=>Nat.zero_le _
 |j :: r=>Nat.le_trans (Nat.add_le_add (O.β j) (lens_le O r)) (Nat.le_of_eq (by rw [List.length_cons,Nat.mul_succ,Nat.add_comm]))
theorem flat_length (V:Vl):∀ cs:List Ck,(flat V cs).length=lens V (lenCk cs).1+(lenCk cs).2
 |[]=>rfl
 |.lit l :: r=>by have:=flat_length V r;simp only [flat,List.length_append,lenCk,this];omega
 |.atm j :: r=>by have:=flat_length V r;simp only [flat,List.length_append,lenCk,lens,this];omega
theorem flat_cat (V:Vl):∀ x y:List Ck,flat V (catCk x y)=flat V x ++ flat V y
 |[],y=>rfl
 |.atm j :: r,y=>(congrArg (V.β j ++ ·) (flat_cat V r y)).trans (List.append_assoc _ _ _).symm
 |.lit a :: [],.lit b :: r=>by show (a ++ b) ++ flat V r=(a ++ []) ++ (b ++ flat V r);rw [List.append_nil,List.append_assoc]
 |.lit a :: [],[]=>(List.append_nil _).symm
 |.lit a :: [],.atm b :: r=>by show a ++ (V.β b ++ flat V r)=(a ++ []) ++ (V.β b ++ flat V r);rw [List.append_nil]
 |.lit a :: b :: r,y=>(congrArg (a ++ ·) (flat_cat V (b :: r) y)).trans (List.append_assoc _ _ _).symm
theorem fitCk_le {V:Vl} {p:Par} (O:VOk V p) {cs:List Ck} (h:fitCk cs=true):(flat V cs).length<=10100000:=by
 rw [flat_length]
 unfold fitCk at h
 revert h
 induction hl:lenCk cs with
 |mk js c=>
  simp only
  induction h1:ki js 1000 with
  |false=>intro h;exact (jh h).elim
  |true=>
   intro h
   have h1:=kh h1
   have h2:c < 100000:=by simpa [Nat.blt_eq] using h
   have:=lens_le O js
   omega
theorem qj (d:Array UInt8):(bN d).length=d.size:=by simp [bN]
theorem bN_append (d e:Array UInt8):bN (d ++ e)=bN d ++ bN e:=by simp [bN]
theorem bN_inj {d e:Array UInt8} (h:bN d=bN e):d=e:=by
 unfold bN at h
 have:=List.map_inj_right (f:=UInt8.toNat) (fun x y=>UInt8.toNat_inj.mp) |>.mp h
 exact Array.toList_inj.mp this
theorem mkStr'_append (x y:List Nat):jk x ++ jk y=jk (x ++ y):=by
 show Str.append _ _=_
 simp [Str.append,jk]
theorem qr (x:List Nat):(jk x).length=x.length:=by simp [jk,Str.length]
theorem mkStr'_inj {x y:List Nat} (h:jk x=jk y):x=y:=by
 simp only [jk,Str.mk.injEq] at h
 exact List.toArray_inj h
theorem qe:sizeLine=16777216:=sizeLine_eq
theorem fitSt {l:List Nat} (h:fitA (.st l)=true):l.length < 100000:=by simpa [fitA,Nat.blt_eq] using h
theorem fmod_nat (a:Int) (m:Nat):a.fmod (Int.ofNat (m+1))=a % ((m+1:Nat):Int):=Int.fmod_eq_emod_of_nonneg a (by simp only [Int.ofNat_eq_natCast];omega)
noncomputable def modN (p:Par) (a:AV) (m:Nat):Option AV:=modOp p a (.it (.ofNat m))
theorem modOp_eq (p:Par) (a b:AV):modOp p a b=match b with|.it (.ofNat m)=>modN p a m|_=>none:=by
 induction b using AV.casesOn with
 |it i=>induction i<;>exact Eq.refl _
 |_=>exact Eq.refl none
theorem bin3_inv {PP:Res->Prop} (hn:∀ n,¬ PP (.fail n)) {z:Z} {op:Operator} {a b:AV} {s:Mine.St} (h:PP (e_bin3 z op a (.v b s))) {G:Prop} (k1:∀ k,a=.ce k->op=.Mult->PP (e_mulL k b s)->G) (k2:PP (ofO 9 s (binOp z.p op a b))->G):G:=by
 have h:PP (match a.ce? with
  |some k=>match (generalizing:=false) op with
   |.Mult=>e_mulL k b s
   |_=>.fail 9
  |none=>ofO 9 s (binOp z.p op a b)):=h
 induction e:a.ce? with
 |none=>rw [e] at h;exact k2 h
 |some k=>
  rw [e] at h
  induction op with
  |Mult=>exact k1 k (AV.ce?_eq e) rfl h
  |_=>exact (hn _ h).elim
theorem J.it1 {β:Type} {Φ:β->Prop} {d:β} {G:Prop} (hd:¬ Φ d) {a:AV} {f:β} (h:Φ (match a with|.it (.ofNat 1)=>f|_=>d)) (k:a=.it (.ofNat 1)->Φ f->G):G:=by
 induction a using AV.casesOn with
 |it i=>match i with
  |.ofNat 1=>exact k rfl h
  |.ofNat 0=>exact (hd h).elim
  |.ofNat (_+2)=>exact (hd h).elim
  |.negSucc _=>exact (hd h).elim
 |_=>exact (hd h).elim
section
variable {prog:Program} {w:World} {V:Vl} {Hz:Heap} {p:Par} {fs:List Addr} {l:List Env} {C:EC} {W:Wd} {loc:List AV} {A:Around} {cd:Nat}
variable (O:VOk V p) (AO:AOk cd l fs A) (R:Rel V w.params Hz fs C W loc)
include O AO R
theorem p_neg {i:Int} {va:Value} (ha:W.R V (.it i) va):DoesA prog w V Hz A fs l C W loc (unaryOp .USub va) (retA W.s (.it (Int.neg i))):=by
 intro sh t Q E hQ
 obtain ⟨u,rfl⟩:=ha
 obtain ⟨_,hQ⟩:=PV.retA hQ
 exact PySem.P.neg_int (hQ _ W _ rfl rfl R (.refl fs W) ⟨_,rfl⟩)
theorem PV.ofO {n:Nat} {o:Option AV} {sh:Shared} {Q:VP} {E:VP} (h:PV w.params V Hz fs l C W loc sh (ofO n W.s o) Q E):
  ∃ a,o=some a/\fitA a=true/\PV w.params V Hz fs l C W loc sh (.v a W.s) Q E:=by
 induction o with
 |none=>exact h.elim
 |some a=>exact ⟨a,rfl,PV.retA h⟩
omit O AO R in
theorem addOp_elim {a b x:AV} {M:AV->AV->AV->Prop} (h:addOp a b=some x) (k1:∀ x y,M (.it x) (.it y) (.it (Int.add x y))) (k2:∀ js x y,M (.ln js x) (.it (.ofNat y)) (.ln js (x+y))) (k3:∀ x y,M (.st x) (.st y) (.st (x ++ y))) (k4:∀ x y,M (.by x) (.by y) (.by (catCk x y))):M a b x:=by
 induction a using AV.casesOn with
 |it x=>exact Op.it h fun y e h=>e▸jf h▸k1 x y
 |ln js x=>exact Op.itN h fun y e h=>e▸jf h▸k2 js x y
 |st x=>exact Op.st h fun y e h=>e▸jf h▸k3 x y
 |«by» x=>exact Op.by h fun y e h=>e▸jf h▸k4 x y
 |_=>exact (jg _ h.symm).elim
omit O AO R in
theorem sub_bin {a b x:AV} {va vb:Value} (ha:W.R V a va) (hb:W.R V b vb) (hx:binOp p .Sub a b=some x) {sh:Shared} {t:Nat} {Q:VP} {E:VP}
  (hQ:∀ v t',W.R V x v->Q v (at' sh W t')):wpAny (model prog w) A (binaryOp .Sub va vb) Q E (at' sh W t):=
 Op.it (show (match (generalizing:=false) a with|.it x=>(match (generalizing:=false) b with|.it y=>some (.it (Int.sub x y))|_=>none)|_=>none)=some x from hx) fun x e h=>Op.it h fun y e' h=>by
  subst e e'
  obtain ⟨u,rfl⟩:=ha
  obtain ⟨u',rfl⟩:=hb
  obtain rfl:=jf h
  exact PySem.P.sub_int (hQ _ _ ⟨_,rfl⟩)
omit O AO R in
theorem mulOp_elim {a b x:AV} {M:AV->AV->AV->Prop} (h:mulOp a b=some x) (k1:∀ x y,x < 1000000000000000->M (.it (.ofNat x)) (.it y) (.it (Int.mul (.ofNat x) y))) (k2:∀ x y,y<=0->.negSucc 100000<=y->M (.st x) (.it y) (.st [])):M a b x:=by
 induction a using AV.casesOn with
 |it x=>induction x with
  |ofNat x=>exact Op.tt h fun hlt h=>Op.it h fun y e h=>e▸jf h▸k1 x y (qq hlt)
  |negSucc x=>exact (jg _ h.symm).elim
 |st x=>exact Op.it h fun y e h=>Op.tt h fun h1 h=>Op.tt h fun h2 h=>e▸jf h▸k2 x y ((PySem.W.Z.leB_iff y 0).mp h1) ((PySem.W.Z.leB_iff _ y).mp h2)
 |_=>exact (jg _ h.symm).elim
omit O AO R in
theorem modOp_elim {a b x:AV} {M:AV->AV->AV->Prop} (h:modOp p a b=some x) (k1:∀ n m,M (.it (.ofNat n)) (.it (.ofNat (m+1))) (.it (.ofNat (n % (m+1))))) (k2:∀ k,M (.sc k) (.it (.ofNat 44)) (.sm k)) (k3:M (.sm 0) (.it (.ofNat 4)) (.it (.ofNat p.w))) (k4:∀ k,M (.sm (k+1)) (.it (.ofNat 11)) (.kx k)):M a b x:=
 Op.itN ((modOp_eq p a b).symm.trans h) fun m e h=>by
  subst e
  induction m using Nat.casesAuxOn with
  |zero=>induction a using AV.casesOn<;>exact (jg _ h.symm).elim
  |succ m=>induction a using AV.casesOn with
   |it n=>induction n with
    |ofNat n=>exact jf h▸k1 n m
    |negSucc _=>exact (jg _ h.symm).elim
   |sc k=>exact Op.tt h fun hm h=>je hm▸jf h▸k2 k
   |sm k=>induction k using Nat.casesAuxOn with
    |zero=>exact Op.tt h fun hm h=>je hm▸jf h▸k3
    |succ k=>exact Op.tt h fun hm h=>je hm▸jf h▸k4 k
   |_=>exact (jg _ h.symm).elim
theorem op_bin {op:Operator} {a b x:AV} {va vb:Value} (ha:W.R V a va) (hb:W.R V b vb) (hx:binOp p op a b=some x) (hf:fitA x=true) {sh:Shared} {t:Nat} {Q:VP} {E:VP}
  (hQ:∀ v t',W.R V x v->Q v (at' sh W t')):wpAny (model prog w) A (binaryOp op va vb) Q E (at' sh W t):=by
 induction op with
 |Add=>
  refine addOp_elim (M:=fun a b x=>W.R V a va->W.R V b vb->fitA x=true->(∀ v t',W.R V x v->Q v (at' sh W t'))->wpAny (model prog w) A (binaryOp .Add va vb) Q E (at' sh W t)) hx ?_ ?_ ?_ ?_ ha hb hf hQ
  ·exact fun x y ⟨u,e⟩ ⟨u',e'⟩ _ hQ=>e▸e'▸PySem.P.add_int (hQ _ _ ⟨_,rfl⟩)
  ·exact fun js x y ⟨u,e⟩ ⟨u',e'⟩ _ hQ=>e▸e'▸PySem.P.add_int (hQ _ _ ⟨_,by congr 1;simp only [Int.ofNat_eq_natCast];omega⟩)
  ·intro x y ⟨u,e⟩ ⟨u',e'⟩ hf hQ
   have hl:=fitSt hf
   subst e e'
   refine PyProof.Rows.add_str (fun t' tk=>?_) (by rw [qr,qr,qe];simp only [List.length_append] at hl;omega)
   rw [mkStr'_append]
   exact hQ _ tk ⟨_,rfl⟩
  ·intro x y ⟨d,u,e,hd⟩ ⟨d',u',e',he⟩ hf hQ
   subst e e'
   have hl:=fitCk_le O (show fitCk _=true from hf)
   rw [flat_cat,<- hd,<- he,<- bN_append,qj,Array.size_append] at hl
   exact PySem.W.KBy.add_bytes (by omega) fun t' k=>hQ _ k ⟨_,_,rfl,by rw [bN_append,flat_cat,hd,he]⟩
 |Sub=>exact sub_bin ha hb hx hQ
 |Mult=>
  refine mulOp_elim (M:=fun a b x=>W.R V a va->W.R V b vb->(∀ v t',W.R V x v->Q v (at' sh W t'))->wpAny (model prog w) A (binaryOp .Mult va vb) Q E (at' sh W t)) hx ?_ ?_ ha hb hQ
  ·exact fun x y hlt ⟨u,e⟩ ⟨u',e'⟩ hQ=>e▸e'▸PySem.P.mul_int (hQ _ _ ⟨_,rfl⟩) (.of_left (intBits_le_64 (by simp only [Int.ofNat_eq_natCast];omega) (by simp only [Int.ofNat_eq_natCast];omega)))
  ·exact fun x y h1 h2 ⟨u,e⟩ ⟨u',e'⟩ hQ=>e▸e'▸PySem.P.mul_str_none (by omega) (by omega) (hQ _ _ ⟨_,rfl⟩)
 |Mod=>
  refine modOp_elim (M:=fun a b x=>W.R V a va->W.R V b vb->(∀ v t',W.R V x v->Q v (at' sh W t'))->wpAny (model prog w) A (binaryOp .Mod va vb) Q E (at' sh W t)) hx ?_ ?_ ?_ ?_ ha hb hQ
  ·exact fun n m ⟨u,e⟩ ⟨u',e'⟩ hQ=>e▸e'▸PyProof.Rows.mod_int' (by simp only [Int.ofNat_eq_natCast];omega) (hQ _ _ ⟨_,by rw [fmod_nat];rfl⟩)
  ·exact fun k ⟨u,e⟩ ⟨u',e'⟩ hQ=>e▸e'▸PyProof.Rows.mod_int' (by decide) (hQ _ _ ⟨_,by rw [fmod_nat];rfl⟩)
  ·exact fun ⟨u,e⟩ ⟨u',e'⟩ hQ=>e▸e'▸PyProof.Rows.mod_int' (by decide) (hQ _ _ ⟨_,by rw [fmod_nat];congr 1;exact O.w⟩)
  ·exact fun k ⟨u,e⟩ ⟨u',e'⟩ hQ=>e▸e'▸PyProof.Rows.mod_int' (by decide) (hQ _ _ ⟨_,by rw [fmod_nat];congr 1;exact (O.ix _).symm⟩)
 |_=>exact (jg _ hx.symm).elim
theorem p_mulL {k:Nat} {b:AV} {va vb:Value} (ha:W.R V (.ce k) va) (hb:W.R V b vb) {sh:Shared} {t:Nat} {Q:VP} {E:VP} (hQ:PV w.params V Hz fs l C W loc sh (e_mulL k b W.s) Q E):wpAny (model prog w) A (binaryOp .Mult va vb) Q E (at' sh W t):=by
 refine J.it1 (Φ:=fun r=>PV w.params V Hz fs l C W loc sh r Q E) (d:=.fail 9) id hQ fun e hQ=>J.li (Φ:=fun r=>PV w.params V Hz fs l C W loc sh r Q E) (d:=.fail 9) id hQ fun as hl hQ2=>?_
 rw [ke] at hl
 subst e
 refine fr fun G g=>?_
 obtain ⟨_,vs,⟨n,ho⟩,hv⟩:=R.cell k _ hl
 have hN:=PV.newL R hv hQ2 t
 have hsz:vs.length<=16777216:=by have:=hN.1;rw [qe] at this;exact this
 have he:List.foldl (fun x1 x2=>x1 ++ x2) #[] (List.replicate (if vs.toArray.isEmpty=true then 0 else (Int.ofNat 1).toNat) vs.toArray)=vs.toArray:=by
  induction vs using List.casesOn with
  |nil=>rfl
  |cons v r=>simp
 refine g ?_
 obtain ⟨hk,rfl⟩:=ha
 obtain ⟨u,rfl⟩:=hb
 refine wpAny_binaryOp_repeat_ref (T:="list") (U:="int") (by decide) ⟨_,ho,rfl⟩ (fun s'=>typeIs_int s' _ u) noFill_list_mul PySem.F.fills_int_mul PySem.F.slot_int_rmul repeat_list PySem.F.slot_int_index.lookup
  (call_meets PySem.F.slot_int_rmul (typeIs_int _ _ u) PySem.F.entry_int_rmul (PySem.F.args_int_rmul_2 _ _) (int___rmul___int_list _ u _ _ n)
   ⟨ho,rfl,⟨_,ho,rfl⟩,call_meets PySem.F.slot_list_mul ⟨_,ho,rfl⟩ PySem.F.entry_list_mul (PySem.F.args_list_mul_2 _ _)
    (AutoListH.list___mul___list_int_3 _ _ n _ u (by decide) (by simp;omega) (by simp [Builtin.List.listTooLong,qe];omega))
    ⟨ho,?_⟩⟩)
 rw [he]
 exact hN.2
theorem p_bin {op:Operator} {a b:AV} {va vb:Value} (ha:W.R V a va) (hb:W.R V b vb):DoesA prog w V Hz A fs l C W loc (binaryOp op va vb) (e_bin3 ⟨p,fun _ _ _ _ _=>.fail 0⟩ op a (.v b W.s)):=fun sh t Q E hQ=>
 bin3_inv (PP:=fun r=>PV w.params V Hz fs l C W loc sh r Q E) (fun _ h=>h) hQ (fun k e e' hQ=>e'▸p_mulL O AO R (e▸ha) hb hQ) fun h=>
  (PV.ofO O AO R h).elim fun x h=>op_bin O AO R ha hb h.1 h.2.1 fun v t' hv=>h.2.2 v W t' rfl rfl R (.refl fs W) hv
theorem p_aug {i:Int} {b x:AV} {va vb:Value} (ha:W.R V (.it i) va) (hb:W.R V b vb) (hx:binOp p .Add (.it i) b=some x) {sh:Shared} {t:Nat} {Q:VP} {E:VP}
  (hQ:∀ v W' t',W'.L=W.L->W'.s=W.s->Rel V w.params Hz fs C W' loc->Stp fs W W'->W'.R V x v->Q v (at' sh W' t')):wpAny (model prog w) A (inplaceOp .Add va vb) Q E (at' sh W t):=by
 have fin:∀ v t',W.R V x v->Q v (at' sh W t'):=fun v t' hv=>hQ v W t' rfl rfl R (.refl fs W) hv
 refine Op.it (show (match (generalizing:=false) b with|.it y=>some (.it (Int.add i y))|_=>none)=some x from hx) fun j e h=>?_
 subst e
 obtain ⟨u,rfl⟩:=ha
 obtain ⟨u',rfl⟩:=hb
 obtain rfl:=jf h
 exact PySem.P.iadd_int (fin _ _ ⟨_,rfl⟩)
end
theorem RcAt_bytes {A:Around} {s:Shared} (d e:Array UInt8) (t u:Tok):SeqAt.RcAt A s (.bytes d t) (.bytes e u) (d.toList == e.toList):=fun prog w E Q hq=>by
 have:=eq_bytes (prog:=prog) (w:=w) (A:=A) (E:=E) (s:=s) (b:=d) (c:=e) (t:=t) (u:=u) (Q:=Q) hq
 exact this
theorem EqAt_bytes {A:Around} {s:Shared} (d:Array UInt8) (t u:Tok):SeqAt.EqAt A s (.bytes d t) (.bytes d u) true:=fun prog w E Q hq=>by
 unfold eqBool
 refine wpAny_holding ?_
 refine wpAny_ite_split (fun hab=>?_) (fun _=>?_)
 ·exact jc (wpAny_rule (ji hq))
 ·refine jc (RcAt_bytes d d t u prog w E _ ?_)
  rw [beq_self_eq_true]
  exact wpAny_truthy_bool hq
theorem EqAt_refs {A:Around} {s:Shared} {a b:Addr} (h:SeqAt.RcAt A s (.ref a) (.ref b) true):SeqAt.EqAt A s (.ref a) (.ref b) true:=by
 by_cases e:a=b
 ·subst e;exact SeqAt.EqAt.same _
 ·exact SeqAt.EqAt.of_refs e h
theorem int_eq_refl (A:Around) (s:Shared) (i:Int) (t u:Tok):SeqAt.EqAt A s (.int i t) (.int i u) true:=by
 have:=SeqAt.EqAt.int_int (A:=A) (s:=s) i t i u
 simpa using this
theorem str_eq_refl (A:Around) (s:Shared) (x:Str) (t u:Tok):SeqAt.EqAt A s (.str x t) (.str x u) true:=by
 have:=SeqAt.EqAt.str_str (A:=A) (s:=s) x t x u
 simpa using this
theorem in1_units (A:Around):A.in1.units=A.units+1:=rfl
theorem Op2 {b c:Bool} (h:(match b with|true=>c|false=>false)=true):b=true/\c=true:=by
 induction b with
 |true=>exact ⟨rfl,h⟩
 |false=>exact (jh h).elim
section
variable {T:Nat->Value->Prop} {V:Vl} {s:Shared} {ρ:Nat->Addr} {nx:Nat} {c:Nat}
mutual
theorem eqG (hT:∀ j v v' (A:Around),A.units+c < cLine->T j v->T j v'->SeqAt.EqAt A s v v' true):
  ∀ (a:AV) (n:Nat) (v v':Value) (A:Around),dep n a=true->AV.eq a a=true->A.units+n+c < cLine->RepG T V s.heap ρ nx a v->RepG T V s.heap ρ nx a v'->SeqAt.EqAt A s v v' true
 |.no=>fun n v v' A _ _ _ x y=>(show v=.none from x)▸(show v'=.none from y)▸SeqAt.EqAt.same _
 |.it i=>by
  intro n v v' A _ _ _ x y
  obtain ⟨t,rfl⟩:=x
  obtain ⟨u,rfl⟩:=y
  exact int_eq_refl A s i t u
 |.st l=>by
  intro n v v' A _ _ _ x y
  obtain ⟨t,rfl⟩:=x
  obtain ⟨u,rfl⟩:=y
  exact str_eq_refl A s _ t u
 |.by cs=>by
  intro n v v' A _ _ _ x y
  obtain ⟨d,t,rfl,hd⟩:=x
  obtain ⟨d',u,rfl,he⟩:=y
  have:d=d':=bN_inj (hd.trans he.symm)
  subst this
  exact EqAt_bytes d t u
 |.tr j=>by
  intro n v v' A _ _ hu x y
  exact hT j v v' A (by omega) x y
 |.tu l=>by
  intro n v v' A hd he hu x y
  obtain ⟨a,vs,rfl,ha,hx⟩:=x
  obtain ⟨b,ws,rfl,hb,hy⟩:=y
  induction n using Nat.casesAuxOn with
  |zero=>exact (jh hd).elim
  |succ n=>
   have hd:deps n l=true:=hd
   have he:AV.eqs l l=true:=he
   refine EqAt_refs ?_
   have hl:vs.length=ws.length:=by rw [ku.length hx,ku.length hy]
   have:=SeqAt.RcAt.tuples (e:=fun _=>true) ha hb (A:=A) (by omega) fun j h1 h2=>by
    have:=eqGs hT l n vs ws A.in1 hd he (by rw [in1_units];omega) hx hy j (by simpa using h1) (by simpa using h2)
    simpa using this
   have hall:((List.range (min vs.toArray.size ws.toArray.size)).all (fun _=>true) && vs.toArray.size == ws.toArray.size)=true:=by simp [hl]
   rw [hall] at this
   exact this
 |.un|.bo _|.ln _ _|.rg _|.ce _|.ob _|.fn _|.kl _|.bi _|.bm _ _|.hd _|.sc _|.sm _|.kx _|.scr=>fun _ _ _ _ _ h _ _ _=>(jh h).elim
theorem eqGs (hT:∀ j v v' (A:Around),A.units+c < cLine->T j v->T j v'->SeqAt.EqAt A s v v' true):
  ∀ (l:List AV) (n:Nat) (vs ws:List Value) (A:Around),deps n l=true->AV.eqs l l=true->A.units+n+c < cLine->ku T V s.heap ρ nx l vs->ku T V s.heap ρ nx l ws->
   ∀ j (h1:j < vs.length) (h2:j < ws.length),SeqAt.EqAt A s vs[j] ws[j] true
 |[]=>fun n vs ws A _ _ _ x _ j h1 _=>by cases (show vs=[] from x);exact absurd h1 (Nat.not_lt_zero _)
 |a :: r=>by
  intro n vs ws A hd he hu x y j h1 h2
  obtain ⟨v,vs,rfl,x1,x2⟩:=x
  obtain ⟨v',ws,rfl,y1,y2⟩:=y
  have hd':dep n a=true/\deps n r=true:=Op2 hd
  have he':AV.eq a a=true/\AV.eqs r r=true:=Op2 he
  induction j using Nat.casesAuxOn with
  |zero=>exact eqG hT a n v v' A hd'.1 he'.1 hu x1 y1
  |succ j=>exact eqGs hT r n vs ws A hd'.2 he'.2 hu x2 y2 j (Nat.lt_of_succ_lt_succ h1) (Nat.lt_of_succ_lt_succ h2)
end
end
mutual
theorem plain_eq:∀ a:AV,plainA a=true->AV.eq a a=true
 |.no=>fun _=>rfl
 |.it i=>fun _=>(PySem.W.Z.eqB_iff i i).mpr rfl
 |.st l=>fun _=>(qd l l).mpr rfl
 |.by cs=>fun _=>eqC_refl cs
 |.tu l=>fun h=>plain_eqs l h
 |.un|.bo _|.ln _ _|.rg _|.ce _|.ob _|.fn _|.kl _|.bi _|.bm _ _|.tr _|.hd _|.sc _|.sm _|.kx _|.scr=>fun h=>(jh h).elim
theorem plain_eqs:∀ l:List AV,plainAs l=true->AV.eqs l l=true
 |[],_=>rfl
 |a :: r,h=>by
  have h':plainA a=true/\plainAs r=true:=jb.mp h
  show (match AV.eq a a with|true=>AV.eqs r r|false=>false)=true
  rw [plain_eq a h'.1]
  exact plain_eqs r h'.2
theorem eqC_refl:∀ cs:List Ck,eqC cs cs=true
 |[]=>rfl
 |.lit l :: r=>by
  show (match eqL l l with|true=>eqC r r|false=>false)=true
  rw [(qd l l).mpr rfl]
  exact eqC_refl r
 |.atm j :: r=>by
  show (match Nat.beq j j with|true=>eqC r r|false=>false)=true
  rw [Nat.beq_refl]
  exact eqC_refl r
end
theorem eqV {V:Vl} {p:Par} (O:VOk V p) {s:Shared} {ρ:Nat->Addr} {nx:Nat} {l:List AV} {v v':Value} {A:Around} (hd:deps 30 l=true) (he:AV.eqs l l=true) (hu:A.units+60 < cLine)
  (x:kz V s.heap ρ nx (.tu l) v) (y:kz V s.heap ρ nx (.tu l) v'):SeqAt.EqAt A s v v' true:=
 eqG (c:=25) (fun j v v' A hu x y=>eqG (c:=0) (fun _ _ _ _ _ h=>h.elim) (V.τ j) 20 v v' A (O.τ j).2.1 (plain_eq _ (O.τ j).1) (by omega) x y) (.tu l) 31 v v' A hd he (by omega) x y
noncomputable def isS (q:List Nat):Value->Bool
 |.str x _=>x == jk q
 |_=>false
theorem mkStr'_beq (x y:List Nat):(jk x == jk y)=eqL x y:=by
 rw [eqL_eq,Bool.eq_iff_iff,beq_iff_eq,decide_eq_true_eq]
 exact ⟨mkStr'_inj,fun h=>by rw [h]⟩
set_option smartUnfolding false in
theorem sts_cons {a:AV} {r:List AV} {xs:List (List Nat)} (h:sts? (a :: r)=some xs):∃ x ys,a=.st x/\sts? r=some ys/\xs=x :: ys:=
 Op.st (show (match (generalizing:=false) a with|.st l=>(match sts? r with|some xs=>some (l :: xs)|none=>none)|_=>none)=some xs from h) fun x e h=>Op.so (o:=sts? r) h fun ys hr h=>⟨x,ys,e,hr,(jf h).symm⟩
theorem strs_any {T:Nat->Value->Prop} {V:Vl} {h:Heap} {ρ:Nat->Addr} {nx:Nat} (q:List Nat):∀ {l:List AV} {xs:List (List Nat)} {vs:List Value},sts? l=some xs->ku T V h ρ nx l vs->
  vs.any (isS q)=hasL q xs/\∀ v ∈ vs,∃ x t,v=.str (jk x) t:=by
 intro l
 induction l with
 |nil=>
  intro xs vs h1 h2
  obtain rfl:=jf h1
  cases (show vs=[] from h2)
  exact ⟨rfl,nofun⟩
 |cons a r ih=>
  intro xs vs h1 h2
  obtain ⟨l,ys,rfl,hr,rfl⟩:=sts_cons h1
  obtain ⟨v,s,rfl,⟨t,rfl⟩,x2⟩:=h2
  obtain ⟨i1,i2⟩:=ih hr x2
  refine ⟨?_,fun v hv=>(List.mem_cons.mp hv).elim (fun e=>⟨l,t,e⟩) (i2 v)⟩
  show (isS q (.str (jk l) t) || s.any (isS q))=(match eqL l q with|true=>true|false=>hasL q ys)
  rw [i1]
  show ((jk l == jk q) || _)=_
  rw [mkStr'_beq]
  cases eqL l q<;>rfl
theorem hasN_iff (n:Nat):∀ l:List Nat,hasN n l=true ↔ n ∈ l
 |[]=>by simp [hasN]
 |x :: r=>by
  by_cases h:x=n
  ·subst h;simp [hasN]
  ·have hb:Nat.beq x n=false:=nbeq h
   simp [hasN,hb,hasN_iff n r,Ne.symm h]
theorem gives_bytes_in (d:Array UInt8) (n:Nat) (t u:Tok) (hn:n < 256):Gives (Builtin.«bytes.__contains__» ⟨[.bytes d t,.int (n:Int) u],[]⟩) (.val (.bool (hasN n (bN d)))):=by
 refine .of_wp fun M A E s Q hq=>?_
 have he:d.contains (n:Int).toNat.toUInt8=hasN n (bN d):=by
  rw [Bool.eq_iff_iff,hasN_iff,Array.contains_iff_mem]
  unfold bN
  rw [List.mem_map]
  constructor
  ·intro h
   exact ⟨_,Array.mem_toList_iff.mpr h,by simp [Nat.mod_eq_of_lt hn]⟩
  ·rintro ⟨x,hx,rfl⟩
   have:((x.toNat:Int)).toNat.toUInt8=x:=by simp
   rw [this];exact Array.mem_toList_iff.mp hx
 show wpAny M A (Builtin.Bytes.containsIn "bytes.__contains__" (.bytes d t) (.int (n:Int) u) >>= fun b=>ret (.bool b)) _ E s
 unfold Builtin.Bytes.containsIn
 refine jc (jc (wpAny_of_eq (show (asIndex (.int (n:Int) u)).attempt=pure (.ok (n:Int)) from rfl) ?_))
 rw [PySem.W.KBy.buffer_eq]
 refine jc (ji ?_)
 have h1:¬ ((decide ((n:Int) < 0) || decide ((n:Int) >= 256))=true):=by simp;omega
 show wpAny M A (if (decide ((n:Int) < 0) || decide ((n:Int) >= 256))=true then _ else _) _ E s
 rw [if_neg h1,he]
 exact ji (ji ⟨_,rfl,hq⟩)
theorem strLe_eq:∀ x y:List Nat,(!decide (y < x))=strLe x y
 |[],y=>by simp [strLe]
 |a :: r,[]=>by simp [strLe]
 |a :: r,b :: s=>by
  have ih:=strLe_eq r s
  simp only [strLe]
  by_cases h1:a < b
  ·have hb:Nat.blt a b=true:=by simpa [Nat.blt_eq] using h1
   rw [hb]
   simp [List.cons_lt_cons_iff,Nat.not_lt.mpr (Nat.le_of_lt h1),Nat.ne_of_gt h1]
  ·have hb:Nat.blt a b=false:=by rw [<- Bool.not_eq_true,Nat.blt_eq];exact h1
   rw [hb]
   by_cases h2:b < a
   ·have hb2:Nat.blt b a=true:=by simpa [Nat.blt_eq] using h2
    rw [hb2]
    simp [List.cons_lt_cons_iff,h2]
   ·have hb2:Nat.blt b a=false:=by rw [<- Bool.not_eq_true,Nat.blt_eq];exact h2
    rw [hb2]
    have:a=b:=Nat.le_antisymm (Nat.not_lt.mp h2) (Nat.not_lt.mp h1)
    subst this
    rw [<- ih]
    simp [List.cons_lt_cons_iff]
theorem sfx_of:∀ {js js' r:List Nat},sfx js js'=some r->js'=js ++ r
 |[],js',r,h=>jf h
 |a :: as,[],r,h=>(jg _ h.symm).elim
 |a :: as,b :: bs,r,h=>Op.tt (r:=sfx as bs) h fun hb h=>by rw [je hb,sfx_of h];rfl
theorem lens_app (V:Vl):∀ a b:List Nat,lens V (a ++ b)=lens V a+lens V b
 |[],b=>by simp [lens]
 |j :: r,b=>by simp only [List.cons_append,lens,lens_app V r b];omega
set_option smartUnfolding false in
theorem ltPos_of {V:Vl} {js js':List Nat} {c c':Nat} {r:Bool} (h:ltPos js c js' c'=some r):decide (((lens V js+c:Nat):Int) < ((lens V js'+c':Nat):Int))=r:=by
 refine Op.so (o:=sfx js js') h fun q hs h=>?_
 rw [sfx_of hs,lens_app]
 refine J.b2 (Φ:=fun o=>o=some r) (b:=Nat.blt c c') h (fun hb h=>?_) fun hb h=>?_
 ·have hb:=qq hb
  rw [<- jf h]
  exact decide_eq_true (by omega)
 ·have hb:¬ c < c':=by rw [<- Nat.blt_eq,hb];decide
  induction q using List.casesOn with
  |nil=>rw [<- jf h];exact decide_eq_false (by show ¬ (_ < ((lens V js+0+c':Nat):Int));omega)
  |cons _ _=>exact (jg _ h.symm).elim
set_option smartUnfolding false in
theorem pos_of {T:Nat->Value->Prop} {V:Vl} {h:Heap} {ρ:Nat->Addr} {nx:Nat} {a:AV} {v:Value} {js:List Nat} {c:Nat} (hp:pos? a=some (js,c)) (x:RepG T V h ρ nx a v):∃ t,v=.int ((lens V js+c:Nat):Int) t:=by
 induction a using AV.casesOn with
 |it i=>induction i with
  |ofNat n=>cases hp;exact x.imp fun t e=>e.trans (by rw [show lens V []+c=c from Nat.zero_add c];rfl)
  |negSucc n=>exact (jg _ hp.symm).elim
 |ln js' c'=>cases hp;exact x
 |_=>exact (jg _ hp.symm).elim
theorem conc_of {cs:List Ck} {l:List Nat} (h:conc? cs=some l) (V:Vl):flat V cs=l:=by
 match cs,h with
 |[],h=>exact jf h
 |[.lit x],h=>exact (List.append_nil x).trans (jf h)
 |.lit _ :: _ :: _,h=>exact (jg _ h.symm).elim
 |.atm _ :: _,h=>exact (jg _ h.symm).elim
set_option smartUnfolding false in
theorem eqBy_of {sto:List (Nat × Cell)} {x y:List Ck} {r:Bool} (h:eqOp sto (.by x) (.by y)=some r) (V:Vl):eqL (flat V x) (flat V y)=r:=
 J.b2 (Φ:=fun o=>o=some r) (b:=eqC x y) h (fun hc h=>jf h▸eqC_of hc▸(qd _ _).mpr rfl) fun _ h=>Op.so (o:=conc? x) h fun a h1 h=>Op.so (o:=conc? y) h fun b h2 h=>by rw [conc_of h1 V,conc_of h2 V];exact jf h
theorem bytes_beq (d e:Array UInt8):(d.toList == e.toList)=eqL (bN d) (bN e):=by
 rw [Bool.eq_iff_iff,beq_iff_eq,qd]
 exact ⟨fun h=>by unfold bN;rw [h],fun h=>by rw [bN_inj h]⟩
theorem int_beq (x y:Int):(x == y)=PySem.W.Z.eqB x y:=by rw [Bool.eq_iff_iff,beq_iff_eq,PySem.W.Z.eqB_iff]
theorem ln_beq (V:Vl) {js js':List Nat} (h:eqL js js'=true) (x y:Nat):(((lens V js+x:Nat):Int) == ((lens V js'+y:Nat):Int))=Nat.beq x y:=by
 rw [(qd _ _).mp h,Bool.eq_iff_iff,beq_iff_eq,Nat.beq_eq];omega
section
variable {prog:Program} {w:World} {V:Vl} {Hz:Heap} {p:Par} {fs:List Addr} {l:List Env} {C:EC} {W:Wd} {loc:List AV} {A:Around} {cd:Nat}
variable (O:VOk V p) (AO:AOk cd l fs A) (R:Rel V w.params Hz fs C W loc)
include O AO R
theorem un60:A.units+60 < cLine:=by have:=AO.un;omega
theorem c_eqCe {i j:Nat} {r:Bool} (hr:eqCe W.s.sto i j=some r) {sh:Shared} {t:Nat} {Q:VP} {E:VP} (hQ:Q (.bool r) (at' sh W t)):
  wpAny (model prog w) A (compareOp .Eq (.ref (W.ρ i)) (.ref (W.ρ j))) Q E (at' sh W t):=by
 refine J.li (Φ:=fun o=>o=some r) (d:=none) nofun hr fun m hj hr=>?_
 induction m using List.casesOn with
 |cons _ _=>exact (jg _ hr.symm).elim
 |nil=>
 refine J.li (Φ:=fun o=>o=some r) (d:=none) nofun hr fun li hi hr=>?_
 rw [ke] at hj hi
 obtain ⟨_,vs,⟨n,ho⟩,hv⟩:=R.cell i _ hi
 obtain ⟨_,ws,⟨m,ho'⟩,hw⟩:=R.cell j _ hj
 cases (show ws=[] from hw)
 have l1:(at' sh W t).heap.IsList (W.ρ i) vs.toArray:=⟨_,ho,rfl,_,rfl⟩
 have l2:(at' sh W t).heap.IsList (W.ρ j) #[]:=⟨_,ho',rfl,_,rfl⟩
 have hu:A.units < cLine:=Nat.lt_of_le_of_lt (Nat.le_add_right _ _) (un60 O AO R)
 induction li using List.casesOn with
 |nil=>
  cases (show vs=[] from hv)
  have:=SeqAt.RcAt.lists (e:=fun _=>true) l1 l2 rfl hu (fun j h1 _=>absurd h1 (Nat.not_lt_zero _)) prog w E Q
  obtain rfl:=jf hr
  exact this hQ
 |cons _ _=>
  have hne:(vs.toArray.size != (#[]:Array Value).size)=true:=by
   have:=ku.length hv
   simp [this]
  obtain rfl:=jf hr
  exact SeqAt.RcAt.lists_lengths l1 l2 hne hu prog w E Q hQ
theorem c_eqTu {x:List AV} {va vb:Value} (hd:deps 30 x=true) (he:AV.eqs x x=true) (ha:W.R V (.tu x) va) (hb:W.R V (.tu x) vb) {sh:Shared} {t:Nat} {Q:VP} {E:VP} (hQ:Q (.bool true) (at' sh W t)):wpAny (model prog w) A (compareOp .Eq va vb) Q E (at' sh W t):=by
 obtain ⟨a1,vs,rfl,h1,h2⟩:=ha
 obtain ⟨b1,ws,rfl,h3,h4⟩:=hb
 have un:=un60 O AO R
 have hx:=eqGs (c:=25) (s:=at' sh W t) (fun j v v' A hu x y=>eqG (c:=0) (fun _ _ _ _ _ h=>h.elim) (V.τ j) 20 v v' A (O.τ j).2.1 (plain_eq _ (O.τ j).1) (by omega) x y) _ 30 vs ws A.in1 hd he (by rw [in1_units];omega) h2 h4
 have hl:vs.length=ws.length:=by rw [ku.length h2,ku.length h4]
 have h5:=SeqAt.RcAt.tuples (s:=at' sh W t) (e:=fun _=>true) h1 h3 (A:=A) (by omega) (fun j j1 j2=>by simpa using hx j (by simpa using j1) (by simpa using j2)) prog w E Q
 have hall:((List.range (min vs.toArray.size ws.toArray.size)).all (fun _=>true) && vs.toArray.size == ws.toArray.size)=true:=by simp [hl]
 rw [hall] at h5
 exact h5 hQ
theorem c_eq {a b:AV} {va vb:Value} (ha:W.R V a va) (hb:W.R V b vb) {r:Bool} (hr:eqOp W.s.sto a b=some r) {sh:Shared} {t:Nat} {Q:VP} {E:VP} (hQ:Q (.bool r) (at' sh W t)):
  wpAny (model prog w) A (compareOp .Eq va vb) Q E (at' sh W t):=by
 induction a using AV.casesOn with
 |it x=>exact Op.it hr fun y e h=>ha.elim fun u e1=>(show W.R V (.it y) vb from e▸hb).elim fun u' e2=>e1▸e2▸PySem.P.eq_int (by rw [int_beq,jf h];exact hQ)
 |ln js x=>exact J.ln (Φ:=fun o=>o=some r) (d:=none) nofun hr fun js' y e h=>Op.tt h fun hj h=>ha.elim fun u e1=>(show W.R V (.ln js' y) vb from e▸hb).elim fun u' e2=>e1▸e2▸PySem.P.eq_int ((ln_beq V hj x y).trans (jf h)▸hQ)
 |st x=>exact Op.st hr fun y e h=>ha.elim fun u e1=>(show W.R V (.st y) vb from e▸hb).elim fun u' e2=>e1▸e2▸PyProof.Rows.eq_str (by rw [mkStr'_beq,jf h];exact hQ)
 |hd j=>exact Op.st hr fun y e h=>Op.tt h fun hy h=>ha.elim fun u e1=>e1.elim fun x e1=>(show W.R V (.st y) vb from e▸hb).elim fun u' e2=>e1.2.2▸e2▸PyProof.Rows.eq_str (by rw [mkStr'_beq,(qd _ _).mp hy,eqL_eq,decide_eq_false e1.2.1,jf h];exact hQ)
 |«by» x=>
  refine Op.by hr fun y e _=>?_
  subst e
  have h:=eqBy_of hr V
  obtain ⟨d,u,rfl,hd⟩:=ha
  obtain ⟨d',u',rfl,he⟩:=hb
  refine eq_bytes ?_
  rw [bytes_beq,hd,he,h];exact hQ
 |tu x=>
  refine Op.tu hr fun y e h1=>Op.tt h1 fun he h2=>Op.tt h2 fun hd h3=>?_
  subst e
  cases AV.eqs_of he
  obtain rfl:=jf h3
  exact c_eqTu O AO R hd he ha hb hQ
 |ce i=>exact J.ce (Φ:=fun o=>o=some r) (d:=none) nofun hr fun j e h=>(show W.R V (.ce j) vb from e▸hb).2▸ha.2▸c_eqCe O AO R h hQ
 |_=>exact (jg _ hr.symm).elim
end
theorem notO_eq {o:Option Bool} {r:Bool} (h:notO o=some r):o=some (!r):=by
 induction o with
 |none=>exact (jg _ h.symm).elim
 |some b=>rw [<- jf h,Bool.not_not]
theorem two {M:CmpOp->Bool->Prop} (neg:Bool) (h1:M .NotIn true) (h2:M .In false):M (if neg then .NotIn else .In) neg:=by cases neg;exact h2;exact h1
set_option smartUnfolding false in
theorem isIn_elim {sto:List (Nat × Cell)} {M:AV->AV->Bool->Prop} (k1:∀ c y,M (.st [c]) (.st y) (hasN c y)) (k2:∀ x l xs,sts? l=some xs->M (.st x) (.tu l) (hasL x xs)) (k3:∀ x i l xs,sto.lookup i=some (.li l)->sts? l=some xs->M (.st x) (.ce i) (hasL x xs))
  (k4:∀ x y l,x < 256->conc? y=some l->M (.it (.ofNat x)) (.by y) (hasN x l)) {a b:AV} {r:Bool} (h:isIn sto a b=some r):M a b r:=by
 induction a using AV.casesOn with
 |st x=>induction b using AV.casesOn with
  |st y=>match x,h with
   |[c],h=>exact jf h▸k1 c y
   |[],h=>exact (jg _ h.symm).elim
   |_ :: _ :: _,h=>exact (jg _ h.symm).elim
  |tu l=>exact Op.so (o:=sts? l) h fun xs hx h=>jf h▸k2 x l xs hx
  |ce i=>exact J.li (Φ:=fun o=>o=some r) (d:=none) nofun (o:=look sto i) h fun l hl h=>Op.so (o:=sts? l) h fun xs hx h=>jf h▸k3 x i l xs ((ke sto i).symm.trans hl) hx
  |_=>exact (jg _ h.symm).elim
 |it x=>induction x with
  |ofNat x=>exact Op.by h fun y e h=>Op.tt h fun hx h=>Op.so (o:=conc? y) h fun l hy h=>e▸jf h▸k4 x y l (qq hx) hy
  |negSucc _=>exact (jg _ h.symm).elim
 |_=>exact (jg _ h.symm).elim
section
variable {prog:Program} {w:World} {V:Vl} {Hz:Heap} {p:Par} {fs:List Addr} {l:List Env} {C:EC} {W:Wd} {loc:List AV} {A:Around} {cd:Nat}
variable (O:VOk V p) (AO:AOk cd l fs A) (R:Rel V w.params Hz fs C W loc)
include O AO R
theorem c_ne {a b:AV} {va vb:Value} (ha:W.R V a va) (hb:W.R V b vb) {r:Bool} (hr:neOp W.s.sto a b=some r) {sh:Shared} {t:Nat} {Q:VP} {E:VP} (hQ:Q (.bool r) (at' sh W t)):
  wpAny (model prog w) A (compareOp .NotEq va vb) Q E (at' sh W t):=by
 induction a using AV.casesOn with
 |it x=>
  refine Op.it (notO_eq hr) fun y e h=>?_
  subst e
  obtain ⟨u,rfl⟩:=ha
  obtain ⟨u',rfl⟩:=hb
  refine PySem.P.ne_int ?_
  rw [bne,int_beq,jf h,Bool.not_not];exact hQ
 |st x=>
  refine Op.st (notO_eq hr) fun y e h=>?_
  subst e
  obtain ⟨u,rfl⟩:=ha
  obtain ⟨u',rfl⟩:=hb
  refine PyProof.Rows.ne_str ?_
  rw [bne,mkStr'_beq,jf h,Bool.not_not];exact hQ
 |«by» x=>
  refine Op.by (notO_eq hr) fun y e _=>?_
  subst e
  have h:=eqBy_of (notO_eq hr) V
  obtain ⟨d,u,rfl,hd⟩:=ha
  obtain ⟨e,u',rfl,he⟩:=hb
  refine ne_bytes ?_
  rw [bne,bytes_beq,hd,he,h,Bool.not_not];exact hQ
 |_=>exact (jg _ hr.symm).elim
omit AO R in
theorem c_isno {a b:AV} {va vb:Value} (ha:W.R V a va) (hb:W.R V b vb) {r:Bool} (hr:isNo a b=some r):vb=.none/\(va == .none)=r:=by
 induction b using AV.casesOn with
 |no=>
  refine ⟨hb,?_⟩
  induction a using AV.casesOn with
  |no=>cases (show va=.none from ha);exact jf hr
  |tu l=>exact jf hr▸ha.elim fun x h=>h.elim fun _ h=>h.1▸rfl
  |tr j=>
   refine (O.τ j).2.2.elim fun x h=>h.elim fun r e=>?_
   have ha:RepC V W.h W.ρ W.s.nx (.tu (.st x :: r)) va:=e.1▸ha
   exact jf hr▸ha.elim fun x h=>h.elim fun _ h=>h.1▸rfl
  |_=>exact (jg _ hr.symm).elim
 |_=>exact (jg _ hr.symm).elim
theorem c_in {a b:AV} {va vb:Value} (ha:W.R V a va) (hb:W.R V b vb) {r:Bool} (hr:isIn W.s.sto a b=some r) {sh:Shared} {t:Nat} {E:VP} (neg:Bool) {Q:VP} (hQ:Q (.bool (neg != r)) (at' sh W t)):
  wpAny (model prog w) A (compareOp (if neg then .NotIn else .In) va vb) Q E (at' sh W t):=by
 have es (x:List Nat) (u:Tok) (y:Value) (h:∃ z t,y=.str (jk z) t):SeqAt.EqAt A.in1 (at' sh W t) y (.str (jk x) u) (isS x y):=by
  obtain ⟨z,tz,rfl⟩:=h
  exact SeqAt.EqAt.str_str (A:=A.in1) (s:=at' sh W t) (jk z) tz (jk x) u
 revert hQ
 refine isIn_elim (sto:=W.s.sto) (M:=fun a b r=>W.R V a va->W.R V b vb->Q (.bool (neg != r)) (at' sh W t)->wpAny (model prog w) A (compareOp (if neg then .NotIn else .In) va vb) Q E (at' sh W t)) ?_ ?_ ?_ ?_ hr ha hb
 ·intro c y ⟨u,e1⟩ ⟨u',e2⟩
  subst e1 e2
  have e:(!(Builtin.Str.occurrences (jk y) (jk [c]) 0 (jk y).length 1).isEmpty)=hasN c y:=by
   have:=StrLaws.found_one (jk y) c
   rw [show (jk [c])=⟨#[c]⟩ from rfl,this,Bool.eq_iff_iff,decide_eq_true_eq,hasN_iff]
   simp [jk]
  refine two (M:=fun op neg=>Q (.bool (neg != hasN c y)) (at' sh W t)->wpAny (model prog w) A (compareOp op _ _) Q E (at' sh W t)) neg (fun hq=>PySem.P.notIn_str ?_) fun hq=>PySem.P.in_str ?_
  ·rw [e];rw [Bool.true_bne] at hq;exact hq
  ·rw [e];rw [Bool.false_bne] at hq;exact hq
 ·intro x ls xs hxs ⟨u,e1⟩ ⟨a1,vs,e2,h1,h2⟩
  subst e1 e2
  have S:=strs_any x hxs h2
  have e:vs.toArray.any (isS x)=hasL x xs:=by simp [S.1]
  have ev:∀ y ∈ vs.toArray,SeqAt.EqAt A.in1 (at' sh W t) y (.str (jk x) u) (isS x y):=fun y hy=>es x u y (S.2 y (by simpa using hy))
  refine two (M:=fun op neg=>Q (.bool (neg != hasL x xs)) (at' sh W t)->wpAny (model prog w) A (compareOp op _ _) Q E (at' sh W t)) neg (fun hq=>SeqAt.notIn_tupleAt (isS x) (s:=at' sh W t) h1 ev ?_) fun hq=>SeqAt.in_tupleAt (isS x) (s:=at' sh W t) h1 ev ?_
  ·rw [e];rw [Bool.true_bne] at hq;exact hq
  ·rw [e];rw [Bool.false_bne] at hq;exact hq
 ·intro x i ls xs hl hxs ⟨u,e1⟩ ⟨_,e2⟩
  subst e1 e2
  obtain ⟨_,vs,⟨n,ho⟩,h2⟩:=R.cell i _ hl
  have h1:(at' sh W t).heap.IsList (W.ρ i) vs.toArray:=⟨_,ho,rfl,_,rfl⟩
  have S:=strs_any x hxs h2
  have e:vs.toArray.any (isS x)=hasL x xs:=by simp [S.1]
  have ev:∀ y ∈ vs.toArray,SeqAt.EqAt A.in1 (at' sh W t) y (.str (jk x) u) (isS x y):=fun y hy=>es x u y (S.2 y (by simpa using hy))
  refine two (M:=fun op neg=>Q (.bool (neg != hasL x xs)) (at' sh W t)->wpAny (model prog w) A (compareOp op _ _) Q E (at' sh W t)) neg (fun hq=>SeqAt.notIn_listAt (isS x) h1 ev ?_) fun hq=>SeqAt.in_listAt (isS x) h1 ev ?_
  ·rw [e];rw [Bool.true_bne] at hq;exact hq
  ·rw [e];rw [Bool.false_bne] at hq;exact hq
 ·intro x y l hlt hy ⟨u,e1⟩ ⟨d,u',e2,hd⟩
  subst e1 e2
  have e:hasN x (bN d)=hasN x l:=by rw [hd,conc_of hy V]
  refine two (M:=fun op neg=>Q (.bool (neg != hasN x l)) (at' sh W t)->wpAny (model prog w) A (compareOp op _ _) Q E (at' sh W t)) neg (fun hq=>notIn_gives (typeIs_bytes _ d u') FB.slot_bytes_contains FB.entry_bytes_contains (FB.args_bytes_contains_2 _ _) (gives_bytes_in d x u' u hlt) ?_) fun hq=>in_gives (typeIs_bytes _ d u') FB.slot_bytes_contains FB.entry_bytes_contains (FB.args_bytes_contains_2 _ _) (gives_bytes_in d x u' u hlt) ?_
  ·rw [e];rw [Bool.true_bne] at hq;exact hq
  ·rw [e];rw [Bool.false_bne] at hq;exact hq
set_option smartUnfolding false in
theorem p_cmp {op:CmpOp} {a b:AV} {va vb:Value} (ha:W.R V a va) (hb:W.R V b vb) {r:Bool} (hr:cmpOp W.s.sto op a b=some r) {sh:Shared} {t:Nat} {Q:VP} {E:VP}
  (hQ:∀ W' t',W'.L=W.L->W'.s=W.s->Rel V w.params Hz fs C W' loc->Stp fs W W'->Q (.bool r) (at' sh W' t')):wpAny (model prog w) A (compareOp op va vb) Q E (at' sh W t):=by
 have fin:Q (.bool r) (at' sh W t):=hQ W t rfl rfl R (.refl fs W)
 clear hQ
 induction op with
 |Eq=>exact c_eq O AO R ha hb hr fin
 |NotEq=>exact c_ne O AO R ha hb hr fin
 |Lt=>exact Op.so (o:=pos? a) hr fun x h1 h=>Op.so (o:=pos? b) h fun y h2 h=>(pos_of (js:=x.1) (c:=x.2) h1 ha).elim fun u e1=>(pos_of (js:=y.1) (c:=y.2) h2 hb).elim fun u' e2=>e1▸e2▸PySem.P.lt_int (ltPos_of h▸fin)
 |LtE=>
  induction a using AV.casesOn with
  |it x=>exact Op.it hr fun y e h=>ha.elim fun u e1=>(show W.R V (.it y) vb from e▸hb).elim fun u' e2=>e1▸e2▸PySem.P.le_int ((show decide (x<=y)=r by rw [<- jf h,Bool.eq_iff_iff,decide_eq_true_eq,PySem.W.Z.leB_iff])▸fin)
  |st x=>exact Op.st hr fun y e h=>ha.elim fun u e1=>(show W.R V (.st y) vb from e▸hb).elim fun u' e2=>e1▸e2▸PySem.P.le_str ((show (!decide ((jk y).cps.toList < (jk x).cps.toList))=r by rw [<- jf h,<- strLe_eq];exact congrArg _ (decide_eq_decide.mpr Iff.rfl))▸fin)
  |_=>exact (jg _ hr.symm).elim
 |Gt=>exact Op.it hr fun x e1 h=>Op.it h fun y e h=>(show W.R V (.it x) va from e1▸ha).elim fun u e1=>(show W.R V (.it y) vb from e▸hb).elim fun u' e2=>e1▸e2▸PySem.P.gt_int ((show decide (x > y)=r by rw [<- jf h,Bool.eq_iff_iff,decide_eq_true_eq,PySem.W.Z.ltB_iff])▸fin)
 |GtE=>exact Op.it hr fun x e1 h=>Op.it h fun y e h=>(show W.R V (.it x) va from e1▸ha).elim fun u e1=>(show W.R V (.it y) vb from e▸hb).elim fun u' e2=>e1▸e2▸PySem.P.ge_int ((show decide (x >= y)=r by rw [<- jf h,Bool.eq_iff_iff,decide_eq_true_eq,PySem.W.Z.leB_iff])▸fin)
 |Is=>exact (c_isno O ha hb hr).1▸is_none_gen ((c_isno O ha hb hr).2▸fin)
 |IsNot=>
  have h:=c_isno O ha hb (notO_eq hr)
  exact h.1▸isnot_none_gen (by rw [h.2,Bool.not_not];exact fin)
 |In=>exact c_in O AO R ha hb hr false (by rw [Bool.false_bne];exact fin)
 |NotIn=>exact c_in O AO R ha hb (notO_eq hr) true (by rw [Bool.true_bne,Bool.not_not];exact fin)
end
mutual
theorem plain_rep {T T':Nat->Value->Prop} {V:Vl} {h:Heap} {ρ:Nat->Addr} {nx:Nat}:∀ (a:AV) (v:Value),plainA a=true->RepG T V h ρ nx a v->RepG T' V h ρ nx a v
 |.no|.it _|.st _|.by _=>fun v _ x=>x
 |.tu l=>by
  intro v hp x
  obtain ⟨a,vs,e,h1,h2⟩:=x
  exact ⟨a,vs,e,h1,plain_reps l vs hp h2⟩
 |.un|.bo _|.ln _ _|.rg _|.ce _|.ob _|.fn _|.kl _|.bi _|.bm _ _|.tr _|.hd _|.sc _|.sm _|.kx _|.scr=>fun _ h _=>(jh h).elim
theorem plain_reps {T T':Nat->Value->Prop} {V:Vl} {h:Heap} {ρ:Nat->Addr} {nx:Nat}:∀ (l:List AV) (vs:List Value),plainAs l=true->ku T V h ρ nx l vs->ku T' V h ρ nx l vs
 |[]=>fun vs _ x=>x
 |a :: r=>by
  intro vs hp x
  have h':plainA a=true/\plainAs r=true:=jb.mp hp
  obtain ⟨v,s,e,x1,x2⟩:=x
  exact ⟨v,s,e,plain_rep a v h'.1 x1,plain_reps r s h'.2 x2⟩
end
theorem seqI {n m:Nat} (h:n < m):seqIndex? (n:Int) m=some n:=by
 have h0:¬ ((n:Int) < 0):=by omega
 have h1:(0:Int)<=(n:Int):=by omega
 have h2:(n:Int) < (m:Int):=by omega
 simp [seqIndex?,if_neg h0,h]
theorem small_lt {n:Nat} (h:small n=true):n < 100000:=by simpa [small,Nat.blt_eq] using h
set_option smartUnfolding false in
theorem subN_of {α:Type} {l:List α} {n:Nat} {a:α} (h:subN l n=some a):n < 100000/\l[n]?=some a:=Op.tt h fun hs h=>⟨small_lt hs,(qh l n).symm.trans h⟩
theorem rest_of (V:Vl):∀ {cs:List Ck} {js:List Nat} {c:Nat} {r:List Ck},rest cs js c=some r->∃ pre,flat V cs=pre ++ flat V r/\pre.length=lens V js+c
 |[],[],0,r,h=>jf h▸⟨[],rfl,rfl⟩
 |[],[],_+1,r,h=>(jg _ h.symm).elim
 |[],_ :: _,_,r,h=>(jg _ h.symm).elim
 |.lit l :: cs,js,c,r,h=>by
  refine J.b2 (Φ:=fun o=>o=some r) (b:=Nat.ble l.length c) h (fun hle h=>?_) fun hle h=>?_
  ·have hle:=ble_le hle
   obtain ⟨pre,e,hl⟩:=rest_of V h
   exact ⟨l ++ pre,by show l ++ flat V cs=_;rw [e,List.append_assoc],by rw [List.length_append,hl,Nat.add_left_comm,Nat.add_sub_cancel' hle]⟩
  ·have hle:c < l.length:=Nat.gt_of_not_le fun h'=>jh (hle.symm.trans (Nat.ble_eq_true_of_le h'))
   match js,h with
   |[],h=>exact jf h▸⟨l.take c,by show l ++ flat V cs=l.take c ++ (l.drop c ++ flat V cs);rw [<- List.append_assoc,List.take_append_drop],(List.length_take_of_le (Nat.le_of_lt hle)).trans (Nat.zero_add c).symm⟩
   |_ :: _,h=>exact (jg _ h.symm).elim
 |.atm j :: cs,[],0,r,h=>jf h▸⟨[],rfl,rfl⟩
 |.atm j :: cs,[],_+1,r,h=>(jg _ h.symm).elim
 |.atm j :: cs,i :: js,c,r,h=>Op.tt h fun hb h=>by
  obtain ⟨pre,e,hl⟩:=rest_of V h
  exact ⟨V.β j ++ pre,by show V.β j ++ flat V cs=_;rw [e,List.append_assoc],by rw [List.length_append,je hb,hl];exact (Nat.add_assoc _ _ _).symm⟩
theorem posOk_lt {V:Vl} {p:Par} (O:VOk V p) {js:List Nat} {c:Nat} (h:posOk js c=true):lens V js+c < 10100000:=by
 unfold posOk at h
 induction h1:ki js 1000 with
 |false=>rw [h1] at h;exact (jh h).elim
 |true=>
  rw [h1] at h
  have:=kh h1
  have:=small_lt h
  have:=lens_le O js
  omega
section
variable {prog:Program} {w:World} {A:Around} {E:VP} {s:Shared}
theorem sub_any {o i:Value} {T id:String} {Q:VP} {x:PySem.Expr} (hx:∀ a b c d,x ≠ .Slice a b c d) (hT:s.TypeIs o T) (hl:typeLookup (.type T) "__getitem__"=pure (some (.builtin id))) (hg:wpAny (model prog w) A (getItem o i) Q E s):
  wpAny (model prog w) A (do let y <- getitemInPython o;subscripted x y o i) Q E s:=by
 refine jc ?_
 rw [getitemInPython_of_ne hT.not_modules]
 refine jc (wpAny_specialOf hT hl (ji ?_))
 have:subscripted x false o i=operate [o,i] (getItem o i):=by cases x<;>first|rfl|exact absurd rfl (hx _ _ _ _)
 rw [this]
 exact wpAny_operateT hg
theorem slc_any {o i:Value} {T id:String} {Q:VP} (x1 x2 x3:Option PySem.Expr) (q:Pos) (hT:s.TypeIs o T) (hl:typeLookup (.type T) "__getitem__"=pure (some (.builtin id))) (hg:wpAny (model prog w) A (getItem o i) Q E s):
  wpAny (model prog w) A (do let y <- getitemInPython o;subscripted (.Slice x1 x2 x3 q) y o i) Q E s:=by
 refine jc ?_
 rw [getitemInPython_of_ne hT.not_modules]
 refine jc (wpAny_specialOf hT hl (ji ?_))
 induction x3 with
 |none=>exact wpAny_operateT (vs:=[i,o]) hg
 |some x3=>exact wpAny_operateT (vs:=[o,i]) hg
end
section
variable {prog:Program} {w:World} {V:Vl} {Hz:Heap} {p:Par} {fs:List Addr} {l:List Env} {C:EC} {W:Wd} {loc:List AV} {A:Around} {cd:Nat}
variable (O:VOk V p) (AO:AOk cd l fs A) (R:Rel V w.params Hz fs C W loc)
include O AO R
omit AO R in
theorem kt_row {j:Nat} {vs:List Value} (hj:j < 50) (hv:W.Rs V p.kt vs):∃ v,vs[V.ix j]?=some v/\W.R V (.tu [.tr j,.by [.atm (2 * j)],.by [.atm (2 * j+1)]]) v:=by
 obtain ⟨tt,hkt,hτ⟩:=O.kt j hj
 obtain ⟨v,hv',a1,ws,e,h1,w0,s0,e0,g0,w1,s1,e1,⟨d,u,f1,hd⟩,w2,s2,e2,⟨d',u',f2,hd'⟩,e3⟩:=ku.nth hv hkt
 refine ⟨v,hv',a1,ws,e,h1,w0,_,e0,?_,w1,_,e1,⟨d,u,f1,by rw [hd,qn];simp [flat]⟩,w2,_,e2,⟨d',u',f2,by rw [hd',qn];simp [flat]⟩,e3⟩
 show RepC V W.h W.ρ W.s.nx (V.τ j) w0
 rw [hτ]
 exact plain_rep tt w0 (hτ▸(O.τ j).1) g0
omit O AO R in
theorem by_at {d:Array UInt8} {cs:List Ck} {js:List Nat} {c b0:Nat} {r0:List Nat} {r1:List Ck} (hlt:lens V js+c < 10100000) (hd:bN d=flat V cs) (hr:rest cs js c=some (.lit (b0 :: r0) :: r1)):
  ∃ b1,Builtin.Bytes.fitsIndex ((lens V js+c:Nat):Int)=true/\(seqIndex? ((lens V js+c:Nat):Int) d.size).bind (d[·]?)=some b1/\b1.toNat=b0:=by
 obtain ⟨pre,e,hl⟩:=rest_of V hr
 have hb:(bN d)[lens V js+c]?=some b0:=by
  rw [hd,e,<- hl,List.getElem?_append_right (jj _)]
  simp [flat]
 have hsz:lens V js+c < d.size:=by
  have:=(List.getElem?_eq_some_iff.mp hb).1
  rwa [qj] at this
 unfold bN at hb
 rw [List.getElem?_map] at hb
 obtain ⟨b1,h1,h2⟩:=Option.map_eq_some_iff.mp hb
 exact ⟨b1,by simp only [Builtin.Bytes.fitsIndex,Bool.and_eq_true,decide_eq_true_eq];omega,by rw [seqI hsz];simpa using h1,h2⟩
omit O AO R in
theorem last_of:∀ {ls:List AV} {y:AV},last? ls=some y->ls[ls.length - 1]?=some y/\0 < ls.length
 |[],_,h=>(jg _ h.symm).elim
 |[z],_,h=>⟨h,Nat.succ_pos _⟩
 |z :: z' :: r,y,h=>⟨(last_of (ls:=z' :: r) (y:=y) h).1,Nat.succ_pos _⟩
omit O AO R in
theorem seqL {m n:Nat} (e:m=n) (hpos:0 < n):seqIndex? (Int.negSucc 0) m=some (n - 1):=by
 subst e
 unfold seqIndex?
 have h0:(Int.negSucc 0) < 0:=by decide
 have h1:(Int.negSucc 0)+(m:Int)=((m - 1:Nat):Int):=by omega
 have h2:(0:Int)<=((m - 1:Nat):Int):=by omega
 have h3:((m - 1:Nat):Int) < (m:Int):=by omega
 simp only [h0,if_true,h1,h2,h3]
 simp
omit O AO R in
set_option smartUnfolding false in
theorem subI_elim {kt:List AV} {sto:List (Nat × Cell)} {o i y:AV} {M:AV->AV->AV->Prop} (k1:∀ l n c,n < 100000->l[n]?=some c->M (.st l) (.it (.ofNat n)) (.st [c])) (k2:∀ cs i js c x l r,pos? i=some (js,c)->posOk js c=true->rest cs js c=some (.lit (x :: l) :: r)->M (.by cs) i (.it (.ofNat x)))
  (k3:∀ l n a,n < 100000->l[n]?=some a->M (.tu l) (.it (.ofNat n)) a) (k4:∀ l a,last? l=some a->M (.tu l) (.it (.negSucc 0)) a) (k5:∀ j,M (.tr j) (.it (.ofNat 0)) (.hd j))
  (k6:∀ k l n a,sto.lookup k=some (.li l)->n < 100000->l[n]?=some a->M (.ce k) (.it (.ofNat n)) a) (k7:∀ k l j,sto.lookup k=some (.li l)->j < 50->AV.eqs l kt=true->M (.ce k) (.kx j) (.tu [.tr j,.by [.atm (2 * j)],.by [.atm (2 * j+1)]])) (h:subI kt sto o i=some y):M o i y:=by
 induction o using AV.casesOn with
 |st l=>exact Op.itN h fun n e h=>Op.so (o:=subN l n) h fun c hc h=>e▸jf h▸k1 l n c (subN_of hc).1 (subN_of hc).2
 |«by» cs=>
  refine Op.so (o:=pos? i) h fun x hp h=>?_
  obtain ⟨js,c⟩:=x
  refine Op.tt h fun hok h=>?_
  have h:(match rest cs js c with|some (.lit (x :: _) :: _)=>some (AV.it (.ofNat x))|_=>none)=some y:=h
  induction hr:rest cs js c with
  |none=>rw [hr] at h;exact (jg _ h.symm).elim
  |some r=>
   rw [hr] at h
   match r,h with
   |.lit (x :: l) :: r,h=>exact jf h▸k2 cs i js c x l r hp hok hr
   |[],h=>exact (jg _ h.symm).elim
   |.lit [] :: _,h=>exact (jg _ h.symm).elim
   |.atm _ :: _,h=>exact (jg _ h.symm).elim
 |tu l=>
  refine Op.it h fun n e h=>?_
  subst e
  match n,h with
  |.ofNat n,h=>exact k3 l n y (subN_of h).1 (subN_of h).2
  |.negSucc 0,h=>exact k4 l y h
  |.negSucc (_+1),h=>exact (jg _ h.symm).elim
 |tr j=>
  induction i using AV.casesOn with
  |it n=>match n,h with
   |.ofNat 0,h=>exact jf h▸k5 j
   |.ofNat (_+1),h=>exact (jg _ h.symm).elim
   |.negSucc _,h=>exact (jg _ h.symm).elim
  |_=>exact (jg _ h.symm).elim
 |ce k=>
  refine J.li (Φ:=fun o=>o=some y) (d:=none) nofun (o:=look sto k) h fun l hl h=>?_
  rw [ke] at hl
  induction i using AV.casesOn with
  |it n=>match n,h with
   |.ofNat n,h=>exact k6 k l n y hl (subN_of h).1 (subN_of h).2
   |.negSucc _,h=>exact (jg _ h.symm).elim
  |kx j=>exact Op.tt h fun hj h=>Op.tt h fun hk h=>jf h▸k7 k l j hl (qq hj) hk
  |_=>exact (jg _ h.symm).elim
 |_=>exact (jg _ h.symm).elim
theorem p_sub {a b:AV} {va vb:Value} (ha:W.R V a va) (hb:W.R V b vb) (x:PySem.Expr) (hx:∀ a b c d,x ≠ .Slice a b c d):DoesA prog w V Hz A fs l C W loc (do let y <- getitemInPython va;subscripted x y va vb) (ofO 7 W.s (subI p.kt W.s.sto a b)):=by
 intro sh t Q E hQ
 refine (PV.ofO O AO R hQ).elim fun y h0=>?_
 have fin:∀ v t',W.R V y v->Q v (at' sh W t'):=fun v t' hv=>h0.2.2 v W t' rfl rfl R (.refl fs W) hv
 refine subI_elim (kt:=p.kt) (sto:=W.s.sto) (M:=fun a b y=>W.R V a va->W.R V b vb->(∀ v t',W.R V y v->Q v (at' sh W t'))->wpAny (model prog w) A (do let y <- getitemInPython va;subscripted x y va vb) Q E (at' sh W t)) ?_ ?_ ?_ ?_ ?_ ?_ ?_ h0.1 ha hb fin
 ·intro xs n c hn hc ⟨u,e⟩ ⟨u',e'⟩ fin
  subst e e'
  have hlt:n < xs.length:=(List.getElem?_eq_some_iff.mp hc).1
  refine sub_any hx (typeIs_str _ _ u) slot_str_getitem.lookup (PyProof.Rows.getItem_str (c:=c) (by simp;omega) ?_ (fin _ _ ⟨_,rfl⟩))
  rw [show (jk xs).length=xs.length from qr xs,show Int.ofNat n=(n:Int) from rfl,seqI hlt]
  simpa [jk] using hc
 ·intro cs i js c b0 r0 r1 hp hok hr ⟨d,u,e,hd⟩ hb fin
  subst e
  refine (pos_of hp hb).elim fun u' e'=>?_
  subst e'
  refine (by_at (posOk_lt O hok) hd hr).elim fun b1 B=>?_
  refine sub_any hx (typeIs_bytes _ d u) FB.slot_bytes_getitem.lookup (getItem_gives (typeIs_bytes _ d u) (by decide) FB.slot_bytes_getitem FB.entry_bytes_getitem (FB.args_bytes_getitem_2 _ _) (gives_bytes_getitem d _ u u' b1 ?_ ?_) ?_)
  ·exact B.1
  ·exact B.2.1
  exact fin _ _ ⟨_,by rw [B.2.2];rfl⟩
 ·intro ls n y hn hc ⟨a1,vs,e,h1,h2⟩ ⟨u',e'⟩ fin
  subst e e'
  refine (ku.nth h2 hc).elim fun v hv=>?_
  have hlt:n < vs.length:=(List.getElem?_eq_some_iff.mp hv.1).1
  exact sub_any hx h1.typeIs slot_tuple_getitem.lookup (getItem_tuple h1 (by simp only [Int.ofNat_eq_natCast];omega) (by simp only [Int.ofNat_eq_natCast];omega) (j:=n) (seqI (by simpa using hlt)) (x:=v) (by simpa using hv.1) (fin v t hv.2))
 ·intro ls y hl ⟨a1,vs,e,h1,h2⟩ ⟨u',e'⟩ fin
  subst e e'
  refine (ku.nth h2 (last_of hl).1).elim fun v hv=>?_
  exact sub_any hx h1.typeIs slot_tuple_getitem.lookup (getItem_tuple h1 (by decide) (by decide) (j:=ls.length - 1) (seqL (by simpa using ku.length h2) (last_of hl).2) (x:=v) (by simpa using hv.1) (fin v t hv.2))
 ·intro j ha ⟨u',e'⟩ fin
  subst e'
  refine (O.τ j).2.2.elim fun x0 h=>h.elim fun r e=>?_
  have ha:RepC V W.h W.ρ W.s.nx (.tu (.st x0 :: r)) va:=e.1▸ha
  obtain ⟨a1,vs,rfl,h1,v0,s0,rfl,⟨t0,rfl⟩,h3⟩:=ha
  exact sub_any hx h1.typeIs slot_tuple_getitem.lookup (getItem_tuple h1 (by decide) (by decide) (j:=0) (seqI (by simp)) (x:=.str (jk x0) t0) (by rfl) (fin _ t ⟨t0,x0,⟨r,e.1⟩,e.2,rfl⟩))
 ·intro k ls m y hl hn hc ⟨_,e⟩ ⟨u',e'⟩ fin
  subst e e'
  obtain ⟨_,vs,⟨n,ho⟩,hv⟩:=R.cell k _ hl
  have hL:(at' sh W t).heap.IsList (W.ρ k) vs.toArray:=⟨_,ho,rfl,_,rfl⟩
  refine (ku.nth hv hc).elim fun v hv=>?_
  exact sub_any hx hL.typeIs slot_list_getitem.lookup (wpAny_getItem_list hL (by simp only [Int.ofNat_eq_natCast];omega) (by simp only [Int.ofNat_eq_natCast];omega) (by simpa using hv.1) (fin v t hv.2))
 ·intro k ls j hl hj hk ⟨_,e⟩ ⟨u',e'⟩ fin
  subst e e'
  obtain ⟨_,vs,⟨n,ho⟩,hv⟩:=R.cell k _ hl
  have hL:(at' sh W t).heap.IsList (W.ρ k) vs.toArray:=⟨_,ho,rfl,_,rfl⟩
  have hix:((V.ix j:Nat):Int) < 11:=by rw [O.ix j];exact Int.emod_lt_of_pos _ (by decide)
  refine (kt_row O hj (AV.eqs_of hk▸hv)).elim fun v hv=>?_
  exact sub_any hx hL.typeIs slot_list_getitem.lookup (wpAny_getItem_list hL (by omega) (by omega) (by simpa using hv.1) (fin v t hv.2))
end
noncomputable def loN (lo:Option Nat) (n:Nat):Nat:=match lo with|some i=>min i n|none=>0
noncomputable def hiN (hi:Option Nat) (n:Nat):Nat:=match hi with|some i=>min i n|none=>n
theorem cut_eq {α:Type} (l:List α) (i h:Nat) (n:Nat) (hn:n=l.length):(l.drop (min i n)).take (min h n - min i n)=(l.take h).drop i:=by
 subst hn
 rw [List.drop_take]
 rcases Nat.le_total i l.length with h1|h1
 ·rw [Nat.min_eq_left h1,List.take_eq_take_min (i:=h - i),List.length_drop,Nat.sub_min_sub_right]
 ·rw [Nat.min_eq_right h1,List.drop_eq_nil_of_le h1,List.drop_eq_nil_of_le (jj _),List.take_nil,List.take_nil]
theorem cutL (l:List Nat) (lo hi:Option Nat):(l.drop (loN lo l.length)).take (hiN hi l.length - loN lo l.length)=cut l lo hi:=by
 induction lo with
 |none=>
  induction hi with
  |none=>simp [cut,loN,hiN]
  |some h=>
   have:=cut_eq l 0 h l.length rfl
   simpa [cut,loN,hiN] using this
 |some i=>
  induction hi with
  |none=>
   have:=cut_eq l i l.length l.length rfl
   rw [Nat.min_self,List.take_length] at this
   exact this
  |some h=>exact cut_eq l i h l.length rfl
theorem part_of {T:Nat->Value->Prop} {V:Vl} {h:Heap} {ρ:Nat->Addr} {nx:Nat} {a:AV} {v:Value} {o:Option Nat} (hp:part? a=some o) (x:RepG T V h ρ nx a v):IsPart v (o.map Int.ofNat):=by
 induction a using AV.casesOn with
 |no=>
  simp only [part?] at hp;obtain rfl:=jf hp
  obtain rfl:v=.none:=x
  exact .none
 |it i=>
  induction i with
  |ofNat n=>
   simp only [part?] at hp;obtain rfl:=jf hp
   obtain ⟨t,rfl⟩:=x
   exact .int _ t
  |negSucc n=>simp [part?] at hp
 |_=>simp [part?] at hp
theorem clipN (o:Option Nat) (n:Nat):((o.map Int.ofNat).elim 0 (clipAt n))=loN o n/\((o.map Int.ofNat).elim n (clipAt n))=hiN o n:=by
 induction o with
 |none=>exact ⟨rfl,rfl⟩
 |some k=>exact ⟨clipAt_nat n k,clipAt_nat n k⟩
theorem strIdx (lo hi:Option Nat) (n:Nat):Builtin.Str.strSliceIndices (lo.map Int.ofNat) (hi.map Int.ofNat) 1 n=(List.range (hiN hi n - loN lo n)).map (loN lo n+·):=by
 have h1:=sliceBounds_plain (lo.map Int.ofNat) (hi.map Int.ofNat) n
 rw [(clipN lo n).1,(clipN hi n).2] at h1
 rw [<- sliceRange_one]
 have:Builtin.Str.strSliceIndices (lo.map Int.ofNat) (hi.map Int.ofNat) 1 n=sliceRange (sliceBounds (lo.map Int.ofNat) (hi.map Int.ofNat) none n).1 (sliceBounds (lo.map Int.ofNat) (hi.map Int.ofNat) none n).2.1 1:=by
  induction lo<;>induction hi<;>rfl
 rw [this,h1]
set_option tactic.hygienic true in
theorem txt_cut (l:List Nat) (lo hi:Option Nat):Txt.slice (jk l) (lo.map Int.ofNat) (hi.map Int.ofNat)=jk (cut l lo hi):=by
 have hidx:=strIdx lo hi (jk l).length
 have hpick:((List.range (hiN hi (jk l).length - loN lo (jk l).length)).map (loN lo (jk l).length+·)).filterMap ((jk l).cps[·]?)=cut l lo hi:=by
  rw [pick_run,qr]
  exact cutL l lo hi
 unfold Txt.slice
 rw [hidx]
 split
 ·rename_i hc
  have hc:(List.range (hiN hi (jk l).length - loN lo (jk l).length)).length=(jk l).length:=by simpa using hc
  rw [<- hpick,pick_run]
  rw [List.length_range] at hc
  have h0:loN lo (jk l).length=0 \/ (jk l).length=0:=by
   have:hiN hi (jk l).length<=(jk l).length:=by induction hi<;>simp [hiN];omega
   omega
  rw [hc,qr]
  rcases h0 with h0|h0
  ·rw [qr] at h0
   rw [h0]
   simp [jk]
  ·rw [qr] at h0
   have:l=[]:=List.length_eq_zero_iff.mp h0
   subst this
   simp [jk]
 ·rw [hpick];rfl
theorem bN_picked (d:Array UInt8) (lo hi:Option Nat):bN (KBy.picked d (lo.map Int.ofNat) (hi.map Int.ofNat))=cut (bN d) lo hi:=by
 rw [KBc.picked_eq,(clipN lo d.size).1,(clipN hi d.size).2]
 have:=cutL (bN d) lo hi
 rw [qj] at this
 rw [<- this]
 unfold bN
 simp [List.map_take,List.map_drop]
noncomputable def SOk (V:Vl) (p:Par) (Hz:Heap):Prop:=∃ vs:List Value,Hz.IsList V.scr vs.toArray/\vs.length<=10000/\p.n=min 4 vs.length/\∀ (i:Nat) (v:Value),i < 4->vs[i]?=some v->∃ t,v=.int (V.cs i) t
theorem part_of2 {T:Nat->Value->Prop} {V:Vl} {h:Heap} {ρ:Nat->Addr} {nx:Nat} {a:AV} {v:Value} {o:Option Nat} (hp:part? a=some o) (x:RepG T V h ρ nx a v):∃ lp:Option (Int × Tok),v=partValue lp/\lp.map (·.1)=o.map Int.ofNat:=by
 have:=part_of hp x
 induction o with
 |none=>cases this;exact ⟨none,rfl,rfl⟩
 |some n=>
  generalize hq:(some n).map (Int.ofNat)=q at this
  induction this with
  |none=>exact (jg _ hq).elim
  |int i t=>exact ⟨some (i,t),rfl,rfl⟩
theorem reps_drop {T:Nat->Value->Prop} {V:Vl} {h:Heap} {ρ:Nat->Addr} {nx:Nat}:∀ {l:List AV} {vs:List Value} (n:Nat),ku T V h ρ nx l vs->ku T V h ρ nx (l.drop n) (vs.drop n)
 |[],vs,n,x=>by cases (show vs=[] from x);exact (show ku T V h ρ nx (List.drop n []) (List.drop n []) from (List.drop_nil (i:=n) (α:=AV)).symm▸(List.drop_nil (i:=n) (α:=Value)).symm▸(rfl:([]:List Value)=[]))
 |a :: r,vs,0,x=>x
 |a :: r,vs,n+1,x=>by
  obtain ⟨v,s,rfl,_,x2⟩:=x
  exact reps_drop n x2
theorem reps_rev {T:Nat->Value->Prop} {V:Vl} {h:Heap} {ρ:Nat->Addr} {nx:Nat}:∀ {l:List AV} {vs:List Value},ku T V h ρ nx l vs->ku T V h ρ nx l.reverse vs.reverse
 |[],vs,x=>by cases (show vs=[] from x);exact (show ([]:List Value).reverse=[] from rfl)
 |a :: r,vs,x=>by
  obtain ⟨v,s,rfl,x1,x2⟩:=x
  rw [List.reverse_cons,List.reverse_cons]
  exact ku.app (reps_rev x2) (ku.one x1)
theorem pr0 (n:Nat):((if (n:Int) - 1 > -1 then ((n:Int) - 1 - -1 - -1 - 1) / -(-1) else 0):Int).toNat=n:=by
 induction n using Nat.casesAuxOn with
 |zero=>rfl
 |succ m=>
  rw [if_pos (show (-1:Int) < ((m+1:Nat):Int) - 1 from Int.sub_lt_sub_right (a:=0) (Int.natCast_pos.mpr (Nat.succ_pos m)) 1),show (-(-1):Int)=1 from rfl,Int.ediv_one,Int.sub_neg,Int.sub_neg,Int.sub_add_cancel,Int.add_sub_cancel]
  exact Int.toNat_natCast _
theorem pick_rev (items:Array Value):slicePick items none none (some (-1))=items.toList.reverse.toArray:=by
 have hb:sliceBounds none none (some (-1)) items.size=((items.size:Int) - 1,-1,-1):=by simp [sliceBounds]
 unfold slicePick
 rw [hb]
 show (List.filterMap _ (sliceRange ((items.size:Int) - 1) (-1) (-1))).toArray=_
 have hr:sliceRange ((items.size:Int) - 1) (-1) (-1)=(List.range items.size).map fun k=>items.size - 1 - k:=by
  unfold sliceRange
  rw [if_neg (by decide)]
  have hlen:=pr0 items.size
  dsimp only
  rw [hlen]
  apply List.map_congr_left
  intro k hk
  have:=List.mem_range.mp hk
  omega
 rw [hr]
 congr 1
 apply List.ext_getElem?
 intro k
 have key:∀ m,m<=items.size->((List.range m).map fun k=>items.size - 1 - k).filterMap (items[·]?)=(items.toList.reverse).take m:=by
  intro m
  induction m with
  |zero=>intro _;rfl
  |succ m ih=>
   intro hm
   rw [List.range_succ,List.map_append,List.filterMap_append,ih (Nat.le_of_succ_le hm),List.take_add_one]
   congr 1
   have h1:items.size - 1 - m < items.size:=Nat.lt_of_le_of_lt (Nat.sub_le _ _) (Nat.sub_lt (Nat.lt_of_lt_of_le (Nat.succ_pos m) hm) Nat.one_pos)
   have h2:m < items.toList.reverse.length:=by rw [List.length_reverse];exact hm
   simp [h1,List.getElem?_reverse (show m < items.toList.length from hm)]
 rw [key items.size (jj _)]
 rw [List.take_of_length_le (by simp)]
theorem str_slice {prog:Program} {w:World} {A:Around} {E:VP} {s:Shared} {x:Str} {t:Tok} {a:Addr} {lp hp:Option (Int × Tok)} {Q:VP} (hs:s.heap.IsSlice a lp hp none) (hsz:x.length<=sizeLine)
  (h:∀ t' k,Q (.str (Txt.slice x (lp.map (·.1)) (hp.map (·.1))) t') { s with toks:=k }):wpAny (model prog w) A (getItem (.str x t) (.ref a)) Q E s:=by
 induction lp with
 |none=>
  induction hp with
  |none=>exact wpAny_getItem_str_slice hs rfl (post_val_or_str ⟨Nat.le_trans (Txt.slice_le x _ _) hsz,fun t' k=>h t' k⟩)
  |some hp=>exact wpAny_getItem_str_slice hs rfl (post_val_or_str ⟨Nat.le_trans (Txt.slice_le x _ _) hsz,fun t' k=>h t' k⟩)
 |some lp=>
  induction hp with
  |none=>exact wpAny_getItem_str_slice hs rfl (post_val_or_str ⟨Nat.le_trans (Txt.slice_le x _ _) hsz,fun t' k=>h t' k⟩)
  |some hp=>exact wpAny_getItem_str_slice hs rfl (post_val_or_str ⟨Nat.le_trans (Txt.slice_le x _ _) hsz,fun t' k=>h t' k⟩)
theorem newL_lt {P:Params} {V:Vl} {Hz:Heap} {fs:List Addr} {l:List Env} {C:EC} {W:Wd} {loc:List AV} {sh:Shared} {E:VP} {s:Mine.St} {as:List AV} {Q:VP} (h:PV P V Hz fs l C W loc sh (newL s as) Q E):as.length < 10000:=by
 simp only [Mine.newL] at h
 induction hl:ki as 10000 with
 |false=>rw [hl] at h;exact h.elim
 |true=>exact kh hl
theorem cut_in {V:Vl} {d:Array UInt8} {cs:List Ck} {js:List Nat} {a b:Nat} {xs:List Nat} {r:List Ck} (hd:bN d=flat V cs) (hr:rest cs js a=some (.lit xs :: r)) (hab:a<=b) (hlen:b - a<=xs.length):cut (bN d) (some (lens V js+a)) (some (lens V js+b))=xs.take (b - a):=by
 obtain ⟨pre,e,hl⟩:=rest_of V hr
 rw [hd,e,flat]
 show ((pre ++ (xs ++ flat V r)).take (lens V js+b)).drop (lens V js+a)=_
 have e2:lens V js+b - (lens V js+a)=b - a:=Nat.add_sub_add_left ..
 rw [List.drop_take,<- hl,List.drop_left,hl,e2,List.take_append_of_le_length hlen]
theorem cut_out {V:Vl} {d:Array UInt8} {cs:List Ck} {js:List Nat} {a b:Nat} {xs:List Nat} (hd:bN d=flat V cs) (hr:rest cs js a=some [.lit xs]) (hab:a<=b) (hlen:xs.length < b - a):cut (bN d) (some (lens V js+a)) (some (lens V js+b))=xs:=by
 obtain ⟨pre,e,hl⟩:=rest_of V hr
 rw [hd,e,flat]
 show ((pre ++ (xs ++ flat V [])).take (lens V js+b)).drop (lens V js+a)=_
 have e2:lens V js+b - (lens V js+a)=b - a:=Nat.add_sub_add_left ..
 rw [List.drop_take,<- hl,List.drop_left,hl,e2]
 show (xs ++ []).take _=_
 rw [List.append_nil,List.take_of_length_le (Nat.le_of_lt hlen)]
theorem J.lit {β:Type} {Φ:β->Prop} {d:β} (hd:¬ Φ d) {G:Prop} {o:Option (List Ck)} {f:List Nat->List Ck->β} (h:Φ (match o with|some (.lit l :: r)=>f l r|_=>d)) (k:∀ l r,o=some (.lit l :: r)->Φ (f l r)->G):G:=by
 rcases o with _|⟨_|⟨⟨l⟩|⟨j⟩,r⟩⟩
 ·exact (hd h).elim
 ·exact (hd h).elim
 ·exact k l r rfl h
 ·exact (hd h).elim
theorem J.it4 {β:Type} {Φ:β->Prop} {d:β} {G:Prop} (hd:¬ Φ d) {a:AV} {f:β} (h:Φ (match a with|.it (.ofNat 4)=>f|_=>d)) (k:a=.it (.ofNat 4)->Φ f->G):G:=by
 induction a using AV.casesOn with
 |it i=>match i with
  |.ofNat 4=>exact k rfl h
  |.ofNat 0|.ofNat 1|.ofNat 2|.ofNat 3|.ofNat (_+5)=>exact (hd h).elim
  |.negSucc _=>exact (hd h).elim
 |_=>exact (hd h).elim
theorem J.no {β:Type} {Φ:β->Prop} {d:β} (hd:¬ Φ d) {G:Prop} {a:AV} {f:β} (h:Φ (match a with|.no=>f|_=>d)) (k:a=.no->Φ f->G):G:=by
 induction a using AV.casesOn with
 |no=>exact k rfl h
 |_=>exact (hd h).elim
set_option smartUnfolding false in
theorem slc_elim {PP:Res->Prop} (hn:∀ n,¬ PP (.fail n)) {p:Par} {s:Mine.St} {M:AV->AV->AV->AV->Prop} (k1:∀ l lo hi lo' hi',l.length < 100000->part? lo=some lo'->part? hi=some hi'->PP (retA s (.st (cut l lo' hi')))->M (.st l) lo hi .no)
  (k2:∀ cs l lo hi lo' hi',conc? cs=some l->part? lo=some lo'->part? hi=some hi'->PP (retA s (mkBy (cut l lo' hi')))->M (.by cs) lo hi .no)
  (k3:∀ cs lo hi js a b xs r,pos? lo=some (js,a)->pos? hi=some (js,b)->rest cs js a=some (.lit xs :: r)->a<=b->b - a<=xs.length->PP (retA s (mkBy (xs.take (b - a))))->M (.by cs) lo hi .no)
  (k4:∀ cs lo hi js a b xs,pos? lo=some (js,a)->pos? hi=some (js,b)->rest cs js a=some [.lit xs]->a<=b->xs.length < b - a->PP (retA s (mkBy xs))->M (.by cs) lo hi .no)
  (k5:∀ k l,qb s k (.li l)->PP (newL s (l.drop 1))->M (.ce k) (.it (.ofNat 1)) .no .no) (k6:∀ k l,qb s k (.li l)->PP (newL s l.reverse)->M (.ce k) .no .no (.it (.negSucc 0))) (k7:PP (newL s (scs p.n 0))->M .scr .no (.it (.ofNat 4)) .no) {o lo hi st:AV} (h:PP (slc p s o lo hi st)):M o lo hi st:=by
 induction o using AV.casesOn with
 |st l=>exact J.no (hn 104) h fun e h=>J.tt (hn 104) h fun hs h=>J.so (Φ:=PP) (o:=part? lo) (hn 104) h fun lo' h1 h=>J.so (Φ:=PP) (o:=part? hi) (hn 104) h fun hi' h2 h=>e▸k1 l lo hi lo' hi' (small_lt hs) h1 h2 h
 |«by» cs=>
  refine J.no (hn 104) h fun e h=>J.so2 (Φ:=PP) (o:=conc? cs) h (fun l hc h=>J.so (Φ:=PP) (o:=part? lo) (hn 101) h fun lo' h1 h=>J.so (Φ:=PP) (o:=part? hi) (hn 101) h fun hi' h2 h=>e▸k2 cs l lo hi lo' hi' hc h1 h2 h) fun _ h=>J.so (Φ:=PP) (o:=pos? lo) (hn 102) h fun x h1 h=>J.so (Φ:=PP) (o:=pos? hi) (hn 102) h fun y h2 h=>?_
  obtain ⟨js,a⟩:=x
  obtain ⟨js',b⟩:=y
  refine J.lit (Φ:=PP) (hn 102) (o:=rest cs js a) h fun xs r hr h=>J.tt (hn 102) h fun hj h=>J.tt (hn 102) h fun hab h=>?_
  cases (qd _ _).mp hj
  refine J.b2 (Φ:=PP) (b:=Nat.ble (b - a) xs.length) h (fun hb h=>e▸k3 cs lo hi js a b xs r h1 h2 hr (ble_le hab) (ble_le hb) h) fun hb h=>?_
  have hb:xs.length < b - a:=by rw [<- Nat.not_le,<- Nat.ble_eq,hb];decide
  match r,hr,h with
  |[],hr,h=>exact e▸k4 cs lo hi js a b xs h1 h2 hr (ble_le hab) hb h
  |_ :: _,_,h=>exact (hn _ h).elim
 |ce k=>
  refine J.li (hn 104) h fun l hl h=>J.no (hn 103) h fun e1 h=>?_
  subst e1
  have hl:qb s k (.li l):=(ke s.sto k).symm.trans hl
  induction st using AV.casesOn with
  |no=>exact J.it1 (hn 103) h fun e2 h=>e2▸k5 k l hl h
  |it i=>match i,h with
   |.negSucc 0,h=>exact J.no (hn 103) h fun e2 h=>e2▸k6 k l hl h
   |.negSucc (_+1),h=>exact (hn _ h).elim
   |.ofNat _,h=>exact (hn _ h).elim
  |_=>exact (hn _ h).elim
 |scr=>exact J.no (hn 105) h fun e1 h=>J.it4 (hn 105) h fun e2 h=>J.no (hn 105) h fun e3 h=>e1▸e2▸e3▸k7 h
 |_=>exact (hn _ h).elim
section
variable {prog:Program} {w:World} {V:Vl} {Hz:Heap} {p:Par} {fs:List Addr} {l:List Env} {C:EC} {W:Wd} {loc:List AV} {A:Around} {cd:Nat}
variable (O:VOk V p) (AO:AOk cd l fs A) (R:Rel V w.params Hz fs C W loc) (SO:SOk V p Hz)
include O AO R SO
theorem scs_rep {vs:List Value} (h:∀ (i:Nat) (v:Value),i < 4->vs[i]?=some v->∃ t,v=.int (V.cs i) t):∀ (n i:Nat) (ws:List Value),n+i<=4->ws=(vs.drop i).take n->ws.length=n->W.Rs V (scs n i) ws:=by
 intro n
 induction n with
 |zero=>intro i ws _ e _;simp at e;subst e;exact (show ([]:List Value)=[] from rfl)
 |succ n ih=>
  intro i ws hi e hl
  induction ws using List.casesOn with
  |nil=>cases hl
  |cons v ws=>
   have hv:vs[i]?=some v:=by
    have:(v :: ws)[0]?=some v:=rfl
    rw [e,List.getElem?_take,if_pos (Nat.succ_pos _),List.getElem?_drop] at this
    simpa using this
   have hd:ws=(vs.drop (i+1)).take n:=by
    have:=congrArg (List.drop 1) e
    simpa [List.drop_take,List.drop_drop] using this
   obtain ⟨t,rfl⟩:=h i v (by omega) hv
   exact ku.consI (show RepG _ _ _ _ _ (.sc i) _ from ⟨t,rfl⟩) (ih (i+1) ws (by omega) hd (by simpa using hl))
theorem scs_all {vs:List Value} (hn:p.n=min 4 vs.length) (hi:∀ (i:Nat) (v:Value),i < 4->vs[i]?=some v->∃ t,v=.int (V.cs i) t):W.Rs V (scs p.n 0) (vs.take 4):=by
 refine scs_rep O AO R SO hi p.n 0 _ (by omega) ?_ (by simp [hn])
 rw [List.drop_zero,hn]
 rcases Nat.le_total 4 vs.length with h|h
 ·rw [Nat.min_eq_left h]
 ·rw [Nat.min_eq_right h,List.take_length,List.take_of_length_le h]
theorem slc_by {d:Array UInt8} {u:Tok} {vlo vhi:Value} (x1 x2 x3:Option PySem.Expr) (q:Pos) {a:Addr} (ha:W.h.get? a=some { cls:=.type "slice",data:=.fields #[vlo,vhi,.none] }) {lo' hi':Option Nat} {r:List Nat} (h1:IsPart vlo (lo'.map Int.ofNat)) (h2:IsPart vhi (hi'.map Int.ofNat)) (e:cut (bN d) lo' hi'=r) {sh:Shared} {t:Nat} {Q:VP} {E:VP} (hQ:PV w.params V Hz fs l C W loc sh (retA W.s (mkBy r)) Q E):
  wpAny (model prog w) A (do let y <- getitemInPython (.bytes d u);subscripted (.Slice x1 x2 x3 q) y (.bytes d u) (.ref a)) Q E (at' sh W t):=by
 have K:=PV.retA hQ
 have hbn:=bN_picked d lo' hi'
 rw [e] at hbn
 refine slc_any x1 x2 x3 q (typeIs_bytes _ d u) FB.slot_bytes_getitem.lookup (getItem_meets (typeIs_bytes _ _ _) (by decide) FB.slot_bytes_getitem FB.entry_bytes_getitem (FB.args_bytes_getitem_2 _ _) (KBc.meets_slice2 d u a h1 h2) ⟨⟨_,ha,rfl,rfl⟩,?_,fun t' k=>K.2 _ W k rfl rfl R (.refl fs W) ⟨_,_,rfl,by rw [hbn,qn]⟩⟩)
 have hl:=fitCk_le O (show fitCk (mkCk r)=true from K.1)
 rw [qn,<- hbn,qj] at hl
 rw [qe];exact Nat.le_trans hl (by decide)
theorem p_slc {o lo hi st:AV} {vo vlo vhi vst:Value} (ho:W.R V o vo) (hlo:W.R V lo vlo) (hhi:W.R V hi vhi) (hst:W.R V st vst) (x1 x2 x3:Option PySem.Expr) (q:Pos) (a:Addr) (ha:W.h.get? a=some { cls:=.type "slice",data:=.fields #[vlo,vhi,vst] }):
  DoesA prog w V Hz A fs l C W loc (do let y <- getitemInPython vo;subscripted (.Slice x1 x2 x3 q) y vo (.ref a)) (slc p W.s o lo hi st):=by
 intro sh t Q E hQ
 refine slc_elim (PP:=fun r=>PV w.params V Hz fs l C W loc sh r Q E) (p:=p) (s:=W.s) (M:=fun o lo hi st=>W.R V o vo->W.R V lo vlo->W.R V hi vhi->W.R V st vst->wpAny (model prog w) A (do let y <- getitemInPython vo;subscripted (.Slice x1 x2 x3 q) y vo (.ref a)) Q E (at' sh W t)) (fun _ h=>h) ?_ ?_ ?_ ?_ ?_ ?_ ?_ hQ ho hlo hhi hst
 ·intro xs lo hi lo' hi' hsm h1 h2 hQ ⟨u,e0⟩ hlo hhi hst
  subst e0
  cases (show vst=.none from hst)
  obtain ⟨lp,rfl,e1⟩:=part_of2 h1 hlo
  obtain ⟨hp,rfl,e2⟩:=part_of2 h2 hhi
  have e:Txt.slice (jk xs) (lp.map (·.1)) (hp.map (·.1))=jk (cut xs lo' hi'):=by rw [e1,e2];exact txt_cut xs lo' hi'
  refine slc_any x1 x2 x3 q (typeIs_str _ _ u) slot_str_getitem.lookup (str_slice (s:=at' sh W t) ⟨_,ha,rfl,rfl⟩ (by rw [qr,qe];exact Nat.le_trans (Nat.le_of_lt hsm) (by decide)) fun t' k=>?_)
  rw [e];exact (PV.retA hQ).2 _ W k rfl rfl R (.refl fs W) ⟨t',rfl⟩
 ·intro cs xs lo hi lo' hi' hc h1 h2 hQ ⟨d,u,e0,hd⟩ hlo hhi hst
  subst e0
  cases (show vst=.none from hst)
  exact slc_by O AO R SO x1 x2 x3 q ha (part_of h1 hlo) (part_of h2 hhi) (by rw [hd,conc_of hc V]) hQ
 ·intro cs lo hi js a1 b1 xs r1 h1 h2 hr hab hlen hQ ⟨d,u,e0,hd⟩ hlo hhi hst
  subst e0
  cases (show vst=.none from hst)
  refine (pos_of h1 hlo).elim fun u1 e1=>(pos_of h2 hhi).elim fun u2 e2=>?_
  subst e1 e2
  exact slc_by O AO R SO x1 x2 x3 q ha (lo':=some (lens V js+a1)) (hi':=some (lens V js+b1)) (.int _ u1) (.int _ u2) (cut_in hd hr hab hlen) hQ
 ·intro cs lo hi js a1 b1 xs h1 h2 hr hab hlen hQ ⟨d,u,e0,hd⟩ hlo hhi hst
  subst e0
  cases (show vst=.none from hst)
  refine (pos_of h1 hlo).elim fun u1 e1=>(pos_of h2 hhi).elim fun u2 e2=>?_
  subst e1 e2
  exact slc_by O AO R SO x1 x2 x3 q ha (lo':=some (lens V js+a1)) (hi':=some (lens V js+b1)) (.int _ u1) (.int _ u2) (cut_out hd hr hab hlen) hQ
 ·intro k ls hl hQ ⟨_,e0⟩ ⟨u,e1⟩ hhi hst
  subst e0 e1
  cases (show vst=.none from hst)
  cases (show vhi=.none from hhi)
  obtain ⟨_,vs,⟨n,hg⟩,hv⟩:=R.cell k _ hl
  have hL:(at' sh W t).heap.IsList (W.ρ k) vs.toArray:=⟨_,hg,rfl,_,rfl⟩
  have hN:=PV.newL R (reps_drop 1 hv) hQ t
  have hz:vs.length<=16777216:=by
   have:=newL_lt hQ;simp only [List.length_drop] at this;have hlen:=ku.length hv;omega
  refine slc_any x1 x2 x3 q hL.typeIs slot_list_getitem.lookup (wpAny_getItem_list_slice hL ⟨_,ha,rfl,rfl⟩ (.int _ u) .none .none (by simp) ?_ (by rw [qe];simpa using hz))
  rw [show slicePick vs.toArray (some (Int.ofNat 1)) none none=(vs.drop 1).toArray from slicePick_from' _ 1]
  exact hN.2
 ·intro k ls hl hQ ⟨_,e0⟩ hlo hhi ⟨u,e1⟩
  subst e0 e1
  cases (show vlo=.none from hlo)
  cases (show vhi=.none from hhi)
  obtain ⟨_,vs,⟨n,hg⟩,hv⟩:=R.cell k _ hl
  have hL:(at' sh W t).heap.IsList (W.ρ k) vs.toArray:=⟨_,hg,rfl,_,rfl⟩
  have hN:=PV.newL R (reps_rev hv) hQ t
  have hz:vs.length<=16777216:=by
   have:=hN.1;rw [qe] at this;simpa using this
  refine slc_any x1 x2 x3 q hL.typeIs slot_list_getitem.lookup (wpAny_getItem_list_slice hL ⟨_,ha,rfl,rfl⟩ .none .none (.int _ u) (by decide) ?_ (by rw [qe];simpa using hz))
  rw [show slicePick vs.toArray none none (some (Int.negSucc 0))=vs.reverse.toArray from pick_rev _]
  exact hN.2
 ·intro hQ ho hlo ⟨u,e1⟩ hst
  subst e1
  cases (show vst=.none from hst)
  cases (show vlo=.none from hlo)
  cases (show vo=.ref V.scr from ho)
  obtain ⟨vs,⟨ob,h1,h2⟩,hz,hn,hi⟩:=id SO
  have hL:(at' sh W t).heap.IsList V.scr vs.toArray:=⟨ob,R.base _ _ h1,h2⟩
  have hN:=PV.newL R (scs_all O AO R SO hn hi) hQ t
  refine slc_any x1 x2 x3 q hL.typeIs slot_list_getitem.lookup (wpAny_getItem_list_slice hL ⟨_,ha,rfl,rfl⟩ .none (.int _ u) .none (by simp) ?_ (by rw [qe];simp;omega))
  rw [show slicePick vs.toArray none (some (Int.ofNat 4)) none=(vs.take 4).toArray from slicePick_upto' _ 4]
  exact hN.2
end
structure KW (K:Frag):Prop where
 pg:plainGet K ql (atAt 2)=true
 hd:hasDictIn K ql=true
 ats:∀ a,okA a=true->∃ attr,findIn K (.ref ql) (atAt a)=some attr/\noGet K attr=true/\takerIn K ql (atAt a)=some none
 sa:findIn K (.ref ql) "__setattr__"=some (some (.builtin "object.__setattr__"))
 po:plainOver K ql=true
 wm:∀ a f,look wmeth a=some f->∃ fi,ftab.get f=some fi/\findIn K (.ref ql) (atAt a)=some (some (.ref fi.addr))/\isFn K (.ref fi.addr)=true/\specialIn K (.ref fi.addr) "__get__"=some (some (.builtin "function.__get__"))/\
  takesIn K (.ref fi.addr)=some false/\copiedNames.contains (atAt a)=false/\(atAt 2 == atAt a)=false/\(atAt 12 == atAt a)=false
theorem at_ne:(atAt 2 == atAt 12)=false/\(atAt 12 == atAt 2)=false:=by decide +kernel
set_option smartUnfolding false in
theorem okA_iff {a:Nat} (h:okA a=true):a=2 \/ a=12:=
 J.b2 (Φ:=fun b=>b=true) (show (match Nat.beq a 2 with|true=>true|false=>Nat.beq a 12)=true from h) (fun h1 _=>.inl (je h1)) fun _ h=>.inr (je h)
set_option smartUnfolding false in
theorem okEs_cons {j:Nat} {d:AV} {r:List (Nat × AV)} (h:okEs ((j,d) :: r)=true):okA j=true/\okEs r=true:=
 bt_of (show (match okA j with|true=>okEs r|false=>false)=true from h)
theorem atAt_ne {i j:Nat} (hi:okA i=true) (hj:okA j=true) (h:i ≠ j):(atAt i == atAt j)=false:=by
 rcases okA_iff hi with rfl|rfl<;>rcases okA_iff hj with rfl|rfl
 ·exact absurd rfl h
 ·exact at_ne.1
 ·exact at_ne.2
 ·exact absurd rfl h
section
variable {T:Nat->Value->Prop} {V:Vl} {P:Params} {h:Heap} {ρ:Nat->Addr} {nx:Nat}
theorem refs_none:∀ (es:List (Nat × AV)) (vs:List Value) (ts:List Tok),(kc P es vs ts).any (·.refKey)=false
 |[],_,_=>Eq.refl false
 |_ :: _,[],_=>Eq.refl false
 |_ :: _,_ :: _,[]=>Eq.refl false
 |(_,_) :: r,_ :: vs,_ :: ts=>refs_none r vs ts
theorem find_no {a j:Nat} {d:AV} {r:List (Nat × AV)} {v:Value} {vs:List Value} {t:Tok} {ts:List Tok} (e:(atAt j == atAt a)=false):
  (kc P ((j,d) :: r) (v :: vs) (t :: ts)).find? (·.key.isStr (atAt a))=(kc P r vs ts).find? (·.key.isStr (atAt a)):=
 List.find?_cons_of_neg fun y=>jh (e.symm.trans y)
theorem find_yes {j:Nat} {d:AV} {r:List (Nat × AV)} {v:Value} {vs:List Value} {t:Tok} {ts:List Tok}:
  ((kc P ((j,d) :: r) (v :: vs) (t :: ts)).find? (·.key.isStr (atAt j))).map (·.val)=some v:=
 congrArg (Option.map DictEntry.val) (List.find?_cons_of_pos (a:=⟨PyData.keyHash P (atAt j),.str (atAt j) t,v⟩) (beq_self_eq_true (atAt j)))
theorem getL_find {a:Str} {es:List DictEntry} (h:es.any (·.refKey)=false):getL a es=some ((es.find? (·.key.isStr a)).map (·.val)):=by
 unfold getL
 induction es.find? (·.key.isStr a) with
 |some e=>exact Eq.refl _
 |none=>exact if_neg (h▸jh)
theorem find_some {a:Nat} {x:AV}:∀ {es:List (Nat × AV)} {vs:List Value} {ts:List Tok},okEs es=true->ts.length=es.length->ku T V h ρ nx (es.map (·.2)) vs->look es a=some x->
  ∃ v,((kc P es vs ts).find? (·.key.isStr (atAt a))).map (·.val)=some v/\RepG T V h ρ nx x v/\okA a=true
 |[],_,_,_,_,_,hl=>(jg _ hl.symm).elim
 |jd :: r,vs,ts,hok,hl,hv,ha=>by
  induction ts using List.casesOn with
  |nil=>exact (Nat.succ_ne_zero _ hl.symm).elim
  |cons t ts=>
   refine hv.elim fun v hv=>hv.elim fun s hv=>?_
   obtain rfl:=hv.1
   exact J.b2 (Φ:=fun o=>o=some x) (show (match Nat.beq jd.1 a with|true=>some jd.2|false=>look r a)=some x from ha)
    (fun hj e=>⟨v,je hj▸find_yes,jf e▸hv.2.1,je hj▸(okEs_cons hok).1⟩)
    fun hj e=>(find_some (okEs_cons hok).2 (Nat.succ.inj hl) hv.2.2 e).elim fun v' g=>⟨v',(congrArg (Option.map (·.val)) (find_no (atAt_ne (okEs_cons hok).1 g.2.2 fun q=>jh (hj.symm.trans (q▸Nat.beq_refl jd.1))))).trans g.1,g.2⟩
theorem zu {a:Nat} {x:AV} {es:List (Nat × AV)} {vs:List Value} {ts:List Tok} (hok:okEs es=true) (hl:ts.length=es.length) (hv:ku T V h ρ nx (es.map (·.2)) vs) (ha:look es a=some x):
  ∃ v,getL (atAt a) (kc P es vs ts)=some (some v)/\RepG T V h ρ nx x v/\okA a=true:=
 (find_some (P:=P) hok hl hv ha).elim fun v g=>⟨v,(getL_find (refs_none es vs ts)).trans (congrArg some g.1),g.2⟩
theorem find_none {a:Nat} (h2:(atAt 2 == atAt a)=false) (h12:(atAt 12 == atAt a)=false):∀ {es:List (Nat × AV)} {vs:List Value} {ts:List Tok},okEs es=true->(kc P es vs ts).find? (·.key.isStr (atAt a))=none
 |[],_,_,_=>Eq.refl none
 |_ :: _,[],_,_=>Eq.refl none
 |_ :: _,_ :: _,[],_=>Eq.refl none
 |(j,d) :: r,v :: vs,t :: ts,hok=>(find_no ((okA_iff (okEs_cons hok).1).elim (fun e=>e▸h2) fun e=>e▸h12)).trans (find_none h2 h12 (okEs_cons hok).2)
theorem getL_none {a:Nat} (h2:(atAt 2 == atAt a)=false) (h12:(atAt 12 == atAt a)=false) {es:List (Nat × AV)} {vs:List Value} {ts:List Tok} (hok:okEs es=true):getL (atAt a) (kc P es vs ts)=some none:=
 (getL_find (refs_none es vs ts)).trans (congrArg (fun o=>some (Option.map DictEntry.val o)) (find_none h2 h12 hok))
theorem hIn {v u:Value} (e:v=u) (h:handedIn u=true):handedIn v=true:=e▸h
theorem rep_handed (a:AV) (v:Value) (hT:∀ j v,T j v->handedIn v=true) (x:RepG T V h ρ nx a v):handedIn v=true:=by
 induction a using AV.casesOn with
 |un=>exact x.elim
 |no|bo _|scr=>exact hIn x (Eq.refl true)
 |it _|ln _ _|st _|sc _|sm _|kx _=>exact Exists.elim x fun _ x=>hIn x (Eq.refl true)
 |«by» _|tu _=>exact Exists.elim x fun _ x=>x.elim fun _ x=>hIn x.1 (Eq.refl true)
 |rg _=>exact Exists.elim x fun _ x=>x.elim fun _ x=>x.elim fun _ x=>x.elim fun _ x=>hIn x.1 (Eq.refl true)
 |ce _=>exact hIn (And.right x) (Eq.refl true)
 |ob _=>exact (And.right x).elim fun _ x=>hIn x.1 (Eq.refl true)
 |fn _|kl _=>exact Exists.elim x fun _ x=>hIn x.2 (Eq.refl true)
 |bi b=>exact hIn x (by induction b<;>first|exact Eq.refl true|decide +kernel)
 |bm _ _=>exact (And.right x).elim fun _ x=>x.elim fun _ x=>x.elim fun _ x=>x.elim fun _ x=>hIn x.1 (Eq.refl true)
 |tr j=>exact hT j v x
 |hd _=>exact Exists.elim x fun _ x=>x.elim fun _ x=>hIn x.2.2 (Eq.refl true)
theorem repV_handed {a:AV} {v:Value} (x:kz V h ρ nx a v):handedIn v=true:=
 rep_handed a v (fun j v y=>rep_handed _ v (fun _ _ z=>z.elim) y) x
end
theorem M.ob {β:Type} (a:AV) (f:Nat->β) (d:β):(match a with|.ob x=>f x|_=>d)=Option.rec d f a.ob?:=by induction a using AV.casesOn<;>first|exact Eq.refl d|exact Eq.refl (f _)
theorem J.ob {β:Type} {Φ:β->Prop} {d:β} {G:Prop} (hd:¬ Φ d) {a:AV} {f:Nat->β} (h:Φ (match a with|.ob x=>f x|_=>d)) (k:∀ x,a=.ob x->Φ (f x)->G):G:=
 J.so' hd ((M.ob a f d).subst (motive:=Φ) h) fun x e=>k x (AV.ob?_eq e)
set_option smartUnfolding false in
theorem att_inv {PP:Res->Prop} (hn:∀ n,¬ PP (.fail n)) {a:AV} {i:Nat} {s:Mine.St} (h:PP (e_att2 i (.v a s))) {G:Prop}
  (k1:∀ c es x,a=.ob c->qb s c (.id es)->okEs es=true->look es i=some x->PP (.v x s)->G)
  (k2:∀ c es f,a=.ob c->qb s c (.id es)->okEs es=true->look es i=none->look wmeth i=some f->PP (.v (.bm c f) s)->G):G:=
 J.ob (hn 3) h fun c e h=>J.id (hn 3) h fun es hl h=>J.tt (hn 3) h fun hok h=>J.so2 h (fun x hx h=>k1 c es x e ((ke s.sto c).symm.trans hl) hok hx h) fun hx h=>J.so (hn 3) h fun f hf h=>k2 c es f e ((ke s.sto c).symm.trans hl) hok hx hf h
section
variable {prog:Program} {w:World} {V:Vl} {Hz:Heap} {p:Par} {fs:List Addr} {l:List Env} {C:EC} {W:Wd} {loc:List AV} {A:Around} {cd:Nat} {K:Frag}
variable (O:VOk V p) (AO:AOk cd l fs A) (R:Rel V w.params Hz fs C W loc) (KX:K.In Hz) (KO:KW K)
include O AO R KX KO
omit O AO KO in
theorem kin:K.In W.h:=fun a o e=>R.base _ _ (KX a o e)
omit O AO KX KO in
theorem wire_at {k:Nat} {va:Value} (ha:W.R V (.ob k) va) {es:List (Nat × AV)} (hl:qb W.s k (.id es)):∃ x vs ts,va=.ref x/\ts.length=es.length/\W.h.get? x=some (instObj ql (W.ρ k))/\W.h.get? (W.ρ k)=some (dictOf (kc w.params es vs ts) es.length)/\W.Rs V (es.map (·.2)) vs/\
  InstAt W.h x (instObj ql (W.ρ k)) ql (some (dictOf (kc w.params es vs ts) es.length)):=by
 obtain ⟨_,x,rfl,hx⟩:=ha
 obtain ⟨_,vs,ts,h1,h2,h3⟩:=R.cell k _ hl
 exact ⟨x,vs,ts,rfl,h1,hx,h2,h3,⟨hx,rfl,rfl,h2⟩⟩
omit O AO in
theorem att_val {k:Nat} {va:Value} (ha:W.R V (.ob k) va) {es:List (Nat × AV)} (hl:qb W.s k (.id es)) (hok:okEs es=true) {i:Nat} {y:AV} (hi:look es i=some y) {sh:Shared} {t:Nat} {Q E:VP}
  (hQ:∀ v,W.R V y v->Q v (at' sh W (t+1))):wpAny (model prog w) A (getAttr va (atAt i) true) Q E (at' sh W t):=by
 obtain ⟨x,vs,ts,rfl,h1,h2,h3,h4,I⟩:=wire_at R ha hl
 exact (zu (P:=w.params) hok h1 h4 hi).elim fun v g=>(KO.ats i g.2.2).elim fun attr f=>
  get_value (s:=at' sh W t) (kin R KX) I (plainGet_of (name:=atAt i) KO.pg).1 (findObj_own KO.hd f.1 f.2.1 (by rw [lookIn_dict];exact g.1)) (repV_handed g.2.1) (hQ v g.2.1)
omit O AO in
theorem att_fn {k:Nat} {va:Value} (ha:W.R V (.ob k) va) {es:List (Nat × AV)} (hl:qb W.s k (.id es)) (hok:okEs es=true) {i f:Nat} (hm:look wmeth i=some f) {sh:Shared} {t:Nat} {Q E:VP}
  (hQ:∀ v W' t',W'.L=W.L->W'.s=W.s->Rel V w.params Hz fs C W' loc->Stp fs W W'->W'.R V (.bm k f) v->Q v (at' sh W' t')):wpAny (model prog w) A (getAttr va (atAt i) true) Q E (at' sh W t):=by
 have hk:=ha.1
 obtain ⟨x,vs,ts,rfl,h1,h2,h3,h4,I⟩:=wire_at R ha hl
 obtain ⟨fi,k1,k2,k3,k4,k5,k6,k7,k8⟩:=KO.wm i f hm
 have pg:=plainGet_of (name:=atAt i) KO.pg
 have X:=kin R KX
 refine get_bind (s:=at' sh W t) X I pg.1 (findObj_fn KO.hd k2 k4 k5 k6 (by rw [lookIn_dict];exact getL_none k7 k8 hok)) pg.2 (wpAny_call (fn_get (K:=K) (s:={ at' sh W t with toks:=t+1 }) X (beq_iff_eq.mp k3) ?_))
 have P:=R.push (methodObj (.ref fi.addr) (.ref x))
 exact handed_on (Eq.refl _) (hQ (.ref W.h.objs.size) { W with h:=W.h.push (methodObj (.ref fi.addr) (.ref x)) } (t+1) (Eq.refl _) (Eq.refl _) P.1 P.2 ⟨hk,W.h.objs.size,_,fi,x,rfl,k1,Heap.get?_push_size _ rfl,rfl,rfl,ja _ h2⟩)
theorem p_att {a:AV} {va:Value} {i:Nat} (ha:W.R V a va):DoesA prog w V Hz A fs l C W loc (getAttr va (atAt i) true) (e_att2 i (.v a W.s)):=
 fun sh t Q E hQ=>att_inv (PP:=fun r=>PV w.params V Hz fs l C W loc sh r Q E) (fun _ h=>h) hQ
  (fun c es y e hl hok hi hQ=>att_val R KX KO (e▸ha) hl hok hi fun v g=>hQ v W (t+1) rfl rfl R (.refl fs W) g)
  fun c es f e hl hok _ hm hQ=>att_fn R KX KO (e▸ha) hl hok hm hQ
theorem p_gi {k:Nat} {es:List (Nat × AV)} {a f:Nat} (hl:qb W.s k (.id es)) (hok:okEs es=true) (hn:look es a=none) (hm:look wmeth a=some f) {vo:Value} (ho:W.R V (.ob k) vo) {sh:Shared} {t:Nat} {pl:Sem Bool}
  {Q:Value × List Value->Shared->Prop} {E:VP} (hQ:∀ fi,ftab.get f=some fi->Q (.ref fi.addr,[vo]) (at' sh W t)):wpAny (model prog w) A (getMethod vo (atAt a) pl) Q E (at' sh W t):=by
 obtain ⟨x,vs,ts,rfl,h1,h2,h3,h4,I⟩:=wire_at R ho hl
 exact (KO.wm a f hm).elim fun fi k=>method_fn (s:=at' sh W t) (kin R KX) I (plainGet_of (name:=atAt a) KO.pg).1 (plainGet_of (name:=atAt a) KO.pg).2 k.2.1 (beq_iff_eq.mp k.2.2.1) (congrArg (Option.map Option.isSome) (getL_none (P:=w.params) (vs:=vs) (ts:=ts) k.2.2.2.2.2.2.1 k.2.2.2.2.2.2.2 hok)) (hQ fi k.1)
end
set_option smartUnfolding false in
theorem putA_hit {j i:Nat} {d a:AV} {r:List (Nat × AV)} (h:Nat.beq j i=true):putA ((j,d) :: r) i a=(j,a) :: r:=mb_t h
set_option smartUnfolding false in
theorem putA_miss {j i:Nat} {d a:AV} {r:List (Nat × AV)} (h:Nat.beq j i=false):putA ((j,d) :: r) i a=(j,d) :: putA r i a:=mb_f h
theorem putA_rep {T:Nat->Value->Prop} {V:Vl} {P:Params} {h:Heap} {ρ:Nat->Addr} {nx:Nat} {i:Nat} {a:AV} {v:Value} {k:Int} {t:Tok} (hi:okA i=true) (hk:k=PyData.keyHash P (atAt i)) (hv:RepG T V h ρ nx a v):
  ∀ (es:List (Nat × AV)) (vs:List Value) (ts:List Tok),okEs es=true->ts.length=es.length->ku T V h ρ nx (es.map (·.2)) vs->
   ∃ vs' ts',ts'.length=(putA es i a).length/\putL (atAt i) k (.str (atAt i) t) v (kc P es vs ts)=kc P (putA es i a) vs' ts'/\ku T V h ρ nx ((putA es i a).map (·.2)) vs'/\
    (putA es i a).length=if (kc P es vs ts).any (·.key.isStr (atAt i)) then es.length else es.length+1
 |[],vs,ts,_,hl,x=>by
  obtain rfl:=hk
  obtain rfl:=(show vs=[] from x)
  obtain rfl:=List.eq_nil_of_length_eq_zero hl
  exact ⟨[v],[t],Eq.refl 1,Eq.refl _,ku.one hv,Eq.refl 1⟩
 |jd :: r,vs,ts,hok,hl,x=>by
  induction ts using List.casesOn with
  |nil=>exact (Nat.succ_ne_zero _ hl.symm).elim
  |cons u ts=>
   refine x.elim fun w x=>x.elim fun s x=>?_
   obtain rfl:=x.1
   have ok:=okEs_cons hok
   induction hj:Nat.beq jd.1 i with
   |true=>
    have hh:(Value.str (atAt jd.1) u).isStr (atAt i)=true:=je hj▸beq_self_eq_true (atAt jd.1)
    refine ⟨v :: s,u :: ts,?_,?_,?_,?_⟩<;>rw [putA_hit hj]
    ·exact hl
    ·exact if_pos hh
    ·exact ku.consI hv x.2.2
    ·exact (if_pos (show ((Value.str (atAt jd.1) u).isStr (atAt i) || _)=true by rw [hh];exact Eq.refl true)).symm
   |false=>
    have hh:(Value.str (atAt jd.1) u).isStr (atAt i)=false:=atAt_ne ok.1 hi fun q=>jh (hj.symm.trans (q▸Nat.beq_refl jd.1))
    refine (putA_rep (t:=t) hi hk hv r s ts ok.2 (Nat.succ.inj hl) x.2.2).elim fun vs' g=>g.elim fun ts' g=>⟨w :: vs',u :: ts',?_,?_,?_,?_⟩<;>rw [putA_miss hj]
    ·exact congrArg (·+1) g.1
    ·exact (if_neg (hh▸jh)).trans (congrArg _ g.2.1)
    ·exact ku.consI x.2.1 g.2.2.1
    ·show (putA r i a).length+1=if ((Value.str (atAt jd.1) u).isStr (atAt i) || (kc P r s ts).any (·.key.isStr (atAt i)))=true then r.length+1 else r.length+1+1
     rw [hh,g.2.2.2]
     exact apply_ite (·+1) _ _ _
theorem putA_length:∀ (es:List (Nat × AV)) (i:Nat) (a:AV),(putA es i a).length<=es.length+1
 |[],_,_=>jj 1
 |e :: r,i,a=>by
  induction h:Nat.beq e.1 i with
  |true=>rw [putA_hit (j:=e.1) (d:=e.2) h];exact Nat.le_succ _
  |false=>rw [putA_miss (j:=e.1) (d:=e.2) h];exact Nat.succ_le_succ (putA_length r i a)
set_option smartUnfolding false in
theorem asAt_inv {PP:Res->Prop} (hn:∀ n,¬ PP (.fail n)) {o a:AV} {i:Nat} {loc:List AV} {s:Mine.St} {k:KLoc} (h:PP (asAt o i a loc s k)) {G:Prop} (kk:∀ c es,o=.ob c->qb s c (.id es)->okA i=true->okEs es=true->es.length < 100->PP (k loc ⟨putP s.sto c (.id (putA es i a)),s.nx⟩)->G):G:=
 J.ob (hn 121) h fun c e h=>J.id (hn 121) h fun es hl h=>J.tt (hn 121) h fun hi h=>J.tt (hn 121) h fun hok h=>J.tt (hn 121) h fun hlt h=>kk c es e ((ke s.sto c).symm.trans hl) hi hok (kh hlt) (by rw [fSp_eq,setC_eq] at h;exact h)
theorem idEntries_le (P:Params):∀ (es:List (Nat × AV)) (vs:List Value) (ts:List Tok),(kc P es vs ts).length<=es.length
 |[],_,_=>jj _
 |(_,_) :: _,[],_=>Nat.zero_le _
 |(_,_) :: _,_ :: _,[]=>Nat.zero_le _
 |(_,_) :: es,_ :: vs,_ :: ts=>Nat.succ_le_succ (idEntries_le P es vs ts)
section
variable {prog:Program} {w:World} {V:Vl} {Hz:Heap} {p:Par} {fs:List Addr} {l:List Env} {C:EC} {W:Wd} {loc:List AV} {A:Around} {cd:Nat} {K:Frag}
variable (O:VOk V p) (AO:AOk cd l fs A) (R:Rel V w.params Hz fs C W loc) (KX:K.In Hz) (KO:KW K)
include O AO R KX KO
theorem p_sat {o:AV} {vo:Value} {a:AV} {va:Value} {i:Nat} (ho:W.R V o vo) (ha:W.R V a va) {k:KLoc} {PP:Res->Prop} (hn:∀ n,¬ PP (.fail n)) (hP:PP (asAt o i a loc W.s k)) {sh:Shared} {t:Nat} {Q:Unit->Shared->Prop} {E:VP}
  (hQ:∀ W' t',W'.L=W.L->Rel V w.params Hz fs C W' loc->Stp fs W W'->PP (k loc W'.s)->Q () (at' sh W' t')):wpAny (model prog w) A (setAttr vo (atAt i) va) Q E (at' sh W t):=by
 have X:=kin R KX
 refine asAt_inv hn hP fun c es e hl hi hok hlt hP=>?_
 have ho:W.R V (.ob c) vo:=e▸ho
 obtain ⟨x,vs,ts,rfl,h1,h2,h3,h4,I⟩:=wire_at R ho hl
 obtain ⟨attr,_,_,f3⟩:=KO.ats i hi
 obtain ⟨cd',hc,hd'⟩:=any_some (show (clsIn K ql).any (·.hasDict)=true from KO.hd)
 obtain ⟨vs',ts',g1,g2,g3,g4⟩:=putA_rep (P:=w.params) (t:=t+1) (k:=PyData.keyHash w.params (atAt i)) hi rfl ha es vs ts hok h1 h4
 have e1:Obj.putName (atAt i) (PyData.keyHash w.params (atAt i)) (.str (atAt i) (t+1)) va (dictOf (kc w.params es vs ts) es.length)=dictOf (kc w.params (putA es i a) vs' ts') (putA es i a).length:=by
  rw [putName_dict,g2]
  unfold putN
  rw [<- g4]
 refine set_plain (s:=at' sh W t) X I KO.sa (osa_open (s:={ at' sh W t with toks:=t+1 }) X I KO.po f3 fun b=>?_)
 refine jc (ji (jc (jc (wpAny_loadPart h2 (jc ((looks_clsIn X hc).here ?_))))))
 rw [hd']
 refine ji (a:=some (W.ρ c)) (jc (ji (jc ?_)))
 unfold nsSet
 refine jc (jc (wpAny_askSetting (ji (jc (wpAny_mkText (jc (wpAny_loadPart h3 ?_)))))))
 have nr:(!(kc w.params es vs ts).toArray.any (·.key.isStr (atAt i)) && (kc w.params es vs ts).toArray.any (·.refKey))=false:=by
  rw [<- Array.any_toList,<- Array.any_toList,List.toList_toArray,refs_none,Bool.and_false]
 dsimp only
 rw [aRefKeyMayBeTheName_at,nr]
 refine wpAny_updatePart h3 ?_
 have D':(W.h.update (W.ρ c) (Obj.putName (atAt i) (PyData.keyHash w.params (atAt i)) (.str (atAt i) (t+1)) va)).get? (W.ρ c)=some (dictOf (kc w.params (putA es i a) vs' ts') (putA es i a).length):=by
  rw [<- e1];exact Heap.get?_update_self _ h3 (by rw [e1];rfl)
 have hlen:(kc w.params (putA es i a) vs' ts').length<=1000:=by
  have q3:=putA_length es i a
  exact Nat.le_trans (idEntries_le _ _ _ _) (Nat.le_trans q3 (Nat.le_trans (Nat.succ_le_succ (Nat.le_of_lt hlt)) (show 100+1<=1000 by decide)))
 refine jc (wpAny_lookBehind D' (pastItsLine_dict (by rw [List.size_toArray,sizeLine_eq];omega)) ?_)
 have hoth:∀ b o,b ≠ W.ρ c->W.h.get? b=some o->(W.h.update (W.ρ c) (Obj.putName (atAt i) (PyData.keyHash w.params (atAt i)) (.str (atAt i) (t+1)) va)).get? b=some o:=fun b o hb e=>by
  rw [Heap.get?_update_other _ _ (Ne.symm hb)];exact e
 have himm:∀ b o,W.h.get? b=some o->qm o->(W.h.update (W.ρ c) (Obj.putName (atAt i) (PyData.keyHash w.params (atAt i)) (.str (atAt i) (t+1)) va)).get? b=some o:=fun b o e y=>hoth b o (fun q=>R.imm_ne e y (q▸.inr ⟨c,_,hl,rfl⟩)) e
 obtain ⟨R',S'⟩:=R.set hl hoth (c':=.id (putA es i a)) ⟨vs',ts',g1,D',ky.mono himm (jj _) (fun _ _=>rfl) g3⟩
 exact ji (hQ ⟨_,W.L,W.ρ,⟨putP W.s.sto c (.id (putA es i a)),W.s.nx⟩⟩ (t+2) rfl R' S' hP)
end
theorem pairs_turn {pg pg':Program} {w w':World}:∀ {es:List DictEntry} {kvs:List (Str × Value)},Pairs (PySem.strKind pg w) es kvs->Pairs (PySem.strKind pg' w') es kvs:=by
 intro es kvs h
 induction h with
 |nil=>exact .nil
 |cons h1 h2 _ ih=>exact .cons h1 h2 ih
theorem dictOf_turn {pg pg':Program} {w w':World} (e:w.params=w'.params) {h:Heap} {a:Addr} {kvs:List (Str × Value)} (x:h.DictOf (PySem.strKind pg w) a kvs):h.DictOf (PySem.strKind pg' w') a kvs:=by
 obtain ⟨o,es,ep,h1,h2,h3,h4,h5,h6⟩:=x
 refine ⟨o,es,ep,h1,h2,h3,fun d hd=>?_,pairs_turn h5,h6⟩
 obtain ⟨k,q1,q2⟩:=h4 d hd
 refine ⟨k,q1,q2.trans ?_⟩
 show hashStr w k=hashStr w' k
 unfold hashStr
 rw [e]
theorem eqL_dec (x y:List Nat):eqL x y=decide (jk x=jk y):=by
 rw [eqL_eq]
 exact decide_eq_decide.mpr ⟨fun h=>by rw [h],mkStr'_inj⟩
theorem stored_none {kvs:List (Str × Value)} {k:Str} {v:Value} (h:kvs.any (fun kv=>kv.1=k)=false):kvs.map (fun kv=>if kv.1=k then (kv.1,v) else kv)=kvs:=by
 induction kvs with
 |nil=>rfl
 |cons e r ih=>
  simp only [List.any_cons,Bool.or_eq_false_iff,decide_eq_false_iff_not] at h
  simp only [List.map_cons,if_neg h.1]
  rw [ih (by simpa using h.2)]
theorem putS_rep {T:Nat->Value->Prop} {V:Vl} {h:Heap} {ρ:Nat->Addr} {nx:Nat} {x:List Nat} {a:AV} {v:Value} (hv:RepG T V h ρ nx a v):
  ∀ (es:List (List Nat × AV)) (kvs:List (Str × Value)),kvs.map (·.1)=es.map (fun e=>jk e.1)->(kvs.map (·.1)).Nodup->ku T V h ρ nx (es.map (·.2)) (kvs.map (·.2))->
   (stored kvs (jk x) v).map (·.1)=(putS es x a).map (fun e=>jk e.1)/\ku T V h ρ nx ((putS es x a).map (·.2)) ((stored kvs (jk x) v).map (·.2))
 |[],kvs,he,_,hr=>by
  have:kvs=[]:=by simpa using he
  subst this
  exact ⟨rfl,ku.one hv⟩
 |(y,d) :: r,[],he,_,_=>by cases he
 |(y,d) :: r,(k,u) :: kvs,he,hnd,hr=>by
  simp only [List.map_cons,List.cons.injEq] at he
  obtain ⟨he1,he2⟩:=he
  simp only [List.map_cons,List.nodup_cons] at hnd
  obtain ⟨u',s,e,x1,x2⟩:=hr
  cases e
  have he1:k=jk y:=he1
  subst he1
  by_cases hy:jk y=jk x
  ·have hb:eqL y x=true:=by rw [eqL_dec];exact decide_eq_true hy
   have hno:kvs.any (fun kv=>kv.1=jk x)=false:=by
    rw [<- Bool.not_eq_true]
    intro q
    obtain ⟨kv,hm,hk⟩:=List.any_eq_true.mp q
    refine hnd.1 (List.mem_map.mpr ⟨kv,hm,?_⟩)
    rw [hy];simpa using hk
   unfold stored
   simp only [List.any_cons,hy,decide_true,Bool.true_or,if_true,List.map_cons,putS,hb]
   rw [stored_none hno]
   exact ⟨by rw [he2],ku.consI hv x2⟩
  ·have hb:eqL y x=false:=by rw [eqL_dec];exact decide_eq_false hy
   obtain ⟨g1,g2⟩:=putS_rep (x:=x) hv r kvs he2 hnd.2 x2
   have hs:stored ((jk y,u) :: kvs) (jk x) v=(jk y,u) :: stored kvs (jk x) v:=by
    unfold stored
    simp only [List.any_cons,hy,decide_false,Bool.false_or,List.map_cons,if_false]
    split<;>rfl
   rw [hs]
   simp only [putS,hb,List.map_cons]
   exact ⟨by rw [g1],ku.consI x1 g2⟩
set_option smartUnfolding false in
theorem asSu_inv {PP:Res->Prop} (hn:∀ n,¬ PP (.fail n)) {o x a:AV} {loc:List AV} {s:Mine.St} {k:KLoc} (h:PP (asSu o x a loc s k)) {G:Prop} (kk:∀ c y es,o=.ce c->x=.st y->qb s c (.di es)->es.length < 10000->PP (k loc ⟨putP s.sto c (.di (putS es y a)),s.nx⟩)->G):G:=
 J.ce (hn 122) h fun c e h=>J.st (hn 122) h fun y e' h=>J.di (hn 122) h fun es hl h=>J.tt (hn 122) h fun hlt h=>kk c y es e e' ((ke s.sto c).symm.trans hl) (kh hlt) (by rw [fSp_eq,setC_eq] at h;exact h)
section
variable {prog:Program} {w:World} {V:Vl} {Hz:Heap} {p:Par} {fs:List Addr} {l:List Env} {C:EC} {W:Wd} {loc:List AV} {A:Around} {cd:Nat}
variable (O:VOk V p) (AO:AOk cd l fs A) (R:Rel V w.params Hz fs C W loc)
include O AO R
theorem p_dct {env:Env} (q:Pos):DoesA prog w V Hz A fs l C W loc (eval (.Dict [] [] q) env) (newC W.s (.di []) fun i s=>.v (.ce i) s):=by
 intro sh t Q E hQ
 simp only [newC,fN_eq] at hQ
 refine wpAny_Dict_empty ?_
 obtain ⟨W',e1,e2,e3,e4,R',S'⟩:=R.new (h':=W.h.push { cls:=.type "dict",data:=.dict #[] }) (a:=W.h.objs.size) (c:=.di []) (fun _ _ e=>ja _ e) (Heap.get?_none_of_le (jj _))
  fun ρ' hρ hρa=>⟨[],rfl,⟨prog,w,rfl,_,#[],0,Heap.get?_push_size _ rfl,⟨rfl,rfl,rfl⟩,rfl,fun _ he=>by simp at he,.nil,List.nodup_nil⟩,rfl⟩
 have:=hQ (.ref W.h.objs.size) W' t e2 e3 R' S' ⟨by rw [e3];exact Nat.lt_succ_self _,by rw [e4]⟩
 rw [at'_eq e1] at this
 exact this
theorem p_ssu {o:AV} {vo:Value} {x:AV} {vx:Value} {a:AV} {va:Value} (ho:W.R V o vo) (hx:W.R V x vx) (ha:W.R V a va) {k:KLoc} {PP:Res->Prop} (hn:∀ n,¬ PP (.fail n)) (hP:PP (asSu o x a loc W.s k)) {sh:Shared} {t:Nat} {Q:Unit->Shared->Prop} {E:VP}
  (hQ:∀ W' t',W'.L=W.L->Rel V w.params Hz fs C W' loc->Stp fs W W'->PP (k loc W'.s)->Q () (at' sh W' t')):wpAny (model prog w) A (setItem vo vx va) Q E (at' sh W t):=by
 refine asSu_inv hn hP fun c x es e e' hl hlt hP=>?_
 obtain ⟨_,rfl⟩:=(show W.R V (.ce c) vo from e▸ho)
 obtain ⟨u,rfl⟩:=(show W.R V (.st x) vx from e'▸hx)
 obtain ⟨_,kvs,g1,⟨pg,w',g2,g3⟩,g4⟩:=R.cell c _ hl
 have D:=dictOf_turn (pg':=prog) (w':=w) g2 g3
 have hnd:(kvs.map (·.1)).Nodup:=by obtain ⟨_,_,_,_,_,_,_,_,q⟩:=D;exact q
 have hlen:kvs.length=es.length:=by have:=congrArg List.length g1;simpa using this
 refine wpAny_setItem_pairs (s:=at' sh W t) (PySem.strKind_is prog w (jk x) u) D (fun h' D' hs=>?_) (by rw [hlen,qe];omega)
 have hoth:∀ b o,b ≠ W.ρ c->W.h.get? b=some o->h'.get? b=some o:=fun b o hb e=>(hs.2 b hb).trans e
 have himm:∀ b o,W.h.get? b=some o->qm o->h'.get? b=some o:=fun b o e y=>hoth b o (fun q=>R.imm_ne e y (q▸.inr ⟨c,_,hl,rfl⟩)) e
 obtain ⟨p1,p2⟩:=putS_rep (x:=x) ha es kvs g1 hnd g4
 obtain ⟨R',S'⟩:=R.set hl hoth (c':=.di (putS es x a)) ⟨_,p1,⟨prog,w,rfl,D'⟩,ky.mono himm (jj _) (fun _ _=>rfl) p2⟩
 exact hQ ⟨h',W.L,W.ρ,⟨putP W.s.sto c (.di (putS es x a)),W.s.nx⟩⟩ (t+1) rfl R' S' hP
end
theorem rsize (n:Nat):Builtin.Range.rangeSize 0 (n:Int) 1=(n:Int):=by
 unfold Builtin.Range.rangeSize
 rw [if_pos (by decide)]
 split
 ·rw [Int.ediv_one];omega
 ·omega
theorem rsmall {n:Nat} (h:n < 100000):Builtin.Range.small 0 (n:Int) 1=true:=by
 unfold Builtin.Range.small
 rw [rsize]
 simp [Builtin.Range.rangeFitsLong]
 omega
theorem ascii_all:∀ {l:List Nat},ascii l=true->∀ c ∈ l,c < 128
 |[],_,_,h=>by cases h
 |x :: r,h,c,hc=>by
  exact J.tt (Φ:=fun b=>b=true) (d:=false) nofun (show (match Nat.blt x 128 with|true=>ascii r|false=>false)=true from h) fun hx h=>(List.mem_cons.mp hc).elim (fun e=>e▸qq hx) fun hc=>ascii_all h c hc
theorem ascii_cps {l:List Nat} (h:ascii l=true):(jk l).cps.all (· < 128)=true:=by
 rw [<- Array.all_toList,List.all_eq_true]
 intro c hc
 simp only [jk] at hc
 exact decide_eq_true (ascii_all h c (by simpa using hc))
theorem reps_none {T:Nat->Value->Prop} {V:Vl} {h:Heap} {ρ:Nat->Addr} {nx:Nat} {l:List AV} {vs:List Value} {i:Nat} (x:ku T V h ρ nx l vs) (hx:l[i]?=none):vs[i]?=none:=by
 rw [List.getElem?_eq_none_iff] at hx ⊢
 rw [ku.length x];exact hx
section
variable {PP:Res->Prop} (hn:∀ n,¬ PP (.fail n)) {s:Mine.St}
include hn
set_option smartUnfolding false
theorem mkIter_elim {k:Nat->Mine.St->Res} {M:AV->Prop} (k1:∀ i l,qb s i (.li l)->PP (newC s (.iL i 0) k)->M (.ce i)) (k2:∀ l,PP (newC s (.iV l 0) k)->M (.tu l)) (k3:∀ cs l,conc? cs=some l->PP (newC s (.iB l 0) k)->M (.by cs))
  (k4:∀ l,ascii l=true->PP (newC s (.iS l 0) k)->M (.st l)) (k5:∀ n,n < 100000->PP (newC s (.iR n 0) k)->M (.rg n)) {a:AV} (h:PP (mkIter s a k)):M a:=by
 induction a using AV.casesOn with
 |ce i=>exact J.li (hn 118) h fun l hl h=>k1 i l ((ke s.sto i).symm.trans hl) h
 |tu l=>exact k2 l h
 |«by» cs=>exact J.so (Φ:=PP) (o:=conc? cs) (hn 118) h fun l hc h=>k3 cs l hc h
 |st l=>exact J.tt (hn 118) h fun ha h=>k4 l ha h
 |rg n=>exact J.tt (hn 118) h fun hs h=>k5 n (small_lt hs) h
 |_=>exact (hn _ h).elim
theorem nextIn_elim {c:Nat} {k:Option AV->Mine.St->Res} (h:PP (nextIn s c k)) {G:Prop} (k1:∀ j i l x,qb s c (.iL j i)->qb s j (.li l)->l[i]?=some x->PP (setC s c (.iL j (i+1)) (k (some x)))->G) (k2:∀ j i l,qb s c (.iL j i)->qb s j (.li l)->l[i]?=none->PP (delC s c (k none))->G)
  (k3:∀ l i x,qb s c (.iV l i)->l[i]?=some x->PP (setC s c (.iV l (i+1)) (k (some x)))->G) (k4:∀ l i,qb s c (.iV l i)->l[i]?=none->PP (delC s c (k none))->G)
  (k5:∀ l i x,qb s c (.iB l i)->l[i]?=some x->PP (setC s c (.iB l (i+1)) (k (some (.it (.ofNat x)))))->G) (k6:∀ l i,qb s c (.iB l i)->l[i]?=none->PP (delC s c (k none))->G)
  (k7:∀ l i x,qb s c (.iS l i)->l[i]?=some x->PP (setC s c (.iS l (i+1)) (k (some (.st [x]))))->G) (k8:∀ l i,qb s c (.iS l i)->l[i]?=none->PP (delC s c (k none))->G)
  (k9:∀ n i,qb s c (.iR n i)->i < n->PP (setC s c (.iR n (i+1)) (k (some (.it (.ofNat i)))))->G) (k10:∀ n i,qb s c (.iR n i)->¬ i < n->PP (delC s c (k none))->G):G:=by
 have h:PP (match look s.sto c with
  |some d=>match d with
   |.iL j i=>match look s.sto j with
    |some (.li l)=>match nth l i with
     |some x=>fN (i+1) fun i=>setC s c (.iL j i) (k (some x))
     |none=>delC s c (k none)
    |_=>.fail 119
   |.iV l i=>match nth l i with
    |some x=>fN (i+1) fun i=>setC s c (.iV l i) (k (some x))
    |none=>delC s c (k none)
   |.iB l i=>match nth l i with
    |some x=>fN (i+1) fun i=>setC s c (.iB l i) (k (some (.it (.ofNat x))))
    |none=>delC s c (k none)
   |.iS l i=>match nth l i with
    |some x=>fN (i+1) fun i=>setC s c (.iS l i) (k (some (.st [x])))
    |none=>delC s c (k none)
   |.iR n i=>match Nat.blt i n with
    |true=>fN (i+1) fun i'=>setC s c (.iR n i') (k (some (.it (.ofNat i))))
    |false=>delC s c (k none)
   |_=>.fail 119
  |none=>.fail 119):=by
  unfold nextIn at h
  revert h
  induction look s.sto c with
  |none=>exact fun h=>h
  |some d=>induction d<;>exact fun h=>h
 refine J.so (Φ:=PP) (o:=look s.sto c) (hn 119) h fun d hl h=>?_
 have hl:qb s c d:=(ke s.sto c).symm.trans hl
 induction d with
 |iL j i=>exact J.li (hn 119) h fun l hj h=>J.so2 (Φ:=PP) (o:=nth l i) h (fun x hx h=>k1 j i l x hl ((ke s.sto j).symm.trans hj) ((qh l i).symm.trans hx) (by rw [fN_eq] at h;exact h)) fun hx h=>k2 j i l hl ((ke s.sto j).symm.trans hj) ((qh l i).symm.trans hx) h
 |iV l i=>exact J.so2 (Φ:=PP) (o:=nth l i) h (fun x hx h=>k3 l i x hl ((qh l i).symm.trans hx) (by rw [fN_eq] at h;exact h)) fun hx h=>k4 l i hl ((qh l i).symm.trans hx) h
 |iB l i=>exact J.so2 (Φ:=PP) (o:=nth l i) h (fun x hx h=>k5 l i x hl ((qh l i).symm.trans hx) (by rw [fN_eq] at h;exact h)) fun hx h=>k6 l i hl ((qh l i).symm.trans hx) h
 |iS l i=>exact J.so2 (Φ:=PP) (o:=nth l i) h (fun x hx h=>k7 l i x hl ((qh l i).symm.trans hx) (by rw [fN_eq] at h;exact h)) fun hx h=>k8 l i hl ((qh l i).symm.trans hx) h
 |iR n i=>exact J.b2 (Φ:=PP) (b:=Nat.blt i n) h (fun hb h=>k9 n i hl (qq hb) (by rw [fN_eq] at h;exact h)) fun hb h=>k10 n i hl (by rw [<- Nat.blt_eq,hb];decide) h
 |_=>exact (hn _ h).elim
set_option smartUnfolding true
end
section
variable {prog:Program} {w:World} {V:Vl} {Hz:Heap} {p:Par} {fs:List Addr} {l:List Env} {C:EC} {W:Wd} {loc:List AV} {A:Around} {cd:Nat}
variable (O:VOk V p) (AO:AOk cd l fs A) (R:Rel V w.params Hz fs C W loc)
include O AO R
theorem p_iter {a:AV} {va:Value} (ha:W.R V a va) {k:Nat->Mine.St->Res} {PP:Res->Prop} (hn:∀ n,¬ PP (.fail n)) (hP:PP (mkIter W.s a k)) {sh:Shared} {t:Nat} {Q:VP} {E:VP}
  (hQ:∀ i W' t' c,W'.L=W.L->qb W'.s i c->isIt c->Rel V w.params Hz fs C W' loc->Stp fs W W'->PP (k i W'.s)->Q (.ref (W'.ρ i)) (at' sh W' t')):wpAny (model prog w) A (pyIter va) Q E (at' sh W t):=by
 have mk:∀ (ob:Obj) (c:Cell),ob.isFreed=false->isIt c->(∀ ρ':Nat->Addr,(∀ i,i < W.s.nx->ρ' i=W.ρ i)->qa V w.params (W.h.push ob) ρ' (W.s.nx+1) W.h.objs.size c)->PP (newC W.s c k)->
   Q (.ref W.h.objs.size) { sh with heap:=W.h.push ob,toks:=t }:=by
  intro ob c hf hc hrep hP
  simp only [newC,fN_eq] at hP
  obtain ⟨W',e1,e2,e3,e4,R',S'⟩:=R.new (h':=W.h.push ob) (a:=W.h.objs.size) (c:=c) (fun _ _ e=>ja _ e) (Heap.get?_none_of_le (jj _)) fun ρ' hρ _=>hrep ρ' hρ
  have:=hQ W.s.nx W' t c e2 (by unfold qb;rw [e3];simp [List.lookup]) hc R' S' (by rw [e3];exact hP)
  rw [e4,at'_eq e1] at this
  exact this
 refine mkIter_elim (M:=fun a=>W.R V a va->wpAny (model prog w) A (pyIter va) Q E (at' sh W t)) hn ?_ ?_ ?_ ?_ ?_ hP ha
 ·intro i ls hl hP ⟨hi,e⟩
  subst e
  obtain ⟨_,vs,⟨n,ho⟩,hv⟩:=R.cell i _ hl
  have hL:(at' sh W t).heap.IsList (W.ρ i) vs.toArray:=⟨_,ho,rfl,_,rfl⟩
  exact wpAny_pyIter_list hL (mk _ (.iL i 0) rfl trivial (fun ρ' hρ=>⟨Nat.lt_succ_of_lt hi,by rw [hρ i hi];exact ⟨_,Heap.get?_push_size _ rfl,rfl,rfl⟩⟩) hP)
 ·intro ls hP ⟨a1,vs,e,h1,h2⟩
  subst e
  refine wpAny_pyIter_tuple (s:=at' sh W t) h1 (mk _ (.iV ls 0) rfl trivial (fun ρ' hρ=>⟨a1,vs,⟨_,Heap.get?_push_size _ rfl,rfl,rfl⟩,?_,ky.mono (fun _ _ e _=>ja _ e) (Nat.le_succ _) hρ h2⟩) hP)
  exact h1.imp fun o q=>⟨ja _ q.1,q.2⟩
 ·exact fun cs xs hc hP ⟨d,u,e,hd⟩=>e▸KBw.pyIter_bytes (s:=at' sh W t) (mk _ (.iB xs 0) rfl trivial (fun ρ' hρ=>⟨d,u,⟨_,Heap.get?_push_size _ rfl,rfl,rfl⟩,by rw [hd,conc_of hc V]⟩) hP)
 ·exact fun xs hasc hP ⟨u,e⟩=>e▸wpAny_pyIter_ascii (s:=at' sh W t) (ascii_cps hasc) (mk _ (.iS xs 0) rfl trivial (fun ρ' hρ=>⟨u,_,Heap.get?_push_size _ rfl,rfl,rfl⟩) hP)
 ·intro n hs hP ⟨a1,t1,u1,w1,e,hr⟩
  subst e
  refine wpAny_pyIter_range (s:=at' sh W t) hr (rsmall hs) (mk _ (.iR n 0) rfl trivial (fun ρ' hρ=>⟨Nat.zero_le _,?_⟩) hP)
  have:=Heap.get?_push_size W.h (o:={ cls:=.type "range_iterator",data:=.fields #[rawInt 0,rawInt (Builtin.Range.rangeSize 0 (n:Int) 1),rawInt 1] }) rfl
  rw [rsize] at this
  unfold IsRangeIter
  simpa [rsize] using this
theorem p_it2 {i:Nat} {c:Cell} (hl:qb W.s i c) (hc:isIt c) {sh:Shared} {t:Nat} {Q:VP} {E:VP} (hQ:Q (.ref (W.ρ i)) (at' sh W t)):wpAny (model prog w) A (pyIter (.ref (W.ρ i))) Q E (at' sh W t):=by
 have x:=(R.cell i c hl).2
 induction c with
 |iL j k=>exact wpAny_pyIter_listiter (s:=at' sh W t) x.2 hQ
 |iV ls k=>obtain ⟨a,vs,h1,_⟩:=x;exact wpAny_pyIter_tupleiter (s:=at' sh W t) h1 hQ
 |iB ls k=>obtain ⟨d,u,h1,_⟩:=x;exact KBw.pyIter_self (s:=at' sh W t) h1 hQ
 |iS ls k=>obtain ⟨u,h1⟩:=x;exact wpAny_pyIter_striter_ascii (s:=at' sh W t) h1 hQ
 |iR n k=>exact wpAny_pyIter_rangeiter (s:=at' sh W t) x.2 hQ
 |_=>exact hc.elim
theorem p_next {c:Nat} {k:Option AV->Mine.St->Res} {PP:Res->Prop} (hn:∀ n,¬ PP (.fail n)) (hP:PP (nextIn W.s c k)) {sh:Shared} {t:Nat} {Q:Option Value->Shared->Prop} {E:VP}
  (hQ:∀ x v W' t',W'.L=W.L->Rel V w.params Hz fs C W' loc->Stp fs W W'->W'.R V x v->PP (k (some x) W'.s)->Q (some v) (at' sh W' t'))
  (hD:∀ W' t',W'.L=W.L->Rel V w.params Hz fs C W' loc->Stp fs W W'->PP (k none W'.s)->Q none (at' sh W' t')):wpAny (model prog w) A (pyNext (.ref (W.ρ c))) Q E (at' sh W t):=by
 have item:∀ {cc c':Cell} {x:AV} {v:Value} {h':Heap} {t':Nat},qb W.s c cc->Heap.SameBut (W.ρ c) W.h h'->qa V w.params h' W.ρ W.s.nx (W.ρ c) c'->W.R V x v->PP (setC W.s c c' (k (some x)))->Q (some v) { sh with heap:=h',toks:=t' }:=by
  intro cc c' x v h' t' hl hs hc hv hP
  simp only [setC,put_eq] at hP
  obtain ⟨R',S'⟩:=R.set hl (fun b o hb e=>(hs.2 b hb).trans e) hc
  exact hQ x v ⟨h',W.L,W.ρ,⟨putP W.s.sto c c',W.s.nx⟩⟩ t' rfl R' S' (S'.R hv) hP
 have fin:∀ {cc:Cell} {h':Heap} {t':Nat},qb W.s c cc->Heap.ExtBut (W.ρ c) W.h h'->PP (delC W.s c (k none))->Q none { sh with heap:=h',toks:=t' }:=by
  intro cc h' t' hl hs hP
  simp only [delC,del_eq] at hP
  obtain ⟨R',S'⟩:=R.del hl (h':=h') fun b o hb e=>hs b o hb e
  exact hD ⟨h',W.L,W.ρ,⟨delP W.s.sto c,W.s.nx⟩⟩ t' rfl R' S' hP
 have imm:∀ {cc:Cell} {h':Heap},qb W.s c cc->Heap.SameBut (W.ρ c) W.h h'->∀ b o,W.h.get? b=some o->qm o->h'.get? b=some o:=fun {cc h'} hl hs b o e y=>(hs.2 b fun q=>R.imm_ne e y (q▸.inr ⟨c,cc,hl,rfl⟩)).trans e
 refine nextIn_elim hn hP ?_ ?_ ?_ ?_ ?_ ?_ ?_ ?_ ?_ ?_
 ·intro j i ls x hl hj hx hP
  obtain ⟨_,hj',hit⟩:=R.cell c _ hl
  obtain ⟨_,vs,⟨n,ho⟩,hv⟩:=R.cell j _ hj
  exact (ku.nth hv hx).elim fun v hv'=>wpAny_pyNext_list_item (s:=at' sh W t) hit ⟨_,ho,rfl,_,rfl⟩ (by simpa using hv'.1) fun h' h1 h2=>item (c':=.iL j (i+1)) hl h2 ⟨hj',h1⟩ hv'.2 hP
 ·intro j i ls hl hj hx hP
  obtain ⟨_,hj',hit⟩:=R.cell c _ hl
  obtain ⟨_,vs,⟨n,ho⟩,hv⟩:=R.cell j _ hj
  exact wpAny_pyNext_list_end (s:=at' sh W t) AO.hd hit ⟨_,ho,rfl,_,rfl⟩ (by simpa using reps_none hv hx) fun h' h1=>fin hl h1 hP
 ·intro ls i x hl hx hP
  obtain ⟨_,a1,vs,hit,hT,hv⟩:=R.cell c _ hl
  exact (ku.nth hv hx).elim fun v hv'=>wpAny_pyNext_tuple_item (s:=at' sh W t) hit hT (by simpa using hv'.1) fun h' h1 h2=>item (c':=.iV ls (i+1)) hl h2 ⟨a1,vs,h1,hT.imp fun o q=>⟨imm hl h2 a1 o q.1 ⟨.inl q.2.1,fun _ _ r=>by rw [q.2.2.choose_spec] at r;cases r⟩,q.2⟩,ky.mono (imm hl h2) (jj _) (fun _ _=>rfl) hv⟩ hv'.2 hP
 ·intro ls i hl hx hP
  obtain ⟨_,a1,vs,hit,hT,hv⟩:=R.cell c _ hl
  exact wpAny_pyNext_tuple_end AO.hd (s:=at' sh W t) hit hT (by simpa using reps_none hv hx) fun h' h1=>fin hl h1 hP
 ·intro ls i x hl hx hP
  obtain ⟨_,d,u,hit,hd⟩:=R.cell c _ hl
  rw [<- hd] at hx
  unfold bN at hx
  rw [List.getElem?_map] at hx
  exact (Option.map_eq_some_iff.mp hx).elim fun b hb=>KBw.next_item (s:=at' sh W t) hit (by simpa using hb.1) fun h' h1 h2=>item (c':=.iB ls (i+1)) (x:=.it (.ofNat x)) hl h2 ⟨d,u,h1,hd⟩ ⟨_,by rw [hb.2];rfl⟩ hP
 ·intro ls i hl hx hP
  obtain ⟨_,d,u,hit,hd⟩:=R.cell c _ hl
  have:d[i]?=none:=by
   rw [List.getElem?_eq_none_iff] at hx
   rw [Array.getElem?_eq_none_iff,<- qj,hd];exact hx
  exact KBw.next_end AO.hd (s:=at' sh W t) hit this fun h' h1=>fin hl h1 hP
 ·intro ls i x hl hx hP
  exact (R.cell c _ hl).2.elim fun u hit=>wpAny_pyNext_ascii_item (s:=at' sh W t) hit (c:=x) (by simpa [jk] using hx) fun h' h1 h2=>item (c':=.iS ls (i+1)) (x:=.st [x]) hl h2 ⟨u,h1⟩ ⟨_,rfl⟩ hP
 ·intro ls i hl hx hP
  exact (R.cell c _ hl).2.elim fun u hit=>wpAny_pyNext_ascii_end AO.hd (s:=at' sh W t) hit (by simpa [jk] using hx) fun h' h1=>fin hl h1 hP
 ·intro n i hl hlt hP
  obtain ⟨_,hle,hit⟩:=R.cell c _ hl
  refine wpAny_pyNext_range_item (s:=at' sh W t) hit (by omega) fun h' h1 h2=>item (c':=.iR n (i+1)) (x:=.it (.ofNat i)) hl h2 ⟨hlt,?_⟩ ⟨_,rfl⟩ hP
  have e1:(i:Int)+1=((i+1:Nat):Int):=rfl
  have e2:(n:Int) - (i:Int) - 1=(n:Int) - ((i+1:Nat):Int):=by omega
  rw [e1,e2] at h1
  exact h1
 ·intro n i hl hlt hP
  obtain ⟨_,hle,hit⟩:=R.cell c _ hl
  exact wpAny_pyNext_range_end AO.hd (s:=at' sh W t) hit (by omega) fun h' h1=>fin hl h1 hP
end
theorem slot_bytes_join:Slot "bytes" "join" "bytes.join":=
 .of (owner:="bytes") (n:="join") (by rw [typeLookup_type,builtinLookup_eq_fast];kernel_rfl) (by decide +kernel) (by decide +kernel) (by decide +kernel)
  (by first|exact .inl (by decide +kernel)|exact .inr (by decide +kernel)) (by rw [isSubtype_type];kernel_rfl)
theorem entry_bytes_join:entryFor table "bytes.join"=some Builtin.«bytes.join»:=entryFor_of_tree (by kernel_rfl)
theorem args_bytes_join (a b:Value):argsOk "bytes.join" ⟨[a,b],[]⟩:=by unfold argsOk;kernel_rfl
theorem gb:Slot "bytearray" "append" "bytearray.append":=
 .of (owner:="bytearray") (n:="append") (by rw [typeLookup_type,builtinLookup_eq_fast];kernel_rfl) (by decide +kernel) (by decide +kernel) (by decide +kernel)
  (by first|exact .inl (by decide +kernel)|exact .inr (by decide +kernel)) (by rw [isSubtype_type];kernel_rfl)
theorem entry_ba_append:entryFor table "bytearray.append"=some Builtin.«bytearray.append»:=entryFor_of_tree (by kernel_rfl)
theorem args_ba_append (a b:Value):argsOk "bytearray.append" ⟨[a,b],[]⟩:=by unfold argsOk;kernel_rfl
theorem plainAttrs_bytearray:PlainAttrs "bytearray":=
 ⟨⟨"bytearray.__getattribute__",by rw [typeLookup_type,builtinLookup_eq_fast];kernel_rfl,by decide +kernel⟩,by rw [typeLookup_type,builtinLookup_eq_fast];kernel_rfl⟩
noncomputable def AllM (M:Nat->String->Prop):List (Nat × String)->Prop
 |[]=>True
 |(a,s) :: r=>M a s/\AllM M r
theorem lkS_elim {M:Nat->String->Prop} {a:Nat} {id:String}:∀ {l},AllM M l->lkS a l=some id->M a id
 |[],_,h=>(jg _ h.symm).elim
 |(b,s) :: r,x,h=>J.b2 (Φ:=fun o=>o=some id) (b:=Nat.beq a b) h (fun e h=>jf h▸je e▸x.1) fun _ h=>lkS_elim x.2 h
theorem Cell.kd_elim {s:Mine.St} {M:Nat->Nat->Prop} (k:Nat) (h3:∀ l,qb s k (.li l)->M k 3) (h4:∀ l,qb s k (.ba l)->M k 4) (h5:∀ l,qb s k (.di l)->M k 5) (h0:M k 0):M k (mkind (.ce k) s):=by
 show M k (match look s.sto k with|some (.li _)=>3|some (.ba _)=>4|some (.di _)=>5|_=>0)
 rw [ke]
 induction hl:s.sto.lookup k with
 |none=>exact h0
 |some c=>induction c with
  |li l=>exact h3 l hl
  |ba l=>exact h4 l hl
  |di l=>exact h5 l hl
  |_=>exact h0
theorem mkind_elim {s:Mine.St} {M:AV->Nat->Prop} (h1:∀ l,M (.st l) 1) (h2:∀ l,M (.by l) 2) (h3:∀ k l,qb s k (.li l)->M (.ce k) 3) (h4:∀ k l,qb s k (.ba l)->M (.ce k) 4) (h5:∀ k l,qb s k (.di l)->M (.ce k) 5) (h0:∀ o,M o 0) (o:AV):M o (mkind o s):=by
 induction o using AV.casesOn with
 |st l=>exact h1 l
 |«by» l=>exact h2 l
 |ce k=>exact Cell.kd_elim (M:=fun k=>M (.ce k)) k (h3 k) (h4 k) (h5 k) (h0 _)
 |_=>exact h0 _
noncomputable def MEnt (T:String) (a:Nat) (id:String):Prop:=∃ nm,atAt a=nm/\Slot T nm id/\typeOf (.builtin id)=pure (.type "method_descriptor")
theorem tab1:AllM (MEnt "str") (mTab 1):=⟨⟨"join",by decide +kernel,PySem.F.slot_str_join,by kernel_rfl⟩,⟨"split",by decide +kernel,PySem.F.slot_str_split,by kernel_rfl⟩,⟨"lower",by decide +kernel,PySem.F.slot_str_lower,by kernel_rfl⟩,⟨"encode",by decide +kernel,PySem.F.slot_str_encode,by kernel_rfl⟩,trivial⟩
theorem tab2:AllM (MEnt "bytes") (mTab 2):=⟨⟨"join",by decide +kernel,slot_bytes_join,by kernel_rfl⟩,trivial⟩
theorem tab3:AllM (MEnt "list") (mTab 3):=⟨⟨"append",by decide +kernel,PySem.F.slot_list_append,by kernel_rfl⟩,⟨"extend",by decide +kernel,PySem.F.slot_list_extend,by kernel_rfl⟩,⟨"index",by decide +kernel,PySem.F.slot_list_index,by kernel_rfl⟩,trivial⟩
theorem tab4:AllM (MEnt "bytearray") (mTab 4):=⟨⟨"append",by decide +kernel,gb,by kernel_rfl⟩,trivial⟩
theorem tab5:AllM (MEnt "dict") (mTab 5):=⟨⟨"get",by decide +kernel,PySem.F.slot_dict_get,by kernel_rfl⟩,trivial⟩
section
variable {prog:Program} {w:World} {V:Vl} {Hz:Heap} {p:Par} {fs:List Addr} {l:List Env} {C:EC} {W:Wd} {loc:List AV} {A:Around} {cd:Nat}
variable (O:VOk V p) (AO:AOk cd l fs A) (R:Rel V w.params Hz fs C W loc) {sh:Shared} {t:Nat}
include O AO R
omit O AO R in
theorem gm_go {T:String} {a:Nat} {id:String} {vo:Value} (e:MEnt T a id) (h1:(at' sh W t).TypeIs vo T) (h2:PlainAttrs T) (h5:∀ b,vo=.ref b->∃ ob,W.h.get? b=some ob/\ob.dict=none) {pl:Sem Bool} {Q:Value × List Value->Shared->Prop} {E:VP} (hQ:Q (.builtin id,[vo]) (at' sh W t)):
  wpAny (model prog w) A (getMethod vo (atAt a) pl) Q E (at' sh W t):=e.elim fun _ e=>e.1▸getMethod_builtin h1 h2 e.2.1 e.2.2 h5 hQ
theorem p_gm {o:AV} {vo:Value} {a:Nat} {id:String} (ho:W.R V o vo) (hm:mId (mkind o W.s) a=some id) {pl:Sem Bool} {Q:Value × List Value->Shared->Prop} {E:VP} (hQ:Q (.builtin id,[vo]) (at' sh W t)):
  wpAny (model prog w) A (getMethod vo (atAt a) pl) Q E (at' sh W t):=by
 refine mkind_elim (s:=W.s) (M:=fun o n=>W.R V o vo->mId n a=some id->wpAny (model prog w) A (getMethod vo (atAt a) pl) Q E (at' sh W t)) ?_ ?_ ?_ ?_ ?_ ?_ o ho hm
 ·exact fun l ⟨u,e⟩ hm=>gm_go (lkS_elim tab1 hm) (e▸typeIs_str _ _ u) PySem.F.plainAttrs_str (e▸nofun) hQ
 ·exact fun l ⟨d,u,e,_⟩ hm=>gm_go (lkS_elim tab2 hm) (e▸typeIs_bytes _ _ u) FB.plainAttrs_bytes (e▸nofun) hQ
 ·exact fun k l hl ⟨_,e⟩ hm=>(R.cell k _ hl).2.elim fun vs hx=>hx.1.elim fun n hg=>gm_go (lkS_elim tab3 hm) (e▸⟨_,hg,rfl⟩) PySem.F.plainAttrs_list (fun b q=>⟨_,Value.ref.inj (e.symm.trans q)▸hg,rfl⟩) hQ
 ·exact fun k l hl ⟨_,e⟩ hm=>(R.cell k _ hl).2.elim fun d hx=>gm_go (lkS_elim tab4 hm) (e▸⟨_,hx.1,rfl⟩) plainAttrs_bytearray (fun b q=>⟨_,Value.ref.inj (e.symm.trans q)▸hx.1,rfl⟩) hQ
 ·intro k l hl ⟨_,e⟩ hm
  obtain ⟨kvs,_,⟨pg,w',_,ob,en,ep,hg,hx,_⟩,_⟩:=(R.cell k _ hl).2
  exact gm_go (lkS_elim tab5 hm) (e▸⟨_,hg,hx.1⟩) PySem.F.plainAttrs_dict (fun b q=>⟨_,Value.ref.inj (e.symm.trans q)▸hg,hx.2.1⟩) hQ
 ·exact fun o _ hm=>(jg _ hm.symm).elim
end
theorem lowC_eq (c:Nat):lowC c=lo1 c:=by
 unfold lowC lo1
 induction h1:Nat.ble 65 c with
 |false=>
  have:¬ 65<=c:=fun q=>by rw [Nat.ble_eq.mpr q] at h1;cases h1
  simp only;rw [if_neg (by omega)]
 |true=>
  have a1:65<=c:=ble_le h1
  induction h2:Nat.ble c 90 with
  |true=>
   have a2:c<=90:=ble_le h2
   simp only;rw [if_pos ⟨a1,a2⟩]
  |false=>
   have:¬ c<=90:=fun q=>by rw [Nat.ble_eq.mpr q] at h2;cases h2
   simp only;rw [if_neg (by omega)]
theorem lowL_map:∀ l:List Nat,lowL l=l.map lo1
 |[]=>rfl
 |c :: r=>by simp only [lowL,List.map_cons,lowC_eq,lowL_map r]
theorem lower_eq {l:List Nat} (h:ascii l=true):Txt.lower (jk l)=jk (lowL l):=by
 rw [lower_ascii (fun c hc=>ascii_all h c (by simpa [jk] using hc)),lowL_map]
 simp [jk]
theorem joinL_eq (sep:List Nat):∀ xs:List (List Nat),Str.join (jk sep) (xs.map jk)=jk (joinL sep xs)
 |[]=>rfl
 |[x]=>rfl
 |x :: y :: r=>by
  have ih:=joinL_eq sep (y :: r)
  show jk x ++ jk sep ++ Str.join (jk sep) ((y :: r).map jk)=jk (x ++ (sep ++ joinL sep (y :: r)))
  rw [ih,mkStr'_append,mkStr'_append,List.append_assoc]
theorem joinL_len (sep:List Nat):∀ xs:List (List Nat),((xs.map jk).map (·.length)).sum+xs.length * sep.length<=(joinL sep xs).length+sep.length
 |[]=>by simp [joinL]
 |[x]=>by simp [joinL,qr]
 |x :: y :: r=>by
  have ih:=joinL_len sep (y :: r)
  have e:(joinL sep (x :: y :: r)).length=x.length+(sep.length+(joinL sep (y :: r)).length):=by
   show (x ++ (sep ++ joinL sep (y :: r))).length=_
   simp only [List.length_append]
  rw [e]
  simp only [List.map_cons,List.sum_cons,List.length_cons,qr,Nat.succ_mul] at ih ⊢
  omega
theorem sts_are {T:Nat->Value->Prop} {V:Vl} {h:Heap} {ρ:Nat->Addr} {nx:Nat}:∀ {l:List AV} {xs:List (List Nat)} {vs:List Value},sts? l=some xs->ku T V h ρ nx l vs->StrsAre vs (xs.map jk)
 |[],xs,vs,hs,hr=>by
  obtain rfl:=jf hs
  cases (show vs=[] from hr)
  exact .nil
 |a :: r,xs,vs,hs,hr=>by
  obtain ⟨y,ys,rfl,hr',rfl⟩:=sts_cons hs
  obtain ⟨v,s,rfl,⟨t,rfl⟩,x2⟩:=hr
  exact .cons _ _ (sts_are hr' x2)
theorem splitG_join (c:Nat):∀ (ps:List (List Nat)) (p acc:List Nat),(∀ q ∈ p :: ps,c ∉ q)->splitG c (joinL [c] (p :: ps)) acc=(acc ++ p) :: ps:=by
 have one:∀ (p acc:List Nat) (r:List Nat),c ∉ p->splitG c (p ++ r) acc=splitG c r (acc ++ p):=by
  intro p
  induction p with
  |nil=>intro acc r _;simp
  |cons y p ih=>
   intro acc r h
   have hy:Nat.beq y c=false:=by
    rw [<- Bool.not_eq_true,Nat.beq_eq]
    intro e;exact h (e▸List.mem_cons_self)
   simp only [List.cons_append,splitG,hy]
   rw [ih _ _ fun q=>h (List.mem_cons_of_mem _ q)]
   simp
 intro ps
 induction ps with
 |nil=>
  intro p acc h
  have:=one p acc [] (h p List.mem_cons_self)
  simp only [List.append_nil] at this
  show splitG c p acc=_
  rw [this];rfl
 |cons q r ih=>
  intro p acc h
  show splitG c (p ++ ([c] ++ joinL [c] (q :: r))) acc=_
  rw [one p acc _ (h p List.mem_cons_self)]
  have hc:Nat.beq c c=true:=Nat.beq_eq.mpr rfl
  simp only [List.cons_append,List.nil_append,splitG,hc]
  rw [ih q [] fun z hz=>h z (List.mem_cons_of_mem _ hz)]
  rfl
theorem str_toList (x:Str):jk x.cps.toList=x:=by cases x;simp [jk]
theorem split_eq (l:List Nat) (c:Nat):Txt.split (jk l) ⟨#[c]⟩=(splitG c l []).map jk:=by
 have hp:=PySem.StrLaws.split_free (jk l) c
 have hj:=PySem.StrLaws.join_split (jk l) ⟨#[c]⟩
 have h1:=PyProof.Rows.split_pos (jk l) ⟨#[c]⟩
 generalize Txt.split (jk l) ⟨#[c]⟩=ps at hp hj h1
 have e:ps=(ps.map fun x=>x.cps.toList).map jk:=by
  rw [List.map_map]
  conv=>lhs;rw [<- List.map_id ps]
  exact List.map_congr_left fun x _=>(str_toList x).symm
 generalize hq:(ps.map fun x=>x.cps.toList)=qs at e
 have hfree:∀ q ∈ qs,c ∉ q:=by
  intro q h
  rw [<- hq] at h
  obtain ⟨x,hx,rfl⟩:=List.mem_map.mp h
  exact hp x hx
 rw [e] at hj ⊢
 rw [show (⟨#[c]⟩:Str)=jk [c] from rfl,joinL_eq] at hj
 have hj:=mkStr'_inj hj
 induction qs using List.casesOn with
 |nil=>rw [e] at h1;simp at h1
 |cons p r=>
  rw [<- hj,splitG_join c r p [] hfree];rfl
theorem reps_texts {T:Nat->Value->Prop} {V:Vl} {h:Heap} {ρ:Nat->Addr} {nx:Nat}:∀ (l:List (Str × Tok)) (ls:List (List Nat)),l.map (·.1)=ls.map jk->ku T V h ρ nx (mapSt ls) (strValues l)
 |[],[],_=>rfl
 |[],_ :: _,e=>by cases e
 |_ :: _,[],e=>by cases e
 |(x,t) :: r,y :: ls,e=>by
  simp only [List.map_cons,List.cons.injEq] at e
  obtain ⟨e1,e2⟩:=e
  exact ⟨.str x t,strValues r,rfl,⟨t,by rw [e1]⟩,reps_texts r ls e2⟩
section
variable {prog:Program} {w:World} {V:Vl} {Hz:Heap} {p:Par} {fs:List Addr} {l:List Env} {C:EC} {W:Wd} {loc:List AV} {A:Around} {cd:Nat}
variable (O:VOk V p) (AO:AOk cd l fs A) (R:Rel V w.params Hz fs C W loc)
include O AO R
theorem PV.ret1 {a:AV} {sh:Shared} {Q:VP} {E:VP} (h:PV w.params V Hz fs l C W loc sh (Mine.retA W.s a) Q E):fitA a=true/\∀ v t,W.R V a v->Q v (at' sh W t):=by
 simp only [Mine.retA,fA_eq] at h
 induction hf:fitA a with
 |false=>rw [hf] at h;exact h.elim
 |true=>rw [hf] at h;exact ⟨rfl,fun v t hv=>h v W t rfl rfl R (.refl fs W) hv⟩
theorem PV.listNew {ls:List AV} {sh:Shared} {Q:VP} {E:VP} (h:PV w.params V Hz fs l C W loc sh (newC W.s (.li ls) fun i s=>.v (.ce i) s) Q E) {vs:List Value} (hv:W.Rs V ls vs) (t:Nat):
  Q (.ref W.h.objs.size) { sh with heap:=W.h.push { cls:=.type "list",data:=.seq vs.toArray },toks:=t }:=by
 simp only [newC,fN_eq] at h
 obtain ⟨W',e1,e2,e3,e4,R',S'⟩:=R.new (h':=W.h.push { cls:=.type "list",data:=.seq vs.toArray }) (a:=W.h.objs.size) (c:=.li ls) (fun _ _ e=>ja _ e) (Heap.get?_none_of_le (jj _))
  fun ρ' hρ hρa=>⟨vs,⟨_,Heap.get?_push_size _ rfl⟩,ky.mono (fun _ _ e _=>ja _ e) (Nat.le_succ _) hρ hv⟩
 have:=h (.ref W.h.objs.size) W' t e2 e3 R' S' ⟨by rw [e3];exact Nat.lt_succ_self _,by rw [e4]⟩
 rw [at'_eq e1] at this
 exact this
theorem p_join {x:List Nat} {u:Tok} {ls:List AV} {vs:List Value} {D:Addr} {sh:Shared} {t:Nat} {Q:VP} {E:VP} (hv:W.Rs V ls vs)
  (hD:W.h.IsList D vs.toArray \/ W.h.IsTuple D vs.toArray) (h:PV w.params V Hz fs l C W loc sh (joinA W.s x ls) Q E):wpAny (model prog w) A (call (.builtin "str.join") [.str (jk x) u,.ref D]) Q E (at' sh W t):=by
 simp only [joinA] at h
 refine PV.tt h fun hsm h=>?_
 have hsm:x.length < 100000:=by simpa [small,Nat.blt_eq] using hsm
 induction hs:sts? ls with
 |none=>rw [hs] at h;exact h.elim
 |some xs=>
  rw [hs] at h
  obtain ⟨hf,hQ⟩:=PV.ret1 O AO R h
  have hf:=fitSt hf
  have ha:=sts_are hs hv
  have hw:=joinL_len x xs
  have e:Txt.join (jk x) (xs.map jk)=jk (joinL x xs):=by
   show Builtin.Str.glued _ _=_
   rw [StrLaws.glued_eq_join,joinL_eq]
  have hok:((xs.map jk).map (·.length)).sum+(xs.map jk).length * (jk x).length<=16777216:=by
   rw [List.length_map,qr];omega
  have fin:∀ t' k,Q (.str (Txt.join (jk x) (xs.map jk)) t') { at' sh W t with toks:=k }:=fun t' k=>by
   rw [e];exact hQ _ k ⟨t',rfl⟩
  rcases hD with hD|hD
  ·exact join_list hD (by simpa using ha) hok fin
  ·exact join_tuple hD (by simpa using ha) hok fin
theorem p_split {x:List Nat} {c:Nat} {u u':Tok} {sh:Shared} {t:Nat} {Q:VP} {E:VP} (hx:x.length < 10000)
  (h:PV w.params V Hz fs l C W loc sh (newC W.s (.li (mapSt (splitG c x []))) fun i s=>.v (.ce i) s) Q E):wpAny (model prog w) A (call (.builtin "str.split") [.str (jk x) u,.str (jk [c]) u']) Q E (at' sh W t):=by
 have fin:∀ (ls:List (Str × Tok)) (k:Nat),ls.map (·.1)=Txt.split (jk x) (jk [c])->Q (.ref W.h.objs.size) { sh with heap:=W.h.push { cls:=.type "list",data:=.seq (strValues ls).toArray },toks:=k }:=fun ls k e=>
  PV.listNew O AO R h (reps_texts ls _ (e.trans (split_eq x c))) k
 have hlen:(jk x).length=x.length:=qr x
 have hsz:(jk x).length<=sizeLine:=by rw [hlen,qe];omega
 have hy:((jk [c]).length == 0)=false:=rfl
 cases h1:(decide ((jk x).length < (jk [c]).length) || decide (Builtin.Str.strKind (jk x) < Builtin.Str.strKind (jk [c])))
 ·cases hf:(Builtin.Str.occurrences (jk x) (jk [c]) 0 (jk x).length ((jk x).length+1)).isEmpty
  ·have hsz2:(Builtin.Str.partsBetween (jk x) (Builtin.Str.occurrences (jk x) (jk [c]) 0 (jk x).length ((jk x).length+1)) (jk [c]).length).length<=sizeLine:=by
    have:=StrLaws.occ_length_le (jk x) (jk [c]) 0 (jk x).length ((jk x).length+1)
    rw [StrLaws.partsBetween_eq]
    have e2:∀ (cuts:List Nat) (a:Nat),(StrLaws.partsFrom (jk x) (jk [c]).length a cuts).length=cuts.length+1:=by
     intro cuts
     induction cuts with
     |nil=>intro a;rfl
     |cons y r ih=>intro a;simp only [StrLaws.partsFrom,List.length_cons,ih]
    rw [e2,qe];omega
   refine call_meets PySem.F.slot_str_split (typeIs_str _ _ _) PySem.F.entry_str_split (PySem.F.args_str_split_2 _ _) (meets_str_split_sep _ _ u u' h1 hy hf hsz hsz2) ?_
   show wants Q E _ { at' sh W t with toks:=_,heap:=W.h.push { cls:=.type "list",data:=.seq (strsFrom t _).toArray } }
   rw [strsFrom_eq]
   exact fin (numbered t _) _ ((numbered_texts _ _).trans ((if_neg (ne_true_of_eq_false h1)).trans (if_neg (ne_true_of_eq_false hf))).symm)
  ·exact call_meets PySem.F.slot_str_split (typeIs_str _ _ _) PySem.F.entry_str_split (PySem.F.args_str_split_2 _ _) (meets_str_split_not_found _ _ u u' h1 hy hf)
    (fin [(jk x,u)] t ((if_neg (ne_true_of_eq_false h1)).trans (if_pos hf)).symm)
 ·exact call_meets PySem.F.slot_str_split (typeIs_str _ _ _) PySem.F.entry_str_split (PySem.F.args_str_split_2 _ _) (meets_str_split_cannot_occur _ _ u u' h1)
   (fin [(jk x,u)] t (if_pos h1).symm)
end
theorem findL_of {x:List Nat}:∀ {l:List (List Nat)} {k n:Nat},findL x l k=some n->k<=n/\n - k < l.length/\l[n - k]?=some x/\∀ m,m < n - k->∀ y,l[m]?=some y->y ≠ x
 |[],k,n,h=>by exact (jg _ h.symm).elim
 |y :: r,k,n,h=>by
  simp only [findL] at h
  induction hb:eqL y x with
  |true=>
   rw [hb] at h
   obtain rfl:=jf h
   have:y=x:=by rw [eqL_eq] at hb;simpa using hb
   subst this
   exact ⟨jj _,by simp,by simp,fun m hm=>by omega⟩
  |false=>
   rw [hb] at h
   obtain ⟨a1,a2,a3,a4⟩:=findL_of h
   have hne:y ≠ x:=by rw [eqL_eq] at hb;simpa using hb
   have e:n - k=(n - (k+1))+1:=by omega
   refine ⟨by omega,by rw [e];simpa using a2,by rw [e];simpa using a3,fun m hm z hz=>?_⟩
   induction m using Nat.casesAuxOn with
   |zero=>simp at hz;subst hz;exact hne
   |succ m=>exact a4 m (by omega) z (by simpa using hz)
section
variable {prog:Program} {w:World} {V:Vl} {Hz:Heap} {p:Par} {fs:List Addr} {l:List Env} {C:EC} {W:Wd} {loc:List AV} {A:Around} {cd:Nat}
variable (O:VOk V p) (AO:AOk cd l fs A) (R:Rel V w.params Hz fs C W loc)
include O AO R
theorem PV.setN {k:Nat} {c c':Cell} (hl:qb W.s k c) {sh:Shared} {Q:VP} {E:VP} (h:PV w.params V Hz fs l C W loc sh (setC W.s k c' fun s=>.v .no s) Q E) {h':Heap}
  (hk:∀ b o,b ≠ W.ρ k->W.h.get? b=some o->h'.get? b=some o) (hc:(∀ b o,W.h.get? b=some o->qm o->h'.get? b=some o)->qa V w.params h' W.ρ W.s.nx (W.ρ k) c') (t:Nat):
  Q .none { sh with heap:=h',toks:=t }:=by
 simp only [setC,put_eq] at h
 have himm:∀ b o,W.h.get? b=some o->qm o->h'.get? b=some o:=fun b o e y=>hk b o (fun q=>R.imm_ne e y (q▸.inr ⟨k,_,hl,rfl⟩)) e
 obtain ⟨R',S'⟩:=R.set hl hk (hc himm)
 exact h .none ⟨h',W.L,W.ρ,⟨putP W.s.sto k c',W.s.nx⟩⟩ t rfl rfl R' S' rfl
theorem p_append {k:Nat} {li:List AV} (hl:qb W.s k (.li li)) {a:AV} {va:Value} (ha:W.R V a va) (hlt:ki (li ++ [a]) 10000=true) {sh:Shared} {t:Nat} {Q:VP} {E:VP}
  (h:PV w.params V Hz fs l C W loc sh (setC W.s k (.li (li ++ [a])) fun s=>.v .no s) Q E):wpAny (model prog w) A (call (.builtin "list.append") [.ref (W.ρ k),va]) Q E (at' sh W t):=by
 obtain ⟨_,vs,⟨n,hg⟩,hv⟩:=R.cell k _ hl
 have hlen:vs.length < 10000:=by have:=kh hlt;rw [ku.length hv];simp at this;omega
 refine call_meets PySem.F.slot_list_append ⟨_,hg,rfl⟩ PySem.F.entry_list_append (PySem.F.args_list_append_2 _ _) (list_append (W.ρ k) vs.toArray n va (by rw [qe,List.size_toArray];omega)) ⟨hg,?_⟩
 have hp:(W.h.update (W.ρ k) (Obj.mapSeq fun x=>x.push va)).PlainList (W.ρ k) (vs ++ [va]).toArray:=by
  have:=IsL.update (show IsL W.h (W.ρ k) vs.toArray n from hg) (·.push va)
  rw [List.push_toArray] at this
  exact ⟨_,this⟩
 exact PV.setN O AO R hl h (fun b o hb e=>(Heap.get?_update_other _ _ (Ne.symm hb)).trans e) (fun himm=>⟨vs ++ [va],hp,ku.app (ky.mono himm (jj _) (fun _ _=>rfl) hv) (ku.one (kz.mono himm (jj _) (fun _ _=>rfl) ha))⟩) t
theorem p_extend {k j:Nat} {li lj:List AV} (hl:qb W.s k (.li li)) (hj:qb W.s j (.li lj)) (hlt:ki (li ++ lj) 10000=true) {sh:Shared} {t:Nat} {Q:VP} {E:VP}
  (h:PV w.params V Hz fs l C W loc sh (setC W.s k (.li (li ++ lj)) fun s=>.v .no s) Q E):wpAny (model prog w) A (call (.builtin "list.extend") [.ref (W.ρ k),.ref (W.ρ j)]) Q E (at' sh W t):=by
 obtain ⟨_,vs,⟨n,hg⟩,hv⟩:=R.cell k _ hl
 obtain ⟨_,us,⟨m,hg'⟩,hu⟩:=R.cell j _ hj
 have hlen:vs.length+us.length < 10000:=by have:=kh hlt;rw [ku.length hv,ku.length hu];simpa using this
 have hsz:vs.toArray.size+us.toArray.size<=sizeLine:=by rw [qe,List.size_toArray,List.size_toArray];omega
 refine call_meets PySem.F.slot_list_extend ⟨_,hg,rfl⟩ PySem.F.entry_list_extend (PySem.F.args_list_extend_2 _ _) (AutoSeq1.list_extend_list_list_0 (W.ρ k) vs.toArray n (W.ρ j) us.toArray m (extend_door hsz) (Nat.le_trans (Nat.le_add_right _ _) hsz) (Nat.le_succ_of_le hsz)) ⟨hg,hg',?_⟩
 have hp:(W.h.update (W.ρ k) (Obj.mapSeq fun x=>x ++ us.toArray)).PlainList (W.ρ k) (vs ++ us).toArray:=by
  have:=IsL.update (show IsL W.h (W.ρ k) vs.toArray n from hg) (· ++ us.toArray)
  rw [List.append_toArray] at this
  exact ⟨_,this⟩
 exact PV.setN O AO R hl h (fun b o hb e=>(Heap.get?_update_other _ _ (Ne.symm hb)).trans e) (fun himm=>⟨vs ++ us,hp,ku.app (ky.mono himm (jj _) (fun _ _=>rfl) hv) (ky.mono himm (jj _) (fun _ _=>rfl) hu)⟩) t
theorem p_index {k n:Nat} {li:List AV} {xs:List (List Nat)} {x:List Nat} {u:Tok} (hl:qb W.s k (.li li)) (hx:sts? li=some xs) (hf:findL x xs 0=some n) {sh:Shared} {t:Nat} {Q:VP} {E:VP}
  (h:PV w.params V Hz fs l C W loc sh (Mine.retA W.s (.it (.ofNat n))) Q E) (hsm:n < 1000000):wpAny (model prog w) A (call (.builtin "list.index") [.ref (W.ρ k),.str (jk x) u]) Q E (at' sh W t):=by
 obtain ⟨_,vs,⟨m,hg⟩,hv⟩:=R.cell k _ hl
 obtain ⟨_,a2,a3,a4⟩:=findL_of hf
 have ha:=sts_are hx hv
 have hnx:∀ {vs:List Value} {ys:List Str},StrsAre vs ys->vs.length=ys.length/\∀ (i:Nat) (y:Str),ys[i]?=some y->∃ t,vs[i]?=some (.str y t):=by
  intro vs ys q
  induction q with
  |nil=>exact ⟨rfl,fun i y e=>by simp at e⟩
  |cons y t r ih=>
   refine ⟨by simp [ih.1],fun i z e=>?_⟩
   induction i using Nat.casesAuxOn with
   |zero=>simp at e;subst e;exact ⟨t,rfl⟩
   |succ i=>simpa using ih.2 i z (by simpa using e)
 obtain ⟨b1,b2⟩:=hnx ha
 have hn0:n - 0=n:=rfl
 rw [hn0] at a2 a3 a4
 have hlen:vs.toArray.size=xs.length:=by rw [List.size_toArray,b1,List.length_map]
 have hj:n < vs.toArray.size:=by rw [hlen];exact a2
 have get:∀ (i:Nat) (hi:i < vs.toArray.size) (y:List Nat),xs[i]?=some y->∃ t,vs.toArray[i]=.str (jk y) t:=by
  intro i hi y e
  obtain ⟨t,e'⟩:=b2 i (jk y) (by rw [List.getElem?_map,e];rfl)
  refine ⟨t,?_⟩
  have:vs[i]?=some vs[i]:=List.getElem?_eq_getElem (by simpa using hi)
  rw [this] at e'
  simpa using jf e'
 have hisx:∀ (y:Str) (t:Tok),isStrOf (jk x) (.str y t)=(y == jk x):=by intro y t;rfl
 refine call_meets PySem.F.slot_list_index ⟨_,hg,rfl⟩ PySem.F.entry_list_index (PySem.F.args_list_index_2 _ _) (MeetsSeq.list_index (W.ρ k) vs.toArray m (.str (jk x) u) (isStrOf (jk x)) (fun y hy=>eq_isStrOf (jk x) u ha y (by simpa using hy)) n hj (by omega) ?_ ?_) ⟨hg,?_⟩
 ·obtain ⟨t,e⟩:=get n hj x a3
  rw [e,hisx];simp
 ·intro i hi him
  obtain ⟨y,hy⟩:∃ y,xs[i]?=some y:=⟨_,List.getElem?_eq_getElem (by omega)⟩
  obtain ⟨t,e⟩:=get i hi y hy
  have:=a4 i him y hy
  rw [e,hisx]
  exact beq_eq_false_iff_ne.mpr fun q=>this (mkStr'_inj q)
 ·obtain ⟨_,hQ⟩:=PV.ret1 O AO R h
  exact hQ _ (t+1) ⟨t,rfl⟩
end
theorem lookS_of {T:Nat->Value->Prop} {V:Vl} {h:Heap} {ρ:Nat->Addr} {nx:Nat} {x:List Nat}:∀ (es:List (List Nat × AV)) (kvs:List (Str × Value)),kvs.map (·.1)=es.map (fun e=>jk e.1)->ku T V h ρ nx (es.map (·.2)) (kvs.map (·.2))->
  match lookS es x with
  |some y=>∃ v,valueAt kvs (jk x)=some v/\RepG T V h ρ nx y v
  |none=>valueAt kvs (jk x)=none
 |[],kvs,he,_=>by
  have:kvs=[]:=by simpa using he
  subst this;rfl
 |(y,d) :: r,[],he,_=>by cases he
 |(y,d) :: r,(k,u) :: kvs,he,hr=>by
  simp only [List.map_cons,List.cons.injEq] at he
  obtain ⟨he1,he2⟩:=he
  have he1:k=jk y:=he1
  subst he1
  obtain ⟨u',s,e,x1,x2⟩:=hr
  cases e
  simp only [lookS]
  by_cases hy:jk y=jk x
  ·have hb:eqL y x=true:=by rw [eqL_dec];exact decide_eq_true hy
   rw [hb]
   exact ⟨u,by unfold valueAt;simp [hy],x1⟩
  ·have hb:eqL y x=false:=by rw [eqL_dec];exact decide_eq_false hy
   rw [hb]
   have hv:valueAt ((jk y,u) :: kvs) (jk x)=valueAt kvs (jk x):=by unfold valueAt;simp [hy]
   rw [hv]
   exact lookS_of r kvs he2 x2
set_option smartUnfolding false in
theorem wpR_exported {M:Model} {A:Around} {E:VP} {s:Shared} {self:Value} {Q:Bool->Shared->Prop} (hg:A.guards=some []) (h:Q false s):wpR M A (Builtin.Bytes.exported self) Q E s:=fun Γ p hΓ k=>by
 have hgs:=hΓ.2.2.2.1 [] hg
 have key:∀ f:Code × Pos->Bool,(∀ c p,c.isGuard=false->okC c=true->f (c,p)=false)->((Γ.code,p) :: Γ.below).any f=false:=by
  intro f hf
  rw [List.any_eq_false]
  rintro ⟨c,q⟩ hx
  rw [Bool.not_eq_true]
  rw [<- guardsOf_cons Γ.code p] at hgs
  refine hf c q ?_ ?_
  ·cases hb:c.isGuard with
   |false=>rfl
   |true=>
    have:c ∈ guardsOf ((Γ.code,p) :: Γ.below):=List.mem_filter.mpr ⟨List.mem_map_of_mem (f:=(·.1)) hx,hb⟩
    rw [hgs] at this;cases this
  ·rcases List.mem_cons.mp hx with e|hx
   ·cases e;exact k.1
   ·exact k.2 _ hx
 unfold Builtin.Bytes.exported
 show Q (((Γ.code,p) :: Γ.below).any _) s
 rw [key _ fun c q a b=>?_]
 ·exact h
 ·cases c with
  |builtin id args=>
   have no:∀ id',guardIds.contains id'=true->¬ id=id':=fun id' h e=>by
    subst e
    have:guardIds.contains id=false:=a
    rw [h] at this;cases this
   refine (dif_neg (no _ (by decide))).trans <| (dif_neg (no _ (by decide))).trans <| (dif_neg (no _ (by decide))).trans <| (dif_neg (no _ (by decide))).trans <| (dif_neg (no _ (by decide))).trans ?_
   obtain ⟨pos,kw⟩:=args
   induction pos using List.casesOn with
   |nil=>rfl
   |cons v r=>
    show (Builtin.Bytes.sameRef v self && Builtin.Bytes.decodersThatHold.contains id)=false
    have b:(!Builtin.Bytes.decodersThatHold.contains id)=true:=b
    rw [Bool.not_eq_true'] at b
    rw [b,Bool.and_false]
  |_=>rfl
theorem okC_ba (a:Args):okC (.builtin "bytearray.append" a)=true:=by
 show (!Builtin.Bytes.decodersThatHold.contains "bytearray.append")=true
 decide +kernel
section
variable {prog:Program} {w:World} {V:Vl} {Hz:Heap} {p:Par} {fs:List Addr} {l:List Env} {C:EC} {W:Wd} {loc:List AV} {A:Around} {cd:Nat}
variable (O:VOk V p) (AO:AOk cd l fs A) (R:Rel V w.params Hz fs C W loc)
include O AO R
set_option backward.match.sparseCases true in
theorem p_ba {k n:Nat} {li:List Nat} {u:Tok} (hl:qb W.s k (.ba li)) (hn:n < 256) (hlt:ki (li ++ [n]) 10000=true) {sh:Shared} {t:Nat} {Q:VP} {E:VP}
  (h:PV w.params V Hz fs l C W loc sh (setC W.s k (.ba (li ++ [n])) fun s=>.v .no s) Q E):wpR (model prog w) A (call (.builtin "bytearray.append") [.ref (W.ρ k),.int (n:Int) u]) Q E (at' sh W t):=by
 obtain ⟨_,d,hg,hd⟩:=R.cell k _ hl
 have hlen:d.size < 9999:=by have:=kh hlt;rw [<- qj,hd];simp at this;omega
 refine ge (ka ?_)
 show wpR _ A.in1 (do checkBuiltinCall "bytearray.append" ⟨[.ref (W.ρ k),.int (n:Int) u],[]⟩;again (.builtin "bytearray.append" ⟨[.ref (W.ρ k),.int (n:Int) u],[]⟩)) _ _ _
 refine jr (.of (gb.check _ _ _ _ _ _ _ _ ⟨_,hg,rfl⟩ (args_ba_append _ _) (jv ⟨plainId_quiet gb.plain _,okC_ba _,ka ?_⟩)))
 show wpR _ _ (match entryFor table "bytearray.append" with|some b=>b _|none=>unsupported ((withoutEnding? "bytearray.append" "#data").getD "bytearray.append")) _ _ _
 rw [entry_ba_append,Around.under_plainId gb.plain]
 show wpR _ _ (do
  let c <- Builtin.Bytes.byteValue (.int (n:Int) u)
  Builtin.Bytes.checkResize (.ref (W.ρ k))
  Builtin.Bytes.write (.ref (W.ρ k)) (·.push c)
  ret .none) _ _ _
 have hb:Builtin.Bytes.byteValue (.int (n:Int) u)=pure n.toUInt8:=by
  unfold Builtin.Bytes.byteValue
  show (pure (n:Int) >>= _)=_
  rw [pure_bind]
  have h1:(decide ((n:Int) < 0) || decide ((n:Int) >= 256))=false:=by simp;omega
  simp only [h1]
  rfl
 rw [hb,pure_bind]
 refine jr ?_
 unfold Builtin.Bytes.checkResize
 refine jr ?_
 unfold orM
 refine jr (wpR_exported AO.gd ?_)
 show wpR _ _ (do return decide ((<- Builtin.Bytes.exportsOf (.ref (W.ρ k))) > 0)) _ _ _
 refine .of (jc (jc (wpAny_load hg (ji (ji (jv ?_))))))
 show wpR _ _ (Builtin.Bytes.write (.ref (W.ρ k)) (·.push n.toUInt8) >>= fun _=>ret .none) _ _ _
 have hup:(W.h.update (W.ρ k) (Obj.mapBytearray (·.push n.toUInt8))).get? (W.ρ k)=some { cls:=.type "bytearray",data:=.bytearray (d.push n.toUInt8) 0 }:=Heap.get?_update_self _ hg rfl
 refine jr (.of ?_)
 show wpAny _ _ (do
  match (<- load (W.ρ k)).data with
  |.bytearray ..=>
   update (W.ρ k) (Obj.mapBytearray (·.push n.toUInt8))
   lookBehind (W.ρ k)
  |_=>unsupported "internal:write-to-non-bytearray") _ _ _
 refine jc (wpAny_load hg ?_)
 refine jc (wpAny_update hg (wpAny_lookBehind hup ?_ (jv ?_)))
 ·show (if (d.push n.toUInt8).size > sizeLine then some _ else none)=none
  rw [if_neg (by rw [Array.size_push,qe];omega)]
 ·refine PV.setN O AO R hl h (fun b o hb e=>(Heap.get?_update_other _ _ (Ne.symm hb)).trans e) (fun himm=>⟨_,hup,?_⟩) t
  simp only [bN,Array.toList_push,List.map_append,List.map_cons,List.map_nil]
  rw [<- hd]
  congr 2
  show (UInt8.ofNat n).toNat=n
  rw [UInt8.toNat_ofNat']
  exact Nat.mod_eq_of_lt hn
theorem p_dget {k:Nat} {es:List (List Nat × AV)} {x:List Nat} {u:Tok} {a:AV} {va:Value} (hsm:∃ o,Hz.get? sysModules=some o) (hl:qb W.s k (.di es)) (ha:W.R V a va) {sh:Shared} {t:Nat} {Q:VP} {E:VP}
  (h:PV w.params V Hz fs l C W loc sh (match lookS es x with|some y=>.v y W.s|none=>.v a W.s) Q E):wpAny (model prog w) A (call (.builtin "dict.get") [.ref (W.ρ k),.str (jk x) u,va]) Q E (at' sh W t):=by
 obtain ⟨_,kvs,g1,⟨pg,w',g2,g3⟩,g4⟩:=R.cell k _ hl
 have D:=dictOf_turn (pg':=prog) (w':=w) g2 g3
 have hne:(W.ρ k == sysModules)=false:=by
  rw [beq_eq_false_iff_ne]
  intro q
  have:=R.b0 (W.ρ k) (.inr ⟨k,_,hl,rfl⟩)
  obtain ⟨o,ho⟩:=hsm
  rw [q,ho] at this;exact (jg _ this).elim
 have D':(at' sh W t).heap.DictOf (PySem.strKind prog w) (W.ρ k) kvs:=D
 refine call_meetsIn PySem.F.slot_dict_get D'.typeIs PySem.F.entry_dict_get (PySem.F.args_dict_get_3 _ _ _) (meets_dict_get_default (PySem.strKind prog w) (W.ρ k) (PySem.strKind_is prog w (jk x) u) hne va) ⟨_,D'.mapOf,?_⟩
 have hls:=lookS_of (x:=x) es kvs g1 g4
 induction hx:lookS es x with
 |none=>
  rw [hx] at h hls
  show wants Q E (.ok (.ret ((valueAt kvs (jk x)).getD va))) _
  rw [hls]
  exact h va W (t+1) rfl rfl R (.refl fs W) ha
 |some y=>
  rw [hx] at h hls
  obtain ⟨v,e,hv⟩:=hls
  show wants Q E (.ok (.ret ((valueAt kvs (jk x)).getD va))) _
  rw [e]
  exact h v W (t+1) rfl rfl R (.refl fs W) hv
end
set_option backward.match.sparseCases true
theorem forIn_two {σ:Type} (f:Nat->σ->Sem (ForInStep σ)) (n:Nat) (s0 s1:σ) (h0:f 0 s0=pure (.yield s1)) (h1:∀ k,f k s1=pure (.done s1)):forIn (List.range' 0 (n+1)) s0 f=pure s1:=by
 rw [show List.range' 0 (n+1)=0 :: List.range' 1 n from by rw [List.range'_succ],List.forIn_cons,h0]
 simp only [pure_bind]
 induction n using Nat.casesAuxOn with
 |zero=>rfl
 |succ n=>rw [show List.range' 1 (n+1)=1 :: List.range' 2 n from by rw [List.range'_succ],List.forIn_cons,h1];rfl
theorem foldl_push (f:Nat->UInt8):∀ (l:List Nat) (acc:Array UInt8),l.foldl (fun acc y=>acc ++ [f y].toArray) acc=acc ++ (l.map f).toArray
 |[],acc=>by simp
 |c :: r,acc=>by rw [List.foldl_cons,foldl_push f r];simp
open Builtin Builtin.Str Builtin._codecs in
theorem enc_arg (u:Tok):codecArg "str.encode" "encode" "'encoding'" (some (.str (jk [97,115,99,105,105]) u))=pure (some (jk [97,115,99,105,105])):=by
 have h1:(jk [97,115,99,105,105]).cps.any (fun x=>decide (x >= 128))=false:=by decide +kernel
 have h2:(jk [97,115,99,105,105]).cps.contains 0=false:=by decide +kernel
 unfold codecArg
 have h0:strArg "str.encode" "encode" "'encoding'" (.str (jk [97,115,99,105,105]) u)=pure (jk [97,115,99,105,105]):=rfl
 simp only []
 rw [h0,pure_bind]
 simp only [h1,h2]
 rfl
open Builtin Builtin.Str Builtin._codecs in
theorem enc_tree (x:Str) (t u:Tok):Builtin.«str.encode» ⟨[.str x t,.str (jk [97,115,99,105,105]) u],[]⟩=(do ret (<- Builtin._codecs.encodeRoad "str.encode" (.str x t) x (jk [97,115,99,105,105]) none)):=by
 show (do
   let encoding:=(<- codecArg "str.encode" "encode" "'encoding'" (some (.str (jk [97,115,99,105,105]) u))).getD "utf-8"
   let errors <- codecArg "str.encode" "encode" "'errors'" none
   ret (<- Builtin._codecs.encodeRoad "str.encode" (.str x t) x encoding errors))=_
 rw [enc_arg,pure_bind];rfl
open Builtin Builtin.Str Builtin._codecs in
theorem enc_road (x:Str) (t u:Tok):Builtin._codecs.encodeRoad "str.encode" (.str x t) x (jk [97,115,99,105,105]) none=(do mkBytes (<- Builtin._codecs.encodeNarrow "str.encode" Builtin._codecs.asciiCodec none (.str x t) x)):=by
 first|rfl|(unfold Builtin._codecs.encodeRoad;rfl)|(unfold Builtin._codecs.encodeRoad;simp only [];rfl)
abbrev NS:=Nat × Array UInt8 × Builtin._codecs.Faults
open Builtin Builtin.Str Builtin._codecs in
noncomputable def nB (B:Nat->NS->Sem (ForInStep NS)) (c:TextCodec) (s:Str) (r:NS):Sem (ForInStep NS):=match s.cps[r.1]? with
 |some x=>if (!c.bad x)=true then pure (.yield (r.1+((s.cps.extract r.1 s.cps.size).findIdx? c.bad).getD (s.cps.extract r.1 s.cps.size).size,((s.cps.extract r.1 s.cps.size).extract 0 (((s.cps.extract r.1 s.cps.size).findIdx? c.bad).getD (s.cps.extract r.1 s.cps.size).size)).foldl (fun acc y=>acc ++ (c.bytesOf y).toArray) r.2.1,r.2.2)) else B x r
 |_=>pure (.done r)
open Builtin Builtin.Str Builtin._codecs in
noncomputable def nF (B:Nat->NS->Sem (ForInStep NS)) (c:TextCodec) (s:Str) (_:Nat) (r:NS):Sem (ForInStep NS):=if r.2.1.size > sizeLine then ((unsupported "bytes:memory":Sem PUnit) >>= fun _=>nB B c s r) else nB B c s r
open Builtin Builtin.Str Builtin._codecs in
theorem nB_some {B:Nat->NS->Sem (ForInStep NS)} {c:TextCodec} {s:Str} {r:NS} {x:Nat} (h:s.cps[r.1]?=some x) (hb:c.bad x=false):nB B c s r=pure (.yield (r.1+((s.cps.extract r.1 s.cps.size).findIdx? c.bad).getD (s.cps.extract r.1 s.cps.size).size,((s.cps.extract r.1 s.cps.size).extract 0 (((s.cps.extract r.1 s.cps.size).findIdx? c.bad).getD (s.cps.extract r.1 s.cps.size).size)).foldl (fun acc y=>acc ++ (c.bytesOf y).toArray) r.2.1,r.2.2)):=by
 unfold nB
 rw [h]
 exact if_pos (by rw [hb];rfl)
open Builtin Builtin.Str Builtin._codecs in
theorem nB_none {B:Nat->NS->Sem (ForInStep NS)} {c:TextCodec} {s:Str} {r:NS} (h:s.cps[r.1]?=none):nB B c s r=pure (.done r):=by
 unfold nB
 rw [h]
open Builtin Builtin.Str Builtin._codecs in
theorem enc_run (B:Nat->NS->Sem (ForInStep NS)) (x:Str) (h:∀ c ∈ x.cps.toList,c < 128) (hs:x.length<=sizeLine):forIn (List.range' 0 x.length) ((0,#[],{}):NS) (nF B asciiCodec x)=pure (x.cps.size,(x.cps.toList.map (·.toUInt8)).toArray,{}):=by
 have hlen:x.length=x.cps.size:=rfl
 induction hx:x.cps.toList using List.casesOn with
 |nil=>
  have h0:x.cps.size=0:=by rw [<- Array.length_toList,hx];rfl
  rw [hlen,h0];rfl
 |cons c r=>
  have hsz:x.cps.size=r.length+1:=by rw [<- Array.length_toList,hx];rfl
  have hex:x.cps.extract 0 x.cps.size=x.cps:=by simp
  have hbad:∀ c ∈ x.cps.toList,asciiCodec.bad c=false:=fun c hc=>decide_eq_false (Nat.not_le.mpr (h c hc))
  have hfind:Array.findIdx? asciiCodec.bad x.cps=none:=by
   rw [Array.findIdx?_eq_none_iff]
   exact fun c hc=>hbad c (by simpa using hc)
  have hget:x.cps[0]?=some c:=by
   have:x.cps.toList[0]?=some c:=by rw [hx];rfl
   simpa using this
  have hfold:Array.foldl (fun acc y=>acc ++ (asciiCodec.bytesOf y).toArray) (#[]:Array UInt8) x.cps=(x.cps.toList.map (·.toUInt8)).toArray:=by
   rw [<- Array.foldl_toList]
   have:=foldl_push (·.toUInt8) x.cps.toList #[]
   simpa [asciiCodec] using this
  rw [<- hx,show x.length=r.length+1 from hsz]
  refine forIn_two _ _ _ _ ?_ fun k=>?_
  ·have e:nF B asciiCodec x 0 ((0,#[],{}):NS)=nB B asciiCodec x (0,#[],{}):=if_neg (by simp [qe])
   rw [e,nB_some (r:=(0,#[],{})) hget (hbad c (by rw [hx];exact List.mem_cons_self))]
   show pure (ForInStep.yield (0+(Array.findIdx? asciiCodec.bad (x.cps.extract 0 x.cps.size)).getD (x.cps.extract 0 x.cps.size).size,_,_))=_
   rw [hex,hfind,Option.getD_none,hex,Nat.zero_add,hfold]
  ·have e:nF B asciiCodec x k (x.cps.size,(x.cps.toList.map (·.toUInt8)).toArray,{})=nB B asciiCodec x (x.cps.size,(x.cps.toList.map (·.toUInt8)).toArray,{}):=if_neg (by simp only [List.size_toArray,List.length_map,Array.length_toList];rw [<- hlen];omega)
   rw [e]
   exact nB_none (r:=(x.cps.size,(x.cps.toList.map (·.toUInt8)).toArray,{})) (Array.getElem?_eq_none (jj _))
open Builtin Builtin.Str Builtin._codecs in
theorem enc_key (B:Nat->NS->Sem (ForInStep NS)) (x:Str) (h:∀ c ∈ x.cps.toList,c < 128) (hs:x.length<=sizeLine):(forIn [0:x.length] ((0,#[],{}):NS) (nF B asciiCodec x) >>= fun r=>pure r.2.1)=pure (x.cps.toList.map (·.toUInt8)).toArray:=by
 simp only [Std.Legacy.Range.forIn_eq_forIn_range',Std.Legacy.Range.size]
 rw [show (x.length - 0+1 - 1) / 1=x.length from (Nat.div_one _).trans rfl,enc_run B x h hs]
 rfl
open Builtin Builtin.Str Builtin._codecs in
set_option smartUnfolding false in
theorem enc_narrow (x:Str) (t:Tok) (h:∀ c ∈ x.cps.toList,c < 128) (hs:x.length<=sizeLine):Builtin._codecs.encodeNarrow "str.encode" Builtin._codecs.asciiCodec none (.str x t) x=pure (x.cps.toList.map (·.toUInt8)).toArray:=
 enc_key _ x h hs
set_option backward.match.sparseCases false
set_option backward.match.sparseCases true
theorem lk_buffer:typeLookup (.type "bytes") (Str.ofString "__buffer__")=pure (some (.builtin "bytes.__buffer__")):=by rw [typeLookup_type,builtinLookup_eq_fast];kernel_rfl
theorem lk_release:typeLookup (.type "bytes") (Str.ofString "__release_buffer__")=pure none:=by rw [typeLookup_type,builtinLookup_eq_fast];kernel_rfl
theorem sub_bytes:isSubtype (.type "bytes") (.type "bytes")=pure true:=by rw [isSubtype_type];kernel_rfl
theorem spec_buffer (d:Array UInt8) (t:Tok):specialOf (.bytes d t) (Str.ofString "__buffer__")=pure (some (.builtin "bytes.__buffer__")):=by
 show (pure (Value.type "bytes") >>= fun T=>typeLookup T (Str.ofString "__buffer__"))=_
 rw [pure_bind,lk_buffer]
theorem spec_release (d:Array UInt8) (t:Tok):specialOf (.bytes d t) (Str.ofString "__release_buffer__")=pure none:=by
 show (pure (Value.type "bytes") >>= fun T=>typeLookup T (Str.ofString "__release_buffer__"))=_
 rw [pure_bind,lk_release]
theorem own_buffer (d:Array UInt8) (t:Tok):Builtin.Bytes.slotIsOwn (.bytes d t) "__buffer__"=pure true:=by
 unfold Builtin.Bytes.slotIsOwn
 rw [spec_buffer,pure_bind]
 have h1:("bytes.__buffer__".endsWith ("." ++ "__buffer__"))=true:=by decide +kernel
 have h2:"bytes.__buffer__".dropRight ("__buffer__".length+1)="bytes":=by decide +kernel
 simp only [h1,h2]
 show (do isSubtype (<- typeOf (.bytes d t)) (.type "bytes"))=_
 show (pure (Value.type "bytes") >>= fun T=>isSubtype T (.type "bytes"))=_
 rw [pure_bind,sub_bytes]
theorem own_release (d:Array UInt8) (t:Tok):Builtin.Bytes.ownRelease (.bytes d t)=pure false:=by
 unfold Builtin.Bytes.ownRelease Builtin.Bytes.slotIsOwn
 rw [spec_release];rfl
theorem buf_bytes (id:String) (d:Array UInt8) (t:Tok):Builtin.Bytes.takeBufferQuiet? id (.bytes d t) 0=pure (some (d,none)):=by
 unfold Builtin.Bytes.takeBufferQuiet? Builtin.Bytes.takeBuffer? Builtin.Bytes.buffer?
 simp only [spec_buffer,own_buffer,own_release,pure_bind]
 rfl
set_option backward.match.sparseCases false
noncomputable def bv (p:Array UInt8 × Tok):Value:=.bytes p.1 p.2
theorem range_wp {σ:Type} {M:Model} {A:Around} {E:VP} {s:Shared} (f:Nat->σ->Sem (ForInStep σ)) (S:Nat->σ) (n:Nat) (Q:σ->Shared->Prop)
  (hf:∀ i,i < n->∀ Q':ForInStep σ->Shared->Prop,Q' (.yield (S (i+1))) s->wpAny M A (f i (S i)) Q' E s) (hQ:Q (S n) s):∀ k i,i+k=n->wpAny M A (forIn (List.range' i k) (S i) f) Q E s
 |0,i,h=>by
  have:i=n:=by omega
  subst this
  exact ji hQ
 |k+1,i,h=>by
  rw [show List.range' i (k+1)=i :: List.range' (i+1) k from by rw [List.range'_succ],List.forIn_cons]
  exact jc (hf i (by omega) _ (range_wp f S n Q hf hQ k (i+1) (by omega)))
theorem join_letgo {M:Model} {A:Around} {E:VP} {s:Shared} {keep:List Value} {Q:Unit->Shared->Prop} (hQ:Q () s):∀ l:List (Array UInt8 × Tok),wpAny M A (Builtin.Bytes.joinLetGo (l.map fun p=>(bv p,(none:Option Value))) keep) Q E s
 |[]=>ji hQ
 |p :: r=>by
  have ih:=join_letgo (M:=M) (A:=A) (E:=E) (keep:=keep) hQ r
  show wpAny _ _ (do
   letGo [bv p] (keep ++ (r.map fun p=>(bv p,(none:Option Value))).flatMap fun (y,u)=>y :: u.toList)
   Builtin.Bytes.joinLetGo (r.map fun p=>(bv p,(none:Option Value))) keep) _ _ _
  refine jc ?_
  show wpAny _ _ (letGo [bv p] _) _ _ _
  unfold letGo
  refine jc (wpAny_holding (wpAny_point ?_))
  exact ji ih
open Builtin Builtin.Bytes in
set_option tactic.hygienic true in
theorem join_wp {prog:Program} {w:World} {A:Around} {E:VP} {s:Shared} {d:Array UInt8} {t:Tok} {a:Addr} {l:List (Array UInt8 × Tok)} {Q:VP} (ha:s.heap.IsList a (l.map bv).toArray)
  (hsz:(joined d (l.map (·.1))).size<=sizeLine) (hlen:(l.map (·.1)).foldl (fun n x=>n+x.size) (d.size * (l.length - 1))<=sizeLine)
  (h1:∀ p,l=[p]->Q (bv p) s) (h2:∀ t',Q (.bytes (joined d (l.map (·.1))) t') { s with toks:=s.toks+1 }):wpAny (model prog w) A (Builtin.«bytes.join» ⟨[.bytes d t,.ref a],[]⟩) (fun fin s'=>∃ v,fin=.done (.ret v)/\Q v s') E s:=by
 refine fr fun G g=>?_
 obtain ⟨o,ho,hc,n,hd⟩:=id ha
 refine g ?_
 unfold Builtin.«bytes.join» joinM
 refine jc (wpAny_of_eq (a:=(Value.bytes d t,Value.ref a)) rfl ?_)
 dsimp only
 refine jc ?_
 show wpAny _ _ (do
  let t <- typeOf (.ref a)
  if t == .type "list" || t == .type "tuple" then return (.ref a)
  let iter <- (pyIter (.ref a)).tryCatch fun e=>do
   if <- isInstance e (.type "TypeError") then rule "bytes.join.not-iterable";raiseError "TypeError" "can only join an iterable"
   else throw e
  call (.type "list") [iter]) _ _ _
 refine jc (wpAny_typeOf ha.typeIs ?_)
 rw [if_pos (by decide)]
 refine ji ?_
 have seqs:∀ {Q':Option (Array Value)->Shared->Prop},Q' (some (l.map bv).toArray) s->wpAny (model prog w) A (seqItems? (.ref a)) Q' E s:=fun hq=>by
  unfold seqItems?
  refine jc (wpAny_load ho ?_)
  rw [hd]
  exact ji hq
 refine jc (seqs ?_)
 dsimp only
 have main:∀ (f:Nat->Array (Array UInt8) × List (Value × Option Value)->Sem (ForInStep (Array (Array UInt8) × List (Value × Option Value)))) (tail:Array (Array UInt8) × List (Value × Option Value)->Sem Fin),
   (∀ i p,l[i]?=some p->∀ Q':ForInStep (Array (Array UInt8) × List (Value × Option Value))->Shared->Prop,Q' (.yield (((l.take i).map (·.1)).toArray.push p.1,((l.take i).map fun p=>(bv p,(none:Option Value))) ++ [(bv p,none)])) s->wpAny (model prog w) A (f i (((l.take i).map (·.1)).toArray,(l.take i).map fun p=>(bv p,none))) Q' E s)->
   wpAny (model prog w) A (tail ((l.map (·.1)).toArray,l.map fun p=>(bv p,none))) (fun fin s'=>∃ v,fin=.done (.ret v)/\Q v s') E s->
   wpAny (model prog w) A (do let r <- forIn [0:(l.map bv).toArray.size] (#[],[]) f;tail r) (fun fin s'=>∃ v,fin=.done (.ret v)/\Q v s') E s:=by
  intro f tail hf ht
  refine jc ?_
  rw [Std.Legacy.Range.forIn_eq_forIn_range']
  have hn:(⟨0,(l.map bv).toArray.size,1,by decide⟩:Std.Legacy.Range).size=l.length:=by simp [Std.Legacy.Range.size]
  show wpAny _ _ (forIn (List.range' 0 _ 1) _ f) _ _ _
  rw [hn]
  refine range_wp f (fun i=>(((l.take i).map (·.1)).toArray,(l.take i).map fun p=>(bv p,none))) l.length _ (fun i hi Q' hq=>?_) ?_ l.length 0 (by omega)
  ·have hp:l[i]?=some l[i]:=List.getElem?_eq_getElem hi
   refine hf i l[i] hp Q' ?_
   have e:l.take (i+1)=l.take i ++ [l[i]]:=by rw [List.take_add_one,hp];rfl
   simp only [e,List.map_append,List.map_cons,List.map_nil] at hq
   simpa using hq
  ·simp only [List.take_length];exact ht
 rw [if_pos (by decide)]
 rcases l with _|⟨p,_|⟨q,r⟩⟩
 ·refine main _ _ (fun i p hp=>by simp at hp) ?_
  ·generalize ([]:List (Array UInt8 × Tok))=l at *
   refine jc (wpAny_of_eq (a:=d) rfl ?_)
   rw [if_neg ?hno]
   case hno=>
    show ¬ (decide (_ > sizeLine)=true)
    rw [decide_eq_true_eq,Nat.not_lt,<- Array.foldl_toList]
    simpa using hlen
   refine jc (m:=mkBytes _) (wpAny_mkBytes ?_ hsz)
   exact jc (wpAny_holding (wpAny_point (jc (join_letgo (ji ⟨_,rfl,h2 _⟩) _))))
 ·refine jc (wpAny_of_eq (a:=Value.type "bytes") rfl ?_)
  rw [if_pos (by decide)]
  exact jc (wpAny_rule (ji ⟨_,rfl,h1 p rfl⟩))
 ·refine main _ _ ?_ ?_
  ·generalize p :: q :: r=l at *
   intro i p hp Q' hq
   refine jc (seqs ?_)
   dsimp only
   rw [if_neg ?hno]
   case hno=>
    have h1:(Kind.bytes == Kind.bytearray)=false:=by decide
    have h2:((l.take i).map fun p=>(bv p,(none:Option Value))).any (fun x=>x.1.onHeap)=false:=by
     rw [List.any_map,List.any_eq_false]
     intro x _ h
     exact (jh h).elim
    rw [h1,Bool.false_or,h2];decide
   have hx:((l.map bv).toArray).getD i Value.none=bv p:=by
    have:(l.map bv)[i]?=some (bv p):=by rw [List.getElem?_map,hp];rfl
    simp [Array.getD_eq_getD_getElem?,hp]
   rw [hx]
   refine jc (wpAny_holding (wpAny_of_eq (buf_bytes _ p.1 p.2) ?_))
   dsimp only
   refine jc (seqs ?_)
   dsimp only
   rw [if_neg (by simp)]
   exact ji hq
  ·generalize p :: q :: r=l at *
   refine jc (wpAny_of_eq (a:=d) rfl ?_)
   rw [if_neg ?hno]
   case hno=>
    show ¬ (decide (_ > sizeLine)=true)
    rw [decide_eq_true_eq,Nat.not_lt,<- Array.foldl_toList]
    simpa using hlen
   refine jc (m:=mkBytes _) (wpAny_mkBytes ?_ hsz)
   exact jc (wpAny_holding (wpAny_point (jc (join_letgo (ji ⟨_,rfl,h2 _⟩) _))))
theorem joinL_cons (sep x:List Nat):∀ r:List (List Nat),joinL sep (x :: r)=x ++ (r.map (sep ++ ·)).flatten
 |[]=>by simp [joinL]
 |y :: r=>by
  show x ++ (sep ++ joinL sep (y :: r))=_
  rw [joinL_cons sep y r];simp
theorem joined_bN (sep:Array UInt8) (ps:List (Array UInt8)):bN (Builtin.Bytes.joined sep ps)=joinL (bN sep) (ps.map bN):=by
 have go:∀ (ps:List (Array UInt8)) (k:Nat) (acc:Array UInt8),0 < k->bN ((ps.zipIdx k).foldl (fun out (p,i)=>(if i > 0 then out ++ sep else out) ++ p) acc)=bN acc ++ ((ps.map bN).map (bN sep ++ ·)).flatten:=by
  intro ps
  induction ps with
  |nil=>intro k acc _;simp
  |cons p r ih=>
   intro k acc hk
   rw [List.zipIdx_cons,List.foldl_cons,ih (k+1) _ (by omega)]
   simp [hk,bN_append]
 unfold Builtin.Bytes.joined
 induction ps using List.casesOn with
 |nil=>simp [joinL,bN]
 |cons p r=>
  rw [List.zipIdx_cons,List.foldl_cons,go r 1 _ (by omega),List.map_cons,joinL_cons]
  simp [bN]
theorem flat_join (V:Vl) (sep:List Ck):∀ xs:List (List Ck),flat V (joinCk sep xs)=joinL (flat V sep) (xs.map (flat V))
 |[]=>rfl
 |[x]=>rfl
 |x :: y :: r=>by
  show flat V (catCk x (catCk sep (joinCk sep (y :: r))))=flat V x ++ (flat V sep ++ joinL (flat V sep) ((y :: r).map (flat V)))
  rw [flat_cat,flat_cat,flat_join V sep (y :: r)]
theorem joinL_sum (sep:List Nat):∀ xs:List (List Nat),(joinL sep xs).length=(xs.map (·.length)).sum+sep.length * (xs.length - 1)
 |[]=>by simp [joinL]
 |[x]=>by simp [joinL]
 |x :: y :: r=>by
  have ih:=joinL_sum sep (y :: r)
  show (x ++ (sep ++ joinL sep (y :: r))).length=_
  rw [List.length_append,List.length_append,ih]
  simp only [List.map_cons,List.sum_cons,List.length_cons,Nat.add_sub_cancel,Nat.mul_succ]
  omega
theorem foldl_size:∀ (ps:List (Array UInt8)) (c:Nat),ps.foldl (fun n x=>n+x.size) c=c+((ps.map bN).map (·.length)).sum
 |[],c=>by simp
 |p :: r,c=>by rw [List.foldl_cons,foldl_size r];simp only [List.map_cons,List.sum_cons,qj];omega
set_option smartUnfolding false in
theorem bys_cons {a:AV} {r:List AV} {xs:List (List Ck)} (h:bys? (a :: r)=some xs):∃ x ys,a=.by x/\bys? r=some ys/\xs=x :: ys:=
 Op.by (show (match (generalizing:=false) a with|.by l=>(match bys? r with|some xs=>some (l :: xs)|none=>none)|_=>none)=some xs from h) fun x e h=>Op.so (o:=bys? r) h fun ys hr h=>⟨x,ys,e,hr,(jf h).symm⟩
theorem bys_are {T:Nat->Value->Prop} {V:Vl} {h:Heap} {ρ:Nat->Addr} {nx:Nat}:∀ {l:List AV} {xs:List (List Ck)} {vs:List Value},bys? l=some xs->ku T V h ρ nx l vs->
  ∃ ps:List (Array UInt8 × Tok),vs=ps.map bv/\(ps.map (·.1)).map bN=xs.map (flat V)/\(∀ p,ps=[p]->∃ x,xs=[x]/\RepG T V h ρ nx (.by x) (bv p))
 |[],xs,vs,hs,hr=>by
  obtain rfl:=jf hs
  cases (show vs=[] from hr)
  exact ⟨[],rfl,rfl,nofun⟩
 |a :: r,xs,vs,hs,hr=>by
  obtain ⟨y,ys,rfl,hr',rfl⟩:=bys_cons hs
  obtain ⟨v,s,rfl,x1,x2⟩:=hr
  obtain ⟨d,t,rfl,hd⟩:=id x1
  obtain ⟨ps,e1,e2,_⟩:=bys_are hr' x2
  refine ⟨(d,t) :: ps,by rw [e1];rfl,by simp only [List.map_cons,e2,hd],fun p h=>?_⟩
  obtain ⟨rfl,rfl⟩:=List.cons.inj h
  induction ys using List.casesOn with
  |nil=>exact ⟨y,rfl,x1⟩
  |cons _ _=>cases e2
section
variable {prog:Program} {w:World} {V:Vl} {Hz:Heap} {p:Par} {fs:List Addr} {l:List Env} {C:EC} {W:Wd} {loc:List AV} {A:Around} {cd:Nat}
variable (O:VOk V p) (AO:AOk cd l fs A) (R:Rel V w.params Hz fs C W loc)
include O AO R
theorem p_bjoin {sep:List Ck} {ls:List AV} {xs:List (List Ck)} {vs:List Value} {a:Addr} {va:Value} {sh:Shared} {t:Nat} {Q:VP} {E:VP} (ha:W.R V (.by sep) va) (hx:bys? ls=some xs) (hv:W.Rs V ls vs) (hl:W.h.IsList a vs.toArray)
  (h:PV w.params V Hz fs l C W loc sh (Mine.retA W.s (.by (joinCk sep xs))) Q E):wpAny (model prog w) A (call (.builtin "bytes.join") [va,.ref a]) Q E (at' sh W t):=by
 obtain ⟨d,u,rfl,hd⟩:=ha
 obtain ⟨hf,hQ⟩:=PV.ret1 O AO R h
 obtain ⟨ps,rfl,e2,e3⟩:=bys_are hx hv
 have hfl:=fitCk_le O (show fitCk (joinCk sep xs)=true from hf)
 rw [flat_join] at hfl
 have hj:bN (Builtin.Bytes.joined d (ps.map (·.1)))=joinL (flat V sep) (xs.map (flat V)):=by rw [joined_bN,e2,hd]
 refine call_meets slot_bytes_join (typeIs_bytes _ _ _) entry_bytes_join (args_bytes_join _ _) (S:=fun A R s=>s.heap.IsList a (ps.map bv).toArray/\(∀ p,ps=[p]->R (.ok (.ret (bv p))) s)/\∀ t',R (.ok (.ret (.bytes (Builtin.Bytes.joined d (ps.map (·.1))) t'))) { s with toks:=s.toks+1 }) (.of_wp fun prog w A R s hs=>?_) ⟨hl,fun p hp=>?_,fun t'=>?_⟩
 ·refine wpAny_mono (join_wp hs.1 ?_ ?_ (Q:=fun v s'=>R (.ok (.ret v)) s') (fun p hp=>hs.2.1 p hp) hs.2.2) (fun fin s' ⟨v,e,hv⟩=>⟨_,e,hv⟩) fun _ _ x=>x
  ·rw [<- qj,hj,qe];omega
  ·rw [foldl_size,e2]
   have hsum:=joinL_sum (flat V sep) (xs.map (flat V))
   have hlen:ps.length=xs.length:=by have:=congrArg List.length e2;simpa using this
   rw [List.length_map] at hsum
   rw [<- qj,hd,hlen,qe]
   omega
 ·obtain ⟨x,rfl,hr⟩:=e3 p hp
  have:=hQ (bv p) t (by
   have e:joinCk sep [x]=x:=rfl
   rw [e];exact hr)
  exact this
 ·exact hQ _ (t+1) ⟨_,t',rfl,by rw [hj,flat_join]⟩
theorem p_encode {x:List Nat} {u u':Tok} {sh:Shared} {t:Nat} {Q:VP} {E:VP} (hx:ascii x=true) (h:PV w.params V Hz fs l C W loc sh (Mine.retA W.s (mkBy x)) Q E):
  wpAny (model prog w) A (call (.builtin "str.encode") [.str (jk x) u,.str (jk [97,115,99,105,105]) u']) Q E (at' sh W t):=by
 obtain ⟨hf,hQ⟩:=PV.ret1 O AO R h
 have hlen:=fitCk_le O (show fitCk (mkCk x)=true from hf)
 rw [qn] at hlen
 have hall:∀ c ∈ (jk x).cps.toList,c < 128:=fun c hc=>ascii_all hx c (by simpa [jk] using hc)
 have hsz:(jk x).length<=sizeLine:=by rw [qr,qe];omega
 refine call_meets PySem.F.slot_str_encode (typeIs_str _ _ _) PySem.F.entry_str_encode (PySem.F.args_str_encode_2 _ _) (S:=fun A R s=>R (.ok (.ret (.bytes (x.map (·.toUInt8)).toArray s.toks))) { s with toks:=s.toks+1 }) (.of_wp fun prog w A R s hs=>?_) ?_
 ·rw [enc_tree,enc_road _ _ u',enc_narrow _ _ hall hsz]
  refine jc (jc (ji (wpAny_mkBytes (ji ⟨_,rfl,?_⟩) ?_)))
  ·simpa [jk] using hs
  ·rw [qe];simp [jk];omega
 ·refine hQ _ (t+1) ⟨_,t,rfl,?_⟩
  rw [qn]
  have:∀ l:List Nat,(∀ c ∈ l,c < 128)->(l.map (·.toUInt8)).map UInt8.toNat=l:=by
   intro l hl
   induction l with
   |nil=>rfl
   |cons c r ih=>
    simp only [List.map_cons]
    rw [ih fun c hc=>hl c (List.mem_cons_of_mem _ hc)]
    congr 1
    show (UInt8.ofNat c).toNat=c
    rw [UInt8.toNat_ofNat']
    have:=hl c List.mem_cons_self
    exact Nat.mod_eq_of_lt (by omega)
  show (List.map (·.toUInt8) x).toArray.toList.map UInt8.toNat=x
  exact this x fun c hc=>ascii_all hx c hc
end
theorem Rs_nil {V:Vl} {W:Wd} {vs:List Value} (h:W.Rs V [] vs):vs=[]:=h
theorem Rs_cons {V:Vl} {W:Wd} {a:AV} {r:List AV} {vs:List Value} (h:W.Rs V (a :: r) vs):∃ v s,vs=v :: s/\W.R V a v/\W.Rs V r s:=h
theorem Rs_one {V:Vl} {W:Wd} {a:AV} {vs:List Value} (h:W.Rs V [a] vs):∃ v,vs=[v]/\W.R V a v:=by
 obtain ⟨v,s,rfl,x,y⟩:=Rs_cons h
 exact ⟨v,by rw [Rs_nil y],x⟩
theorem lkL {s:Mine.St} {k:Nat} {c:Cell} (h:look s.sto k=some c):qb s k c:=(ke s.sto k).symm.trans h
theorem J.bac {β:Type} {Φ:β->Prop} {o:Option Cell} {f1:List AV->β} {f2:List Nat->β} {f3:List (List Nat × AV)->β} {d:β} (hd:¬ Φ d) {G:Prop} (h:Φ (match o with|some (.li l)=>f1 l|some (.ba l)=>f2 l|some (.di l)=>f3 l|_=>d))
  (k1:∀ l,o=some (.li l)->Φ (f1 l)->G) (k2:∀ l,o=some (.ba l)->Φ (f2 l)->G) (k3:∀ l,o=some (.di l)->Φ (f3 l)->G):G:=by
 induction o with
 |none=>exact (hd h).elim
 |some c=>induction c with
  |li l=>exact k1 l rfl h
  |ba l=>exact k2 l rfl h
  |di l=>exact k3 l rfl h
  |_=>exact (hd h).elim
theorem mkind_li {s:Mine.St} {k:Nat} {l:List AV} (h:qb s k (.li l)):mkind (.ce k) s=3:=by show (match look s.sto k with|some (.li _)=>3|some (.ba _)=>4|some (.di _)=>5|_=>0)=3;rw [ke,show s.sto.lookup k=_ from h]
theorem mkind_ba {s:Mine.St} {k:Nat} {l:List Nat} (h:qb s k (.ba l)):mkind (.ce k) s=4:=by show (match look s.sto k with|some (.li _)=>3|some (.ba _)=>4|some (.di _)=>5|_=>0)=4;rw [ke,show s.sto.lookup k=_ from h]
theorem mkind_di {s:Mine.St} {k:Nat} {l:List (List Nat × AV)} (h:qb s k (.di l)):mkind (.ce k) s=5:=by show (match look s.sto k with|some (.li _)=>3|some (.ba _)=>4|some (.di _)=>5|_=>0)=5;rw [ke,show s.sto.lookup k=_ from h]
section
variable {PP:Res->Prop} (hn:∀ n,¬ PP (.fail n)) {M:AV->Nat->List AV->Prop} {s:Mine.St}
include hn
set_option smartUnfolding false in
theorem methSt_elim (lower:∀ x,ascii x=true->PP (retA s (.st (lowL x)))->M (.st x) 5 []) (joinL:∀ x k ls,qb s k (.li ls)->PP (joinA s x ls)->M (.st x) 3 [.ce k]) (joinT:∀ x xs,PP (joinA s x xs)->M (.st x) 3 [.tu xs])
  (split:∀ x c,x.length < 10000->PP (newC s (.li (mapSt (splitG c x []))) fun i s=>.v (.ce i) s)->M (.st x) 4 [.st [c]]) (enc:∀ x,ascii x=true->PP (retA s (mkBy x))->M (.st x) 33 [.st [97,115,99,105,105]]) {x:List Nat} {a:Nat} {as:List AV} (h:PP (methSt x a as s)):M (.st x) a as:=by
 match as with
 |[]=>exact J.tt (hn 111) h fun ha h=>J.tt (hn 111) h fun hx h=>je ha▸lower x hx h
 |_ :: _ :: _=>exact (hn _ h).elim
 |[y]=>induction y using AV.casesOn with
  |ce k=>exact J.tt (hn 112) h fun ha h=>J.li (hn 112) h fun ls hl h=>je ha▸joinL x k ls (lkL hl) h
  |tu xs=>exact J.tt (hn 112) h fun ha h=>je ha▸joinT x xs h
  |st y=>
   refine J.b2 (Φ:=PP) (b:=Nat.beq a 4) h (fun ha h=>?_) fun _ h=>J.tt (hn 113) h fun ha h=>J.tt (hn 113) h fun he h=>J.tt (hn 113) h fun hx h=>je ha▸(qd _ _).mp he▸enc x hx h
   match y with
   |[c]=>exact J.tt (hn 113) h fun hb h=>je ha▸split x c (qq hb) (by rw [fAs_eq] at h;exact h)
   |[]=>exact (hn _ h).elim
   |_ :: _ :: _=>exact (hn _ h).elim
  |_=>exact (hn _ h).elim
set_option smartUnfolding false in
theorem methLi_elim {k:Nat} {li:List AV} (app:∀ x,ki (li ++ [x]) 10000=true->PP (setC s k (.li (li ++ [x])) fun s=>.v .no s)->M (.ce k) 8 [x]) (ext:∀ j lj,qb s j (.li lj)->ki (li ++ lj) 10000=true->PP (setC s k (.li (li ++ lj)) fun s=>.v .no s)->M (.ce k) 9 [.ce j])
  (idx:∀ x xs n,sts? li=some xs->findL x xs 0=some n->n < 100000->PP (retA s (.it (.ofNat n)))->M (.ce k) 10 [.st x]) {a:Nat} {x:AV} (h:PP (methLi k li a x s)):M (.ce k) a [x]:=by
 refine J.b2 (Φ:=PP) (b:=Nat.beq a 8) h (fun ha h=>?_) fun _ h=>J.b2 (Φ:=PP) (b:=Nat.beq a 9) h (fun ha h=>?_) fun _ h=>J.tt (hn 115) h fun ha h=>J.st (hn 115) h fun x e h=>J.so (Φ:=PP) (o:=sts? li) (hn 115) h fun xs hs h=>J.so (Φ:=PP) (o:=findL x xs 0) (hn 115) h fun n hf h=>J.tt (hn 115) h fun hl h=>e▸je ha▸idx x xs n hs hf (small_lt hl) h
 ·rw [fSp_eq] at h
  exact J.tt (hn 115) h fun hl h=>je ha▸app x hl h
 ·refine J.ce (hn 115) h fun j e h=>J.li (hn 115) h fun lj hj h=>?_
  rw [fSp_eq] at h
  exact J.tt (hn 115) h fun hl h=>e▸je ha▸ext j lj (lkL hj) hl h
set_option smartUnfolding false in
theorem methCe_elim {k:Nat} {as:List AV} {a:Nat} {G:Prop} (h:PP (methCe k a as s)) (h1:∀ l x,as=[x]->qb s k (.li l)->PP (methLi k l a x s)->G) (h2:∀ l n,as=[.it (.ofNat n)]->a=8->n < 256->ki (l ++ [n]) 10000=true->qb s k (.ba l)->PP (setC s k (.ba (l ++ [n])) fun s=>.v .no s)->G)
  (h3:∀ es x d,as=[.st x,d]->a=6->qb s k (.di es)->PP (match lookS es x with|some y=>.v y s|none=>.v d s)->G):G:=by
 refine J.bac (Φ:=PP) (o:=look s.sto k) (hn 116) h (fun l hl h=>?_) (fun l hl h=>?_) fun l hl h=>?_
 ·exact J.l1 (Φ:=PP) (hn 116) h fun x e h=>h1 l x e (lkL hl) h
 ·refine J.l1 (Φ:=PP) (hn 116) h fun x e1 h=>J.itN (hn 116) h fun n e h=>J.tt (hn 116) h fun ha h=>J.tt (hn 116) h fun hb h=>?_
  rw [fL_eq] at h
  exact J.tt (hn 116) h fun hl' h=>h2 l n (e▸e1) (je ha) (qq hb) hl' (lkL hl) h
 ·exact J.l2 (Φ:=PP) (hn 116) h fun x d e1 h=>J.st (hn 116) h fun x e h=>J.tt (hn 116) h fun ha h=>h3 l x d (e▸e1) (je ha) (lkL hl) h
set_option smartUnfolding false in
theorem methBy_elim {l:List Ck} {a:Nat} {as:List AV} (h:PP (methBy l a as s)) {G:Prop} (k:∀ j ls xs,as=[.ce j]->a=3->qb s j (.li ls)->bys? ls=some xs->PP (retA s (.by (joinCk l xs)))->G):G:=by
 exact J.l1 (Φ:=PP) (hn 114) h fun x e1 h=>J.ce (hn 114) h fun j e h=>J.tt (hn 114) h fun ha h=>J.li (hn 114) h fun ls hl h=>J.so (Φ:=PP) (o:=bys? ls) (hn 114) h fun xs hx h=>k j ls xs (e▸e1) (je ha) (lkL hl) hx h
end
section
variable {prog:Program} {w:World} {V:Vl} {Hz:Heap} {p:Par} {fs:List Addr} {l:List Env} {C:EC} {W:Wd} {loc:List AV} {A:Around} {cd:Nat}
variable (O:VOk V p) (AO:AOk cd l fs A) (R:Rel V w.params Hz fs C W loc) (hsm:∃ o,Hz.get? sysModules=some o)
include O AO R
theorem p_methSt {x:List Nat} {vo:Value} {a:Nat} {as:List AV} {vs:List Value} {id:String} (ho:W.R V (.st x) vo) (hv:W.Rs V as vs) (hm:mId 1 a=some id) {sh:Shared} {t:Nat} {Q:VP} {E:VP} (hQ:PV w.params V Hz fs l C W loc sh (methSt x a as W.s) Q E):
  wpR (model prog w) A (call (.builtin id) (vo :: vs) []) Q E (at' sh W t):=by
 refine methSt_elim (PP:=fun r=>PV w.params V Hz fs l C W loc sh r Q E) (M:=fun o a as=>W.R V o vo->W.Rs V as vs->mId 1 a=some id->wpR (model prog w) A (call (.builtin id) (vo :: vs) []) Q E (at' sh W t)) (fun _ h=>h) ?_ ?_ ?_ ?_ ?_ hQ ho hv hm
 ·intro x hx hQ ⟨u,e⟩ hv hm
  obtain rfl:"str.lower"=id:=jf hm
  have hf:=PV.ret1 O AO R hQ
  have hlen:x.length < 100000:=by have:=fitSt hf.1;rw [lowL_map,List.length_map] at this;exact this
  rw [e,Rs_nil hv]
  refine .of (SCL.lower (by rw [qr];omega) fun _=>?_)
  rw [lower_eq hx]
  exact hf.2 _ (t+1) ⟨t,rfl⟩
 ·exact fun x k ls hl hQ ⟨u,e⟩ hv hm=>(Rs_one hv).elim fun vy h=>(R.cell k _ hl).2.elim fun vs hp=>jf hm▸e▸h.1▸(show vy=.ref (W.ρ k) from h.2.2)▸.of (p_join O AO R hp.2 (.inl hp.1.isList) hQ)
 ·exact fun x xs hQ ⟨u,e⟩ hv hm=>(Rs_one hv).elim fun vy h=>h.2.elim fun D h2=>h2.elim fun vs h2=>jf hm▸e▸h.1▸h2.1▸.of (p_join O AO R h2.2.2 (.inr h2.2.1) hQ)
 ·exact fun x c hb hQ ⟨u,e⟩ hv hm=>(Rs_one hv).elim fun vy h=>h.2.elim fun u' e'=>jf hm▸e▸h.1▸e'▸.of (p_split O AO R hb hQ)
 ·exact fun x hx hQ ⟨u,e⟩ hv hm=>(Rs_one hv).elim fun vy h=>h.2.elim fun u' e'=>jf hm▸e▸h.1▸e'▸.of (p_encode O AO R hx hQ)
theorem p_methLi {k:Nat} {li:List AV} (hl:qb W.s k (.li li)) {a:Nat} {x:AV} {vx:Value} {id:String} (hx:W.R V x vx) (hm:mId 3 a=some id) {sh:Shared} {t:Nat} {Q:VP} {E:VP} (hQ:PV w.params V Hz fs l C W loc sh (methLi k li a x W.s) Q E):
  wpR (model prog w) A (call (.builtin id) [.ref (W.ρ k),vx] []) Q E (at' sh W t):=by
 refine methLi_elim (PP:=fun r=>PV w.params V Hz fs l C W loc sh r Q E) (M:=fun o a as=>∀ x,as=[x]->W.R V x vx->mId 3 a=some id->wpR (model prog w) A (call (.builtin id) [.ref (W.ρ k),vx] []) Q E (at' sh W t)) (fun _ h=>h) ?_ ?_ ?_ hQ x rfl hx hm
 ·exact fun x hlt hQ y e hx hm=>jf hm▸.of (p_append O AO R hl ((List.cons.inj e).1▸hx) hlt hQ)
 ·exact fun j lj hj hlt hQ y e hx hm=>jf hm▸(show vx=.ref (W.ρ j) from ((List.cons.inj e).1▸hx:W.R V (.ce j) vx).2)▸.of (p_extend O AO R hl hj hlt hQ)
 ·exact fun x xs n hs hf hn hQ y e hx hm=>((List.cons.inj e).1▸hx:W.R V (.st x) vx).elim fun u e=>jf hm▸e▸.of (p_index O AO R hl hs hf hQ (by omega))
include hsm
theorem p_methB {o:AV} {vo:Value} {a:Nat} {as:List AV} {vs:List Value} {id:String} (ho:W.R V o vo) (hv:W.Rs V as vs) (hm:mId (mkind o W.s) a=some id):Does prog w V Hz A fs l C W loc (call (.builtin id) (vo :: vs) []) (methB o a as W.s):=by
 intro sh t Q E hQ
 induction o using AV.casesOn with
 |st x=>exact p_methSt O AO R ho hv hm hQ
 |«by» sep=>
  refine methBy_elim (PP:=fun r=>PV w.params V Hz fs l C W loc sh r Q E) (fun _ h=>h) hQ fun k ls xs e1 e2 hl hb hQ=>?_
  have hv:W.Rs V [.ce k] vs:=e1▸hv
  have hm:mId 2 3=some id:=e2▸hm
  exact (Rs_one hv).elim fun vy h=>(R.cell k _ hl).2.elim fun vs hp=>jf hm▸h.1▸(show vy=.ref (W.ρ k) from h.2.2)▸.of (p_bjoin O AO R ho hb hp.2 hp.1.isList hQ)
 |ce k=>
  have e0:vo=.ref (W.ρ k):=ho.2
  subst e0
  refine methCe_elim (PP:=fun r=>PV w.params V Hz fs l C W loc sh r Q E) (fun _ h=>h) hQ (fun li x e hl hQ=>?_) (fun li n e ea hn hlt hl hQ=>?_) fun es x d e ea hl hQ=>?_
  ·have hv:W.Rs V [x] vs:=e▸hv
   have hm:mId 3 a=some id:=mkind_li hl▸hm
   exact (Rs_one hv).elim fun vx h=>h.1▸p_methLi O AO R hl h.2 hm hQ
  ·have hv:W.Rs V [.it (.ofNat n)] vs:=e▸hv
   have hm:mId 4 8=some id:=mkind_ba hl▸ea▸hm
   exact (Rs_one hv).elim fun vx h=>(show ∃ t,vx=.int (.ofNat n) t from h.2).elim fun u e'=>jf hm▸h.1▸e'▸p_ba O AO R hl hn hlt hQ
  ·have hv:W.Rs V [.st x,d] vs:=e▸hv
   have hm:mId 5 6=some id:=mkind_di hl▸ea▸hm
   exact (Rs_cons hv).elim fun v1 h=>h.elim fun s1 h=>(Rs_one h.2.2).elim fun v2 h2=>(show ∃ t,v1=.str (jk x) t from h.2.1).elim fun u e'=>jf hm▸h.1▸h2.1▸e'▸.of (p_dget O AO R hsm hl h2.2 hQ)
 |_=>exact hQ.elim
end
noncomputable def excC:Addr:=match nth qk 0 with
 |some a=>a
 |none=>0
structure KF (K:Frag):Prop where
 fn:∀ k fi,ftab.get k=some fi->fnIn K fi.addr=true
 cl:∀ k a,nth qk k=some a->keepIn K (.ref a)=true
 ex:∀ k a,nth qk k=some a->k < 7->mroIn K a (.type "BaseException")=some true/\typeIn K (.ref a)=some (.type "type")/\mroIn K a (.ref excC)=some true
 c0:instIn K (.ref excC) (.type "tuple")=some false
theorem fn_obj {K:Frag} {a:Addr} (h:fnIn K a=true):∃ c d fd sl,K.lookup a=some ⟨c,d,.func fd,sl⟩:=by
 unfold fnIn at h
 split at h
 ·exact ⟨_,_,_,_,by assumption⟩
 ·exact (jh h).elim
theorem cls_obj {K:Frag} {a:Addr} {base:Value} {r:Bool} (h:mroIn K a base=some r):∃ c d cd sl,K.lookup a=some ⟨c,d,.cls cd,sl⟩:=by
 obtain ⟨cd,h1,_⟩:=Option.bind_eq_some_iff.mp h
 unfold clsIn at h1
 split at h1
 ·exact ⟨_,_,_,_,by assumption⟩
 ·exact (jg _ h1.symm).elim
section
variable {prog:Program} {w:World} {V:Vl} {Hz:Heap} {p:Par} {fs:List Addr} {l:List Env} {C:EC} {W:Wd} {loc:List AV} {A:Around} {cd:Nat} {K:Frag}
variable (KX:K.In Hz) (F:KF K) (R:Rel V w.params Hz fs C W loc)
include KX F R
theorem p_keep {f:AV} {fv:Value} (hf:W.R V f fv) (hc:calleeB f=true):∃ k,(k=Keeper.frame \/ k=Keeper.machine \/ k=Keeper.boundFrame)/\Looks (model prog w) W.h (keeperOf fv) k:=by
 have X:K.In W.h:=KX.keeps R.base
 induction f using AV.casesOn with
 |fn k=>
  obtain ⟨fi,hk,rfl⟩:=hf
  refine keeps_K ?_ _ X
  obtain ⟨c,d,fd,sl,h⟩:=fn_obj (F.fn k fi hk)
  unfold keepIn
  simp only [h]
 |kl k=>
  obtain ⟨a,hk,rfl⟩:=hf
  exact keeps_K (F.cl k a hk) _ X
 |bi b=>
  have hf:fv=biV b:=hf
  subst hf
  refine ⟨.machine,.inr (.inl rfl),Looks.of_pure ?_⟩
  induction b<;>rfl
 |bm i k=>
  obtain ⟨_,a,o,fi,x,rfl,hk,ho,hcl,hd,_⟩:=hf
  obtain ⟨c,d,fd,sl,h⟩:=fn_obj (F.fn k fi hk)
  refine ⟨.boundFrame,.inr (.inr rfl),(Looks.ld (part:=none) ho).andThen ?_⟩
  rw [hd,hcl]
  exact (Looks.ld (part:=none) (X _ _ h)).andThen .now
 |_=>exact (jh hc).elim
theorem p_rai {env:Env} (AO:AOk cd l fs A) {x:Sem Value} {sh:Shared} {t:Nat} {Q:Flow->Shared->Prop} {E:VP}
  (h:wpR (model prog w) A x (fun v s₁=>∃ W' i k t',s₁=at' sh W' t'/\v=.ref (W'.ρ i)/\k < 7/\qb W'.s i (.exc k)/\Rel V w.params Hz fs C W' loc/\E v s₁) E (at' sh W t)):wpR (model prog w) A (raiseStmt env (some x) none) Q E (at' sh W t):=by
 unfold raiseStmt
 dsimp only
 refine jr (jq h (fun v s₁ h₁=>?_) fun _ _ x=>x)
 obtain ⟨W',i,k,t',rfl,rfl,hk7,hl,R',hE⟩:=h₁
 have X:K.In W'.h:=KX.keeps R'.base
 obtain ⟨_,Ck,o,hC,ho,hcl,a0,a5,hd⟩:=R'.cell i _ hl
 obtain ⟨f1,f2,f3⟩:=F.ex k Ck hC hk7
 refine .of ?_
 have hnt:∀ {Q':Bool->Shared->Prop},Q' false (at' sh W' t')->wpAny (model prog w) A (isType (.ref (W'.ρ i))) Q' E (at' sh W' t'):=by
  intro Q' hq
  simp only [isType,loadHead]
  refine jc (wpAny_loadPart ho ?_)
  rw [hd];exact ji hq
 have hty:∀ {Q':VP},Q' (.ref Ck) (at' sh W' t')->wpAny (model prog w) A (typeOf (.ref (W'.ρ i))) Q' E (at' sh W' t'):=by
  intro Q' hq
  simp only [typeOf]
  refine jc (wpAny_load ho (ji ?_))
  rw [hcl];exact hq
 refine jc (ji ?_)
 dsimp only
 refine jc (wpAny_holding ?_)
 unfold excFromValue isExcClass
 refine jc (jc (hnt ?_))
 simp only [Bool.false_eq_true,if_false]
 refine ji ?_
 simp only [Bool.false_eq_true,if_false]
 refine jc (m:=isInstance _ _) ?_
 unfold isInstance
 refine jc (hty ((looks_mroIn X f1).here ?_))
 simp only [if_true]
 refine ji ?_
 refine jc (hnt ?_)
 simp only [Bool.false_eq_true,if_false]
 unfold raisedInstance
 refine jc (jc (hty (jc ((looks_typeIn X f2).here ?_))))
 rw [if_pos (by decide)]
 refine ji ?_
 unfold setFlight raiseNew
 refine jc (jc (wpAny_field (i:=1) (x:=Value.none) ho hd rfl ?_))
 rw [if_neg (by decide)]
 refine ji (jc (wpAny_handled ?_))
 rw [AO.hd]
 first
  |exact wpAny_throw hE
  |exact jc (ji (wpAny_throw hE))
omit KX F in
theorem gl_at {env:Env} (G:Gd prog w V Hz) (EO:EnvOk C W.L env) {j:Nat} {q:Pos} {a:AV} (hg:gval C j=a) (hu:a ≠ .un) {sh:Shared} {t:Nat} {Q:VP} {E:VP} (h:∀ v,W.R V a v->Q v (at' sh W t)):
  wpAny (model prog w) A (eval (kj (.gl j q) C) env) Q E (at' sh W t):=by
 unfold gval at hg
 rw [qh] at hg
 induction hj:C.gls[j]? with
 |none=>rw [hj] at hg;exact absurd hg.symm hu
 |some g=>
  rw [hj] at hg
  simp only at hg
  induction hgt:gtab.get g with
  |none=>rw [hgt] at hg;exact absurd hg.symm hu
  |some q=>
   rw [hgt] at hg
   simp only at hg
   subst hg
   obtain ⟨hk,hd⟩:=EO.gls j g hj
   obtain ⟨mg,mb,hmg,hmb,hgl⟩:=G.glo
   rcases hgl g q hgt with e|⟨v,hv,hr⟩
   ·exact absurd e hu
   ·have hn:gname g=q.1:=by simp only [gname,hgt]
    rw [hn] at hk hd
    show wpAny (model prog w) A (eval (.Name (glName C j) _) env) Q E (at' sh W t)
    rw [glName_of hj hn]
    refine Name_function_global EO.kind hk ?_ hd
    have fin:=h v (hr W.h W.ρ W.s.nx R.base)
    have k1:W.h.Ns env.globals mg:=by rw [EO.gl];exact hmg.keeps R.base
    have k2:W.h.Ns env.builtins mb:=by rw [EO.bu];exact hmb.keeps R.base
    rcases hv with hv|⟨hn,hv⟩
    ·exact loadGlobal_global (s:=at' sh W t) k1 hv fin
    ·exact loadGlobal_builtin (s:=at' sh W t) k1 hn k2 hv fin
theorem p_tri {env:Env} {outer:List Env} (G:Gd prog w V Hz) (AO:AOk cd l fs A) (EO:EnvOk C W.L env) (hl:l=env :: outer) (hfr:env.frame=some W.L) {k:Nat} {e:Addr} {h:Heap} {sh:Shared} {t:Nat} {Q:Flow->Shared->Prop} {E:VP} (j:Nat) (hb:Bool) (q1 q2 q3 q4:Pos) (hg:gval C j=.kl 0) (hk7:k < 7) (hT:Thrown fs l W k e h)
  (hQ:∀ W' t',W'.L=W.L->W'.s=W.s->Rel V w.params Hz fs C W' (uns C.names)->Stp fs W W'->Q (.ret (.bool hb)) (at' sh W' t')):
  wpR (model prog w) A (noteFrame (.ref e) env) (fun _ s₂=>wpR (model prog w) A (setFlight (.ref e) none) (fun _ s₃=>wpR (model prog w) A (handleBy (.ref e) env [.ExceptHandler (some (kj (.gl j q1) C)) none [.Return (some (.Constant (.bool hb) 0 q2)) q3] q4]) Q E s₃) E s₂) E { at' sh W t with heap:=h }:=by
 obtain ⟨Ck,B,a0,hCk,hB,hup,hfl⟩:=hT
 subst hl
 obtain ⟨f1,f2,f3⟩:=F.ex k Ck hCk hk7
 have h46:nth qk 0=some excC:=rfl
 have f3':=(F.ex 0 excC h46 (by decide)).1
 have turn:∀ {h':Heap},B.StaysIn h'->W.h.UpToSlots h'->Rel V w.params Hz fs C { W with h:=h' } loc/\Stp fs W { W with h:=h' }:=by
  intro h' hs hu
  refine R.slots fun b o eb=>?_
  by_cases hbf:b ∈ fs
  ·obtain ⟨_,o',es,ep,e1,d⟩:=R.f0 b hbf
   rw [eb] at e1;obtain rfl:=jf e1
   obtain ⟨sl,e2⟩:=hu b o eb fun vs q=>by rw [d] at q;cases q
   exact ⟨_,e2,.inr ⟨hbf,sl,rfl⟩⟩
  ·exact ⟨o,hs b o (hB b o eb hbf),.inl rfl⟩
 refine .of (wpAny_looks_onW AO.fr hfr hfl fun h₄ hheld₄ hsm₄=>?_)
 refine .of (wpAny_landsW hheld₄ fun h₅ hfl₅ hsm₅=>?_)
 have hu5:W.h.UpToSlots h₅:=(hup.trans hsm₄).trans hsm₅
 obtain ⟨R5,S5⟩:=turn hfl₅.1 hu5
 obtain ⟨ob,hob,hobc⟩:=hfl₅.there
 refine .of (wpAny_handleBy_cons (codeAny_handlers_test ?_) (by intro q;cases q))
 have hs:({ { { at' sh W t with heap:=h } with heap:=h₄ } with heap:=h₅ }:Shared)=at' sh { W with h:=h₅ } t:=rfl
 show wpAny _ _ _ _ _ ({ { { at' sh W t with heap:=h } with heap:=h₄ } with heap:=h₅ }:Shared)
 rw [hs]
 refine gl_at R5 G EO hg (by intro q;cases q) fun v hv=>?_
 obtain ⟨a,ha,rfl⟩:=hv
 rw [h46] at ha
 obtain rfl:excC=a:=jf ha
 have X:K.In h₅:=KX.keeps R5.base
 obtain ⟨cc,dd,cdd,sll,hcls⟩:=cls_obj f3'
 have hty:∀ {A:Around} {E:VP} {Q':VP},Q' (.ref Ck) (at' sh { W with h:=h₅ } t)->wpAny (model prog w) A (typeOf (.ref e)) Q' E (at' sh { W with h:=h₅ } t):=by
  intro A E Q' hq
  simp only [typeOf]
  refine jc (wpAny_load hob (ji ?_))
  rw [hobc];exact hq
 unfold excMatches
 refine jc ((looks_instIn X F.c0).here ?_)
 rw [if_neg (by decide)]
 refine jc (ji ?_)
 dsimp only
 rw [List.forIn_cons]
 refine jc (jc (jc (m:=isExcClass _) ?_))
 unfold isExcClass
 have hty2:∀ {A:Around} {E:VP} {Q':Bool->Shared->Prop},Q' true (at' sh { W with h:=h₅ } t)->wpAny (model prog w) A (isType (.ref excC)) Q' E (at' sh { W with h:=h₅ } t):=by
  intro A E Q' hq
  simp only [isType,loadHead]
  exact jc (wpAny_loadPart (X _ _ hcls) (ji hq))
 refine jc (hty2 ?_)
 rw [if_pos rfl]
 refine (looks_mroIn X f3').here ?_
 rw [if_neg (by decide)]
 refine ji ?_
 dsimp only
 rw [List.forIn_nil]
 refine ji ?_
 refine jc (hty ?_)
 rw [List.forIn_cons]
 refine jc (jc (jc ((looks_mroIn X f3).here ?_)))
 rw [if_pos rfl]
 refine ji (ji (ji ?_))
 refine codeAny_handlers_suite (lands_againW hfl₅ fun h₆ hfl₆ hsm₆=>?_)
 obtain ⟨R6,S6⟩:=turn hfl₆.1 (hu5.trans hsm₆)
 refine wpAny_execs_cons (wpAny_Return_some (wpAny_Constant_bool ?_))
 have R7:=R6.unl (loc':=uns C.names) (qf _) (qp _)
 exact hQ { W with h:=h₆ } t rfl rfl R7 S6
end
noncomputable def Tr.all {α:Type} (f:α->Bool):Tr α->Bool
 |.nil=>true
 |.node v l r=>f v && (l.all f && r.all f)
set_option smartUnfolding false in
theorem Tr.of_all {α:Type} {f:α->Bool}:∀ {t:Tr α} {k:Nat} {v:α},t.all f=true->t.get k=some v->f v=true
 |.nil,_,_,_,h=>(jg _ h.symm).elim
 |.node v l r,0,x,ha,h=>jf h▸(jb.mp ha).1
 |.node v l r,k+1,x,ha,h=>J.b2 (Φ:=fun o=>o=some x) (b:=Nat.beq (k % 2) 0) (r1:=l.get (k / 2)) (r2:=r.get (k / 2)) h (fun _ h=>Tr.of_all (jb.mp (jb.mp ha).2).1 h) (fun _ h=>Tr.of_all (jb.mp (jb.mp ha).2).2 h)
theorem t_sup:gtab.all (fun p=>!(p.1 == ("super":Str)))=true:=by decide +kernel
noncomputable def scB (ec:EC) (sc:Scope):Bool:=
 sc.kind == .function && (sc.names.all fun x=>x.2 != .cell) && (sc.names.all fun x=>x.2 != .free) && (sc.names.all fun x=>x.2 != .local || sc.names.lookup x.1 == some .local) &&
 (ec.names.all fun x=>sc.names.lookup x == some .local && !(x == ("__debug__":Str))) && (ec.gls.all fun g=>sc.names.lookup (gname g) == some .globalImplicit && !(gname g == ("__debug__":Str))) && decide ec.names.Nodup
theorem ci_of {cc:CI} (h:scB cc.ec cc.sc=true):CiOk cc:=by
 unfold scB at h
 simp only [Bool.and_eq_true,List.all_eq_true,decide_eq_true_eq] at h
 obtain ⟨⟨⟨⟨⟨⟨h1,h2⟩,h3⟩,h4⟩,h5⟩,h6⟩,h7⟩:=h
 refine ⟨fun x hx=>by simpa using h2 x hx,fun x hx=>by simpa using h3 x hx,by simpa using h1,fun x hx hl=>?_,h7,fun i x hx=>?_,fun j g hg=>?_⟩
 ·have:=h4 x hx;rw [hl] at this;simpa using this
 ·have:=h5 x (List.mem_of_getElem? hx)
  exact ⟨by simpa using this.1,by simpa using this.2⟩
 ·have:=h6 g (List.mem_of_getElem? hg)
  exact ⟨by simpa using this.1,by simpa using this.2⟩
theorem t_ci:(ctab.zipIdx.all fun x=>freeC x.2 || scB x.1.ec x.1.sc)=true:=by decide +kernel
theorem t_wm:(wmeth.all fun x=>(ftab.get x.2).isSome)=true:=by decide +kernel
set_option smartUnfolding false in
theorem look_mem {α:Type}:∀ {l:List (Nat × α)} {a:Nat} {f:α},look l a=some f->(a,f) ∈ l
 |[],_,_,h=>(jg _ h.symm).elim
 |(j,d) :: r,a,f,h=>J.b2 (Φ:=fun o=>o=some f) (b:=Nat.beq j a) (r1:=some d) (r2:=look r a) h (fun e h=>by rw [je e,jf h];exact List.mem_cons_self) fun _ h=>List.mem_cons_of_mem _ (look_mem h)
theorem nth_get {α:Type} (l:List α) (i:Nat):nth l i=l[i]?:=qh l i
structure Base (prog:Program) (w:World) (V:Vl) (Hz:Heap) (p:Par) (K:Frag):Prop where
 O:VOk V p
 SO:SOk V p Hz
 KX:K.In Hz
 KO:KW K
 KF:KF K
 G:Gd prog w V Hz
 sm:∃ o,Hz.get? sysModules=some o
set_option tactic.hygienic true in
theorem prim {prog:Program} {w:World} {V:Vl} {Hz:Heap} {p:Par} {K:Frag} (B:Base prog w V Hz p K):Prim prog w V Hz p where
 bin AO R:=fun ha hb=>(p_bin B.O AO R ha hb).to
 cmp AO R:=fun ha hb=>fun hr=>fun hQ=>.of (p_cmp B.O AO R ha hb hr hQ)
 neg AO R:=fun ha=>(p_neg B.O AO R ha).to
 sub AO R:=fun ha hb x hx=>(p_sub B.O AO R ha hb x hx).to
 att AO R:=fun ha=>(p_att B.O AO R B.KX B.KO ha).to
 slc AO R:=fun h1 h2 h3 h4 x1 x2 x3 q a ha=>(p_slc B.O AO R B.SO h1 h2 h3 h4 x1 x2 x3 q a ha).to
 gm AO R:=fun ho hm=>fun hQ=>.of (p_gm B.O AO R ho hm hQ)
 methB AO R:=fun ho hv hm=>p_methB B.O AO R B.sm ho hv hm
 gi AO R:=fun hl hok hn hm=>fun ho=>fun hQ=>.of (p_gi B.O AO R B.KX B.KO hl hok hn hm ho hQ)
 dct AO R q:=(p_dct B.O AO R q).to
 keep R hf hc:=p_keep B.KX B.KF R hf hc
 iter AO R:=fun ha=>fun hn hP=>fun hQ=>.of (p_iter B.O AO R ha hn hP hQ)
 next AO R:=fun hn hP=>fun h1 h2=>.of (p_next B.O AO R hn hP h1 h2)
 it2 AO R:=fun hl hc=>fun hQ=>.of (p_it2 B.O AO R hl hc hQ)
 sat AO R:=fun ho ha=>fun hn hP=>fun hQ=>.of (p_sat B.O AO R B.KX B.KO ho ha hn hP hQ)
 ssu AO R:=fun ho hx ha=>fun hn hP=>fun hQ=>.of (p_ssu B.O AO R ho hx ha hn hP hQ)
 aug AO R:=fun ha hb hx=>fun hQ=>.of (p_aug B.O AO R ha hb hx hQ)
 rai AO R:=fun h=>p_rai B.KX B.KF R AO h
 tri AO EO hl hf R:=fun j hb q1 q2 q3 q4 hg hk hT hQ=>p_tri B.KX B.KF R B.G AO EO hl hf j hb q1 q2 q3 q4 hg hk hT hQ
 ci ci cc h hf:=by
  rw [nth_get] at h
  have:=List.all_eq_true.mp t_ci (cc,ci) (List.mem_zipIdx_iff_getElem?.mpr h)
  rw [hf,Bool.false_or] at this
  exact ci_of this
 wm a f h:=by
  have:=List.all_eq_true.mp t_wm _ (look_mem h)
  exact Option.isSome_iff_exists.mp this
 sup g p h:=by simpa using Tr.of_all t_sup h
theorem lk_none {l:List (Str × Value)} {n:Str} (h:n ∉ l.map (·.1)):l.lookup n=none:=by
 induction l with
 |nil=>rfl
 |cons x r ih=>
  obtain ⟨m,v⟩:=x
  simp only [List.map_cons,List.mem_cons,not_or] at h
  have:(n == m)=false:=by simpa using h.1
  simp only [List.lookup,this]
  exact ih h.2
set_option tactic.hygienic true in
theorem lk_some {l:List (Str × Value)} {n:Str} (h:n ∈ l.map (·.1)):(l.lookup n).isSome=true:=by
 induction l with
 |nil=>simp at h
 |cons x r ih=>
  obtain ⟨m,v⟩:=x
  simp only [List.map_cons,List.mem_cons] at h
  simp only [List.lookup]
  split
  ·rfl
  ·rename_i e
   rcases h with rfl|h
   ·simp at e
   ·exact ih h
theorem fm_self:∀ {l:List (Str × Value)},(l.map (·.1)).Nodup->(l.map (·.1)).filterMap (fun n=>(l.lookup n).map fun x=>(n,x))=l
 |[],_=>rfl
 |(m,v) :: r,h=>by
  simp only [List.map_cons,List.nodup_cons] at h
  rw [List.map_cons,List.filterMap_cons]
  simp only [List.lookup,beq_self_eq_true,Option.map_some]
  congr 1
  have ih:=fm_self h.2
  conv=>rhs;rw [<- ih]
  have go:∀ ls:List Str,(∀ n ∈ ls,n ≠ m)->ls.filterMap (fun n=>(match n == m with|true=>some v|false=>r.lookup n).map fun x=>(n,x))=ls.filterMap (fun n=>(r.lookup n).map fun x=>(n,x)):=by
   intro ls
   induction ls with
   |nil=>intro _;rfl
   |cons n ls ih=>
    intro hn
    have e:(n == m)=false:=by rw [beq_eq_false_iff_ne];exact hn n List.mem_cons_self
    simp only [List.filterMap_cons,e]
    rw [ih fun y hy=>hn y (List.mem_cons_of_mem _ hy)]
  exact go _ fun n hn e=>h.1 (e▸hn)
noncomputable def addS (s:List (Str × Value)) (x:Str × Value):List (Str × Value):=if (s.lookup x.1).isNone then s ++ [x] else s
theorem fold_in:∀ (l acc:List (Str × Value)),(∀ x ∈ l,x.1 ∈ acc.map (·.1))->l.foldl addS acc=acc
 |[],_,_=>rfl
 |x :: r,acc,h=>by
  have hx:=lk_some (h x List.mem_cons_self)
  rw [List.foldl_cons]
  have:addS acc x=acc:=by
   unfold addS
   rw [if_neg]
   simp only [Bool.not_eq_true]
   induction hl:acc.lookup x.1 with
   |none=>rw [hl] at hx;exact (jh hx).elim
   |some _=>rfl
  rw [this]
  exact fold_in r acc fun y hy=>h y (List.mem_cons_of_mem _ hy)
theorem fold_new:∀ (l acc:List (Str × Value)),(l.map (·.1)).Nodup->(∀ x ∈ l,x.1 ∉ acc.map (·.1))->l.foldl addS acc=acc ++ l
 |[],acc,_,_=>by simp
 |x :: r,acc,hn,h=>by
  simp only [List.map_cons,List.nodup_cons] at hn
  rw [List.foldl_cons]
  have hx:=lk_none (h x List.mem_cons_self)
  have:addS acc x=acc ++ [x]:=by unfold addS;rw [hx];rfl
  rw [this,fold_new r _ hn.2 fun y hy=>?_]
  ·simp
  ·simp only [List.map_append,List.map_cons,List.map_nil,List.mem_append,List.mem_singleton,not_or]
   exact ⟨h y (List.mem_cons_of_mem _ hy),fun e=>hn.1 (e▸List.mem_map_of_mem hy)⟩
theorem forIn_fold {α σ:Type} (f:α->σ->Sem (ForInStep σ)) (g:σ->α->σ) (h:∀ x s,f x s=pure (.yield (g s x))):∀ (l:List α) (s:σ),forIn l s f=pure (l.foldl g s)
 |[],s=>rfl
 |x :: r,s=>by rw [List.forIn_cons,h,pure_bind];exact forIn_fold f g h r (g s x)
theorem zip_fst {α β:Type}:∀ (l:List α) (m:List β),l.length<=m.length->(l.zip m).map (·.1)=l
 |[],_,_=>rfl
 |a :: r,b :: m,h=>by simp only [List.zip_cons_cons,List.map_cons,zip_fst r m (by simpa using h)]
 |_ :: _,[],h=>by simp at h
theorem zip_fst' {α β:Type}:∀ (l:List α) (m:List β),(l.zip m).map (·.1)=l.take m.length
 |[],_=>by simp
 |a :: r,b :: m=>by simp only [List.zip_cons_cons,List.map_cons,zip_fst' r m,List.length_cons,List.take_succ_cons]
 |_ :: _,[]=>by simp
theorem slots_split (a c:List Str) (vs d1 d2:List Value) (hnd:(a ++ c).Nodup) (h1:a.length=vs.length) (h2:c.length=d2.length) (h3:d1.length<=a.length):
  (((a ++ c).drop (a.length - d1.length)).zip (d1 ++ d2)).foldl addS ((a ++ c).zip vs)=(a ++ c).zip (vs ++ d2):=by
 have e1:(a ++ c).zip vs=a.zip vs:=by
  have:(a ++ c).zip (vs ++ [])=a.zip vs ++ c.zip ([]:List Value):=List.zip_append h1
  rw [List.append_nil] at this
  rw [this];simp
 rw [e1,List.drop_append_of_le_length (Nat.sub_le _ _),List.zip_append (by rw [List.length_drop];exact Nat.sub_sub_self h3),List.zip_append h1,List.foldl_append]
 have hfst:(a.zip vs).map (·.1)=a:=zip_fst _ _ (Nat.le_of_eq h1)
 have hin:((a.drop (a.length - d1.length)).zip d1).foldl addS (a.zip vs)=a.zip vs:=fold_in _ _ fun x hx=>by
  rw [hfst]
  exact List.mem_of_mem_drop (List.of_mem_zip hx).1
 rw [hin]
 refine fold_new _ _ ?_ fun x hx=>?_
 ·rw [zip_fst']
  exact (List.Nodup.sublist (List.sublist_append_right a c) hnd).sublist (List.take_sublist _ _)
 ·rw [hfst]
  intro hm
  exact (List.nodup_append.mp hnd).2.2 _ hm _ (List.of_mem_zip hx).1 rfl
theorem slots_end (ns:List Str) (vs ds:List Value) (hnd:ns.Nodup) (h1:vs.length<=ns.length) (h2:ns.length - vs.length<=ds.length) (h3:ds.length<=ns.length):
  ((ns.drop (ns.length - ds.length)).zip ds).foldl addS (ns.zip vs)=ns.zip (vs ++ ds.drop (ds.length - (ns.length - vs.length))):=by
 have ens:ns.take vs.length ++ ns.drop vs.length=ns:=List.take_append_drop _ _
 have eds:ds.take (ds.length - (ns.length - vs.length)) ++ ds.drop (ds.length - (ns.length - vs.length))=ds:=List.take_append_drop _ _
 have hl1:(ns.take vs.length).length=vs.length:=List.length_take_of_le h1
 have hl2:(ds.take (ds.length - (ns.length - vs.length))).length=ds.length - (ns.length - vs.length):=List.length_take_of_le (Nat.sub_le _ _)
 have:=slots_split (ns.take vs.length) (ns.drop vs.length) vs (ds.take (ds.length - (ns.length - vs.length))) (ds.drop (ds.length - (ns.length - vs.length))) (by rw [ens];exact hnd) hl1 (by rw [List.length_drop,List.length_drop];exact (Nat.sub_sub_self h2).symm) (by rw [hl1,hl2];exact Nat.sub_le_iff_le_add.mpr (Nat.le_trans h3 (Nat.le_of_eq (Nat.add_sub_cancel' h1).symm)))
 rw [ens,eds,hl1,hl2] at this
 exact (Nat.sub_sub_right vs.length h2).trans (congrArg (· - ds.length) (Nat.add_sub_cancel' h1))▸this
theorem ite_y {c:Prop} [Decidable c] {σ:Type} {a b:σ}:(if c then (pure (ForInStep.yield a):Sem (ForInStep σ)) else pure (.yield b))=pure (.yield (if c then a else b)):=by
 by_cases h:c
 ·rw [if_pos h,if_pos h]
 ·rw [if_neg h,if_neg h]
abbrev BS:=List (Str × Value) × List (Str × Value)
noncomputable def bSk (sq:Sem (Option (Array Value))) (po as:List Arg) (va:Option Arg) (vs:List Value) (F0:Str × Value->BS->Sem (ForInStep BS)) (B1 B2:BS->Option (Array Value)->Sem (List (Str × Value))) (F:Str × Value->List (Str × Value)->Sem (ForInStep (List (Str × Value)))) (K:BS->List (Str × Value)->Sem (List (Str × Value))):Sem (List (Str × Value)):=
 forIn ([]:List (Str × Value)) (((po.map (·.arg) ++ as.map (·.arg)).zip vs,[]):BS) F0 >>= fun st=>sq >>= fun d=>
  let ps:=po.map (·.arg) ++ as.map (·.arg)
  let d1:=(d.getD #[]).toList
  let r2:=forIn ((ps.drop (ps.length - (d1.drop (d1.length - ps.length)).length)).zip (d1.drop (d1.length - ps.length))) st.1 F >>= fun s=>K st s
  let r1:=if (!((ps.take (ps.length - (d1.drop (d1.length - ps.length)).length)).filter fun n=>(st.1.lookup n).isNone).isEmpty)=true then B2 st d else r2
  if (decide (vs.length > ps.length) && va.isNone)=true then B1 st d else r1
theorem bSk_ok {M:Model} {A:Around} {E:VP} {s:Shared} {sq:Sem (Option (Array Value))} {ns:List Str} {vs ds:List Value} {po as:List Arg} {va:Option Arg} {Q:List (Str × Value)->Shared->Prop} (hp:po=[]) (ha:as.map (·.arg)=ns) (hnd:ns.Nodup)
  {r:Option (Array Value)} (hd:∀ {Q':Option (Array Value)->Shared->Prop},Q' r s->wpAny M A sq Q' E s) (hr:(r.getD #[]).toList=ds) (h1:vs.length<=ns.length) (h2:ns.length - vs.length<=ds.length) (h3:ds.length<=ns.length)
  {F0:Str × Value->BS->Sem (ForInStep BS)} {B1 B2:BS->Option (Array Value)->Sem (List (Str × Value))} {F:Str × Value->List (Str × Value)->Sem (ForInStep (List (Str × Value)))} {K:BS->List (Str × Value)->Sem (List (Str × Value))} (hF:∀ x s,F x s=pure (.yield (addS s x)))
  (hK:wpAny M A (K (ns.zip vs,[]) (ns.zip (vs ++ ds.drop (ds.length - (ns.length - vs.length))))) Q E s):wpAny M A (bSk sq po as va vs F0 B1 B2 F K) Q E s:=by
 subst hp ha hr
 have e1:(decide (vs.length > (as.map (·.arg)).length) && va.isNone)=false:=by rw [decide_eq_false (Nat.not_lt.mpr h1)];rfl
 have e2:(r.getD #[]).toList.drop ((r.getD #[]).toList.length - (as.map (·.arg)).length)=(r.getD #[]).toList:=by rw [Nat.sub_eq_zero_of_le h3];rfl
 have e3:(((as.map (·.arg)).take ((as.map (·.arg)).length - (r.getD #[]).toList.length)).filter fun n=>(((as.map (·.arg)).zip vs).lookup n).isNone)=[]:=by
  rw [List.filter_eq_nil_iff]
  intro n hn
  have:n ∈ ((as.map (·.arg)).zip vs).map (·.1):=by
   rw [zip_fst']
   exact (List.take_subset_take_left _ (Nat.sub_le_iff_le_add.mpr (Nat.le_trans (Nat.sub_le_iff_le_add'.mp h2) (jj _)))) hn
  have:=lk_some this
  induction hl:((as.map (·.arg)).zip vs).lookup n with
  |none=>rw [hl] at this;exact (jh this).elim
  |some _=>simp
 delta bSk
 rw [List.forIn_nil]
 refine jc (ji (jc (hd ?_)))
 show wpAny M A (if (decide (vs.length > (as.map (·.arg)).length) && va.isNone)=true then _ else if (!(((as.map (·.arg)).take ((as.map (·.arg)).length - ((r.getD #[]).toList.drop ((r.getD #[]).toList.length - (as.map (·.arg)).length)).length)).filter fun n=>(((as.map (·.arg)).zip vs).lookup n).isNone).isEmpty)=true then _ else (forIn (((as.map (·.arg)).drop ((as.map (·.arg)).length - ((r.getD #[]).toList.drop ((r.getD #[]).toList.length - (as.map (·.arg)).length)).length)).zip ((r.getD #[]).toList.drop ((r.getD #[]).toList.length - (as.map (·.arg)).length))) ((as.map (·.arg)).zip vs) F >>= fun s=>K ((as.map (·.arg)).zip vs,[]) s)) Q E s
 rw [e1,if_neg jh,e2,e3,if_neg (by decide),forIn_fold F addS hF,pure_bind,slots_end _ vs _ hnd h1 h2 h3]
 exact hK
theorem binds_gen {M:Model} {A:Around} {E:VP} {s:Shared} {fd:FuncData} {ns:List Str} {vs ds:List Value} {Q:List (Str × Value)->Shared->Prop} (hp:fd.params.posonlyargs=[]) (ha:fd.params.args.map (·.arg)=ns) (hk:fd.params.kwonlyargs=[]) (hv:fd.params.vararg=none) (hkw:fd.params.kwarg=none) (hnd:ns.Nodup)
  {r:Option (Array Value)} (hd:∀ {Q':Option (Array Value)->Shared->Prop},Q' r s->wpAny M A (seqItems? fd.defaults) Q' E s) (hr:(r.getD #[]).toList=ds) (h1:vs.length<=ns.length) (h2:ns.length - vs.length<=ds.length) (h3:ds.length<=ns.length)
  (hQ:Q (ns.zip (vs ++ ds.drop (ds.length - (ns.length - vs.length)))) s):wpAny M A (bindArgs fd ⟨vs,[]⟩) Q E s:=by
 refine bSk_ok (sq:=seqItems? fd.defaults) (va:=fd.params.vararg) hp ha hnd hd hr h1 h2 h3 ?_ ?_
 ·exact fun ⟨k,v⟩ s=>ite_y
 ·have hfst:(ns.zip (vs ++ ds.drop (ds.length - (ns.length - vs.length)))).map (·.1)=ns:=zip_fst _ _ (Nat.le_of_eq (by rw [List.length_append,List.length_drop,Nat.sub_sub_self h2];exact (Nat.add_sub_cancel' h1).symm))
  have hfm:=fm_self (l:=ns.zip (vs ++ ds.drop (ds.length - (ns.length - vs.length)))) (by rw [hfst];exact hnd)
  rw [hfst] at hfm
  simp only [hp,ha,hk,hv,hkw,List.map_nil,List.nil_append,List.append_nil,List.forIn_nil,pure_bind]
  rw [if_neg (by decide),hfm]
  exact ji hQ
section
variable {prog:Program} {w:World} {A:Around} {s:Shared} {R:Result->Shared->Prop}
set_option backward.match.sparseCases true in
theorem codeR_func {body:List Stmt} {env:Env}
  (h:wpR (model prog w) (A.deeper env) (execs body env) (fun f s'=>R (.ok (.ret (match f with|.ret v=>v|_=>.none))) s')
   (fun e s'=>wpR (model prog w) (A.deeper env) (leaving env e) (fun _ s''=>R (.error e) s'') (fun e' s''=>R (.error e') s'') s') s):
  kb (model prog w) A (.func body env) R s:=by
 refine ka ?_
 show wpR _ (A.deeper env) (do point;match <- (execs body env).onRaise (leaving env) with|.ret v=>ret v|_=>ret .none) _ _ s
 refine jr (wpR_point (jr (wpR_onRaise (jq h (fun f s' h'=>?_) fun _ _ h'=>h'))))
 induction f<;>exact jv h'
set_option backward.match.sparseCases true in
theorem codeR_call_def {a:Addr} {o:Obj} {fd:FuncData} {body:List Stmt} {args:Args} {binds:List (Str × Value)}
  (hroom:A.depth < recursionLimit) (ho:s.heap.get? a=some o) (hdata:o.data=.func fd) (hlim:s.heap.NoLimit) (hcd:s.heap.CodeRec fd.code fd.qualname)
  (hbody:fd.body=.stmts body) (hbind:BindsTo s fd args binds)
  (hcell:∀ x ∈ fd.scope.names,x.2 ≠ .cell) (hloc:∀ x ∈ binds,fd.scope.names.lookup x.1=some .local)
  (h:∀ h₀,h₀.Ns s.heap.objs.size (fun x=>binds.reverse.lookup x)->(∀ b o,s.heap.get? b=some o->h₀.get? b=some o)->
   wpR (model prog w) (A.deeper (callEnv fd s.heap.objs.size a)) (execs body (callEnv fd s.heap.objs.size a)) (fun f s'=>R (.ok (.ret (match f with|.ret v=>v|_=>.none))) s')
    (fun e s'=>wpR (model prog w) (A.deeper (callEnv fd s.heap.objs.size a)) (leaving (callEnv fd s.heap.objs.size a) e) (fun _ s''=>R (.error e) s'') (fun e' s''=>R (.error e') s'') s')
    { s with heap:=h₀,toks:=s.toks+binds.length })
  (hco:fd.scope.isCoroutine=false) (hgen:fd.scope.isGenerator=false) (hk:fd.scope.kind=.function):
  kb (model prog w) A (.call (.ref a) args) R s:=by
 refine ka ?_
 show wpR _ A.in1 (callAny (.ref a) args) _ _ s
 simp only [callAny]
 refine jr (.of (wpAny_load ho ?_))
 obtain ⟨c,oc,vs,tq,hc,hoc,hdc,hq⟩:=hcd
 simp only [hdata,callFunction,hco,hgen,hbody,hc]
 simp only [callEnv,hc] at h
 refine jr (m:=field (.ref c) 1) (.of (wpAny_field hoc hdc hq (jr (jv ?_))))
 refine jr (.of (hbind _ _ _ _ (jr ?_)))
 refine gc hcell hloc (fun h₀ hns₀ hsb₀=>?_) hk
 refine jr (.of (wpAny_enterFrame (hlim.fresh _ hsb₀) hroom (jv ⟨rfl,rfl,codeR_func ?_⟩)))
 have:=h h₀ hns₀ fun b o e=>hsb₀.extBut b o (Nat.ne_of_lt (Heap.lt_size e)) (ja _ e)
 exact this
end
theorem dropN_sub:∀ (l:List (Nat × Cell)) (n:Nat),List.Sublist (dropN l n) l
 |[],_=>.slnil
 |(i,c) :: r,n=>by
  simp only [dropN]
  split
  ·exact .cons _ (dropN_sub r n)
  ·exact .refl _
theorem ff_of {h base:Heap}:∀ {l:List Env},(∀ env ∈ l,env.scope.kind ≠ .module/\∃ L,env.frame=some L)->(∀ L ∈ l.filterMap (·.frame),base.get? L=none/\∃ o es ep,h.get? L=some o/\o.data=.dict es ep)->h.FunFrames base l
 |[],_,_=>trivial
 |env :: r,hk,hf=>by
  obtain ⟨k1,L,hL⟩:=hk env List.mem_cons_self
  have hm:L ∈ (env :: r).filterMap (·.frame):=List.mem_filterMap.mpr ⟨env,List.mem_cons_self,hL⟩
  obtain ⟨a,o,es,ep,b,d⟩:=hf L hm
  refine ⟨k1,⟨L,o,hL,a,b,fun vs q=>by rw [d] at q;cases q⟩,ff_of (fun e he=>hk e (List.mem_cons_of_mem _ he)) fun L' hL'=>hf L' ?_⟩
  obtain ⟨e,he,hfe⟩:=List.mem_filterMap.mp hL'
  exact List.mem_filterMap.mpr ⟨e,List.mem_cons_of_mem _ he,hfe⟩
section
variable {prog:Program} {w:World} {V:Vl} {Hz:Heap} {fs:List Addr} {l:List Env} {C:EC} {W:Wd} {loc:List AV} {A:Around} {cd:Nat}
theorem k_leave (AO:AOk cd l fs A) (R:Rel V w.params Hz fs C W loc) {env:Env} {L':Addr} {h₁:Heap} (hk:∀ b o,W.h.get? b=some o->h₁.get? b=some o) (hLn:W.h.get? L'=none) (hf:env.frame=some L') (hkd:env.scope.kind ≠ .module)
  {C':EC} {loc':List AV} {W2:Wd} (hL2:W2.L=L') (R2:Rel V w.params Hz (L' :: fs) C' W2 loc') (S2:Stp (L' :: fs) { W with h:=h₁,L:=L' } W2) {k:Nat} {e:Addr} {h:Heap} (hr:Raised (L' :: fs) (env :: l) W2 k e h) {sh:Shared} {t:Nat} {E E':VP}
  (hE:exE w.params V Hz fs l C W sh k W2.s E):wpAny (model prog w) (A.deeper env) (leaving env (.ref e)) (fun _ s=>E (.ref e) s) E' { at' sh W2 t with heap:=h }:=by
 obtain ⟨R3,S3⟩:=R.back (fs':=L' :: fs) (L':=L') hk hLn (fun b hb=>(List.mem_cons.mp hb).symm) (fun b hb=>List.mem_cons_of_mem _ hb) hL2 R2 S2
 have hno:∀ b o,W.h.get? b=some o->b ≠ L':=fun b o e q=>by rw [q,hLn] at e;exact (jg _ e.symm).elim
 have F:Off Hz fs W { W2 with L:=W.L } L':=by
  obtain ⟨m,hm,_⟩:=R2.ns
  rw [hL2] at hm
  refine ⟨⟨m,hm⟩,?_,?_,?_,fun i c hl=>?_,fun o q=>absurd rfl (hno _ _ q)⟩
  ·obtain ⟨_,⟨o,_,_,e,_⟩,_⟩:=R.ns
   exact (hno _ _ e).symm
  ·intro q
   obtain ⟨_,o,_,_,e,_⟩:=R.f0 _ q
   exact hno _ _ e rfl
  ·induction e:Hz.get? L' with
   |none=>rfl
   |some o=>exact absurd rfl (hno _ _ (R.base _ _ e))
  ·have:=R2.nL i c hl
   rw [hL2] at this;exact this
 obtain ⟨R4,S4⟩:=R3.off S3 F (h':=hideAll W2.h [L']) fun b o hb e=>hideAll_get _ e fun q=>hb (List.mem_singleton.mp q)
 have R5:=R4.unl (loc':=uns C.names) (qf _) (qp _)
 have hfr:(A.deeper env).frames=some (env :: l):=by show A.frames.map _=_;rw [AO.fr];rfl
 have hb1:∀ b o,(hideAll W2.h [L']).get? b=some o->b ≠ L':=fun b o e q=>by
  rw [q,hideAll_none _ (List.mem_singleton.mpr rfl)] at e;exact (jg _ e.symm).elim
 rcases hr with ⟨Ck,B,a0,hCk,hB,hup,hfl⟩|⟨Ck,oe,hCk,hkp,hen,he,hc,a0,a5,hd⟩
 ·refine wpAny_leaves_onW hfr hf hfl fun h' hfl' hup'=>?_
  refine hE e { W2 with L:=W.L,h:=hideAll W2.h [L'] } h' t rfl rfl R5 S4 ⟨Ck,B,a0,hCk,fun b o eb hbf=>?_,fun b o eb hn=>?_,hfl'⟩
  ·exact hB b o (of_hideAll _ eb) fun q=>(List.mem_cons.mp q).elim (hb1 b o eb) hbf
  ·exact (hup.trans hup') b o (of_hideAll _ eb) hn
 ·have hff:h.FunFrames (hideAll W2.h (L' :: fs)) (env :: l):=by
   refine ff_of (fun env' he'=>?_) fun L hL=>?_
   ·rcases List.mem_cons.mp he' with rfl|he'
    ·exact ⟨hkd,L',hf⟩
    ·exact AO.lk env' he'
   ·have hL:L ∈ L' :: fs:=by
     simp only [List.filterMap_cons,hf,AO.fs] at hL
     exact hL
    obtain ⟨_,o,es,ep,e1,d⟩:=R2.f0 L hL
    exact ⟨hideAll_none _ hL,o,es,ep,hkp _ _ e1,d⟩
  refine wpAny_leaving_firstW (base:=hideAll W2.h (L' :: fs)) (a0:=a0) hfr hff hf he (fun b o q=>hkp b o (of_hideAll _ q)) ?_ hd rfl rfl fun h' hL=>?_
  ·induction q:(hideAll W2.h (L' :: fs)).get? e with
   |none=>rfl
   |some o=>have:=of_hideAll _ q;rw [hen] at this;exact (jg _ this.symm).elim
  obtain ⟨k1,⟨_,_,k2⟩,k3,k4⟩:=hL
  rw [hc] at k3
  refine hE e { W2 with L:=W.L,h:=hideAll W2.h [L'] } h' t rfl rfl R5 S4 ⟨Ck,hideAll W2.h (L' :: fs),a0,hCk,fun b o eb hbf=>?_,fun b o eb hn=>?_,⟨k1,?_,k2,k3⟩⟩
  ·exact hideAll_get _ (of_hideAll _ eb) fun q=>(List.mem_cons.mp q).elim (hb1 b o eb) hbf
  ·exact k4 b o (hkp _ _ (of_hideAll _ eb)) hn
  ·induction q:(hideAll W2.h (L' :: fs)).get? e with
   |none=>rfl
   |some o=>have:=of_hideAll _ q;rw [hen] at this;exact (jg _ this.symm).elim
end
structure FnOk (V:Vl) (Hz:Heap) (fi:FI):Prop where
 ex:∃ o fd,Hz.get? fi.addr=some o/\o.data=.func fd/\fd.body=.stmts (kr fi.body fi.ec)/\scB fi.ec fd.scope=true/\fd.scope.isCoroutine=false/\fd.scope.isGenerator=false/\
  fd.globals=mainGlobals/\fd.builtins=builtinsNs/\Hz.CodeRec fd.code fd.qualname/\fd.params.posonlyargs=[]/\fd.params.kwonlyargs=[]/\fd.params.vararg=none/\fd.params.kwarg=none/\
  fd.params.args.map (·.arg)=fi.ec.names.take fi.np/\fi.np<=fi.ec.names.length/\fi.dfl.length<=fi.np/\
  ((fi.dfl=[]/\fd.defaults=.none) \/ ∃ T items o n,fd.defaults=.ref T/\Hz.get? T=some o/\o.data=.seq items n/\∀ h ρ nx,ky V h ρ nx fi.dfl items.toList)
theorem ar1 {d c L:Nat} (h:d+4 * (c+1)+20 < L):d+1+4 * c+20 < L:=by omega
theorem ar2 {d c L:Nat} (h:d+40 * (c+1)+100 < L):d+3+40 * c+100 < L:=by omega
theorem lookup_rev {l:List (Str × Value)} (hnd:(l.map (·.1)).Nodup) {x:Str} {v:Value} (h:(x,v) ∈ l):l.reverse.lookup x=some v:=by
 have go:∀ {l:List (Str × Value)},(l.map (·.1)).Nodup->(x,v) ∈ l->l.lookup x=some v:=by
  intro l
  induction l with
  |nil=>intro _ h;cases h
  |cons y r ih=>
   intro hn h
   obtain ⟨k,u⟩:=y
   simp only [List.map_cons,List.nodup_cons] at hn
   rcases List.mem_cons.mp h with e|h
   ·cases e;simp [List.lookup]
   ·have hne:(x == k)=false:=by
     rw [beq_eq_false_iff_ne];intro e
     exact hn.1 (e▸List.mem_map_of_mem (f:=(·.1)) h)
    simp only [List.lookup,hne]
    exact ih hn.2 h
 exact go (by rw [List.map_reverse];exact (List.reverse_perm _).nodup_iff.mpr hnd) (List.mem_reverse.mpr h)
theorem ku.drop' {T:Nat->Value->Prop} {V:Vl} {h:Heap} {ρ:Nat->Addr} {nx:Nat} {l:List AV} {vs:List Value} (n:Nat) (x:ku T V h ρ nx l vs):ku T V h ρ nx (l.drop n) (vs.drop n):=reps_drop n x
section
variable {prog:Program} {w:World} {V:Vl} {Hz:Heap} {p:Par} {fs:List Addr} {l:List Env} {C:EC} {W:Wd} {loc:List AV} {A:Around} {cd:Nat} {ih:RunTy}
theorem PV.noCe (R:Rel V w.params Hz fs C W loc) {n0:Nat} {a:AV} {v:Value} {sh:Shared} {t:Nat} {W₀:Wd} {Q:VP} {E:VP} (hL:W.L=W₀.L) (S:Stp fs W₀ W) (ha:W.R V a v) (h:PV w.params V Hz fs l C W₀ loc sh (noCe n0 a W.s) Q E):Q v (at' sh W t):=by
 unfold Mine.noCe at h
 induction hf:AV.free a with
 |false=>rw [hf] at h;exact h v W t hL rfl R S ha
 |true=>
  rw [hf] at h
  simp only [fSp_eq] at h
  obtain ⟨R',S'⟩:=R.sub (s':=⟨dropN W.s.sto n0,W.s.nx⟩) rfl (dropN_sub _ _)
  exact h v { W with s:=⟨dropN W.s.sto n0,W.s.nx⟩ } t hL rfl R' (S.trans S') (S'.R ha)
set_option tactic.hygienic true in
theorem d_fnKX (G:Gd prog w V Hz) {fi:FI} (FO:FnOk V Hz fi) (AO:AOk (cd+1) l fs A) (R:Rel V w.params Hz fs C W loc) {as:List AV} {vs:List Value} (hv:W.Rs V as vs)
  (hX:∀ bs,bindA fi.np fi.dfl as=some bs->∀ {fs':List Addr} {l':List Env} {W':Wd} {A':Around} {env':Env},AOk cd l' fs' A'->EnvOk fi.ec W'.L env'->TopOk l' W'.L env'->Rel V w.params Hz fs' fi.ec W' (bs ++ uns (fi.ec.names.drop fi.np))->W'.s=W.s->
   DoesF prog w V Hz A' fs' l' fi.ec W' (execs (kr fi.body fi.ec) env') (ih cd fi.ec (bs ++ uns (fi.ec.names.drop fi.np)) W.s (.ex fi.body))):
  DoesK prog w V Hz A fs l C W loc (.call (.ref fi.addr) ⟨vs,[]⟩) (k_fn2 ⟨p,ih⟩ cd W.s fi as):=by
 intro sh t Q E hQ
 simp only [k_fn2] at hQ
 induction hb:bindA fi.np fi.dfl as with
 |none=>rw [hb] at hQ;exact hQ.elim
 |some bs=>
  rw [hb] at hQ
  simp only [fSp_eq] at hQ
  obtain ⟨o,fd,ho,hd,hbody,hsc,hco,hgen,hgl,hbu,hcd,hp1,hp2,hp3,hp4,hargs,hnp,hdl,hdf⟩:=FO.ex
  have CO:=ci_of (cc:=⟨fi.ec,fd.scope⟩) hsc
  have hb0:=hb
  unfold bindA at hb
  induction hb1:Nat.ble as.length fi.np with
  |false=>rw [hb1] at hb;exact (jg _ hb.symm).elim
  |true=>
  rw [hb1] at hb
  simp only at hb
  induction hb2:Nat.ble (fi.np - as.length) fi.dfl.length with
  |false=>rw [hb2] at hb;exact (jg _ hb.symm).elim
  |true=>
  rw [hb2] at hb
  simp only [Option.some.injEq] at hb
  have g1:as.length<=fi.np:=ble_le hb1
  have g2:fi.np - as.length<=fi.dfl.length:=ble_le hb2
  have hlv:vs.length=as.length:=ku.length hv
  have hln:(fi.ec.names.take fi.np).length=fi.np:=List.length_take_of_le hnp
  have hnd:(fi.ec.names.take fi.np).Nodup:=CO.nd.sublist (List.take_sublist _ _)
  obtain ⟨ds,hds,hdr⟩:∃ ds:List Value,W.Rs V fi.dfl ds/\BindsTo (at' sh W t) fd ⟨vs,[]⟩ ((fi.ec.names.take fi.np).zip (vs ++ ds.drop (ds.length - (fi.np - vs.length)))):=by
   rcases hdf with ⟨h1,h2⟩|⟨T,items,oT,n,h1,h2,h3,h4⟩
   ·refine ⟨[],by rw [h1];rfl,fun M A E Q hq=>?_⟩
    rw [h1] at g2
    refine binds_gen hp1 hargs hp2 hp3 hp4 hnd (r:=none) (fun hq'=>by rw [h2];exact ji hq') rfl (by rw [hln,hlv];exact g1) (by rw [hln,hlv];exact g2) (Nat.zero_le _) ?_
    rw [hln];exact hq
   ·have hl:items.toList.length=fi.dfl.length:=ku.length (h4 W.h W.ρ W.s.nx)
    refine ⟨items.toList,h4 _ _ _,fun M A E Q hq=>?_⟩
    refine binds_gen (ds:=items.toList) hp1 hargs hp2 hp3 hp4 hnd (r:=some items) (fun hq'=>by rw [h1];exact wpAny_seqItems (R.base _ _ h2) h3 hq') rfl (by rw [hln,hlv];exact g1) (by rw [hln,hlv,hl];exact g2) (by rw [hl,hln];exact hdl) ?_
    rw [hln];exact hq
  have hds':=ku.length hds
  have hbs:W.Rs V bs (vs ++ ds.drop (ds.length - (fi.np - vs.length))):=by
   rw [<- hb,hds',hlv]
   exact ku.app hv (ku.drop' _ hds)
  have hlb:bs.length=fi.np:=by rw [<- hb,List.length_append,List.length_drop,Nat.sub_sub_self g2];exact Nat.add_sub_cancel' g1
  have hlvb:(vs ++ ds.drop (ds.length - (fi.np - vs.length))).length=fi.np:=by rw [ku.length hbs,hlb]
  generalize hus:vs ++ ds.drop (ds.length - (fi.np - vs.length))=us at hdr hbs hlvb
  have hkeys:(((fi.ec.names.take fi.np).zip us).map (·.1))=fi.ec.names.take fi.np:=zip_fst _ _ (Nat.le_of_eq (hln.trans hlvb.symm))
  have hloc:∀ x ∈ (fi.ec.names.take fi.np).zip us,fd.scope.names.lookup x.1=some .local:=fun x hx=>by
   have hm:x.1 ∈ fi.ec.names:=List.mem_of_mem_take (List.of_mem_zip hx).1
   obtain ⟨i,hi⟩:=List.getElem?_of_mem hm
   exact (CO.names i x.1 hi).1
  refine codeR_call_def (Nat.lt_of_le_of_lt (Nat.le_trans (Nat.le_add_right _ _) (Nat.le_add_right _ _)) AO.dp) (R.base _ _ ho) hd (G.nl.keeps R.base) (hcd.keeps R.base) hbody hdr CO.cell hloc (fun h₁ hns hk=>?_) hco hgen CO.kind
  have hLn:W.h.get? W.h.objs.size=none:=Heap.get?_none_of_le (jj _)
  have hlocs:(bs ++ uns (fi.ec.names.drop fi.np)).length=fi.ec.names.length:=by rw [List.length_append,qf,List.length_drop,hlb];exact Nat.add_sub_cancel' hnp
  obtain ⟨R1,S1⟩:=R.enter (fs':=W.h.objs.size :: fs) (C':=fi.ec) (loc':=bs ++ uns (fi.ec.names.drop fi.np)) hk hLn hlocs hns (fun b hb=>(List.mem_cons.mp hb).symm) (fun i x a e1 e2=>by
   by_cases hi:i < fi.np
   ·rw [List.getElem?_append_left (Nat.lt_of_lt_of_eq hi hlb.symm)] at e2
    obtain ⟨v,hv1,hv2⟩:=ku.nth hbs e2
    refine .inr ⟨v,?_,hv2⟩
    refine lookup_rev (by rw [hkeys];exact hnd) ?_
    have:((fi.ec.names.take fi.np).zip us)[i]?=some (x,v):=by
     rw [List.getElem?_zip_eq_some]
     exact ⟨by rw [List.getElem?_take_of_lt hi];exact e1,hv1⟩
    exact List.mem_of_getElem? this
   ·rw [List.getElem?_append_right (Nat.le_trans (Nat.le_of_eq hlb) (Nat.le_of_not_lt hi))] at e2
    exact .inl (qp _ _ _ e2))
  have AO1:AOk cd (callEnv fd W.h.objs.size fi.addr :: l) (W.h.objs.size :: fs) (A.deeper (callEnv fd W.h.objs.size fi.addr)):=by
   refine ⟨AO.hd,?_,?_,?_,?_,?_,AO.gd⟩
   ·exact ar1 AO.dp
   ·exact ar2 AO.un
   ·show A.frames.map _=_;rw [AO.fr];rfl
   ·show (callEnv fd W.h.objs.size fi.addr :: l).filterMap (·.frame)=_
    have hfrm:(callEnv fd W.h.objs.size fi.addr).frame=some W.h.objs.size:=rfl
    rw [List.filterMap_cons_some hfrm,AO.fs]
   ·intro env he
    rcases List.mem_cons.mp he with rfl|he
    ·refine ⟨?_,_,rfl⟩
     show fd.scope.kind ≠ .module
     rw [CO.kind];decide
    ·exact AO.lk env he
  have EO1:EnvOk fi.ec W.h.objs.size (callEnv fd W.h.objs.size fi.addr):=⟨CO.kind,rfl,hgl,hbu,CO.names,CO.gls,CO.nd⟩
  have TO1:TopOk (callEnv fd W.h.objs.size fi.addr :: l) W.h.objs.size (callEnv fd W.h.objs.size fi.addr):=⟨⟨l,rfl⟩,rfl⟩
  refine hX bs hb0 AO1 EO1 TO1 R1 rfl sh _ _ _ ?_
  induction hr:ih cd fi.ec (bs ++ uns (fi.ec.names.drop fi.np)) W.s (.ex fi.body) with
  |fl f loc2 s2=>
   rw [hr] at hQ
   intro f' W2 t2 hL2 hs2 R2 S2 hf
   subst hs2
   obtain ⟨R3,S3⟩:=R.back (fs':=W.h.objs.size :: fs) (L':=W.h.objs.size) hk hLn (fun b hb=>(List.mem_cons.mp hb).symm) (fun b hb=>List.mem_cons_of_mem _ hb) hL2 R2 S2
   induction f with
   |ret a=>
    obtain ⟨v,rfl,hva⟩:=hf
    exact PV.noCe (W:={ W2 with L:=W.L }) (W₀:=W) R3 rfl S3 hva hQ
   |next=>
    have hf:f'=.next:=hf
    subst hf
    exact PV.noCe (W:={ W2 with L:=W.L }) (W₀:=W) (a:=.no) (v:=.none) R3 rfl S3 rfl hQ
   |_=>exact hQ.elim
  |ex k s2=>
   rw [hr] at hQ
   intro e W2 h t2 hL2 hs2 R2 S2 hr2
   subst hs2
   exact .of (k_leave AO R hk hLn rfl (by show fd.scope.kind ≠ .module;rw [CO.kind];decide) hL2 R2 S2 hr2 hQ)
  |_=>rw [hr] at hQ;exact hQ.elim
theorem d_fnK (I:Ih prog w V Hz ih cd) (G:Gd prog w V Hz) {fi:FI} (FO:FnOk V Hz fi) (AO:AOk (cd+1) l fs A) (R:Rel V w.params Hz fs C W loc) {as:List AV} {vs:List Value} (hv:W.Rs V as vs):
  DoesK prog w V Hz A fs l C W loc (.call (.ref fi.addr) ⟨vs,[]⟩) (k_fn2 ⟨p,ih⟩ cd W.s fi as):=
 d_fnKX G FO AO R hv fun bs _=>fun a b c d e=>by rw [<- e];exact I.ex a b c d fi.body
end
section
variable {prog:Program} {w:World} {A:Around} {E:VP} {h:Heap} {g:Array GenState} {d:Drawn} {t:Nat} {os:OsState}
variable {nm q:Str} {C N:Addr} {bs bm:List Value} {hdct:Bool} {sn:List Str} {sub:List Value} {ab:Bool} {col:Option Bool} {dd:Option Addr} {k0 k1 k2 k3 k5:Option Value}
theorem x_check {M:Model} (hcont:bm.contains (.type "Exception")=true) {rest:List Value} {Q:Unit->Shared->Prop} (hC:h.get? C=some (excClassObj nm q C N bs bm hdct sn sub ab col dd k0 k1 k2 k3 k5 "Exception.__new__"))
  (hq:Q () ⟨h,g,d,t,os⟩):wpAny M A (checkBuiltinCall "Exception.__new__" ⟨.ref C :: rest,[]⟩) Q E ⟨h,g,d,t,os⟩:=by
 have Fn:=PySem.F.excBase_Exception
 have hcont':(Value.ref C :: bm).contains (.type "Exception")=true:=by rw [List.contains_cons,hcont,Bool.or_true]
 have hstar:=Fn.noStar
 simp only [checkBuiltinCall,Fn.newKind,Fn.newSplit,Fn.newRow]
 repeat (first|refine wpAny_loadPart_at hC ?_|(refine wpAny_isSubtype_exc hC ?_;rw [hcont'])|refine wpAny_staticBase_exc hC ?_|refine wpAny_madeBy_exc hC ?_|simp only [bne_self_eq_false,Bool.false_eq_true,if_false]|wp_step)
 exact hq
theorem x_new (h1:bm.contains (.type "Exception")=true) (h2:bm.contains (.type "AttributeError")=false) (h3:bm.contains (.type "NameError")=false) {R:Result->Shared->Prop} {rest:List Value} (hC:h.get? C=some (excClassObj nm q C N bs bm hdct sn sub ab col dd k0 k1 k2 k3 k5 "Exception.__new__"))
  (hq:R (.ok (.ret (.ref (h.objs.size+1)))) ⟨(h.push { cls:=.type "tuple",data:=.seq rest.toArray }).push { cls:=.ref C,data:=.fields #[.ref h.objs.size,.none,.none,.none,.bool false,.none] },g,d,t,os⟩) (hrest:rest.length<=sizeLine):
  codeAny (model prog w) A (.builtin "Exception.__new__" ⟨.ref C :: rest,[]⟩) R ⟨h,g,d,t,os⟩:=by
 have Fn:=PySem.F.excBase_Exception
 have hends:=Fn.ends
 have hcB:(Value.ref C :: bm).contains (.type "Exception")=true:=by rw [List.contains_cons,h1,Bool.or_true]
 have hcA:(Value.ref C :: bm).contains (.type "AttributeError")=false:=by rw [List.contains_cons,h2];rfl
 have hcN:(Value.ref C :: bm).contains (.type "NameError")=false:=by rw [List.contains_cons,h3];rfl
 refine codeAny_builtinAt Fn.entry ?_
 unfold Builtin.«BaseException.__new__»
 refine PySem.wpAt_bind ?_
 show PySem.wpAt _ _ _ (stack >>= _) _ _ _
 refine PySem.wpAt_bind (PySem.wpAt_stack fun p below=>PySem.wpAt_of_wpAny ?_)
 wp_walk
 refine PySem.wpAt_of_wpAny ?_
 rw [Fn.owner]
 repeat (first|with_reducible refine wpAny_madeHere_exc Fn.canon hC ?_|with_reducible refine wpAny_loadPart_at hC ?_|(with_reducible refine wpAny_isSubtype_exc hC ?_;first|rw [hcB]|rw [hcA]|rw [hcN])|wp_step)
 show R _ _
 rw [Heap.size_push]
 exact hq
theorem x_call (h1:bm.contains (.type "Exception")=true) (h2:bm.contains (.type "AttributeError")=false) (h3:bm.contains (.type "NameError")=false) {rest:List Value} {fI:Addr} {oI:Obj} {Q:Fin->Shared->Prop}
  (hC:h.get? C=some (excClassObj nm q C N bs bm hdct sn sub ab col dd k0 k1 k2 k3 k5 "Exception.__new__")) (hi:Looks (model prog w) h (typeLookup (.ref C) "__init__") (some (.ref fI)))
  (hfI:h.get? fI=some oI) (hfc:oI.cls=.type "function")
  (hq:∀ h' e,Heap.MadeExcOf h h' e (.ref C) rest->wpAny (model prog w) A (call (.ref fI) (.ref e :: rest)) (fun r s'=>r=.none/\Q (.done (.ret (.ref e))) s') E ⟨h',g,d,t,os⟩) (hrest:rest.length<=sizeLine):
  wpAny (model prog w) A (Builtin.«type.__call__» ⟨.ref C :: rest,[]⟩) Q E ⟨h,g,d,t,os⟩:=by
 have F:=PySem.F.excBase_Exception
 repeat (first|with_reducible refine wpAny_loadPart_at hC ?_|with_reducible refine wpAny_madeBy_exc hC ?_|wp_step)
 refine codeAny_call_builtin_code (Code.quiet_builtin _ F.quiet) (x_check h1 hC ?_)
 refine x_new h1 h2 h3 hC ?_ hrest
 show wpAny _ _ _ _ _ _
 have kp:∀ b o,h.get? b=some o->((h.push { cls:=.type "tuple",data:=.seq rest.toArray }).push { cls:=.ref C,data:=.fields #[.ref h.objs.size,.none,.none,.none,.bool false,.none] }).get? b=some o:=
  fun b o e=>ja _ (ja _ e)
 have hC₁:=kp _ _ hC
 have hfI₁:=kp _ _ hfI
 have hget:((h.push { cls:=.type "tuple",data:=.seq rest.toArray }).push
   { cls:=.ref C,data:=.fields #[.ref h.objs.size,.none,.none,.none,.bool false,.none] }).get? (h.objs.size+1)=some
   { cls:=.ref C,data:=.fields #[.ref h.objs.size,.none,.none,.none,.bool false,.none] }:=by heap_get
 have hcC:(Value.ref C :: bm).contains (.ref C)=true:=by simp
 unfold isInstance
 repeat (first|with_reducible refine wpAny_loadPart_at hget ?_|(with_reducible refine wpAny_isSubtype_exc hC₁ ?_;rw [hcC])|wp_step)
 show wpAny _ _ (typeLookup (.ref C) _) _ _ _
 refine (hi.keeps kp).at ?_
 refine wpAny_holding (jc ?_)
 unfold bindSpecial
 refine jc (wpAny_typeOf (T:="function") ⟨_,hfI₁,hfc⟩ ?_)
 rw [if_pos (by decide)]
 refine ji (jc (wpAny_mono (hq _ (h.objs.size+1) ⟨kp,Heap.get?_none_of_le (Nat.le_succ _),h.objs.size,hget,Heap.get?_none_of_le (jj _),?_⟩) (fun r s' hr=>?_) fun _ _ x=>x))
 ·exact ja _ (Heap.get?_push_at rfl rfl)
 ·obtain ⟨rfl,hQ⟩:=hr
  wp_walk
  exact hQ
theorem x_make (h1:bm.contains (.type "Exception")=true) (h2:bm.contains (.type "AttributeError")=false) (h3:bm.contains (.type "NameError")=false) {rest:List Value} {fI:Addr} {oI:Obj} {Q:VP}
  (hC:h.get? C=some (excClassObj nm q C N bs bm hdct sn sub ab col dd k0 k1 k2 k3 k5 "Exception.__new__")) (hi:Looks (model prog w) h (typeLookup (.ref C) "__init__") (some (.ref fI)))
  (hfI:h.get? fI=some oI) (hfc:oI.cls=.type "function")
  (hq:∀ h' e,Heap.MadeExcOf h h' e (.ref C) rest->wpAny (model prog w) (A.under (.builtin "type.__call__" ⟨.ref C :: rest,[]⟩)) (call (.ref fI) (.ref e :: rest)) (fun r s'=>r=.none/\Q (.ref e) s') E ⟨h',g,d,t,os⟩) (hrest:rest.length<=sizeLine):
  wpAny (model prog w) A (call (.ref C) rest) Q E ⟨h,g,d,t,os⟩:=by
 have f1:=tc_lookup
 have f2:=tc_bind (.ref C)
 have hT:(⟨h,g,d,t,os⟩:Shared).TypeIs (.ref C) "type":=⟨_,hC,rfl⟩
 refine wpAny_call (codeAny_of_tree ?_)
 show wpAny _ _ (callAny (.ref C) _) _ _ _
 repeat (any_goals (first|assumption|with_reducible refine wpAny_loadPart_at hC ?_|wp_step))
 refine ⟨rfl,?_⟩
 refine codeAny_call_builtin_at (Code.quiet_builtin _ (by decide +kernel)) entry_typeCall (wpAny_check_type_call_sub hC (x_call h1 h2 h3 hC hi hfI hfc (fun h' e hm=>?_) hrest))
 exact hq h' e hm
end
section
open PySem.Builtin PySem.Builtin.ObjectAttr
structure KExc (K:Frag) (C:Addr):Prop where
 ob:∃ nm q N bs bm hdct sn sub ab col dd k0 k1 k2 k3 k5,K.lookup C=some (excClassObj nm q C N bs bm hdct sn sub ab col dd k0 k1 k2 k3 k5 "Exception.__new__")/\bm.contains (.type "Exception")=true/\bm.contains (.type "AttributeError")=false/\bm.contains (.type "NameError")=false/\
  bm.contains (.type "object")=true/\∀ self,refuseLoop self "__setattr__" (.ref C :: bm)=pure ()
 init:findIn K (.ref C) "__init__"=some (some (.ref jl.addr))
 hd:hasDictIn K C=true
 sa:findIn K (.ref C) "__setattr__"=some (some (.builtin "object.__setattr__"))
 tk1:takerIn K C (atAt 1)=some none
 tk2:takerIn K C (atAt 2)=some none
section
variable {prog:Program} {w:World} {A:Around} {E:VP} {s:Shared} {K:Frag} {C x:Addr} {R:Result->Shared->Prop}
theorem x_osa {ox:Obj} {od:Option Obj} {name:Str} {tk:Tok} {v:Value} (X:K.In s.heap) (I:InstAt s.heap x ox C od) (KC:KExc K C) (ht:takerIn K C name=some none)
  (h:∀ b,wpAny (model prog w) A.in1 (storeInOwnDict (.ref x) (.ref C) (.str name tk) name v b)
   (fun fin s'=>match fin with|.done f=>R (.ok f) s'|.again c'=>c'.quiet=true/\codeAny (model prog w) A c' R s') (fun e s'=>R (.error e) s') s):
  codeAny (model prog w) A (.call (.builtin "object.__setattr__") ⟨[.ref x,.str name tk,v],[]⟩) R s:=by
 have SF:=PySem.F.store_object
 obtain ⟨nm,q,N,bs,bm,hdct,sn,sub,ab,col,dd,k0,k1,k2,k3,k5,ho,h1,h2,h3,h4,h5⟩:=KC.ob
 obtain ⟨cd,hc,hmro⟩:∃ cd,clsIn K C=some cd/\cd.mro=.ref C :: bm:=⟨_,by unfold clsIn;rw [ho],rfl⟩
 have sub:Looks (model prog w) s.heap (isInstance (.ref x) (.type "object")) true:=I.type.andThen (looks_mroIn X (by unfold mroIn;rw [hc,Option.bind_some,hmro,if_neg (by simp),List.contains_cons,h4,Bool.or_true]))
 refine codeAny_call_builtin SF.slot.plain SF.entry (@check_slot (model prog w) _ _ s "object.__setattr__" "object" "__setattr__" (.ref x) [.str name tk,v] [] _ SF.kind SF.split sub (SF.args (.ref x) (.str name tk) v) ?_)
 obtain ⟨attr,ha,hr⟩:=Option.bind_eq_some_iff.mp ht
 have hm:Looks (model prog w) s.heap (mroOf (.ref C)) (.ref C :: bm):=hmro▸(looks_clsIn X hc).andThen .now
 have L3:Looks (model prog w) s.heap (storeTaker? attr) none:=by
  induction attr with
  |none=>exact .now
  |some a=>
   obtain ⟨b,hb,hb'⟩:=Option.map_eq_some_iff.mp hr
   refine (looks_takesIn X hb).andThen ?_
   induction b with
   |false=>exact .now
   |true=>exact (jg _ hb').elim
 rw [osa_eq,refuse_eq]
 refine jc (jc (I.type.here (jc (hm.here ?_))))
 rw [h5]
 refine ji (jc (I.type.here (jc ((looks_findIn X ha).here (jc (L3.here ?_))))))
 exact h _
structure XI (h0 h:Heap) (e C L:Addr) (m:Str->Option Value) (n:Nat):Prop where
 keeps:∀ b o,h0.get? b=some o->h.get? b=some o
 new:h0.get? e=none
 Ln:h0.get? L=none
 ns:h.Ns L m
 ne:L ≠ e
 ob:∃ o,h.get? e=some o/\ExOb o C/\(o.dict=none \/ ∃ d mA l,o.dict=some d/\h0.get? d=none/\d ≠ e/\d ≠ L/\h.Ns1 d mA/\Within mA l/\l.length<=n)
theorem x_put {d:Addr} {name:Str} {tk:Tok} {v:Value} {mA:Str->Option Value} {l:List Str} (hn:s.heap.Ns1 d mA) (hw:Within mA l) (hl:l.length<=20) {Q:Fin->Shared->Prop}
  (hQ:∀ h' t',h'.Ns1 d (fun y=>if y=name then some v else mA y)->Heap.SameBut d s.heap h'->Q (.done (.ret .none)) { s with heap:=h',toks:=t' }):
  wpAny (model prog w) A (storeInDict d (.str name tk) name v) Q E s:=by
 unfold storeInDict newKeyGuard
 refine jc (ji (jc (wpAny_nsSet1 hn fun h' hn' hs=>?_)))
 obtain ⟨oD,esD,epD,hoD,hdD,hcD⟩:=hn'.count (Within.cons name v hw)
 refine jc (wpAny_lookBehind hoD (by rw [hdD];exact pastItsLine_dict (Nat.le_trans hcD (by rw [List.length_cons,sizeLine_eq];omega))) ?_)
 exact ji (hQ _ _ hn' hs)
theorem x_set {h0:Heap} {L:Addr} {m:Str->Option Value} {n:Nat} (X0:K.In h0) (KC:KExc K C) {name:Str} {v:Value} (ht:takerIn K C name=some none) (hn:n<=10) (I:XI h0 s.heap x C L m n) {Q:Unit->Shared->Prop}
  (hQ:∀ h' t',XI h0 h' x C L m (n+1)->Q () { s with heap:=h',toks:=t' }):wpAny (model prog w) A (setAttr (.ref x) name v) Q E s:=by
 obtain ⟨hh,g,dr,t,os⟩:=s
 obtain ⟨kp,new,Ln,ns,ne,ox,hx,hox,hd⟩:=I
 obtain ⟨oc,odict,odata,osl⟩:=ox
 obtain ⟨rfl,a0,a5,hdata⟩:=hox
 dsimp only at hdata hd kp ns hx
 subst hdata
 have X:K.In hh:=X0.keeps kp
 obtain ⟨cd,hcd,hhd⟩:∃ cd,clsIn K C=some cd/\cd.hasDict=true:=any_some (show (clsIn K C).any (·.hasDict)=true from KC.hd)
 have hxs:x ≠ hh.objs.size:=Nat.ne_of_lt (Heap.lt_size hx)
 have hLs:L ≠ hh.objs.size:=by
  obtain ⟨_,_,_,e,_⟩:=ns
  exact Nat.ne_of_lt (Heap.lt_size e)
 rcases hd with rfl|⟨d,mA,l,rfl,hd0,hde,hdL,hns,hw,hl⟩
 ·have IA:W.InstAt hh x ⟨.ref C,none,.fields #[a0,.none,.none,.none,.bool false,a5],osl⟩ C none:=⟨hx,rfl,rfl,trivial⟩
  refine set_plain X IA KC.sa (x_osa X IA KC ht fun b=>?_)
  refine jc (ji (jc (jc (wpAny_loadPart hx (jc ((looks_clsIn X hcd).here ?_))))))
  rw [hhd]
  dsimp only
  rw [if_neg (by decide),if_neg (by simp [typeHasDict])]
  refine jc (wpAny_alloc' ?_)
  have hx₁:=ja (h:=hh) { cls:=.type "dict",data:=.dict #[] } hx
  refine jc (wpAny_update' hx₁ ?_)
  refine ji ?_
  generalize hhd:(hh.push { cls:=.type "dict",data:=.dict #[] }).update x (fun o=>{ cls:=o.cls,dict:=some hh.objs.size,data:=o.data,slots:=o.slots })=h1
  have hx':h1.get? x=some ⟨.ref C,some hh.objs.size,.fields #[a0,.none,.none,.none,.bool false,a5],osl⟩:=by
   rw [<- hhd]
   refine Heap.get?_update_self _ hx₁ ?_
   rfl
  have hoth:∀ b o,b ≠ x->hh.get? b=some o->h1.get? b=some o:=fun b o hb e=>by
   rw [<- hhd];exact (Heap.get?_update_ne _ _ _ _ hb).trans (ja _ e)
  have hgd:h1.get? hh.objs.size=some { cls:=.type "dict",data:=.dict #[] }:=by
   rw [<- hhd];exact (Heap.get?_update_ne _ _ _ _ hxs.symm).trans (Heap.get?_push_at rfl rfl)
  have hnd:h1.Ns hh.objs.size (fun _=>none):=⟨_,#[],_,hgd,rfl,fun e he=>absurd he (by simp),fun _=>rfl⟩
  refine x_put (Heap.Ns1.of_empty hnd) Within.nil (by simp) fun h' t' hn' hs=>?_
  have hnew:h0.get? hh.objs.size=none:=by
   induction e:h0.get? hh.objs.size with
   |none=>rfl
   |some o=>exact absurd (Heap.lt_size (kp _ _ e)) (Nat.lt_irrefl _)
  refine hQ _ _ ⟨fun b o e=>?_,new,Ln,?_,ne,_,(hs.2 x hxs).trans hx',⟨rfl,a0,a5,rfl⟩,.inr ⟨_,_,_,rfl,hnew,hxs.symm,hLs.symm,hn',Within.cons _ _ Within.nil,by simp⟩⟩
  ·exact (hs.2 b (fun q=>by rw [q,hnew] at e;cases e)).trans (hoth b o (fun q=>by rw [q,new] at e;exact (jg _ e.symm).elim) (kp b o e))
  ·obtain ⟨oL,es,ep,e,r⟩:=ns
   exact ⟨oL,es,ep,(hs.2 L hLs).trans (hoth L _ ne e),r⟩
 ·obtain ⟨od,es,ep,hod,r⟩:=id hns
  have IA:W.InstAt hh x ⟨.ref C,some d,.fields #[a0,.none,.none,.none,.bool false,a5],osl⟩ C (some od):=⟨hx,rfl,rfl,hod⟩
  refine set_plain X IA KC.sa (x_osa X IA KC ht fun b=>?_)
  refine jc (ji (jc (jc (wpAny_loadPart hx (jc ((looks_clsIn X hcd).here ?_))))))
  rw [hhd]
  refine ji (a:=some d) ?_
  refine x_put hns hw (Nat.le_trans hl (by omega)) fun h' t' hn' hs=>?_
  refine hQ _ _ ⟨fun b o e=>?_,new,Ln,?_,ne,_,(hs.2 x hde.symm).trans hx,⟨rfl,a0,a5,rfl⟩,.inr ⟨_,_,_,rfl,hd0,hde,hdL,hn',Within.cons _ _ hw,Nat.succ_le_succ hl⟩⟩
  ·exact (hs.2 b (fun q=>by rw [q,hd0] at e;exact (jg _ e.symm).elim)).trans (kp b o e)
  ·obtain ⟨oL,es,ep,e,r⟩:=ns
   exact ⟨oL,es,ep,(hs.2 L hdL.symm).trans e,r⟩
end
end
section
open PySem.Builtin PySem.Builtin.ObjectAttr
section
variable {prog:Program} {w:World} {A:Around} {E:VP} {s:Shared} {K:Frag} {C e:Addr}
theorem x_meth (X:K.In s.heap) (he:findCls K (.type "Exception") (.type "type") "__init__"=some (.val (.builtin "Exception.__init__"))) {pl:Sem Bool} {Q:Value × List Value->Shared->Prop}
  (h:Q (.builtin "Exception.__init__",[]) { s with toks:=s.toks+1 }):wpAny (model prog w) A (getMethod (.type "Exception") "__init__" pl) Q E s:=by
 have hh:handedIn (.builtin "Exception.__init__")=true:=by decide +kernel
 have hstub:opaqueClassAbove (.type "Exception")=pure none:=by unfold opaqueClassAbove;dsimp only;rw [show Manifest.isStub "Exception"=false by decide +kernel];rfl
 have ht:typeOf (.type "Exception")=pure (.type "type"):=by kernel_rfl
 have L0:Looks (model prog w) s.heap (typeOf (.type "Exception")) (.type "type"):=Looks.of_pure ht
 have h0:K.In ({ s with toks:=s.toks }:Shared).heap:=X
 have hg:findIn K (.type "type") "__getattribute__"=some (some (.builtin "type.__getattribute__")):=type_tga
 unfold getMethod specialOf
 refine jc (jc (L0.here ((looks_findIn X hg).here ?_)))
 dsimp only
 rw [if_pos canon_tga]
 refine jc (wpAny_mono (Q:=fun v=>Q (v,[])) (E:=E) ?_ (fun _ _ z=>ji z) fun _ _ z=>z)
 have LO:Looks (model prog w) s.heap (opaqueClassAbove (.type "Exception")) none:=Looks.of_pure hstub
 refine cls_open X LO L0 hg (looks_hook X (r:=none) (by rfl)) (by show subIn K _ _=_;rfl) he
  (ji (by show wpAny _ _ (handedOut _) _ _ _;rw [handedOut_of hh];exact ji h))
theorem x_icheck {M:Model} {h:Heap} {g:Array GenState} {d:Drawn} {t:Nat} {os:OsState} {nm q:Str} {N:Addr} {bs bm:List Value} {hdct:Bool} {sn:List Str} {sub:List Value} {ab:Bool} {col:Option Bool} {dd:Option Addr} {k0 k1 k2 k3 k5:Option Value} {newId:String}
  (h1:bm.contains (.type "Exception")=true) {oe:Obj} {rest:List Value} {Q:Unit->Shared->Prop}
  (hC:h.get? C=some (excClassObj nm q C N bs bm hdct sn sub ab col dd k0 k1 k2 k3 k5 newId)) (he:h.get? e=some oe) (hcls:oe.cls=.ref C) (hq:Q () ⟨h,g,d,t,os⟩):
  wpAny M A (checkBuiltinCall "Exception.__init__" ⟨.ref e :: rest,[]⟩) Q E ⟨h,g,d,t,os⟩:=by
 have F:=PySem.F.excBase_Exception
 have hcB:(Value.ref C :: bm).contains (.type "Exception")=true:=by rw [List.contains_cons,h1,Bool.or_true]
 have hshort:=F.noStar
 simp only [checkBuiltinCall,F.initKind,F.initSplit,F.initRow]
 repeat (first|(with_reducible refine wpAny_loadPart_at he ?_;rw [hcls])|with_reducible refine wpAny_loadPart_at hC ?_|(with_reducible refine wpAny_isSubtype_exc hC ?_;rw [hcB])|wp_step)
 refine wpAny_onRaise ?_
 rw [show ∀ (a b:String) (n:Nat),Bind.check ⟨.positional,"*","Exception",.self,[⟨"args",.varPos,false⟩]⟩ a b n (List.map (fun x=>x.fst) ({ pos:=Value.ref e :: rest }:Args).kw)=pure () from
  fun a b n=>check_star_args _ _ _ _ _ _]
 exact ji hq
theorem x_base {h0:Heap} {L:Addr} {m:Str->Option Value} {n:Nat} (X0:K.In h0) (KC:KExc K C) {v:Value} (I:XI h0 s.heap e C L m n) {Q:VP}
  (hQ:∀ h',XI h0 h' e C L m n->Q .none { s with heap:=h' }):wpAny (model prog w) A (call (.builtin "Exception.__init__") [.ref e,v]) Q E s:=by
 obtain ⟨hh,g,dr,t,os⟩:=s
 obtain ⟨kp,new,Ln,ns,ne,ox,hx,hox,hd⟩:=I
 obtain ⟨oc,odict,odata,osl⟩:=ox
 obtain ⟨rfl,a0,a5,hdata⟩:=hox
 dsimp only at hdata hd kp ns hx
 subst hdata
 have X:K.In hh:=X0.keeps kp
 obtain ⟨nm,q,N,bs,bm,hdct,sn,sub,ab,col,dd,k0,k1,k2,k3,k5,ho,h1,h2,h3,h4,h5⟩:=KC.ob
 obtain ⟨cd,hc,hmro⟩:∃ cd,clsIn K C=some cd/\cd.mro=.ref C :: bm:=⟨_,by unfold clsIn;rw [ho],rfl⟩
 have F:=PySem.F.excBase_Exception
 refine wpAny_call (codeAny_call_builtin F.init.plain F.initEntry (x_icheck h1 (X _ _ ho) hx rfl ?_))
 unfold Builtin.«BaseException.__init__»
 dsimp only
 rw [if_neg (by simp)]
 unfold newTuple Builtin.BaseException.bexcPut
 have hx1:=ja (h:=hh) { cls:=.type "tuple",data:=.seq #[v] } hx
 have hxs:e ≠ hh.objs.size:=Nat.ne_of_lt (Heap.lt_size hx)
 have hLs:L ≠ hh.objs.size:=by
  obtain ⟨_,_,_,e,_⟩:=ns
  exact Nat.ne_of_lt (Heap.lt_size e)
 refine jc (wpAny_newObj_type (jc (jc (wpAny_field hx1 rfl rfl (jc (wpAny_setField hx1 rfl (by show 0 < 6;decide) ?_))))) (by size_fits))
 have key:XI h0 ((hh.push { cls:=.type "tuple",data:=.seq #[v] }).update e (Obj.mapFields (·.setIfInBounds 0 (.ref hh.objs.size)))) e C L m n:=by
  have hoth:∀ b o,b ≠ e->hh.get? b=some o->((hh.push { cls:=.type "tuple",data:=.seq #[v] }).update e (Obj.mapFields (·.setIfInBounds 0 (.ref hh.objs.size)))).get? b=some o:=fun b o hb q=>
   (Heap.get?_update_ne _ _ _ _ hb).trans (ja _ q)
  refine ⟨fun b o q=>hoth b o (fun z=>by rw [z,new] at q;exact (jg _ q.symm).elim) (kp b o q),new,Ln,?_,ne,⟨.ref C,odict,.fields #[.ref hh.objs.size,.none,.none,.none,.bool false,a5],osl⟩,?_,⟨rfl,_,_,rfl⟩,?_⟩
  ·obtain ⟨oL,es,ep,q,r⟩:=ns
   exact ⟨oL,es,ep,hoth L _ ne q,r⟩
  ·rw [Heap.get?_update_self _ hx1 rfl];rfl
  ·refine hd.imp id ?_
   rintro ⟨d,mA,l,q0,q1,q2,q3,⟨od,es,ep,q4,r⟩,q5,q6⟩
   exact ⟨d,mA,l,q0,q1,q2,q3,⟨od,es,ep,hoth d _ q2 q4,r⟩,q5,q6⟩
 split
 ·refine wpAny_letGo (ji ?_)
  exact hQ _ key
 ·refine ji (ji ?_)
  exact hQ _ key
end
end
section
open PySem.Builtin PySem.Builtin.ObjectAttr
theorem methodCall_at {M:Model} {A:Around} {E:VP} {s s₁:Shared} {o:PySem.Expr} {name:Str} {apos pos:Pos} {env:Env} {ov f:Value} {first:List Value} {n:Nat} {xs:List (Bool × Sem Value)} {Q:VP}
  (hp:xs.any (·.1)=false) (hn:n < 30) (hl:(apos.endLine == pos.line)=true)
  (hg:∀ {pl Q'},Q' (f,first) s₁->wpAny M A (getMethod ov name pl) Q' E s) (h:wpAny M A (callWith pos f first xs []) Q E s₁):wpAny M A (methodCall o name apos pos env ov n xs []) Q E s:=by
 have hall:xs.all (!·.1)=true:=by
  rw [List.all_eq_not_any_not]
  simpa using hp
 have hform:methodCallForm n xs []=true:=by
  unfold methodCallForm
  rw [hall]
  simp [hn]
 have hpos:methodCallPos true o env apos pos=pure pos:=by unfold methodCallPos;simp [hl]
 unfold methodCall
 rw [hform]
 refine jc (wpAny_holding ?_)
 show wpAny M A (getMethod ov name _) _ _ _
 refine hg ?_
 exact jc (wpAny_of_eq hpos h)
section
variable {prog:Program} {w:World} {V:Vl} {Hz:Heap} {fs:List Addr} {l:List Env} {C:EC} {W:Wd} {loc:List AV} {A:Around} {E:VP} {K:Frag} {Ck e:Addr}
theorem x_body (G:Gd prog w V Hz) (KX:K.In Hz) (hcls:findCls K (.type "Exception") (.type "type") "__init__"=some (.val (.builtin "Exception.__init__"))) (KC:KExc K Ck) {env:Env} {h0:Heap}
  (R:Rel V w.params Hz fs jl.ec W loc) (EO:EnvOk jl.ec W.L env) {m:Str->Option Value} {v u:Value} (hb:∀ b o,Hz.get? b=some o->h0.get? b=some o)
  (I:XI h0 W.h e Ck W.L m 0) (m0:m "self"=some (.ref e)) (m1:m "what"=some v) (m2:m "at"=some u) {sh:Shared} {t:Nat} {Q:Flow->Shared->Prop}
  (hQ:∀ h' t',XI h0 h' e Ck W.L m 2->Q .next (at' sh { W with h:=h' } t')):
  wpAny (model prog w) A (execs (kr jl.body jl.ec) env) Q E (at' sh W t):=by
 have X0:K.In h0:=KX.keeps hb
 show wpAny _ _ (execs [.Expr (.Call (.Attribute (kj (.gl 0 (P3 8 8 17)) jl.ec) (atAt 0) (P3 8 8 26)) [kj (.nm 0 (P3 8 27 31)) jl.ec,kj (.nm 1 (P3 8 33 37)) jl.ec] [] (P3 8 8 38)) (P3 8 8 38),
  .Assign [.Attribute (kj (.nm 0 (P3 9 8 12)) jl.ec) (atAt 1) (P3 9 8 17)] (kj (.nm 1 (P3 9 20 24)) jl.ec) (P3 9 8 24),
  .Assign [.Attribute (kj (.nm 0 (P3 10 8 12)) jl.ec) (atAt 2) (P3 10 8 15)] (kj (.nm 2 (P3 10 18 20)) jl.ec) (P3 10 8 20)] env) _ _ _
 have nm:∀ {A:Around} {i:Nat} {x:Str} {vv:Value} {q:Pos} {h:Heap} {t:Nat} {Q:VP},jl.ec.names[i]?=some x->m x=some vv->h.Ns W.L m->Q vv (at' sh { W with h:=h } t)->
   wpAny (model prog w) A (eval (kj (.nm i q) jl.ec) env) Q E (at' sh { W with h:=h } t):=by
  intro A i x vv q h t Q hx hv hn hq
  obtain ⟨hk,hd⟩:=EO.names i x hx
  rw [show kj (.nm i q) jl.ec=.Name (qi jl.ec i) q from rfl,nmAt_of hx]
  exact wpAny_Name (wpAny_loadName_local EO.kind hk (m:=m) (by rw [EO.loc];exact hn) hv hq) hd
 have s2:∀ (h:Heap) (t:Nat),XI h0 h e Ck W.L m 1->wpAny (model prog w) A (execs [.Assign [.Attribute (kj (.nm 0 (P3 10 8 12)) jl.ec) (atAt 2) (P3 10 8 15)] (kj (.nm 2 (P3 10 18 20)) jl.ec) (P3 10 8 20)] env) Q E (at' sh { W with h:=h } t):=by
  intro h t I
  refine wpAny_execs_cons (plainObj_wpAny_Assign_Attribute (nm (x:="at") rfl m2 I.ns (nm (x:="self") rfl m0 I.ns ?_)) rfl)
  exact x_set X0 KC KC.tk2 (by decide) I fun h' t' I'=>wpAny_execs_nil (hQ h' t' I')
 have s1:∀ (h:Heap) (t:Nat),XI h0 h e Ck W.L m 0->wpAny (model prog w) A (execs (.Assign [.Attribute (kj (.nm 0 (P3 9 8 12)) jl.ec) (atAt 1) (P3 9 8 17)] (kj (.nm 1 (P3 9 20 24)) jl.ec) (P3 9 8 24) :: [.Assign [.Attribute (kj (.nm 0 (P3 10 8 12)) jl.ec) (atAt 2) (P3 10 8 15)] (kj (.nm 2 (P3 10 18 20)) jl.ec) (P3 10 8 20)]) env) Q E (at' sh { W with h:=h } t):=by
  intro h t I
  refine wpAny_execs_cons (plainObj_wpAny_Assign_Attribute (nm (x:="what") rfl m1 I.ns (nm (x:="self") rfl m0 I.ns ?_)) rfl)
  exact x_set X0 KC KC.tk1 (by decide) I fun h' t' I'=>s2 h' t' I'
 refine wpAny_execs_cons (wpAny_Expr_any ?_ (by unfold interactive;rw [EO.kind];rfl) rfl)
 rw [arm_eval_Call,show attributeBase (kj (.gl 0 (P3 8 8 17)) jl.ec) (atAt 0) env (eval (kj (.gl 0 (P3 8 8 17)) jl.ec) env)=eval (kj (.gl 0 (P3 8 8 17)) jl.ec) env from rfl,
  show [kj (.nm 0 (P3 8 27 31)) jl.ec,kj (.nm 1 (P3 8 33 37)) jl.ec]=km [.nm 0 (P3 8 27 31),.nm 1 (P3 8 33 37)] jl.ec from rfl,qo]
 refine jc (gl_at R G EO (j:=0) (a:=.bi .Exception) rfl (by intro q;cases q) fun vb hvb=>?_)
 obtain rfl:vb=.type "Exception":=hvb
 refine jc (wpAny_standAt ?_)
 show wpAny (model prog w) A (methodCall (kj (.gl 0 (P3 8 8 17)) jl.ec) (atAt 0) (P3 8 8 26) (P3 8 8 38) env (.type "Exception") 2 (each [.nm 0 (P3 8 27 31),.nm 1 (P3 8 33 37)] jl.ec env) []) _ _ _
 refine methodCall_at (f:=.builtin "Exception.__init__") (first:=[]) (kg _ _ _) (by decide) rfl (fun {pl Q'} hq=>x_meth (s:=at' sh W t) (KX.keeps R.base) hcls hq) ?_
 refine PySem.Calls.callWith_builtin (kg _ _ _) (PySem.Calls.evalArgs_plain ?_)
 refine PySem.Calls.spliced_cons (nm (h:=W.h) (t:=t+1) (x:="self") rfl m0 I.ns (PySem.Calls.spliced_cons (nm (h:=W.h) (t:=t+1) (x:="what") rfl m1 I.ns (PySem.Calls.spliced_nil ?_))))
 exact x_base (s:=at' sh W (t+1)) X0 KC I fun h' I'=>s1 h' _ I'
end
end
section
variable {prog:Program} {w:World} {V:Vl} {Hz:Heap} {p:Par} {fs:List Addr} {l:List Env} {C:EC} {W:Wd} {loc:List AV} {A:Around} {E:VP} {K:Frag} {Ck e:Addr} {cd:Nat}
theorem x_init (G:Gd prog w V Hz) (FO:FnOk V Hz jl) (KX:K.In Hz) (hcls:findCls K (.type "Exception") (.type "type") "__init__"=some (.val (.builtin "Exception.__init__"))) (KC:KExc K Ck)
  (R:Rel V w.params Hz fs C W loc) (hroom:A.depth < recursionLimit) {h':Heap} {rest vs:List Value} (hm:Heap.MadeExcOf W.h h' e (.ref Ck) rest) (hvs:vs.length=1 \/ vs.length=2) {sh:Shared} {t:Nat} {Q:Shared->Prop}
  (hQ:∀ h2 t2,(∀ b o,W.h.get? b=some o->h2.get? b=some o)->W.h.get? e=none->(∃ o,h2.get? e=some o/\ExOb o Ck)->Q (at' sh { W with h:=h2 } t2)):
  wpAny (model prog w) A (call (.ref jl.addr) (.ref e :: vs)) (fun r s'=>r=.none/\Q s') E (at' sh { W with h:=h' } t):=by
 obtain ⟨o,fd,ho,hd,hbody,hsc,hco,hgen,hgl,hbu,hcd,hp1,hp2,hp3,hp4,hargs,hnp,hdl,hdf⟩:=FO.ex
 have CO:=ci_of (cc:=⟨jl.ec,fd.scope⟩) hsc
 have hbase:∀ b o,Hz.get? b=some o->h'.get? b=some o:=fun b o q=>hm.keeps b o (R.base b o q)
 have hnd:jl.ec.names.Nodup:=CO.nd
 have hargs:fd.params.args.map (·.arg)=jl.ec.names:=hargs
 have hln:jl.ec.names.length=3:=rfl
 have hdf1:jl.dfl.length=1:=rfl
 obtain ⟨v,u,hbind⟩:∃ v u:Value,BindsTo (at' sh { W with h:=h' } t) fd ⟨.ref e :: vs,[]⟩ (jl.ec.names.zip [.ref e,v,u]):=by
  rcases hdf with ⟨q,_⟩|⟨T,items,oT,n,h1,h2,h3,h4⟩
  ·cases q
  ·have hl:items.toList.length=1:=(ku.length (h4 W.h W.ρ W.s.nx)).trans hdf1
   have key:∀ us,(.ref e :: vs) ++ items.toList.drop (items.toList.length - (3 - (vs.length+1)))=us->BindsTo (at' sh { W with h:=h' } t) fd ⟨.ref e :: vs,[]⟩ (jl.ec.names.zip us):=by
    intro us hus M A E Q hq
    refine binds_gen (ds:=items.toList) hp1 hargs hp2 hp3 hp4 hnd (r:=some items) (fun hq'=>by rw [h1];exact wpAny_seqItems (hbase _ _ h2) h3 hq') rfl (by rw [hln,List.length_cons];rcases hvs with q|q<;>rw [q]<;>decide) (by rw [hln,List.length_cons,hl];rcases hvs with q|q<;>rw [q]<;>decide) (by rw [hl,hln];decide) ?_
    rw [hln,List.length_cons,hus];exact hq
   obtain ⟨d0,hd0⟩:∃ d0,items.toList=[d0]:=List.length_eq_one_iff.mp hl
   rw [hd0] at key
   rcases hvs with hv|hv
   ·obtain ⟨v,rfl⟩:=List.length_eq_one_iff.mp hv
    exact ⟨v,d0,key _ rfl⟩
   ·obtain ⟨v,u,rfl⟩:=two_of hv
    exact ⟨v,u,key _ rfl⟩
 have hloc:∀ x ∈ jl.ec.names.zip [.ref e,v,u],fd.scope.names.lookup x.1=some .local:=fun x hx=>by
  have hm:x.1 ∈ jl.ec.names:=(List.of_mem_zip hx).1
  obtain ⟨i,hi⟩:=List.getElem?_of_mem hm
  exact (CO.names i x.1 hi).1
 refine wpAny_call (codeAny_call_def hroom (hbase _ _ ho) hd (G.nl.keeps hbase) (hcd.keeps hbase) hbody hbind CO.cell hloc (fun h₁ hns hk=>?_) hco hgen CO.kind)
 have hk':∀ b o,W.h.get? b=some o->h₁.get? b=some o:=fun b o q=>hk b o (hm.keeps b o q)
 obtain ⟨tt,he,_,_⟩:=hm.there
 have hle:e < h'.objs.size:=Heap.lt_size he
 have hLn:W.h.get? h'.objs.size=none:=by
  induction q:W.h.get? h'.objs.size with
  |none=>rfl
  |some o=>exact absurd (Heap.lt_size (hm.keeps _ _ q)) (Nat.lt_irrefl _)
 obtain ⟨R1,-⟩:=R.enter (fs':=fs) (C':=jl.ec) (loc':=uns jl.ec.names) hk' hLn (qf _) hns (fun b hb=>.inl hb) (fun i x a e1 e2=>.inl (qp _ _ _ e2))
 have EO1:EnvOk jl.ec h'.objs.size (callEnv fd h'.objs.size jl.addr):=⟨CO.kind,rfl,hgl,hbu,CO.names,CO.gls,CO.nd⟩
 have XI1:XI W.h h₁ e Ck h'.objs.size (fun x=>(jl.ec.names.zip [.ref e,v,u]).reverse.lookup x) 0:=
  ⟨hk',hm.new,hLn,hns,Nat.ne_of_gt hle,_,hk _ _ he,⟨rfl,_,_,rfl⟩,.inl rfl⟩
 refine x_body (W:={ W with h:=h₁,L:=h'.objs.size }) G KX hcls KC R1 EO1 R.base XI1 rfl rfl rfl (sh:=sh) (t:=_) fun h2 t2 I2=>?_
 exact ⟨rfl,hQ h2 t2 I2.keeps hm.new (let ⟨o,q1,q2,_⟩:=I2.ob;⟨o,q1,q2⟩)⟩
theorem d_exc (G:Gd prog w V Hz) (FO:FnOk V Hz jl) (hfn:∃ o,Hz.get? jl.addr=some o/\o.cls=.type "function") (KX:K.In Hz) (hcls:findCls K (.type "Exception") (.type "type") "__init__"=some (.val (.builtin "Exception.__init__"))) {k:Nat} (hk:nth qk k=some Ck) (KC:KExc K Ck)
  (AO:AOk (cd+1) l fs A) (R:Rel V w.params Hz fs C W loc) {as:List AV} {vs:List Value} (hv:W.Rs V as vs):
  DoesA prog w V Hz A fs l C W loc (call (.ref Ck) vs []) (k_exc W.s k as):=by
 intro sh t Q E hQ
 obtain ⟨nm,q,N,bs,bm,hdct,sn,sub,ab,col,dd,k0,k1,k2,k3,k5,ho,h1,h2,h3,h4,h5⟩:=KC.ob
 have X:K.In W.h:=KX.keeps R.base
 obtain ⟨o,hfo,hfc⟩:=hfn
 have fin:(vs.length=1 \/ vs.length=2)->PV w.params V Hz fs l C W loc sh (newC W.s (.exc k) fun i s=>.v (.ce i) s) Q E->wpAny (model prog w) A (call (.ref Ck) vs []) Q E (at' sh W t):=by
  intro hvs hP
  have hdp:=AO.dp
  simp only [newC,fN_eq] at hP
  refine x_make (g:=(at' sh W t).gens) (d:=(at' sh W t).drawn) (os:=(at' sh W t).os) h1 h2 h3 (X _ _ ho) (looks_findIn X KC.init) (R.base _ _ hfo) hfc (fun h' e hm=>?_) (by rw [sizeLine_eq];omega)
  refine x_init (A:=A.under _) G FO KX hcls KC R ?_ hm hvs (sh:=sh) (t:=t) fun h2 t2 kp new hob=>?_
  ·show A.depth+(Code.builtin "type.__call__" ⟨.ref Ck :: vs,[]⟩).weight < _
   rw [show (Code.builtin "type.__call__" ⟨.ref Ck :: vs,[]⟩).weight=1 from rfl];omega
  obtain ⟨ob,hob1,hob2⟩:=hob
  obtain ⟨W',e1,e2,e3,e4,R',S'⟩:=R.new (h':=h2) (a:=e) (c:=.exc k) kp new fun ρ' hρ hρa=>⟨Ck,ob,hk,hob1,hob2⟩
  have:=hP (.ref e) W' t2 e2 e3 R' S' ⟨by rw [e3];exact Nat.lt_succ_self _,by rw [e4]⟩
  rw [at'_eq e1] at this
  exact this
 have hl:=ku.length hv
 induction as using List.casesOn with
 |nil=>exact hQ.elim
 |cons a r=>
  induction a using AV.casesOn with
  |st x=>
   induction r using List.casesOn with
   |nil=>exact fin (.inl hl) hQ
   |cons b r=>
    induction r using List.casesOn with
    |nil=>
     simp only [k_exc] at hQ
     induction hp:pos? b with
     |none=>rw [hp] at hQ;exact hQ.elim
     |some q=>rw [hp] at hQ;exact fin (.inr hl) hQ
    |cons _ _=>exact hQ.elim
  |_=>exact hQ.elim
end
section
variable {prog:Program} {w:World} {A:Around} {C:Addr} {R:Result->Shared->Prop} {h:Heap} {g:Array GenState} {d:Drawn} {t:Nat} {os:OsState}
theorem zw {s:Shared} {id:String} {args:Args} {b:Builtin} (hq:(Code.builtin id args).quiet=true) (ok:okC (.builtin id args)=true) (hb:entryFor table id=some b)
  (h:wpR (model prog w) A.in1 (checkBuiltinCall id args) (fun _ s₁=>wpR (model prog w) (A.under (.builtin id args)) (b args)
   (fun fin s'=>match fin with|.done f=>R (.ok f) s'|.again c'=>c'.quiet=true/\okC c'=true/\kb (model prog w) A c' R s') (fun e s'=>R (.error e) s') s₁)
   (fun e s'=>R (.error e) s') s):kb (model prog w) A (.call (.builtin id) args) R s:=by
 refine ka ?_
 show wpR _ A.in1 (do checkBuiltinCall id args;again (.builtin id args)) _ _ s
 refine jr (jq h (fun _ s₁ h₁=>jv (And.intro hq (And.intro ok (ka ?_)))) fun _ _ h'=>h')
 show wpR _ _ (match entryFor table id with|some b=>b args|none=>unsupported ((withoutEnding? id "#data").getD id)) _ _ s₁
 rw [hb];exact h₁
theorem makeR {rest:List Value} {init:Value} (Y:Makes (model prog w) h C) (hi:Looks (model prog w) h (typeLookup (.ref C) "__init__") (some init))
  (hb:∀ self,Looks (model prog w) h (bindSpecial init self) (init,[self])) (hne:(some init != some (Value.builtin "object.__init__"))=true \/ (rest=[]/\([]:List (Str × Value))=[]))
  (hq:wpR (model prog w) (A.under (.builtin "type.__call__" ⟨.ref C :: rest,[]⟩)) (call init (.ref (h.objs.size+1) :: rest) []) (fun v s'=>v=.none/\R (.ok (.ret (.ref (h.objs.size+1)))) s') (fun e s'=>R (.error e) s') ⟨(h.push emptyDict).push (instObj C h.objs.size),g,d,t,os⟩):
  kb (model prog w) A (.call (.ref C) ⟨rest,[]⟩) R ⟨h,g,d,t,os⟩:=by
 have Y':=Y
 obtain ⟨⟨oc,od,cd,sl,hC,e1,e2,e4⟩,made,base,self,top,call,typ⟩:=Y
 refine ka (.of ?_)
 show wpAny _ _ (callAny (.ref C) _) _ _ _
 refine nd_load hC ?_
 show wpAny _ _ (callAny.viaDunder (.ref C) _) _ _ _
 unfold callAny.viaDunder
 refine jc (call.at ?_)
 dsimp only
 rw [tc_bind]
 refine jc (ji (jc (ji ?_)))
 refine ji (a:=Fin.again (.call (.builtin "type.__call__") ⟨.ref C :: rest,[]⟩)) (And.intro rfl (And.intro rfl ?_))
 have ok1:okC (.builtin "type.__call__" ⟨.ref C :: rest,[]⟩)=true:=by show (!Builtin.Bytes.decodersThatHold.contains "type.__call__")=true;decide +kernel
 refine zw (Code.quiet_builtin _ (by decide +kernel)) ok1 entry_typeCall (.of (@check_slot (model prog w) _ _ ⟨h,g,d,t,os⟩ "type.__call__" "type" "__call__" (.ref C) rest [] _ tc_kind tc_split typ (tc_args _ _ _) ?_))
 unfold Builtin.«type.__call__»
 have hm:Looks (model prog w) h (mroOf (.ref C)) cd.mro:=((Looks.ld (part:=none) hC).andThen .now).andThen .now
 dsimp only
 rw [if_neg (show ¬ ((Value.ref C == Value.type "type")=true) from by simp)]
 refine jr (.of (hm.at ?_))
 rw [if_neg (by rw [e4];decide)]
 refine jr (.of (made.at ?_))
 dsimp only
 refine jr (jv (jr (ju (.of (wpAny_call (new_K Y' hi hne ?_))))))
 have k:∀ b o,h.get? b=some o->((h.push emptyDict).push (instObj C h.objs.size)).get? b=some o:=fun b o e=>ja _ (ja _ e)
 have hx:((h.push emptyDict).push (instObj C h.objs.size)).get? (h.objs.size+1)=some (instObj C h.objs.size):=by heap_get
 have t1:Looks (model prog w) ((h.push emptyDict).push (instObj C h.objs.size)) (typeOf (.ref (h.objs.size+1))) (.ref C):=(Looks.ld hx).andThen .now
 have s1:=self.keeps k
 have i1:=hi.keeps k
 have b1:=(hb (.ref (h.objs.size+1))).keeps k
 have n1:Looks (model prog w) ((h.push emptyDict).push (instObj C h.objs.size)) (isInstance (.ref (h.objs.size+1)) (.ref C)) true:=t1.andThen s1
 refine jr (.of (n1.at ?_))
 rw [if_neg (by decide)]
 refine jr (ju ?_)
 unfold callSpecial? specialOf
 refine jr (jr (.of (t1.at (.of (i1.at ?_)))))
 dsimp only
 refine ju (jr (.of (b1.at ?_)))
 dsimp only
 refine jr (jq hq (fun v s' z=>?_) fun _ _ z=>z)
 obtain ⟨rfl,z⟩:=z
 refine jv ?_
 dsimp only
 rw [if_neg (by decide)]
 exact jv z
end
end Mine
end
section
open PySem PySem.W PyProof.Rows PySem.Calls PySem.NumText
namespace Mine
theorem chr_nat:∀ d:Nat,d < 10->(Nat.digitChar d).toNat=d+48:=by decide
theorem figs_eq:∀ (f n:Nat) (acc:List Nat),n < 10 ^ f->0 < f->figs f n acc=(Nat.toDigits 10 n).map Char.toNat ++ acc
 |0,_,_,_,h=>absurd h (Nat.lt_irrefl 0)
 |f+1,n,acc,h,_=>by
  by_cases hn:n < 10
  ·have:Nat.blt n 10=true:=by simpa [Nat.blt_eq] using hn
   simp only [figs,this]
   rw [Nat.toDigits_of_lt_base hn]
   simp [chr_nat n hn]
  ·have:Nat.blt n 10=false:=by rw [<- Bool.not_eq_true];simpa [Nat.blt_eq] using hn
   simp only [figs,this]
   have hm:n % 10 < 10:=Nat.mod_lt n (by decide)
   have hf:0 < f:=by
    rcases Nat.eq_zero_or_pos f with rfl|h0
    ·simp at h;omega
    ·exact h0
   have h2:n / 10 < 10 ^ f:=by rw [Nat.pow_succ] at h;omega
   rw [figs_eq f (n / 10) _ h2 hf]
   have t:Nat.toDigits 10 (n / 10) ++ Nat.toDigits 10 (n % 10)=Nat.toDigits 10 (10 * (n / 10)+n % 10):=Nat.toDigits_append_toDigits (by decide) (by omega) hm
   rw [Nat.div_add_mod] at t
   rw [<- t,List.map_append,Nat.toDigits_of_lt_base hm]
   simp [chr_nat _ hm]
theorem str_figs {n:Nat} (h:n < 10000):Str.ofString (toString ((n:Nat):Int))=jk (figs 5 n []):=by
 have e1:=KIN.signs_num n
 rw [figs_eq 5 n [] (by omega) (by decide),List.append_nil]
 induction hs:Str.ofString (toString ((n:Nat):Int)) with
 |mk a=>
  rw [hs] at e1
  simp only [jk] at e1 ⊢
  rw [<- e1]
theorem digs_eq:∀ (l:List Nat) (n m:Nat),digs l n=some m->AllDigits l/\l.foldl (fun acc c=>acc * 10+(c - 48)) n=m
 |[],n,m,h=>⟨fun _ h=>absurd h (by simp),by simpa [digs] using h⟩
 |c :: r,n,m,h=>by
  simp only [digs] at h
  induction h1:Nat.ble 48 c with
  |false=>rw [h1] at h;exact (jg _ h.symm).elim
  |true=>
   rw [h1] at h
   simp only at h
   induction h2:Nat.ble c 57 with
   |false=>rw [h2] at h;exact (jg _ h.symm).elim
   |true=>
    rw [h2] at h
    simp only at h
    obtain ⟨a,b⟩:=digs_eq r _ m h
    rw [Nat.ble_eq] at h1 h2
    refine ⟨fun d hd=>?_,?_⟩
    ·rcases List.mem_cons.mp hd with rfl|hd
     ·exact ⟨h1,h2⟩
     ·exact a d hd
    ·rw [List.foldl_cons,Nat.mul_comm];exact b
section
variable {prog:Program} {w:World} {V:Vl} {Hz:Heap} {p:Par} {fs:List Addr} {l:List Env} {C:EC} {W:Wd} {loc:List AV} {A:Around} {cd:Nat}
variable (O:VOk V p) (AO:AOk cd l fs A) (R:Rel V w.params Hz fs C W loc)
include O AO R
theorem p_len {a:AV} {va:Value} (ha:W.R V a va):DoesA prog w V Hz A fs l C W loc (call (.builtin "len") [va] []) (lenA W.s a):=by
 intro sh t Q E hQ
 induction a using AV.casesOn with
 |st x=>
  obtain ⟨u,rfl⟩:=ha
  simp only [lenA] at hQ
  induction h1:ki x 10000 with
  |false=>rw [h1] at hQ;exact hQ.elim
  |true=>
   rw [h1] at hQ
   obtain ⟨_,hQ⟩:=PV.ret1 O AO R hQ
   have:=kh h1
   refine PySem.P.len_str ?_ ?_
   ·rw [qr];omega
   ·rw [qr];exact hQ _ _ ⟨_,rfl⟩
 |«by» cs=>
  obtain ⟨d,u,rfl,hd⟩:=ha
  simp only [lenA] at hQ
  have hfl:=flat_length V cs
  induction hl:lenCk cs with
  |mk js c=>
   rw [hl] at hQ hfl
   simp only at hQ hfl
   induction h1:ki js 10000 with
   |false=>rw [h1] at hQ;exact hQ.elim
   |true=>
    rw [h1] at hQ
    simp only at hQ
    induction h2:small c with
    |false=>rw [h2] at hQ;exact hQ.elim
    |true=>
     rw [h2] at hQ
     obtain ⟨_,hQ⟩:=PV.ret1 O AO R hQ
     have h1:=kh h1
     have h2:c < 100000:=by simpa [small,Nat.blt_eq] using h2
     have h3:=lens_le O js
     have h4:d.size=lens V js+c:=by rw [<- qj,hd,hfl]
     refine PySem.W.len_bytes (by omega) ?_
     rw [h4]
     refine hQ _ _ ?_
     induction js using List.casesOn with
     |nil=>rw [show lens V []+c=c from by simp [lens]];exact ⟨_,rfl⟩
     |cons j r=>exact ⟨_,rfl⟩
 |tu x=>
  obtain ⟨T,vs,rfl,h2,h3⟩:=ha
  simp only [lenA] at hQ
  induction h1:ki x 10000 with
  |false=>rw [h1] at hQ;exact hQ.elim
  |true=>
   rw [h1] at hQ
   obtain ⟨_,hQ⟩:=PV.ret1 O AO R hQ
   have:=kh h1
   have e:=ku.length h3
   have hT:IsTup (at' sh W t).heap T vs.toArray:=h2
   refine PyProof.Rows.len_tuple hT ?_ ?_
   ·rw [List.size_toArray,e];omega
   ·rw [List.size_toArray,e];exact hQ _ _ ⟨_,rfl⟩
 |ce k=>
  simp only [lenA,ke] at hQ
  induction hl:W.s.sto.lookup k with
  |none=>rw [hl] at hQ;exact hQ.elim
  |some cc=>
   rw [hl] at hQ
   induction cc with
   |li x=>
    simp only at hQ
    induction h1:ki x 10000 with
    |false=>rw [h1] at hQ;exact hQ.elim
    |true=>
     rw [h1] at hQ
     obtain ⟨_,hQ⟩:=PV.ret1 O AO R hQ
     have:=kh h1
     obtain ⟨-,rfl⟩:=ha
     obtain ⟨vs,h2,h3⟩:=(R.cell k _ hl).2
     have e:=ku.length h3
     have hL:(at' sh W t).heap.IsList (W.ρ k) vs.toArray:=h2.isList
     refine call_len_list hL ?_ ?_
     ·rw [List.size_toArray,e];omega
     ·rw [List.size_toArray,e];exact hQ _ _ ⟨_,rfl⟩
   |_=>exact hQ.elim
 |_=>exact hQ.elim
end
theorem ku.nthV {T:Nat->Value->Prop} {V:Vl} {h:Heap} {ρ:Nat->Addr} {nx:Nat} {l:List AV} {vs:List Value} (x:ku T V h ρ nx l vs) {i:Nat} {v:Value} (hv:vs[i]?=some v):∃ a,l[i]?=some a/\RepG T V h ρ nx a v:=by
 have hi:i < l.length:=by rw [<- ku.length x];exact (List.getElem?_eq_some_iff.mp hv).1
 obtain ⟨v',e,r⟩:=ku.nth x (List.getElem?_eq_getElem hi)
 rw [hv] at e;obtain rfl:=jf e
 exact ⟨_,List.getElem?_eq_getElem hi,r⟩
set_option smartUnfolding false in
theorem bos_cons {a:AV} {r:List AV} {xs:List Bool} (h:bos? (a :: r)=some xs):∃ x ys,a=.bo x/\bos? r=some ys/\xs=x :: ys:=
 J.bo (Φ:=fun o=>o=some xs) (d:=none) nofun (show (match (generalizing:=false) a with|.bo l=>(match bos? r with|some xs=>some (l :: xs)|none=>none)|_=>none)=some xs from h) fun x e h=>Op.so (o:=bos? r) h fun ys hr h=>⟨x,ys,e,hr,(jf h).symm⟩
theorem bos_of:∀ {l:List AV} {bs:List Bool},bos? l=some bs->l=bs.map .bo
 |[],bs,h=>by obtain rfl:=jf h;rfl
 |a :: r,bs,h=>by
  obtain ⟨x,ys,rfl,hr,rfl⟩:=bos_cons h
  rw [bos_of hr];rfl
theorem allB_eq:∀ l:List Bool,allB l=l.all id
 |[]=>rfl
 |true :: r=>by simp [allB,allB_eq r]
 |false :: r=>by simp [allB]
section
variable {prog:Program} {w:World} {V:Vl} {Hz:Heap} {p:Par} {fs:List Addr} {l:List Env} {C:EC} {W:Wd} {loc:List AV} {A:Around} {cd:Nat}
variable (O:VOk V p) (AO:AOk cd l fs A) (R:Rel V w.params Hz fs C W loc)
include O AO R
theorem p_ord {c:Nat} {va:Value} (ha:W.R V (.st [c]) va):DoesA prog w V Hz A fs l C W loc (call (.builtin "ord") [va] []) (.v (.it (.ofNat c)) W.s):=by
 intro sh t Q E hQ
 obtain ⟨u,rfl⟩:=ha
 exact PySem.P.ord_of_char (hQ _ W _ rfl rfl R (.refl fs W) ⟨_,rfl⟩)
theorem p_chr {n:Nat} (hn:n < 128) {va:Value} (ha:W.R V (.it (.ofNat n)) va):DoesA prog w V Hz A fs l C W loc (call (.builtin "chr") [va] []) (.v (.st [n]) W.s):=by
 intro sh t Q E hQ
 obtain ⟨u,rfl⟩:=ha
 have h1:((decide ((Int.ofNat n) < 0)) || decide ((Int.ofNat n) > 0x10FFFF))=false:=by
  rw [Bool.or_eq_false_iff]
  constructor
  ·rw [decide_eq_false_iff_not];exact Int.not_lt.mpr (Int.ofNat_nonneg n)
  ·rw [decide_eq_false_iff_not];intro h;have:(0x10FFFF:Int) < (n:Int):=h;omega
 exact PySem.P.chr_of_int h1 (hQ _ W _ rfl rfl R (.refl fs W) ⟨_,rfl⟩)
theorem p_str (hnd:Hz.NoDigits) {n:Nat} (hn:n < 10000) {va:Value} (ha:W.R V (.it (.ofNat n)) va):DoesA prog w V Hz A fs l C W loc (call (.type "str") [va] []) (retA W.s (.st (figs 5 n []))):=by
 intro sh t Q E hQ
 obtain ⟨u,rfl⟩:=ha
 obtain ⟨_,hQ⟩:=PV.ret1 O AO R hQ
 have hd:(at' sh W t).heap.NoDigits:=by
  obtain ⟨mc,hm,e⟩:=hnd
  exact ⟨mc,hm.keeps R.base,e⟩
 refine str_of_int_or AO.hd hd (fun _=>?_) (fun h=>?_)
 ·have:(toString (Int.ofNat n):String)=toString ((n:Nat):Int):=rfl
  show Q (.str (Str.ofString (toString ((n:Nat):Int))) _) _
  rw [str_figs hn]
  exact hQ _ _ ⟨_,rfl⟩
 ·exfalso
  have h:10 ^ 4300<=n:=h
  have h2:10 ^ 5<=10 ^ 4300:=Nat.pow_le_pow_right (by decide) (by decide)
  have:10 ^ 5<=n:=Nat.le_trans h2 h
  omega
theorem p_int {x:List Nat} {n:Nat} (hl:x.length<=6) (hx:x ≠ []) (hd:digs x 0=some n) {va:Value} (ha:W.R V (.st x) va):DoesA prog w V Hz A fs l C W loc (call (.type "int") [va] []) (retA W.s (.it (.ofNat n))):=by
 intro sh t Q E hQ
 obtain ⟨u,rfl⟩:=ha
 obtain ⟨_,hQ⟩:=PV.ret1 O AO R hQ
 obtain ⟨h1,h2⟩:=digs_eq x 0 n hd
 have e:(jk x).cps.toList=x:=by simp [jk]
 have hi:PySem.intText? (jk x)=some ((n:Nat):Int):=by
  rw [intText_digits (x:=jk x) (by rw [e];exact h1) (by rw [e];exact hx) (by rw [qr];omega),e]
  show some ((digitsVal x:Nat):Int)=_
  rw [show digitsVal x=n from h2]
 exact KIN.call_text hi (by rw [qr];omega) (hQ _ _ ⟨_,rfl⟩)
theorem p_intsc {k:Nat} {va:Value} (ha:W.R V (.sc k) va):DoesA prog w V Hz A fs l C W loc (call (.type "int") [va] []) (.v (.sc k) W.s):=by
 intro sh t Q E hQ
 obtain ⟨u,rfl⟩:=id ha
 exact call_int_int (hQ _ W _ rfl rfl R (.refl fs W) ⟨_,rfl⟩)
theorem p_range {n:Nat} {va:Value} (ha:W.R V (.it (.ofNat n)) va):DoesA prog w V Hz A fs l C W loc (call (.type "range") [va] []) (.v (.rg n) W.s):=by
 intro sh t Q E hQ
 obtain ⟨u,rfl⟩:=ha
 refine call_range_1 ?_
 obtain ⟨R',S'⟩:=R.ext (h':=(at' sh W t).heap.push { cls:=.type "range",data:=.fields #[.int 0 t,.int (Int.ofNat n) u,.int 1 (t+1)] }) fun b o e=>ja _ e
 exact hQ _ { W with h:=_ } _ rfl rfl R' S' ⟨_,_,_,_,rfl,Heap.get?_push_size _ rfl⟩
theorem p_tuple {k:Nat} {x:List AV} (hl:qb W.s k (.li x)) (h1:ki x 10000=true):DoesA prog w V Hz A fs l C W loc (call (.type "tuple") [.ref (W.ρ k)] []) (.v (.tu x) W.s):=by
 intro sh t Q E hQ
 obtain ⟨vs,h2,h3⟩:=(R.cell k _ hl).2
 have e:=ku.length h3
 have hL:(at' sh W t).heap.IsList (W.ρ k) vs.toArray:=h2.isList
 have:=kh h1
 refine call_tuple_list hL (fun h' hk=>?_) (by rw [List.size_toArray,e,qe];omega)
 obtain ⟨R',S'⟩:=R.ext (h':=h'.push { cls:=.type "tuple",data:=.seq vs.toArray }) fun b o e=>ja _ (hk b o e)
 exact hQ _ { W with h:=_ } _ rfl rfl R' S' ⟨_,vs,rfl,⟨_,Heap.get?_push_size _ rfl,rfl,0,rfl⟩,S'.Rs h3⟩
theorem p_min {x y:Int} {va vb:Value} (ha:W.R V (.it x) va) (hb:W.R V (.it y) vb):DoesA prog w V Hz A fs l C W loc (call (.builtin "min") [va,vb] []) (match Z.ltB y x with|true=>.v (.it y) W.s|false=>.v (.it x) W.s):=by
 intro sh t Q E hQ
 obtain ⟨u,rfl⟩:=ha
 obtain ⟨u',rfl⟩:=hb
 refine min_two_ints AO.hd fun h' tk hk=>?_
 obtain ⟨R',S'⟩:=R.ext (h':=h') fun b o e=>hk b o e
 by_cases h:y < x
 ·rw [if_pos h]
  rw [show Z.ltB y x=true from by rw [PySem.W.Z.ltB_iff];exact h] at hQ
  exact hQ _ { W with h:=_ } _ rfl rfl R' S' ⟨_,rfl⟩
 ·rw [if_neg h]
  rw [show Z.ltB y x=false from by rw [<- Bool.not_eq_true];rw [PySem.W.Z.ltB_iff];exact h] at hQ
  exact hQ _ { W with h:=_ } _ rfl rfl R' S' ⟨_,rfl⟩
theorem p_all {k:Nat} {x:List AV} {bs:List Bool} (hl:qb W.s k (.li x)) (hb:bos? x=some bs):DoesA prog w V Hz A fs l C W loc (call (.builtin "all") [.ref (W.ρ k)] []) (.v (.bo (allB bs)) W.s):=by
 intro sh t Q E hQ
 obtain ⟨vs,h2,h3⟩:=(R.cell k _ hl).2
 have hL:(at' sh W t).heap.IsList (W.ρ k) vs.toArray:=h2.isList
 have hlt:W.ρ k < (at' sh W t).heap.objs.size:=by obtain ⟨_,e,_⟩:=hL;exact Heap.lt_size e
 have hx:=bos_of hb
 have hvb:∀ (i:Nat) (v:Value),vs[i]?=some v->∃ b,bs[i]?=some b/\v=.bool b:=by
  intro i v hv
  obtain ⟨a,ha,hr⟩:=ku.nthV h3 hv
  rw [hx,List.getElem?_map] at ha
  induction hbi:bs[i]? with
  |none=>rw [hbi] at ha;exact (jg _ ha.symm).elim
  |some b=>rw [hbi] at ha;obtain rfl:=jf ha;exact ⟨b,rfl,hr⟩
 refine call_all_walk (wpAny_pyIter_list hL ?_)
 refine ⟨(at' sh W t).heap.objs.size,[(at' sh W t).heap.objs.size,W.ρ k],[(at' sh W t).heap.objs.size],vs.toArray.size,_,_,fun i=>(bs[i]?).getD true,rfl,Walks.list (A:=A.in1) AO.hd _ (W.ρ k) (Nat.ne_of_lt hlt) vs.toArray,
  ⟨⟨_,Heap.get?_push_size _ rfl,rfl,rfl⟩,hL.push _⟩,fun i v s' Q' E' hP hQ=>?_,fun h' tk hk=>?_⟩
 ·obtain ⟨b,e,rfl⟩:=hvb i v (by simpa using hP)
  simp only [e,Option.getD_some] at hQ
  exact wpAny_truthy_bool hQ
 ·have hk':∀ b o,W.h.get? b=some o->h'.get? b=some o:=fun b o e=>hk b o (fun q=>by
   rw [List.mem_singleton.mp q] at e
   exact Nat.lt_irrefl _ (Heap.lt_size e)) (ja _ e)
  obtain ⟨R',S'⟩:=R.ext (h':=h') hk'
  have e1:(List.range vs.toArray.size).all (fun i=>(bs[i]?).getD true)=allB bs:=by
   have e2:vs.length=bs.length:=by rw [ku.length h3,hx,List.length_map]
   rw [allB_eq,List.size_toArray,e2,Bool.eq_iff_iff,List.all_eq_true,List.all_eq_true]
   constructor
   ·intro h b hb
    obtain ⟨i,hi,rfl⟩:=List.getElem_of_mem hb
    have:=h i (List.mem_range.mpr hi)
    simpa [hi] using this
   ·intro h i hi
    have hi:=List.mem_range.mp hi
    simpa [hi] using h _ (List.getElem_mem hi)
  show Q (.bool _) _
  rw [e1]
  exact hQ _ { W with h:=_ } _ rfl rfl R' S' rfl
end
set_option smartUnfolding false in
theorem its_cons {a:AV} {r:List AV} {xs:List Nat} (h:its? (a :: r)=some xs):∃ x ys,a=.it (.ofNat x)/\x < 256/\its? r=some ys/\xs=x :: ys:=
 Op.itN (show (match (generalizing:=false) a with|.it (.ofNat n)=>(match Nat.blt n 256 with|true=>(match its? r with|some xs=>some (n :: xs)|none=>none)|false=>none)|_=>none)=some xs from h) fun x e h=>Op.tt h fun hb h=>Op.so (o:=its? r) h fun ys hr h=>⟨x,ys,e,qq hb,hr,(jf h).symm⟩
theorem its_of:∀ {l:List AV} {ns:List Nat},its? l=some ns->l=ns.map (fun n=>.it (.ofNat n))/\∀ n ∈ ns,n < 256
 |[],ns,h=>by obtain rfl:=jf h;exact ⟨rfl,nofun⟩
 |a :: r,ns,h=>by
  obtain ⟨x,ys,rfl,hx,hr,rfl⟩:=its_cons h
  exact ⟨by rw [(its_of hr).1];rfl,fun m hm=>(List.mem_cons.mp hm).elim (fun e=>e▸hx) ((its_of hr).2 m)⟩
theorem bb_lookup:typeLookup (.type "bytes") "__bytes__"=pure (some (.builtin "bytes.__bytes__")):=by rw [typeLookup_type,builtinLookup_eq_fast];kernel_rfl
theorem ba_no_bytes:typeLookup (.type "bytearray") "__bytes__"=pure none:=by rw [typeLookup_type,builtinLookup_eq_fast];kernel_rfl
theorem ba_no_index:typeLookup (.type "bytearray") "__index__"=pure none:=by rw [typeLookup_type,builtinLookup_eq_fast];kernel_rfl
theorem ba_buffer:typeLookup (.type "bytearray") "__buffer__"=pure (some (.builtin "bytearray.__buffer__")):=by rw [typeLookup_type,builtinLookup_eq_fast];kernel_rfl
section
variable {prog:Program} {w:World} {A:Around} {E:VP} {s:Shared}
theorem by_new {d:Array UInt8} {u:Tok} {Q:VP} (h:Q (.bytes d u) s):wpAny (model prog w) A (call (.type "bytes") [.bytes d u]) Q E s:=by
 refine callType_codes (Q₁:=fun obj s₁=>s₁.TypeIs obj "bytes"/\Q obj s₁) F.bm_called (F.bm_typeCall _) F.entry_object_init ?_ fun obj s₁ h₁=>?_
 ·refine codeAny_of_tree ?_
  show wpAny _ A.in1.in1 (do checkBuiltinCall "bytes.__new__" ⟨[.type "bytes",.bytes d u],[]⟩;again (.builtin "bytes.__new__" ⟨[.type "bytes",.bytes d u],[]⟩)) _ _ s
  refine jc (wpAny_of_eq (F.bm_newCall _) (ji ⟨plainId_quiet F.bm_plain _,codeAny_builtin F.bm_entry ?_⟩))
  rw [Around.under_plainId F.bm_plain _]
  have hT:s.TypeIs (.bytes d u) "bytes":=PySem.W.typeIs_bytes _ _ _
  unfold Builtin.«bytes.__new__»
  refine jc (wpAny_of_eq (a:=true) rfl ?_)
  refine bm_if_false rfl ?_
  refine jc (wpAny_of_eq F.bm_sub ?_)
  refine bm_if_false rfl ?_
  refine jc (wpAny_of_eq (F.bm_bind _) ?_)
  refine jc (wpAny_of_eq (a:=()) rfl ?_)
  refine jc (wpAny_of_eq (a:=()) rfl ?_)
  refine bm_if_false rfl ?_
  refine jc (wpAny_specialOf hT bb_lookup ?_)
  dsimp only
  refine jc (wpAny_rule (jc (wpAny_typeOf hT ?_)))
  refine bm_if_true (by decide) ?_
  show wpAny _ _ (if (Value.type "bytes" == Value.type "bytes")=true then _ else _) _ _ _
  refine bm_if_true (by decide) ?_
  exact jc (ji (ji ⟨hT,h⟩))
 ·exact ⟨h₁.1,F.args_object_init_2 obj _,object_init_meets F.bm_called.init.lookup F.bm_called.made (by decide) prog w A.in1 _ s₁ ⟨h₁.1,rfl,h₁.2⟩⟩
theorem ba_own {a:Addr} (hT:s.TypeIs (.ref a) "bytearray") {name:String} {id:String} {Q:Bool->Shared->Prop} (hl:typeLookup (.type "bytearray") name=pure (some (.builtin id))) (he:(!id.endsWith ("." ++ name))=false)
  (hd:id.dropRight (name.length+1)="bytearray") (h:Q true s):wpAny (model prog w) A (Builtin.Bytes.slotIsOwn (.ref a) name) Q E s:=by
 unfold Builtin.Bytes.slotIsOwn
 refine jc (wpAny_specialOf hT hl ?_)
 dsimp only
 refine bm_if_false he ?_
 rw [hd]
 exact wpAny_isInstance hT (by rw [isSubtype_type];kernel_rfl) h
theorem ba_release:typeLookup (.type "bytearray") "__release_buffer__"=pure (some (.builtin "bytearray.__release_buffer__")):=by rw [typeLookup_type,builtinLookup_eq_fast];kernel_rfl
theorem by_ba {a:Addr} {d:Array UInt8} (ha:s.heap.get? a=some { cls:=.type "bytearray",data:=.bytearray d 0 }) (hz:d.size<=sizeLine) {Q:VP} (h:∀ t t',Q (.bytes d t) { s with toks:=t' }):wpAny (model prog w) A (call (.type "bytes") [.ref a]) Q E s:=by
 have hT:s.TypeIs (.ref a) "bytearray":=⟨_,ha,rfl⟩
 refine callType_codes (Q₁:=fun obj s₁=>s₁.TypeIs obj "bytes"/\Q obj s₁) F.bm_called (F.bm_typeCall _) F.entry_object_init ?_ fun obj s₁ h₁=>?_
 ·refine codeAny_of_tree ?_
  show wpAny _ A.in1.in1 (do checkBuiltinCall "bytes.__new__" ⟨[.type "bytes",.ref a],[]⟩;again (.builtin "bytes.__new__" ⟨[.type "bytes",.ref a],[]⟩)) _ _ s
  refine jc (wpAny_of_eq (F.bm_newCall _) (ji ⟨plainId_quiet F.bm_plain _,codeAny_builtin F.bm_entry ?_⟩))
  rw [Around.under_plainId F.bm_plain _]
  unfold Builtin.«bytes.__new__»
  refine jc (wpAny_of_eq (a:=true) rfl ?_)
  refine bm_if_false rfl ?_
  refine jc (wpAny_of_eq F.bm_sub ?_)
  refine bm_if_false rfl ?_
  refine jc (wpAny_of_eq (F.bm_bind _) ?_)
  refine jc (wpAny_of_eq (a:=()) rfl ?_)
  refine jc (wpAny_of_eq (a:=()) rfl ?_)
  refine bm_if_false rfl ?_
  refine jc (wpAny_specialOf hT ba_no_bytes ?_)
  refine jc (jc ?_)
  show wpAny _ _ (load a >>= _) _ _ _
  refine jc (wpAny_load ha ?_)
  refine ji (ji ?_)
  refine bm_if_false rfl ?_
  refine jc (wpAny_specialOf hT ba_no_index ?_)
  refine bm_if_true rfl ?_
  refine jc ?_
  unfold Builtin.Bytes.buffer?
  refine jc (wpAny_specialOf hT ba_buffer ?_)
  dsimp only
  refine jc (ba_own hT ba_buffer (by decide +kernel) (by decide +kernel) ?_)
  refine bm_if_false rfl ?_
  refine jc (wpAny_specialOf hT ba_buffer ?_)
  unfold Builtin.Bytes.ownRelease
  refine jc (jc (ba_own hT ba_release (by decide +kernel) (by decide +kernel) (ji ?_)))
  refine bm_if_false rfl ?_
  unfold Builtin.Bytes.payload Builtin.Bytes.payload?
  refine jc (jc (jc (wpAny_load ha (ji (ji ?_)))))
  refine ji ?_
  dsimp only
  refine jc (wpAny_rule (jc (wpAny_mkBytes ?_ hz)))
  show wpAny _ _ (if (Value.type "bytes" == Value.type "bytes")=true then _ else _) _ _ _
  refine bm_if_true (by decide) ?_
  exact jc (ji (ji ⟨PySem.W.typeIs_bytes _ _ _,h _ _⟩))
 ·exact ⟨h₁.1,F.args_object_init_2 obj _,object_init_meets F.bm_called.init.lookup F.bm_called.made (by decide) prog w A.in1 _ s₁ ⟨h₁.1,rfl,h₁.2⟩⟩
end
section
variable {prog:Program} {w:World} {A:Around} {E:VP} {s:Shared}
theorem codeR_builtin {R:Result->Shared->Prop} {id:String} {args:Args} {b:Builtin} (hb:entryFor table id=some b)
  (h:wpR (model prog w) (A.under (.builtin id args)) (b args) (fun fin s'=>match fin with|.done f=>R (.ok f) s'|.again c'=>c'.quiet=true/\okC c'=true/\kb (model prog w) A c' R s') (fun e s'=>R (.error e) s') s):kb (model prog w) A (.builtin id args) R s:=by
 refine ka ?_
 show wpR _ _ (match entryFor table id with|some b=>b args|none=>unsupported ((withoutEnding? id "#data").getD id)) _ _ s
 rw [hb];exact h
theorem callTypeR {T newId initId:String} {args:List Value} {Q Q₁:VP} (ft:TypeCalled T newId initId)
  (hct:checkTypeCall T ⟨args,[]⟩=pure ())
  (hnew:codeAny (model prog w) A.in1 (.call (.builtin newId) ⟨.type T :: args,[]⟩) (wants Q₁ E) s)
  (hnext:∀ obj s₁,Q₁ obj s₁->s₁.TypeIs obj T/\kb (model prog w) A.in1 (.call (.builtin initId) ⟨obj :: args,[]⟩) (wants (fun r s₂=>r=.none/\Q obj s₂) E) s₁):
  wpR (model prog w) A (call (.type T) args) Q E s:=by
 obtain ⟨c,tl,hmro⟩:=ft.mro
 have hmade:=ft.made
 have hsub:=ft.sub
 have ok1:okC (.builtin "type.__call__" ⟨.type T :: args,[]⟩)=true:=by show (!Builtin.Bytes.decodersThatHold.contains "type.__call__")=true;decide +kernel
 refine ge (ka (.of ?_))
 show wpAny _ _ (callAny (.type T) _) _ _ _
 refine ji (And.intro (Code.quiet_builtin _ (by decide +kernel)) (And.intro ok1 (codeR_builtin F.entry_type_call ?_)))
 rw [Around.under_plain (weight_type_call_type T args []) rfl]
 unfold Builtin.«type.__call__»
 dsimp only
 rw [if_neg (by rw [ft.notType];decide)]
 rw [if_neg (by rw [ft.canCreate];decide)]
 rw [hct]
 rw [hmro]
 rw [pure_bind,pure_bind]
 rw [if_neg (by simp)]
 rw [hmade,pure_bind]
 dsimp only
 rw [pure_bind]
 refine jr (ju (.of (wpAny_call (codeAny_mono hnew fun r s₁ hr=>?_))))
 rcases r with e|(obj|_|_|_)<;>first|exact hr|exact hr.elim|skip
 obtain ⟨hT,hI⟩:=hnext _ _ hr
 refine jr (.of (wpAny_isInstance hT hsub ?_))
 rw [if_neg (by decide)]
 refine jr (ju ?_)
 unfold callSpecial?
 refine jr (.of (wpAny_specialOf hT ft.init.lookup ?_))
 dsimp only
 refine ju ?_
 rw [ft.init.bind,pure_bind]
 dsimp only
 refine jr (ge (codeR_mono hI fun r₂ s₂ hr₂=>?_))
 rcases r₂ with e|(v|_|_|_)<;>first|exact hr₂|exact hr₂.elim|skip
 obtain ⟨rfl,hq⟩:=hr₂
 refine jv ?_
 dsimp only
 rw [if_neg (by decide)]
 exact jv hq
end
theorem ba_mro:mroOf (.type "bytearray")=pure [.type "bytearray",.type "object"]:=by rw [mroOf_type];kernel_rfl
theorem ba_lookup_new:typeLookup (.type "bytearray") "__new__"=pure (some (.builtin "bytearray.__new__")):=by rw [typeLookup_type,builtinLookup_eq_fast];kernel_rfl
theorem zx:Slot "bytearray" "__init__" "bytearray.__init__":=
 .of (owner:="bytearray") (n:="__init__") (by rw [typeLookup_type,builtinLookup_eq_fast];kernel_rfl) (by decide +kernel) (by decide +kernel) (by decide +kernel)
  (by first|exact .inl (by decide +kernel)|exact .inr (by decide +kernel)) (by rw [isSubtype_type];kernel_rfl)
theorem ba_sub:isSubtype (.type "bytearray") (.type "bytearray")=pure true:=by rw [isSubtype_type];kernel_rfl
theorem ba_called:TypeCalled "bytearray" "bytearray.__new__" "bytearray.__init__":=
 ⟨by decide +kernel,by decide +kernel,⟨_,_,ba_mro⟩,madeBy_type ba_mro ba_lookup_new (by decide +kernel),by decide +kernel,ba_sub,zx⟩
theorem ba_typeCall (as:List Value):checkTypeCall "bytearray" ⟨as,[]⟩=pure ():=by kernel_rfl
theorem ba_newCall0:checkBuiltinCall "bytearray.__new__" ⟨[.type "bytearray"],[]⟩=pure ():=by kernel_rfl
theorem ba_newCall1 (a:Value):checkBuiltinCall "bytearray.__new__" ⟨[.type "bytearray",a],[]⟩=pure ():=by kernel_rfl
theorem entry_ba_new:entryFor table "bytearray.__new__"=some Builtin.«list.__new__»:=entryFor_alias (id':="list.__new__") (by rw [fastTable_eq_tree];kernel_rfl) (by first|rfl|decide +kernel) (by decide +kernel) (by rw [fastTable_eq_tree];kernel_rfl)
theorem plain_ba_new:plainId "bytearray.__new__"=true:=by decide +kernel
theorem entry_ba_init:entryFor table "bytearray.__init__"=some Builtin.«bytearray.__init__»:=entryFor_of_tree (by kernel_rfl)
theorem ba_init0 (x:Value):argsOk "bytearray.__init__" ⟨[x],[]⟩:=by unfold argsOk;kernel_rfl
theorem ba_init1 (x a:Value):argsOk "bytearray.__init__" ⟨[x,a],[]⟩:=by unfold argsOk;kernel_rfl
theorem ba_bind0:Builtin.Bytes.bindOptional "bytearray.__init__" "bytearray" ["source","encoding","errors"] [] []=pure [none,none,none]:=by kernel_rfl
theorem ba_bind1 (a:Value):Builtin.Bytes.bindOptional "bytearray.__init__" "bytearray" ["source","encoding","errors"] [a] []=pure [some a,none,none]:=by kernel_rfl
set_option maxRecDepth 1000000 in
set_option maxHeartbeats 4000000 in
theorem owner_ba_new:("bytearray.__new__".splitOn ".__new__").headD ""="bytearray":=by simp +decide [String.splitOn,String.splitOnAux]
theorem okC_bi (a:Args):okC (.builtin "bytearray.__init__" a)=true:=by
 show (!Builtin.Bytes.decodersThatHold.contains "bytearray.__init__")=true
 decide +kernel
section
variable {prog:Program} {w:World} {A:Around} {E:VP} {s:Shared}
theorem code_ba_new {as:List Value} (hc:checkBuiltinCall "bytearray.__new__" ⟨.type "bytearray" :: as,[]⟩=pure ()) {Q₁:VP}
  (h:Q₁ (.ref s.heap.objs.size) { s with heap:=s.heap.push { cls:=.type "bytearray",data:=.bytearray #[] } }):
  codeAny (model prog w) A (.call (.builtin "bytearray.__new__") ⟨.type "bytearray" :: as,[]⟩) (wants Q₁ E) s:=by
 refine codeAny_of_tree ?_
 show wpAny _ A.in1 (do checkBuiltinCall "bytearray.__new__" ⟨.type "bytearray" :: as,[]⟩;again (.builtin "bytearray.__new__" ⟨.type "bytearray" :: as,[]⟩)) _ _ s
 refine jc (wpAny_of_eq hc (ji ⟨plainId_quiet plain_ba_new _,codeAny_builtin_stack entry_ba_new rfl fun p st=>?_⟩))
 rw [Around.under_plainId plain_ba_new _]
 have hsub:=ba_sub
 have hown:=owner_ba_new
 obtain ⟨hp,g,d,tk,os⟩:=s
 simp only [hown]
 wp_walk
 exact h
end
section
variable {prog:Program} {w:World} {A:Around} {E:VP} {s:Shared}
theorem jx {α:Type} {M:Model} {c:Bool} {a b:Sem α} {Q:α->Shared->Prop} (hc:c=false) (h:wpR M A b Q E s):wpR M A (if c=true then a else b) Q E s:=by
 subst hc
 exact h
set_option backward.match.sparseCases true in
theorem ba_write {a:Addr} {d d':Array UInt8} (ha:s.heap.get? a=some { cls:=.type "bytearray",data:=.bytearray d 0 }) (hz:d'.size<=sizeLine) {Q:Unit->Shared->Prop}
  (h:∀ h',h'.get? a=some { cls:=.type "bytearray",data:=.bytearray d' 0 }->(∀ b o,b ≠ a->s.heap.get? b=some o->h'.get? b=some o)->Q () { s with heap:=h' }):
  wpAny (model prog w) A (Builtin.Bytes.write (.ref a) (fun _=>d')) Q E s:=by
 have hup:(s.heap.update a (Obj.mapBytearray (fun _=>d'))).get? a=some { cls:=.type "bytearray",data:=.bytearray d' 0 }:=Heap.get?_update_self _ ha rfl
 show wpAny _ _ (do
  match (<- load a).data with
  |.bytearray ..=>
   update a (Obj.mapBytearray (fun _=>d'))
   lookBehind a
  |_=>unsupported "internal:write-to-non-bytearray") _ _ _
 refine jc (wpAny_load ha ?_)
 refine jc (wpAny_update ha (wpAny_lookBehind hup ?_ (h _ hup fun b o hb e=>(Heap.get?_update_other _ _ (Ne.symm hb)).trans e)))
 show (if d'.size > sizeLine then some _ else none)=none
 rw [if_neg (by omega)]
theorem ba_i0 (hg:A.guards=some []) {a:Addr} (ha:s.heap.get? a=some { cls:=.type "bytearray",data:=.bytearray #[] 0 }) {R:Result->Shared->Prop}
  (h:∀ h',h'.get? a=some { cls:=.type "bytearray",data:=.bytearray #[] 0 }->(∀ b o,b ≠ a->s.heap.get? b=some o->h'.get? b=some o)->R (.ok (.ret .none)) { s with heap:=h' }):
  kb (model prog w) A (.call (.builtin "bytearray.__init__") ⟨[.ref a],[]⟩) R s:=by
 have hT:s.TypeIs (.ref a) "bytearray":=⟨_,ha,rfl⟩
 refine zw (plainId_quiet zx.plain _) (okC_bi _) entry_ba_init (.of (zx.check _ _ _ _ _ _ _ _ hT (ba_init0 _) ?_))
 rw [Around.under_plainId zx.plain]
 unfold Builtin.«bytearray.__init__»
 dsimp only
 unfold Builtin.Bytes.ownRelease
 refine jr (.of (jc (ba_own hT ba_release (by decide +kernel) (by decide +kernel) (ji ?_))))
 refine jx rfl ?_
 rw [ba_bind0,pure_bind]
 dsimp only
 refine jr (jw (a:=()) rfl ?_)
 refine jr (jw (a:=()) rfl ?_)
 unfold orM
 refine jr (jr (wpR_exported hg ?_))
 refine .of (jc (jc (wpAny_load ha (ji (ji ?_)))))
 refine jx rfl ?_
 refine jr (.of (ba_write ha (Nat.zero_le _) fun h' h1 h2=>?_))
 refine jr (jx rfl (jx rfl (jv (jv ?_))))
 exact h _ h1 h2
theorem ba_i1 (hg:A.guards=some []) {a:Addr} {d:Array UInt8} {u:Tok} (hz:d.size<=sizeLine) (ha:s.heap.get? a=some { cls:=.type "bytearray",data:=.bytearray #[] 0 }) {R:Result->Shared->Prop}
  (h:∀ h',h'.get? a=some { cls:=.type "bytearray",data:=.bytearray d 0 }->(∀ b o,b ≠ a->s.heap.get? b=some o->h'.get? b=some o)->R (.ok (.ret .none)) { s with heap:=h' }):
  kb (model prog w) A (.call (.builtin "bytearray.__init__") ⟨[.ref a,.bytes d u],[]⟩) R s:=by
 have hT:s.TypeIs (.ref a) "bytearray":=⟨_,ha,rfl⟩
 refine zw (plainId_quiet zx.plain _) (okC_bi _) entry_ba_init (.of (zx.check _ _ _ _ _ _ _ _ hT (ba_init1 _ _) ?_))
 rw [Around.under_plainId zx.plain]
 unfold Builtin.«bytearray.__init__»
 dsimp only
 unfold Builtin.Bytes.ownRelease
 refine jr (.of (jc (ba_own hT ba_release (by decide +kernel) (by decide +kernel) (ji ?_))))
 refine jx rfl ?_
 rw [ba_bind1,pure_bind]
 dsimp only
 refine jr (jw (a:=()) rfl ?_)
 refine jr (jw (a:=()) rfl ?_)
 unfold orM
 refine jr (jr (wpR_exported hg ?_))
 refine .of (jc (jc (wpAny_load ha (ji (ji ?_)))))
 refine jx rfl ?_
 refine jr (.of (ba_write ha (Nat.zero_le _) fun h' h1 h2=>?_))
 refine jr (jw (a:=none) rfl ?_)
 refine jx rfl ?_
 refine jr (jx rfl (jx rfl (jv ?_)))
 have hidx:typeLookup (.type "bytes") "__index__"=pure none:=by rw [typeLookup_type,builtinLookup_eq_fast];kernel_rfl
 have hT2:({ s with heap:=h' }:Shared).TypeIs (.bytes d u) "bytes":=PySem.W.typeIs_bytes _ _ _
 refine jr (.of (wpAny_specialOf hT2 hidx ?_))
 refine jx rfl ?_
 have hbuf:Builtin.Bytes.buffer? "bytearray.__init__" (.bytes d u) true=pure (some d):=by
  unfold Builtin.Bytes.buffer?
  simp only [spec_buffer,own_buffer,own_release,pure_bind]
  rfl
 rw [hbuf,pure_bind]
 dsimp only
 refine jr (.of (wpAny_rule ?_))
 refine jr (.of (ba_write h1 hz fun h'' h3 h4=>?_))
 refine jv ?_
 exact h _ h3 fun b o hb e=>h4 b o hb (h2 b o hb e)
end
section
variable {prog:Program} {w:World} {V:Vl} {Hz:Heap} {p:Par} {fs:List Addr} {l:List Env} {C:EC} {W:Wd} {loc:List AV} {A:Around} {cd:Nat}
variable (O:VOk V p) (AO:AOk cd l fs A) (R:Rel V w.params Hz fs C W loc)
include O AO R
theorem p_ba0:Does prog w V Hz A fs l C W loc (call (.type "bytearray") [] []) (newC W.s (.ba []) fun i s=>.v (.ce i) s):=by
 intro sh t Q E hQ
 simp only [newC,fN_eq] at hQ
 refine callTypeR (Q₁:=fun obj s₁=>obj=.ref W.h.objs.size/\s₁={ at' sh W t with heap:=W.h.push { cls:=.type "bytearray",data:=.bytearray #[] } }) ba_called (ba_typeCall _) (code_ba_new ba_newCall0 ⟨rfl,rfl⟩) ?_
 rintro _ _ ⟨rfl,rfl⟩
 have hg:(W.h.push { cls:=.type "bytearray",data:=.bytearray #[] }).get? W.h.objs.size=some { cls:=.type "bytearray",data:=.bytearray #[] 0 }:=Heap.get?_push_size _ rfl
 refine ⟨⟨_,hg,rfl⟩,ba_i0 (A:=A.in1) AO.gd hg ?_⟩
 intro h' h1 h2
 refine ⟨rfl,?_⟩
 obtain ⟨W',e1,e2,e3,e4,R',S'⟩:=R.new (h':=h') (a:=W.h.objs.size) (c:=.ba []) (fun b o e=>h2 b o (Nat.ne_of_lt (Heap.lt_size e)) (ja _ e)) (Heap.get?_none_of_le (jj _))
  fun ρ' hρ hρa=>⟨_,h1,rfl⟩
 have:=hQ (.ref W.h.objs.size) W' t e2 e3 R' S' ⟨by rw [e3];exact Nat.lt_succ_self _,by rw [e4]⟩
 rw [at'_eq e1] at this
 exact this
theorem p_ba1 {cs:List Ck} {x:List Nat} (hc:conc? cs=some x) (hx:ki x 10000=true) {va:Value} (ha:W.R V (.by cs) va):Does prog w V Hz A fs l C W loc (call (.type "bytearray") [va] []) (newC W.s (.ba x) fun i s=>.v (.ce i) s):=by
 intro sh t Q E hQ
 simp only [newC,fN_eq] at hQ
 obtain ⟨d,u,rfl,hd⟩:=ha
 rw [conc_of hc] at hd
 have hz:d.size<=sizeLine:=by rw [<- qj,hd,qe];have:=kh hx;omega
 refine callTypeR (Q₁:=fun obj s₁=>obj=.ref W.h.objs.size/\s₁={ at' sh W t with heap:=W.h.push { cls:=.type "bytearray",data:=.bytearray #[] } }) ba_called (ba_typeCall _) (code_ba_new (ba_newCall1 _) ⟨rfl,rfl⟩) ?_
 rintro _ _ ⟨rfl,rfl⟩
 have hg:(W.h.push { cls:=.type "bytearray",data:=.bytearray #[] }).get? W.h.objs.size=some { cls:=.type "bytearray",data:=.bytearray #[] 0 }:=Heap.get?_push_size _ rfl
 refine ⟨⟨_,hg,rfl⟩,ba_i1 (A:=A.in1) AO.gd hz hg ?_⟩
 intro h' h1 h2
 refine ⟨rfl,?_⟩
 obtain ⟨W',e1,e2,e3,e4,R',S'⟩:=R.new (h':=h') (a:=W.h.objs.size) (c:=.ba x) (fun b o e=>h2 b o (Nat.ne_of_lt (Heap.lt_size e)) (ja _ e)) (Heap.get?_none_of_le (jj _))
  fun ρ' hρ hρa=>⟨_,h1,hd⟩
 have:=hQ (.ref W.h.objs.size) W' t e2 e3 R' S' ⟨by rw [e3];exact Nat.lt_succ_self _,by rw [e4]⟩
 rw [at'_eq e1] at this
 exact this
end
theorem ints_are {T:Nat->Value->Prop} {V:Vl} {h:Heap} {ρ:Nat->Addr} {nx:Nat}:∀ {ns:List Nat} {vs:List Value},ku T V h ρ nx (ns.map fun n=>AV.it (.ofNat n)) vs->IntsAre vs (ns.map Int.ofNat)
 |[],vs,x=>by
  have:vs=[]:=x
  subst this
  exact .nil
 |n :: r,vs,x=>by
  obtain ⟨v,s,rfl,⟨t,rfl⟩,y⟩:∃ v s,vs=v :: s/\(∃ t,v=.int (.ofNat n) t)/\ku T V h ρ nx (r.map fun n=>AV.it (.ofNat n)) s:=x
  exact .cons _ _ (ints_are y)
theorem bN_byteArr:∀ {ns:List Nat},(∀ n ∈ ns,n < 256)->bN (byteArr (ns.map Int.ofNat))=ns
 |[],_=>rfl
 |n :: r,h=>by
  have ih:=bN_byteArr (ns:=r) fun m hm=>h m (List.mem_cons_of_mem _ hm)
  have hn:=h n List.mem_cons_self
  simp only [bN,byteArr,List.map_cons,List.map_map] at ih ⊢
  congr 1
  show (UInt8.ofNat n).toNat=n
  rw [UInt8.toNat_ofNat']
  exact Nat.mod_eq_of_lt (by omega)
section
variable {PP:Res->Prop} (hn:∀ n,¬ PP (.fail n)) {a:AV} {s:Mine.St} {G:Prop}
include hn
set_option smartUnfolding false in
theorem int_inv (h:PP (bi1 .int a s)) (k1:∀ x n,a=.st x->x.length<=6->x ≠ []->digs x 0=some n->PP (retA s (.it (.ofNat n)))->G) (k2:∀ k,a=.sc k->PP (.v (.sc k) s)->G):G:=by
 induction a using AV.casesOn with
 |st x=>match x,h with
  |[],h=>exact (hn _ h).elim
  |c :: r,h=>exact J.tt (hn 108) h fun hl h=>J.so (Φ:=PP) (o:=digs (c :: r) 0) (hn 108) h fun n hd h=>k1 (c :: r) n rfl (Nat.succ_le_succ (ble_le hl)) nofun hd h
 |sc k=>exact k2 k rfl h
 |_=>exact (hn _ h).elim
set_option smartUnfolding false in
theorem bar_inv (h:PP (bi1 .bytearray a s)) (k:∀ cs x,a=.by cs->conc? cs=some x->ki x 10000=true->PP (newC s (.ba x) fun i s=>.v (.ce i) s)->G):G:=
 J.by (hn 108) h fun cs e h=>J.so (Φ:=PP) (o:=conc? cs) (hn 108) h fun x hc h=>J.tt (hn 108) h fun hl h=>k cs x e hc hl h
set_option smartUnfolding false in
theorem all_inv (h:PP (bi1 .all a s)) (k:∀ i x bs,a=.ce i->qb s i (.li x)->bos? x=some bs->PP (.v (.bo (allB bs)) s)->G):G:=
 J.ce (hn 108) h fun i e h=>J.li (hn 108) h fun x hl h=>J.so (Φ:=PP) (o:=bos? x) (hn 108) h fun bs hb h=>k i x bs e ((ke s.sto i).symm.trans hl) hb (ofB_eq 108 s (allB bs)▸h)
end
section
variable {prog:Program} {w:World} {V:Vl} {Hz:Heap} {p:Par} {fs:List Addr} {l:List Env} {C:EC} {W:Wd} {loc:List AV} {A:Around} {cd:Nat}
variable (O:VOk V p) (AO:AOk cd l fs A) (R:Rel V w.params Hz fs C W loc)
include O AO R
theorem p_bytes {a:AV} {va:Value} (ha:W.R V a va):DoesA prog w V Hz A fs l C W loc (call (.type "bytes") [va] []) (bytesA W.s a):=by
 intro sh t Q E hQ
 induction a using AV.casesOn with
 |«by» cs=>
  obtain ⟨d,u,rfl,hd⟩:=ha
  exact by_new (hQ _ W _ rfl rfl R (.refl fs W) ⟨d,u,rfl,hd⟩)
 |ce k=>
  simp only [bytesA,ke] at hQ
  obtain ⟨-,rfl⟩:=ha
  induction hl:W.s.sto.lookup k with
  |none=>rw [hl] at hQ;exact hQ.elim
  |some cc=>
   rw [hl] at hQ
   induction cc with
   |ba x=>
    obtain ⟨hf,hQ⟩:=PV.ret1 O AO R hQ
    have hlen:=fitCk_le O (show fitCk (mkCk x)=true from hf)
    rw [qn] at hlen
    obtain ⟨d,hg,hd⟩:=(R.cell k _ hl).2
    refine by_ba (s:=at' sh W t) hg (by rw [<- qj,hd,qe];omega) fun t1 t2=>?_
    exact hQ _ _ ⟨d,t1,rfl,by rw [hd,qn]⟩
   |li x=>
    simp only at hQ
    induction h1:its? x with
    |none=>rw [h1] at hQ;exact hQ.elim
    |some ns=>
     rw [h1] at hQ
     simp only at hQ
     induction h2:ki ns 10000 with
     |false=>rw [h2] at hQ;exact hQ.elim
     |true=>
      rw [h2] at hQ
      simp only [retA,fA_eq] at hQ
      obtain ⟨hx,hr⟩:=its_of h1
      obtain ⟨vs,h3,h4⟩:=(R.cell k _ hl).2
      rw [hx] at h4
      have e:=ku.length h4
      rw [List.length_map] at e
      have:=kh h2
      have hL:(at' sh W t).heap.IsList (W.ρ k) vs.toArray:=h3.isList
      refine call_bytes_ints hL (ints_are h4) ?_ (by rw [e,qe];omega) AO.hd fun h' t1 k1 hk=>?_
      ·intro n hn
       obtain ⟨m,hm,rfl⟩:=List.mem_map.mp hn
       have:=hr m hm
       exact ⟨Int.natCast_nonneg m,by show (m:Int) < 256;omega⟩
      ·obtain ⟨R',S'⟩:=R.ext (h':=h') hk
       induction hf:fitA (mkBy ns) with
       |false=>rw [hf] at hQ;exact hQ.elim
       |true=>
        rw [hf] at hQ
        exact hQ _ { W with h:=h' } _ rfl rfl R' S' ⟨_,t1,rfl,by rw [bN_byteArr hr,qn]⟩
   |_=>exact hQ.elim
 |_=>exact hQ.elim
set_option smartUnfolding false in
theorem p_bi1 (hnd:Hz.NoDigits) {b:Bi} {a:AV} {va:Value} (ha:W.R V a va):Does prog w V Hz A fs l C W loc (call (biV b) [va] []) (bi1 b a W.s):=by
 intro sh t Q E hQ
 induction b with
 |len=>exact .of (p_len O AO R ha sh t Q E hQ)
 |ord=>exact PV.st hQ fun x e hQ=>J.l1 (Φ:=fun r=>PV w.params V Hz fs l C W loc sh r Q E) (d:=.fail 108) (fun h=>h) hQ fun c e' hQ=>.of (p_ord O AO R (e'▸e▸ha) sh t Q E hQ)
 |chr=>exact PV.itN hQ fun n e hQ=>PV.tt hQ fun h hQ=>.of (p_chr O AO R (qq h) (e▸ha) sh t Q E hQ)
 |str=>exact PV.itN hQ fun n e hQ=>PV.tt hQ fun h hQ=>.of (p_str O AO R hnd (qq h) (e▸ha) sh t Q E hQ)
 |int=>exact int_inv (PP:=fun r=>PV w.params V Hz fs l C W loc sh r Q E) (fun _ h=>h) hQ (fun x n e hl hx hd hQ=>.of (p_int O AO R hl hx hd (e▸ha) sh t Q E hQ)) fun k e hQ=>.of (p_intsc O AO R (e▸ha) sh t Q E hQ)
 |range=>exact PV.itN hQ fun n e hQ=>PV.tt hQ fun h hQ=>.of (p_range O AO R (e▸ha) sh t Q E hQ)
 |bytes=>exact .of (p_bytes O AO R ha sh t Q E hQ)
 |bytearray=>exact bar_inv (PP:=fun r=>PV w.params V Hz fs l C W loc sh r Q E) (fun _ h=>h) hQ fun cs x e h1 h2 hQ=>p_ba1 O AO R h1 h2 (e▸ha) sh t Q E hQ
 |tuple=>exact PV.ce hQ fun k e hQ=>PV.li hQ fun x hl hQ=>PV.tt hQ fun h2 hQ=>(show va=.ref (W.ρ k) from (e▸ha:W.R V (.ce k) va).2)▸.of (p_tuple O AO R ((ke W.s.sto k).symm.trans hl) h2 sh t Q E hQ)
 |all=>exact all_inv (PP:=fun r=>PV w.params V Hz fs l C W loc sh r Q E) (fun _ h=>h) hQ fun k x bs e hl h2 hQ=>(show va=.ref (W.ρ k) from (e▸ha:W.R V (.ce k) va).2)▸.of (p_all O AO R hl h2 sh t Q E hQ)
 |_=>exact hQ.elim
theorem p_bi (hnd:Hz.NoDigits) {b:Bi} {as:List AV} {vs:List Value} (hv:W.Rs V as vs):Does prog w V Hz A fs l C W loc (call (biV b) vs []) (biCall b as W.s):=by
 intro sh t Q E hQ
 match as with
 |[]=>
  obtain rfl:=Rs_nil hv
  induction b with
  |bytearray=>exact p_ba0 O AO R sh t Q E hQ
  |_=>exact hQ.elim
 |[a]=>exact (Rs_one hv).elim fun va h=>h.1▸p_bi1 O AO R hnd h.2 sh t Q E hQ
 |[a,c]=>
  refine (Rs_cons hv).elim fun va h=>h.elim fun s h=>(Rs_one h.2.2).elim fun vb h2=>?_
  induction b with
  |min=>exact PV.it hQ fun x e hQ=>PV.it hQ fun y e' hQ=>h.1▸h2.1▸.of (p_min O AO R (e▸h.2.1) (e'▸h2.2) sh t Q E hQ)
  |_=>exact hQ.elim
 |_ :: _ :: _ :: _=>exact hQ.elim
end
structure KWire (K:Frag):Prop where
 makes:makesIn K ql=true
 init:∃ fi,ftab.get 48=some fi/\findIn K (.ref ql) "__init__"=some (some (.ref fi.addr))/\typeIn K (.ref fi.addr)=some (.type "function")
section
variable {prog:Program} {w:World} {V:Vl} {Hz:Heap} {p:Par} {fs:List Addr} {l:List Env} {C:EC} {W:Wd} {loc:List AV} {A:Around} {cd:Nat} {ih:RunTy} {K:Frag}
theorem AOk.under_new (AO:AOk (cd+1) l fs A) (C:Addr) (vs:List Value):AOk cd l fs (A.under (.builtin "type.__call__" ⟨.ref C :: vs,[]⟩)):=by
 have hw:(Code.builtin "type.__call__" ⟨.ref C :: vs,[]⟩).weight=1:=rfl
 have hu:(Code.builtin "type.__call__" ⟨.ref C :: vs,[]⟩).cUnits<=10:=by
  show (Code.builtin "type.__call__" ⟨.ref C :: vs,[]⟩).cUnits<=10
  have hf:(Code.builtin "type.__call__" ⟨.ref C :: vs,[]⟩).frames=0:=rfl
  simp [Code.cUnits,hf]
 have he:(Code.builtin "type.__call__" ⟨.ref C :: vs,[]⟩).envs=[]:=rfl
 have hg:(Code.builtin "type.__call__" ⟨.ref C :: vs,[]⟩).guards=[]:=rfl
 refine ⟨AO.hd,?_,?_,?_,AO.fs,AO.lk,?_⟩
 ·show A.depth+(Code.builtin "type.__call__" ⟨.ref C :: vs,[]⟩).weight+_+_ < _
  have:=AO.dp;rw [hw];omega
 ·show A.units+(Code.builtin "type.__call__" ⟨.ref C :: vs,[]⟩).cUnits+_+_ < _
  have:=AO.un;omega
 ·unfold Around.under
  dsimp only
  rw [he,AO.fr];rfl
 ·unfold Around.under
  dsimp only
  rw [hg,AO.gd];rfl
theorem d_wire (I:Ih prog w V Hz ih cd) (KX:K.In Hz) (KQ:KWire K) (AO:AOk (cd+1) l fs A) (R:Rel V w.params Hz fs C W loc) {as:List AV} {vs:List Value} (hv:W.Rs V as vs):
  Does prog w V Hz A fs l C W loc (call (.ref ql) vs []) (newC W.s (.id []) fun c s=>k_new2 c (ih cd C loc s (.cal (.fn 48) (.ob c :: as)))):=by
 intro sh t Q E hQ
 simp only [newC,fN_eq] at hQ
 have X:K.In W.h:=KX.keeps R.base
 obtain ⟨fi,hfi,hini,hft⟩:=KQ.init
 refine ge (makeR (g:=(at' sh W t).gens) (d:=(at' sh W t).drawn) (os:=(at' sh W t).os) (makes_of X KQ.makes) (looks_findIn X hini) (fun self=>bind_fn X self hft) (.inl rfl) ?_)
 have hx:((W.h.push emptyDict).push (instObj ql W.h.objs.size)).get? (W.h.objs.size+1)=some (instObj ql W.h.objs.size):=by heap_get
 have hd:((W.h.push emptyDict).push (instObj ql W.h.objs.size)).get? W.h.objs.size=some emptyDict:=ja _ (Heap.get?_push_size _ rfl)
 obtain ⟨W',e1,e2,e3,e4,R',S'⟩:=R.new (h':=(W.h.push emptyDict).push (instObj ql W.h.objs.size)) (a:=W.h.objs.size) (c:=.id []) (fun b o e=>ja _ (ja _ e)) (Heap.get?_none_of_le (jj _))
  fun ρ' hρ hρa=>⟨[],[],rfl,hd,rfl⟩
 have hob:W'.R V (.ob W.s.nx) (.ref (W.h.objs.size+1)):=by
  exact ⟨by rw [e3];exact Nat.lt_succ_self _,_,rfl,by rw [e1,e4];exact hx⟩
 have hfn:W'.R V (.fn 48) (.ref fi.addr):=⟨fi,hfi,rfl⟩
 have go:=I.cal (AO.under_new ql vs) R' hfn (ku.consI hob (S'.Rs hv)) sh t (fun v s'=>v=.none/\(match (Except.ok (Flow.ret (.ref (W.h.objs.size+1))):Result) with|.ok (.ret v)=>Q v s'|.ok _=>False|.error e=>E e s')) (fun e s'=>E e s') ?_
 ·rw [at'_eq e1] at go
  exact go
 ·rw [<- e3] at hQ
  induction hr:ih cd C loc W'.s (.cal (.fn 48) (.ob W.s.nx :: as)) with
  |v a s2=>
   rw [hr] at hQ
   intro v W2 t2 hL2 hs2 R2 S2 ha
   induction a using AV.casesOn with
   |no=>
    obtain rfl:v=.none:=ha
    subst hs2
    refine ⟨rfl,?_⟩
    exact hQ (.ref (W.h.objs.size+1)) W2 t2 (hL2.trans e2) rfl R2 (S'.trans S2) (S2.R hob)
   |_=>exact hQ.elim
  |_=>rw [hr] at hQ;exact hQ.elim
end
section
variable {prog:Program} {w:World} {V:Vl} {Hz:Heap} {p:Par} {fs:List Addr} {l:List Env} {C:EC} {W:Wd} {loc:List AV} {A:Around} {cd:Nat} {ih:RunTy} {K:Frag}
theorem d_bm (I:Ih prog w V Hz ih cd) (AO:AOk cd l fs A) (R:Rel V w.params Hz fs C W loc) {c k:Nat} {fv:Value} (hf:W.R V (.bm c k) fv) {as:List AV} {vs:List Value} (hv:W.Rs V as vs):
  Does prog w V Hz A fs l C W loc (call fv vs []) (ih cd C loc W.s (.cal (.fn k) (.ob c :: as))):=by
 intro sh t Q E hQ
 obtain ⟨hc,a,o,fi,x,rfl,hfi,ho,hcl,hd,hx⟩:=hf
 have hob:W.R V (.ob c) (.ref x):=⟨hc,x,rfl,hx⟩
 refine ge (ka ?_)
 show wpR _ _ (callAny (.ref a) ⟨vs,[]⟩) _ _ _
 unfold callAny
 refine jr (.of (wpAny_load ho ?_))
 rw [hd,hcl]
 dsimp only
 rw [if_pos (by decide)]
 exact jv (And.intro rfl (And.intro rfl (I.fnc AO R hfi (ku.consI hob hv) sh t Q E hQ)))
end
section
variable {prog:Program} {w:World} {A:Around} {E:VP} {s:Shared} {env:Env}
theorem chain_le {x:PySem.Expr} {lo hi:Int} {k k':Nat} {q q1 q2:Pos} {n:Int} {whole:Sem Value} {Q:Bool->Shared->Prop}
  (hm:behindInMarks .LtE (.Constant (.int hi) k' q2)=false)
  (hx:∀ {Q':VP} {t:Nat},(∀ u,Q' (.int n u) { s with toks:=t })->wpAny (model prog w) A (eval x env) Q' E { s with toks:=t })
  (h:∀ t,Q (decide (lo<=n) && decide (n<=hi)) { s with toks:=t }):
  wpAny (model prog w) A (isTrue (.Compare (.Constant (.int lo) k q1) [.LtE,.LtE] [x,.Constant (.int hi) k' q2] q) env whole) Q E s:=by
 rw [arm_isTrue_Compare]
 refine jc (wpAny_Constant_int ?_)
 show wpAny _ _ (testChain q _ [.LtE,.LtE] [eval x env,markedBehindIn .LtE (.Constant (.int hi) k' q2) (eval (.Constant (.int hi) k' q2) env)]) _ _ _
 rw [markedBehindIn_of_false hm]
 show wpAny _ _ (do
  let rv <- holding [.int lo s.toks] (eval x env)
  standAt q
  let c <- holding [.int lo s.toks,rv] (compareOp .LtE (.int lo s.toks) rv)
  release [.int lo s.toks,rv] [c]
  if <- holding [c,rv] (truthy c) then (do let rv' <- holding [rv] (eval (.Constant (.int hi) k' q2) env);standAt q;let c' <- operate [rv,rv'] (compareOp .LtE rv rv');holding [c'] (truthy c')) else pure false) _ _ _
 refine jc (wpAny_holding (hx fun u=>jc (wpAny_standAt (jc (wpAny_holding (PySem.P.le_int (jc (wpAny_release (jc (wpAny_holding (wpAny_truthy_bool ?_)))))))))))
 have hh:=h
 by_cases h1:lo<=n
 ·rw [decide_eq_true h1]
  simp only [decide_eq_true h1,Bool.true_and] at hh
  refine jc (wpAny_holding (wpAny_Constant_int (jc (wpAny_standAt (jc (wpAny_operating (PySem.P.le_int (wpAny_holding (wpAny_truthy_bool ?_)))))))))
  exact hh _
 ·rw [decide_eq_false h1]
  simp only [decide_eq_false h1,Bool.false_and] at hh
  exact ji (hh _)
end
section
variable {prog:Program} {w:World} {A:Around} {E:VP} {s s₀:Shared} {env:Env} {m cm:Str->Option Value} {L:Addr} {cs:List (Str × Addr)}
theorem u8_comp {n:Nat} {u:Tok} {c:Addr} (hh:A.handled=none) (hn:n < 128) (hk:env.scope.kind=.function) (hkc:env.kindOf (Str.ofString "code")=some .cell) (hc:env.cells=[(Str.ofString "code",c)])
  (hcm:s.heap.IsCell c (some (.int (n:Int) u))) {Q:VP}
  (hQ:∀ D h' tk,(∀ b o,s.heap.get? b=some o->h'.get? b=some o)->h'.IsList D #[]->Q (.ref D) { s with heap:=h',toks:=tk }):
  wpAny (model prog w) A (eval (kj (.cmp1 5 (.nm 0 (P3 88 20 24)) (.nm 0 (P3 88 29 33)) (.tup [.cI 127 (P3 88 38 41),.cI 2047 (P3 88 43 47),.cI 65535 (P3 88 49 54)] 0 (P3 88 37 55)) [.cmp (.nm 1 (P3 88 59 63)) [.Gt] [.nm 0 (P3 88 66 70)] (P3 88 59 70)] (P3 88 19 71)) jn.ec) env) Q E s:=by
 have hclos:closureFor (ciAt 5).sc env=pure [(Str.ofString "code",c)]:=by
  have hco:cellOf env (Str.ofString "code")=pure c:=by unfold cellOf;rw [hc];rfl
  unfold closureFor
  rw [show (ciAt 5).sc.names=[(Str.ofString ".0",NameKind.local),(Str.ofString "most",.local),(Str.ofString "code",.free)] from rfl]
  simp [hco]
 obtain ⟨hp,g,d,t,os⟩:=s
 show wpAny _ _ (eval (.ListComp _ [⟨.Name (Str.ofString "most") _,_,_,0⟩] (ciAt 5).sc _) env) _ _ _
 refine wpAny_ListComp_free (fun _=>false) (fun _ _=>True) hclos (by decide +kernel) rfl (by decide +kernel) (by decide +kernel) ?_
 show wpAny _ _ (eval (.Tuple (km [.cI 127 (P3 88 38 41),.cI 2047 (P3 88 43 47),.cI 65535 (P3 88 49 54)] jn.ec) 0 (P3 88 37 55)) env) _ _ _
 refine wpAny_Tuple ?_
 rw [qo]
 show wpAny _ _ (spliced [(false,eval (.Constant (.int 127) 0 (P3 88 38 41)) env),(false,eval (.Constant (.int 2047) 0 (P3 88 43 47)) env),(false,eval (.Constant (.int 65535) 0 (P3 88 49 54)) env)]) _ _ _
 refine PySem.Calls.spliced_cons (wpAny_Constant_int (PySem.Calls.spliced_cons (wpAny_Constant_int (PySem.Calls.spliced_cons (wpAny_Constant_int (PySem.Calls.spliced_nil ⟨by show 3<=sizeLine;rw [qe];omega,?_⟩))))))
 have hT:(hp.push { cls:=.type "tuple",data:=.seq #[.int 127 t,.int 2047 (t+1),.int 65535 (t+1+1)] }).IsTuple hp.objs.size #[.int 127 t,.int 2047 (t+1),.int 65535 (t+1+1)]:=⟨_,Heap.get?_push_size _ rfl,rfl,0,rfl⟩
 show wpAny _ _ (pyIter (.ref hp.objs.size)) _ _ ⟨hp.push { cls:=.type "tuple",data:=.seq #[.int 127 t,.int 2047 (t+1),.int 65535 (t+1+1)] },g,d,t+1+1+1,os⟩
 generalize hh1:hp.push { cls:=.type "tuple",data:=.seq #[.int 127 t,.int 2047 (t+1),.int 65535 (t+1+1)] }=h1 at hT ⊢
 have hs1:h1.objs.size=hp.objs.size+1:=by rw [<- hh1,Heap.size_push]
 have k1:∀ b o,hp.get? b=some o->h1.get? b=some o:=fun b o e=>by rw [<- hh1];exact ja _ e
 refine wpAny_pyIter_tuple hT ?_
 show ∃ I fp wr n P St,Value.ref h1.objs.size=.ref I/\_
 refine ⟨h1.objs.size,[h1.objs.size,hp.objs.size],[h1.objs.size],_,_,_,rfl,Walks.tuple (A:=A) hh h1.objs.size hp.objs.size (by rw [hs1];exact Nat.ne_of_lt (Nat.lt_succ_self _)) #[.int 127 t,.int 2047 (t+1),.int 65535 (t+1+1)],?_,⟨?_,?_⟩,?_,⟨?_,?_⟩,?_⟩
 ·show 3<=sizeLine;rw [qe];omega
 ·exact ⟨_,Heap.get?_push_size _ rfl,rfl,rfl⟩
 ·obtain ⟨o,q,r⟩:=hT
  exact ⟨o,ja _ q,r⟩
 ·intro b hb
  show b < (h1.push _).objs.size
  rw [Heap.size_push]
  rcases List.mem_cons.mp hb with rfl|hb
  ·exact Nat.lt_succ_self _
  ·rw [List.mem_singleton.mp hb,hs1];exact Nat.lt_succ_of_lt (Nat.lt_succ_self _)
 ·intro C i v s₃ m₃ E' hle hP hn3 hm3 hkp htk
  have hP:#[Value.int 127 t,Value.int 2047 (t+1),Value.int 65535 (t+1+1)][i]?=some v:=hP
  obtain ⟨z,tz,rfl,hz⟩:∃ (z:Int) (tz:Tok),v=.int z tz/\127<=z:=by
   match i,hP with
   |0,hP=>obtain rfl:=jf hP;exact ⟨_,_,rfl,by decide⟩
   |1,hP=>obtain rfl:=jf hP;exact ⟨_,_,rfl,by decide⟩
   |2,hP=>obtain rfl:=jf hP;exact ⟨_,_,rfl,by decide⟩
   |_+3,hP=>exact (jg _ hP.symm).elim
  have hcell:s₃.heap.IsCell c (some (.int (n:Int) u)):=by
   obtain ⟨oc,hoc,r⟩:=hcm
   refine ⟨oc,hkp c oc (fun q=>?_) (ja _ (k1 c oc hoc)),r⟩
   have:=Heap.lt_size hoc
   rw [List.mem_singleton.mp q,hs1] at this
   exact absurd this (Nat.not_lt.mpr (Nat.le_succ _))
  show wpAny _ _ (forIn [_] true _) _ _ _
  rw [List.forIn_cons]
  refine jc ?_
  rw [if_pos rfl]
  refine jc ?_
  show wpAny _ _ (isTrue (.Compare (.Name (Str.ofString "code") (P3 88 59 63)) [.Gt] [.Name (Str.ofString "most") (P3 88 66 70)] (P3 88 59 70)) (compEnvC (ciAt 5).sc [(Str.ofString "code",c)] C env) _) _ _ _
  have hkind:(compEnvC (ciAt 5).sc [(Str.ofString "code",c)] C env).scope.kind=.function:=rfl
  have hloc:(compEnvC (ciAt 5).sc [(Str.ofString "code",c)] C env).kindOf (Str.ofString "most")=some .local:=lookup_relabel_local (by rfl)
  have hcel:(compEnvC (ciAt 5).sc [(Str.ofString "code",c)] C env).kindOf (Str.ofString "code")=some .cell:=by
   show List.lookup _ (relabel (ciAt 5).sc env).names=_
   unfold relabel
   rw [show (ciAt 5).sc.names=[(Str.ofString ".0",NameKind.local),(Str.ofString "most",.local),(Str.ofString "code",.free)] from rfl]
   simp [hk,hkc,List.lookup]
   decide +kernel
  rw [arm_isTrue_Compare]
  refine jc (wpAny_Name (wpAny_loadName_cell hkind hcel (by rfl) hcell ?_) (by decide +kernel))
  show wpAny _ _ (testChain (P3 88 59 70) _ [.Gt] [markedBehindIn .Gt (.Name (Str.ofString "most") (P3 88 66 70)) (eval (.Name (Str.ofString "most") (P3 88 66 70)) _)]) _ _ _
  rw [markedBehindIn_of_false rfl]
  show wpAny _ _ (do let rv <- holding [.int (n:Int) u] (eval (.Name (Str.ofString "most") (P3 88 66 70)) (compEnvC (ciAt 5).sc [(Str.ofString "code",c)] C env));standAt (P3 88 59 70);let c <- operate [.int (n:Int) u,rv] (compareOp .Gt (.int (n:Int) u) rv);holding [c] (truthy c)) _ _ _
  refine jc (wpAny_holding (wpAny_Name (wpAny_loadName_local hkind hloc hn3 hm3 ?_) (by decide +kernel)))
  refine jc (wpAny_standAt (jc (wpAny_operating (PySem.P.gt_int (wpAny_holding (wpAny_truthy_bool ?_))))))
  rw [decide_eq_false (show ¬ ((n:Int) > z) by omega)]
  refine ji (ji ?_)
  exact ⟨rfl,_,_,rfl,fun _ _ e=>e⟩
 ·intro C i v s₃ m₃ E' hle hP hp;exact (jh hp).elim
 ·intro D h' tk ys vs hD hl hpl hlen hP hF hkp
  have e0:ys=#[]:=by
   rw [show vs.filter (fun _=>false)=[] from List.filter_eq_nil_iff.mpr (by simp)] at hF
   induction hy:ys.toList using List.casesOn with
   |nil=>exact Array.toList_eq_nil_iff.mp hy
   |cons a r=>rw [hy] at hF;cases hF
  subst e0
  refine hQ D h' tk (fun b o e=>hkp b o (fun q=>?_) (ja _ (k1 b o e))) hl
  have:=Heap.lt_size e
  rw [List.mem_singleton.mp q,hs1] at this
  exact absurd this (Nat.not_lt.mpr (Nat.le_succ _))
end
noncomputable def u8Sc:Scope:={ fsc [cel "code",glb "len"] with more:=[(Str.ofString "fast",.str (Str.ofString "code")),(Str.ofString "fast",.str (Str.ofString "most"))] }
structure U8Ok (Hz:Heap):Prop where
 ex:∃ o fd,Hz.get? jn.addr=some o/\o.data=.func fd/\fd.body=.stmts (kr jn.body jn.ec)/\fd.scope=u8Sc/\fd.globals=mainGlobals/\fd.builtins=builtinsNs/\
  Hz.CodeRec fd.code fd.qualname/\(∀ v,bindArgs fd ⟨[v],[]⟩=pure [(Str.ofString "code",v)])/\fd.closure=[]
section
variable {prog:Program} {w:World} {V:Vl} {Hz:Heap} {p:Par} {fs:List Addr} {l:List Env} {C:EC} {W:Wd} {loc:List AV} {A:Around} {cd:Nat} {ih:RunTy} {K:Frag}
set_option smartUnfolding false in
theorem u8_tt {Φ:Res->Prop} (hd:¬ Φ (.fail 23)) {s:Mine.St} {n:Nat} {G:Prop} (h:Φ (k_u8 s [.it (.ofNat n)])) (k:n < 128->Φ (.v (.it (.ofNat 1)) s)->G):G:=J.tt (Φ:=Φ) (b:=Nat.blt n 128) hd h fun e h=>k (qq e) h
set_option backward.match.sparseCases true in
theorem d_u8 (UO:U8Ok Hz) (G:Gd prog w V Hz) (AO:AOk cd l fs A) (R:Rel V w.params Hz fs C W loc) {as:List AV} {vs:List Value} (hv:W.Rs V as vs):
  DoesK prog w V Hz A fs l C W loc (.call (.ref jn.addr) ⟨vs,[]⟩) (k_u8 W.s as):=by
 intro sh t Q E hQ
 obtain ⟨o,fd,ho,hd,hbody,hsc,hgl,hbu,hcd,hbind,hclo⟩:=UO.ex
 have key:∀ (n:Nat) (u:Tok),n < 128->vs=[.int (n:Int) u]->(∀ h' t' u',(∀ b o,W.h.get? b=some o->h'.get? b=some o)->Q (.int 1 u') (at' sh { W with h:=h' } t'))->
   kb (model prog w) A (.call (.ref jn.addr) ⟨vs,[]⟩) (fun r s'=>match r with|.ok (.ret v)=>Q v s'|.ok _=>False|.error e=>E e s') (at' sh W t):=by
  intro n u hn hvs hQ
  subst hvs
  refine .of (codeAny_call_cells (by have:=AO.dp;omega) (R.base _ _ ho) hd (G.nl.keeps R.base) (hcd.keeps R.base) hbody (hbind _) hclo ?_ (fun s₁ x=>?_) (by rw [hsc];rfl) (by rw [hsc];rfl) (by rw [hsc];rfl))
  ·intro x hx
   obtain rfl:=List.mem_singleton.mp hx
   right
   rw [hsc]
   exact ⟨rfl,rfl⟩
  ·have hsc':(callEnvC fd (at' sh W t).heap.objs.size jn.addr).scope=u8Sc:=hsc
   have hk:(callEnvC fd (at' sh W t).heap.objs.size jn.addr).scope.kind=.function:=by rw [hsc'];rfl
   have hkc:(callEnvC fd (at' sh W t).heap.objs.size jn.addr).kindOf (Str.ofString "code")=some .cell:=by unfold Env.kindOf;rw [hsc'];rfl
   have hkl:(callEnvC fd (at' sh W t).heap.objs.size jn.addr).kindOf (Str.ofString "len")=some .globalImplicit:=by unfold Env.kindOf;rw [hsc'];rfl
   obtain ⟨c,hc⟩:∃ c,(callEnvC fd (at' sh W t).heap.objs.size jn.addr).cells=[(Str.ofString "code",c)]:=⟨(at' sh W t).heap.objs.size+1,by
    show cellsFrom _ fd.scope.names []=_
    rw [hsc];rfl⟩
   have hcm:bindC (callEnvC fd (at' sh W t).heap.objs.size jn.addr).kindOf [(Str.ofString "code",Value.int (n:Int) u)] (fun _=>none) (Str.ofString "code")=some (.int (n:Int) u):=by
    unfold bindC bindC
    rw [hkc]
    rfl
   have hgl':(callEnvC fd (at' sh W t).heap.objs.size jn.addr).globals=mainGlobals:=hgl
   have hbu':(callEnvC fd (at' sh W t).heap.objs.size jn.addr).builtins=builtinsNs:=hbu
   generalize callEnvC fd (at' sh W t).heap.objs.size jn.addr=env at x hsc' hk hkc hkl hc hcm hgl' hbu' ⊢
   generalize bindC env.kindOf [(Str.ofString "code",Value.int (n:Int) u)] (fun _=>none)=cm at x hcm
   generalize bindL env.kindOf [(Str.ofString "code",Value.int (n:Int) u)] (fun _=>none)=m at x
   have code:∀ {A:Around} {E:VP} {q:Pos} {s:Shared} {Q':VP},InCallC (at' sh W t) env.locals m env.cells cm s->Q' (.int (n:Int) u) s->wpAny (model prog w) A (eval (.Name (Str.ofString "code") q) env) Q' E s:=
    fun x hq=>NameCC x hk hkc (by rw [hc];rfl) hcm hq (by decide +kernel)
   obtain ⟨mg,mb,hmg,hmb,hgt⟩:=G.glo
   obtain ⟨vl,hvl,hrl⟩:∃ v,(mg (Str.ofString "len")=some v \/ (mg (Str.ofString "len")=none/\mb (Str.ofString "len")=some v))/\∀ h ρ nx,(∀ b o,Hz.get? b=some o->h.get? b=some o)->kz V h ρ nx (.bi .len) v:=by
    rcases hgt 6 (Str.ofString "len",.bi .len) rfl with e|e
    ·cases e
    ·exact e
   obtain rfl:vl=.builtin "len":=hrl W.h W.ρ W.s.nx R.base
   have len:∀ {A:Around} {E:VP} {q:Pos} {s:Shared} {Q':VP},InCallC (at' sh W t) env.locals m env.cells cm s->Q' (.builtin "len") s->wpAny (model prog w) A (eval (.Name (Str.ofString "len") q) env) Q' E s:=by
    intro A E q s Q' x hq
    refine Name_function_global hk hkl ?_ (by decide +kernel)
    have kp:∀ b o,Hz.get? b=some o->s.heap.get? b=some o:=fun b o e=>x.toInCall.keep b o (R.base b o e)
    have k1:s.heap.Ns env.globals mg:=by rw [hgl'];exact hmg.keeps kp
    have k2:s.heap.Ns env.builtins mb:=by rw [hbu'];exact hmb.keeps kp
    rcases hvl with hv|⟨hn,hv⟩
    ·exact loadGlobal_global (s:=s) k1 hv hq
    ·exact loadGlobal_builtin (s:=s) k1 hn k2 hv hq
   refine wpAny_execs_cons (wpAny_If (wpAny_isTrue_BoolOp (wpAny_allTrue_Or_cons (chain_le rfl (fun {Q'} {t} hq=>code (x.tok t) (hq u)) fun t1=>?_))))
   rw [decide_eq_false (show ¬ ((55296:Int)<=(n:Int)) by omega),Bool.false_and]
   refine wpAny_allTrue_Or_cons (wpAny_isTrue_Not (chain_le rfl (fun {Q'} {t} hq=>code (x.tok t) (hq u)) fun t2=>?_))
   rw [decide_eq_true (show (0:Int)<=(n:Int) by omega),decide_eq_true (show (n:Int)<=1114111 by omega)]
   refine wpAny_allTrue_Or_nil (wpAny_execs_nil ?_)
   refine wpAny_execs_cons (wpAny_Return_some (wpAny_BinOp (wpAny_Constant_int ?_)))
   show wpAny _ _ (do callWith (P3 88 15 72) (<- eval (.Name (Str.ofString "len") (P3 88 15 18)) env) [] (backTo (P3 88 15 72) (starEach (km [.cmp1 5 (.nm 0 (P3 88 20 24)) (.nm 0 (P3 88 29 33)) (.tup [.cI 127 (P3 88 38 41),.cI 2047 (P3 88 43 47),.cI 65535 (P3 88 49 54)] 0 (P3 88 37 55)) [.cmp (.nm 1 (P3 88 59 63)) [.Gt] [.nm 0 (P3 88 66 70)] (P3 88 59 70)] (P3 88 19 71)] jn.ec) env)) (backToKw (P3 88 15 72) (keywordEach [] env))) _ _ _
   rw [qo]
   refine jc (len (x.tok _) ?_)
   refine PySem.Calls.callWith_builtin (kg _ _ _) (PySem.Calls.evalArgs_plain (PySem.Calls.spliced_cons ?_))
   have hcell:∀ t',({ s₁ with toks:=t' }:Shared).heap.IsCell c (some (.int (n:Int) u)):=fun t'=>by
    have:=x.cell (Str.ofString "code") c (by rw [hc];rfl)
    rw [hcm] at this
    exact this
   refine u8_comp (A:=A.deeper env) AO.hd hn hk hkc hc (hcell _) fun D h' tk kp hl=>?_
   refine PySem.Calls.spliced_nil ?_
   refine PySem.Calls.call_len_list hl (by decide) ?_
   refine PySem.P.add_int ?_
   have kq:∀ b o,W.h.get? b=some o->h'.get? b=some o:=fun b o e=>kp b o (x.toInCall.keep b o e)
   obtain ⟨hx,tx,rfl⟩:=x.toInCall.same
   exact hQ h' _ _ kq
 induction as using List.casesOn with
 |nil=>exact hQ.elim
 |cons a r=>
  obtain ⟨va,s,rfl,ha,hs⟩:=Rs_cons hv
  induction r using List.casesOn with
  |cons _ _=>
   induction a using AV.casesOn with
   |it i=>induction i<;>exact hQ.elim
   |_=>exact hQ.elim
  |nil=>
   obtain rfl:=Rs_nil hs
   induction a using AV.casesOn with
   |it i=>
    induction i with
    |ofNat n=>
     refine u8_tt (Φ:=fun r=>PV w.params V Hz fs l C W loc sh r Q E) id hQ fun hn hQ=>?_
     obtain ⟨u,rfl⟩:=ha
     refine key n u hn rfl fun h' t' u' kp=>?_
     obtain ⟨R',S'⟩:=R.ext (h':=h') kp
     exact hQ _ { W with h:=h' } _ rfl rfl R' S' ⟨_,rfl⟩
    |negSucc n=>exact hQ.elim
   |_=>exact hQ.elim
end
structure CB (prog:Program) (w:World) (V:Vl) (Hz:Heap) (p:Par) (K:Frag):Prop where
 B:Base prog w V Hz p K
 fo:∀ k fi,ftab.get k=some fi->k ≠ 15->k ≠ 106->FnOk V Hz fi
 u8:U8Ok Hz
 nd:Hz.NoDigits
 hcls:findCls K (.type "Exception") (.type "type") "__init__"=some (.val (.builtin "Exception.__init__"))
 ex:∀ k C,nth qk k=some C->k < 7->KExc K C
 wi:KWire K
 hfn:∃ o,Hz.get? jl.addr=some o/\o.cls=.type "function"
 wh:∀ {ih:RunTy},(∀ cd,Ih prog w V Hz ih cd)->∀ {cd fs l C W loc A},AOk cd l fs A->Rel V w.params Hz fs C W loc->∀ {as vs},W.Rs V as vs->DoesK prog w V Hz A fs l C W loc (.call (.ref jm.addr) ⟨vs,[]⟩) (k_wh ⟨p,ih⟩ cd W.s as)
 orc:∀ {cd fs l C W loc A},AOk cd l fs A->Rel V w.params Hz fs C W loc->∀ {k as vs a s' fi},p.orc cd k as W.s=some (a,s')->ftab.get k=some fi->W.Rs V as vs->DoesK prog w V Hz A fs l C W loc (.call (.ref fi.addr) ⟨vs,[]⟩) (.v a s')
section
variable {prog:Program} {w:World} {V:Vl} {Hz:Heap} {p:Par} {fs:List Addr} {l:List Env} {C:EC} {W:Wd} {loc:List AV} {A:Around} {cd:Nat} {ih:RunTy} {K:Frag}
set_option smartUnfolding false in
theorem d_fnc (X:CB prog w V Hz p K) (I:∀ cd,Ih prog w V Hz ih cd) (AO:AOk cd l fs A) (R:Rel V w.params Hz fs C W loc) {k:Nat} {fi:FI} (hk:ftab.get k=some fi) {as:List AV} {vs:List Value} (hv:W.Rs V as vs):
  DoesK prog w V Hz A fs l C W loc (.call (.ref fi.addr) ⟨vs,[]⟩) (k_call ⟨p,ih⟩ cd W.s k as):=by
 intro sh t Q E hQ
 refine J.so2 (Φ:=fun r=>PV w.params V Hz fs l C W loc sh r Q E) (f:=fun q:AV × Mine.St=>.v q.1 q.2) hQ (fun q ho hQ=>X.orc AO R ho hk hv sh t Q E hQ) fun _ hQ=>?_
 refine J.b2 (Φ:=fun r=>PV w.params V Hz fs l C W loc sh r Q E) hQ (fun h1 hQ=>?_) fun h1 hQ=>?_
 ·obtain rfl:=je h1
  obtain rfl:=jf hk
  exact d_u8 X.u8 X.B.G AO R hv sh t Q E hQ
 ·refine J.b2 (Φ:=fun r=>PV w.params V Hz fs l C W loc sh r Q E) hQ (fun h2 hQ=>?_) fun h2 hQ=>?_
  ·obtain rfl:=je h2
   obtain rfl:=jf hk
   exact X.wh I AO R hv sh t Q E hQ
  ·induction cd using Nat.casesAuxOn with
   |zero=>exact False.elim hQ
   |succ cd=>exact PV.so hQ fun fi' e hQ=>d_fnK (I cd) X.B.G (X.fo k fi hk (fun q=>jh (h1.symm.trans (q▸Nat.beq_refl k))) fun q=>jh (h2.symm.trans (q▸Nat.beq_refl k))) AO R hv sh t Q E (jf (e.symm.trans hk)▸hQ)
set_option smartUnfolding false in
theorem d_kls (X:CB prog w V Hz p K) (I:∀ cd,Ih prog w V Hz ih cd) (AO:AOk cd l fs A) (R:Rel V w.params Hz fs C W loc) {k:Nat} {a:Addr} (ha:nth qk k=some a) {as:List AV} {vs:List Value} (hv:W.Rs V as vs):
  Does prog w V Hz A fs l C W loc (call (.ref a) vs []) (k_cls ⟨p,ih⟩ cd C loc W.s k as):=by
 intro sh t Q E hQ
 refine J.b2 (Φ:=fun r=>PV w.params V Hz fs l C W loc sh r Q E) hQ (fun h1 hQ=>?_) fun _ hQ=>PV.tt hQ fun h2 hQ=>?_
 ·induction cd using Nat.casesAuxOn with
  |zero=>exact False.elim hQ
  |succ cd=>exact .of (d_exc X.B.G (X.fo 1 _ rfl (by decide) (by decide)) X.hfn X.B.KX X.hcls ha (X.ex k a ha (qq h1)) AO R hv sh t Q E hQ)
 ·obtain rfl:=je h2
  obtain rfl:=jf ha
  induction cd using Nat.casesAuxOn with
  |zero=>exact False.elim hQ
  |succ cd=>exact d_wire (I cd) X.B.KX X.wi AO R hv sh t Q E hQ
theorem d_cal (X:CB prog w V Hz p K) (I:∀ cd,Ih prog w V Hz ih cd) (AO:AOk cd l fs A) (R:Rel V w.params Hz fs C W loc) {f:AV} {fv:Value} (hf:W.R V f fv) {as:List AV} {vs:List Value} (hv:W.Rs V as vs):
  Does prog w V Hz A fs l C W loc (call fv vs []) (s_cal ⟨p,ih⟩ cd C loc W.s f as):=by
 induction f using AV.casesOn with
 |fn k=>exact Exists.elim hf fun fi hf=>hf.2▸fun sh t Q E hQ=>ge (d_fnc X I AO R hf.1 hv sh t Q E hQ)
 |kl k=>exact Exists.elim hf fun a hf=>hf.2▸d_kls X I AO R hf.1 hv
 |bi b=>
  obtain rfl:fv=biV b:=hf
  exact p_bi X.B.O AO R X.nd hv
 |bm c k=>exact d_bm (I cd) AO R hf hv
 |_=>exact fun _ _ _ _ hQ=>False.elim hQ
end
section
variable {prog:Program} {w:World} {V:Vl} {Hz:Heap} {p:Par} {K:Frag}
theorem run_ok (X:CB prog w V Hz p K):∀ n cd,Ih prog w V Hz (run p n) cd
 |0,cd=>by
  refine ⟨?_,?_,?_,?_,?_,?_,?_,?_,?_⟩
  ·intros;intro sh t Q E h;exact h.elim
  ·intros;intro sh t Q E h;exact h.elim
  ·intros;intro sh t Q E h;exact h.elim
  ·intros;intro sh t Q E h;exact h.elim
  ·intros;intro sh t Q E h;exact h.elim
  ·intros;intro sh t Q E h;exact h.elim
  ·intros;intro sh t Q E h;exact h.elim
  ·intros;intro sh t Q E h;exact h.elim
  ·intros;intro sh t Q E h;exact h.elim
 |n+1,cd=>by
  have I:=run_ok X n
  have Pr:=prim X.B
  have G:=X.B.G
  refine ⟨?_,?_,?_,?_,?_,?_,?_,?_,?_⟩
  ·intro fs l C W loc A env AO EO R e
   exact d_ev (I cd) Pr AO EO R G e
  ·intro fs l C W loc A env AO EO R es
   exact d_evs (I cd) AO EO R es
  ·intro fs l C W loc A env AO EO R e
   exact d_tst (I cd) Pr AO EO R G e
  ·intro fs l C W loc A env AO EO TO R ss
   exact d_ex (I cd) Pr AO EO TO R G ss
  ·intro fs l C W loc A AO R f fv as vs hf hv
   exact d_cal X I AO R hf hv
  ·intro fs l C W loc A AO R k fi as vs hk hv
   exact d_fnc X I AO R hk hv
  ·intro fs l C W loc A env AO EO TO R tt b
   exact d_whl (I cd) Pr AO EO TO R G tt b
  ·intro fs l C W loc A env AO EO TO R tt c b
   exact d_frl (I cd) Pr AO EO TO R G tt c b
  ·intro fs l C W loc A env AO EO R elt tgt ifs c acc itx sc q
   intro sh t Q E hQ
   have hQ:PF w.params V Hz fs l C W sh (flO (match look W.s.sto acc with
    |some (.li _)=>nextIn W.s c (c_1 ⟨p,run p n⟩ cd C loc elt tgt ifs c acc)
    |_=>.fail 22)) Q E:=hQ
   rw [ke] at hQ
   induction hl:W.s.sto.lookup acc with
   |none=>rw [hl] at hQ;exact hQ.elim
   |some cc=>
    rw [hl] at hQ
    induction cc with
    |li li=>exact d_cml (I cd) Pr AO EO R G hl elt tgt ifs c itx sc q sh t Q E hQ
    |_=>exact hQ.elim
end
theorem noteFrame_same {e:Value} {env env':Env} (h:env.frame=env'.frame):noteFrame e env=noteFrame e env':=by
 unfold noteFrame PySem.frameOf;rw [h]
section
variable {M:Model} {A:Around} {E:VP} {s:Shared} {env:Env}
theorem wpR_comprehension_free {e:PySem.Expr} {scope:Scope} {pos:Pos} {newAcc first:Sem Value} {g:Comprehension} {gs:List Comprehension} {cl:List (Str × Addr)} {Q:VP}
  (hcl:clausesOf e=g :: gs) (hs:∀ x,foldedSetIterable g.iter env x=pure x) (hclos:closureFor scope env=pure cl) (hkind:scope.kind=.function) (hnames:∀ x ∈ scope.names,x.2=.local->scope.names.lookup x.1=some .local)
  (h:wpR M A first (fun x s₁=>wpR M A (pyIter x) (fun it s₂=>wpR M A newAcc (fun acc s₃=>wpR M A (newFunctionEnv scope env.globals cl [] env.qual none .none (some env)) (fun cenv s₄=>
    kb M A (.compStart e 0 it acc { cenv with scope:=relabel scope env }) (fun r s'=>∃ m,s'.heap.Ns cenv.locals m/\∀ h',Heap.SameBut cenv.locals s'.heap h'->
     match r with|.ok _=>Q acc { s' with heap:=h' }|.error x=>wpR M A (PySem.passOn "comprehension.variables-let-go" x { cenv with scope:=relabel scope env }) Q E { s' with heap:=h' }) s₄) E s₃) E s₂) E s₁) E s):
  wpR M A (comprehension e scope env pos newAcc false first) Q E s:=by
 unfold comprehension
 rw [hclos,hcl]
 refine jr (jq h (fun x s₁ h₁=>jr (jt (jr (jw (hs x) (jr (ju (jq h₁ (fun it s₂ h₂=>
  wpR_standIf (jr (jq h₂ (fun acc s₃ h₃=>jr (jv (jr (jq h₃ (fun cenv s₄ h₄=>?_) fun _ _ h'=>h')))) fun _ _ h'=>h')))
   fun _ _ h'=>h'))))))) fun _ _ h'=>h')
 dsimp only
 refine ju (jr (wpR_attempt (ju (wpR_run (codeR_mono h₄ fun r s' hr=>?_) rfl))))
 obtain ⟨m,hn,hr⟩:=hr
 have hv:∀ x ∈ (scope.names.filter fun x=>(x.2 == .local || x.2 == .cell) && x.1 != (".0":Str)).reverse,x.2=.local->Env.kindOf { cenv with scope:=relabel scope env } x.1=some .local:=
  fun x hx hl=>lookup_relabel_local (hnames x (List.mem_filter.mp (List.mem_reverse.mp hx)).1 hl)
 induction r with
 |ok f=>exact jr (ju (.of (wpAny_comp_letGo (cenv:={ cenv with scope:=relabel scope env }) hkind _ s' m hv hn fun h' m' _ hs'=>jv (hr h' hs'))))
 |error x=>exact jr (ju (.of (wpAny_comp_letGo (cenv:={ cenv with scope:=relabel scope env }) hkind _ s' m hv hn fun h' m' _ hs'=>hr h' hs')))
end
section
variable {prog:Program} {w:World} {A:Around} {s:Shared} {R:Result->Shared->Prop}
set_option backward.match.sparseCases true in
theorem codeR_call_cells {a:Addr} {o:Obj} {fd:FuncData} {body:List Stmt} {vals:List Value} {binds:List (Str × Value)}
  (hroom:A.depth < recursionLimit) (ho:s.heap.get? a=some o) (hdata:o.data=.func fd) (hlim:s.heap.NoLimit) (hcd:s.heap.CodeRec fd.code fd.qualname)
  (hbody:fd.body=.stmts body) (hbind:bindArgs fd ⟨vals,[]⟩=pure binds) (hclo:fd.closure=[])
  (hkind:∀ x ∈ binds,fd.scope.names.lookup x.1=some .local \/ (fd.scope.names.lookup x.1=some .cell/\((cellsFrom (s.heap.objs.size+1) fd.scope.names []).lookup x.1).isSome=true))
  (h:∀ s₁,InCallC s (callEnvC fd s.heap.objs.size a).locals (bindL (callEnvC fd s.heap.objs.size a).kindOf binds fun _=>none) (callEnvC fd s.heap.objs.size a).cells
    (bindC (callEnvC fd s.heap.objs.size a).kindOf binds fun _=>none) s₁->
   wpR (model prog w) (A.deeper (callEnvC fd s.heap.objs.size a)) (execs body (callEnvC fd s.heap.objs.size a)) (fun f s'=>R (.ok (.ret (match f with|.ret v=>v|_=>.none))) s')
    (fun e s'=>wpR (model prog w) (A.deeper (callEnvC fd s.heap.objs.size a)) (leaving (callEnvC fd s.heap.objs.size a) e) (fun _ s''=>R (.error e) s'') (fun e' s''=>R (.error e') s'') s') s₁)
  (hco:fd.scope.isCoroutine=false) (hgen:fd.scope.isGenerator=false) (hk:fd.scope.kind=.function):
  kb (model prog w) A (.call (.ref a) ⟨vals,[]⟩) R s:=by
 refine ka ?_
 show wpR _ A.in1 (callAny (.ref a) ⟨vals,[]⟩) _ _ s
 simp only [callAny]
 refine jr (.of (wpAny_load ho ?_))
 obtain ⟨c,oc,vs,tq,hc,hoc,hdc,hq⟩:=hcd
 simp only [hdata,callFunction,hco,hgen,hbody,hc]
 simp only [callEnvC,hc] at h
 refine jr (m:=field (.ref c) 1) (.of (wpAny_field hoc hdc hq (jr (jv ?_))))
 rw [hbind,hclo]
 refine jr (jv (jr (.of (wpAny_newFunctionEnv_cells hk hkind fun env he s' x=>?_))))
 subst he
 refine jr (.of (wpAny_enterFrame (hlim.keeps x.toInCall.keep) hroom (jv ⟨rfl,rfl,codeR_func ?_⟩)))
 exact h s' x
end
noncomputable def HeldT (fs:List Addr) (l:List Env) (LF:Addr) (W:Wd) (k:Nat) (e:Addr) (h:Heap):Prop:=
 ∃ Ck B a0,nth qk k=some Ck/\(∀ b o,W.h.get? b=some o->b ∉ fs->B.get? b=some o)/\W.h.UpToSlots h/\Heap.HeldW B l e (.ref Ck) a0 LF h
noncomputable def e00:EC:=⟨[],[]⟩
noncomputable def PG (P:Params) (V:Vl) (Hz:Heap) (fs:List Addr) (l:List Env) (LF:Addr) (W:Wd) (sh:Shared) (r:Res) (Q:Shared->Prop) (E:VP):Prop:=match r with
 |.fl f _ s=>f=.next/\∀ W' t,W'.L=W.L->W'.s=s->Rel V P Hz fs e00 W' []->Stp fs W W'->Q (at' sh W' t)
 |.ex k s=>∀ e W' h t,W'.L=W.L->W'.s=s->Rel V P Hz fs e00 W' []->Stp fs W W'->HeldT fs l LF W' k e h->E (.ref e) { at' sh W' t with heap:=h }
 |_=>False
theorem PG.mv {P:Params} {V:Vl} {Hz:Heap} {fs:List Addr} {l:List Env} {LF:Addr} {W W₁:Wd} {sh:Shared} {r:Res} {Q:Shared->Prop} {E:VP} (S:Stp fs W W₁) (hL:W₁.L=W.L) (h:PG P V Hz fs l LF W sh r Q E):PG P V Hz fs l LF W₁ sh r Q E:=by
 induction r with
 |fl f lo s=>exact ⟨h.1,fun W' t a b R S'=>h.2 W' t (a.trans hL) b R (S.trans S')⟩
 |ex k s=>exact fun e W' g t a b R S' x=>h e W' g t (a.trans hL) b R (S.trans S') x
 |_=>exact h
noncomputable def whC:EC:=(ciAt 13).ec
noncomputable def whElt:XE:=.cal (.gl 0 (P3 649 18 24)) [.nm 0 (P3 649 25 29),.nm 1 (P3 649 31 36),.nm 2 (P3 649 38 42)] (P3 649 18 43)
noncomputable def whTgt:XE:=.nm 0 (P3 649 48 52)
noncomputable def whIt:XE:=.mcl (.nm 0 (P3 649 56 60)) 30 (P3 649 56 68) [.att (.nm 0 (P3 649 69 73)) 31 (P3 649 69 78)] (P3 649 56 79)
structure WhEnv (cenv:Env) (cw cs LF:Addr):Prop where
 kind:cenv.scope.kind=.function
 word:cenv.kindOf (Str.ofString "word")=some .local
 wire:cenv.kindOf (Str.ofString "wire")=some .cell
 words:cenv.kindOf (Str.ofString "words")=some .cell
 one:cenv.kindOf (Str.ofString "one_of")=some .globalImplicit
 c1:cenv.cells.lookup (Str.ofString "wire")=some cw
 c2:cenv.cells.lookup (Str.ofString "words")=some cs
 gl:cenv.globals=mainGlobals
 bu:cenv.builtins=builtinsNs
 fr:cenv.frame=some LF
structure WhC (W:Wd) (cw cs:Addr) (vo vs:Value):Prop where
 c1:W.h.IsCell cw (some vo)
 c2:W.h.IsCell cs (some vs)
 n1:¬ Mu W cw
 n2:¬ Mu W cs
theorem isCell_step {fs:List Addr} {W W':Wd} (S:Stp fs W W') {c:Addr} {v:Option Value} (h:W.h.IsCell c v) (n:¬ Mu W c):W'.h.IsCell c v/\¬ Mu W' c:=by
 obtain ⟨o,ho,hd⟩:=h
 obtain ⟨o',ho',sm⟩:=S.oth c o ho n
 refine ⟨⟨o',ho',sm.data.trans hd⟩,fun q=>?_⟩
 rcases S.fr c q with q|q
 ·exact n q
 ·rw [ho] at q;exact (jg _ q).elim
theorem WhC.step {fs:List Addr} {W W':Wd} {cw cs:Addr} {vo vs:Value} (S:Stp fs W W') (h:WhC W cw cs vo vs):WhC W' cw cs vo vs:=
 let a:=isCell_step S h.c1 h.n1;let b:=isCell_step S h.c2 h.n2;⟨a.1,b.1,a.2,b.2⟩
section
variable {prog:Program} {w:World} {V:Vl} {Hz:Heap} {p:Par} {fs:List Addr} {l:List Env} {C:EC} {W:Wd} {loc:List AV} {A:Around} {env:Env} {cd:Nat} {ih:RunTy}
theorem glo_name (G:Gd prog w V Hz) (R:Rel V w.params Hz fs C W loc) (hk:env.scope.kind=.function) (hgl:env.globals=mainGlobals) (hbu:env.builtins=builtinsNs) {g:Nat} {x:Str} {a:AV} (hg:gtab.get g=some (x,a)) (hu:a ≠ .un)
  (hkl:env.kindOf x=some .globalImplicit) (hd:(x == ("__debug__":Str))=false) {A:Around} {E:VP} {q:Pos} {sh:Shared} {t:Nat} {Q:VP} (h:∀ v,W.R V a v->Q v (at' sh W t)):
  wpAny (model prog w) A (eval (.Name x q) env) Q E (at' sh W t):=by
 obtain ⟨mg,mb,hmg,hmb,hgt⟩:=G.glo
 rcases hgt g _ hg with e|⟨v,hv,hr⟩
 ·exact absurd e hu
 ·refine Name_function_global hk hkl ?_ hd
  have k1:W.h.Ns env.globals mg:=by rw [hgl];exact hmg.keeps R.base
  have k2:W.h.Ns env.builtins mb:=by rw [hbu];exact hmb.keeps R.base
  have fin:=h v (hr W.h W.ρ W.s.nx R.base)
  rcases hv with hv|⟨hn,hv⟩
  ·exact loadGlobal_global (s:=at' sh W t) k1 hv fin
  ·exact loadGlobal_builtin (s:=at' sh W t) k1 hn k2 hv fin
theorem wh2_inv {PP:Res->Prop} (hn:∀ n,¬ PP (.fail n)) {acc:Nat} {go:Mine.St->Res} {y:AV} {s:Mine.St} (h:PP (wh_2 acc go (.v y s))) {G:Prop} (k:∀ l,qb s acc (.li l)->ki (l ++ [y]) 10000=true->PP (go ⟨putP s.sto acc (.li (l ++ [y])),s.nx⟩)->G):G:=
 J.li (hn 24) h fun l hl h=>by
  rw [fSp_eq] at h
  exact J.tt (hn 24) h fun hlt h=>k l (by rw [ke] at hl;exact hl) hlt (by rw [setC_eq] at h;exact h)
set_option tactic.hygienic true in
theorem wh_loop (I:Ih prog w V Hz ih cd) (Pr:Prim prog w V Hz p) (G:Gd prog w V Hz) {envf:Env} {outer:List Env} (AO:AOk cd (envf :: outer) fs A) {cenv:Env} {cw cs LF:Addr} (hff:envf.frame=some LF) (CE:WhEnv cenv cw cs LF) {vo:Value} {ws:List Nat} {u:Tok} {wn c acc:Nat} (itx:PySem.Expr) (sc:Scope) (q:Pos):
  ∀ (n:Nat) {W:Wd} {t:Nat} {sh:Shared} {RR:Result->Shared->Prop},Rel V w.params Hz fs e00 W []->W.L=cenv.locals->WhC W cw cs vo (.str (jk ws) u)->W.R V (.ob wn) vo->c < W.s.nx->acc < W.s.nx->
   PG w.params V Hz fs (envf :: outer) LF W sh (wh_go ⟨p,ih⟩ cd wn ws c acc n W.s) (fun s=>RR (.ok .next) s) (fun e s=>RR (.error e) s)->
   kb (model prog w) A (.compLoop (.ListComp (kj whElt whC) [⟨kj whTgt whC,itx,[],0⟩] sc q) 0 (.ref (W.ρ c)) (.ref (W.ρ acc)) cenv) RR (at' sh W t)
 |0,W,t,sh,RR,R,hL,HC,hob,hc,hacc,hQ=>hQ.elim
 |n+1,W,t,sh,RR,R,hL,HC,hob,hc,hacc,hQ=>by
  refine ka ?_
  show wpR _ A ((compTurn (.ListComp (kj whElt whC) [⟨kj whTgt whC,itx,[],0⟩] sc q) 0 (.ref (W.ρ c)) (.ref (W.ρ acc)) cenv).onRaise (fun x=>do noteFrame x cenv;theTreesLotGoes x)) _ _ _
  refine wpR_noted ?_
  have tree:compTurn (.ListComp (kj whElt whC) [⟨kj whTgt whC,itx,[],0⟩] sc q) 0 (.ref (W.ρ c)) (.ref (W.ρ acc)) cenv=(standAt itx.pos >>= fun _=>pyNext (.ref (W.ρ c)) >>= fun r=>match r with
    |none=>pure (.done .next)
    |some v=>letOwnedTupleGo (kj whTgt whC) (.ref (W.ρ c)) v >>= fun _=>assign (kj whTgt whC) cenv v >>= fun _=>
     (forIn ([]:List PySem.Expr) true fun e ok=>if ok=true then (do let ok <- isTrue e cenv (eval e cenv);pure (ForInStep.yield ok)) else pure (ForInStep.yield ok)) >>= fun ok=>
     if ok=true then ((eval (kj whElt whC) cenv >>= fun x=>call (.builtin "list.append") [.ref (W.ρ acc),x] >>= fun _=>pure ()) >>= fun _=>again (.compLoop (.ListComp (kj whElt whC) [⟨kj whTgt whC,itx,[],0⟩] sc q) 0 (.ref (W.ρ c)) (.ref (W.ρ acc)) cenv))
     else again (.compLoop (.ListComp (kj whElt whC) [⟨kj whTgt whC,itx,[],0⟩] sc q) 0 (.ref (W.ρ c)) (.ref (W.ρ acc)) cenv)):=by rfl
  rw [tree]
  clear tree
  refine wpR_gen fun Qg Eg qg eg=>?_
  have hQ:PG w.params V Hz fs (envf :: outer) LF W sh (nextIn W.s c (wh_x ⟨p,ih⟩ cd wn ws acc (wh_go ⟨p,ih⟩ cd wn ws c acc n))) (fun s=>RR (.ok .next) s) (fun e s=>RR (.error e) s):=hQ
  refine jr (jt (jr (Pr.next AO R (PP:=fun r=>PG w.params V Hz fs (envf :: outer) LF W sh r (fun s=>RR (.ok .next) s) (fun e s=>RR (.error e) s)) (fun _ h=>h) hQ (fun x v W1 t1 hL1 R1 S1 hx hP=>?_) fun W1 t1 hL1 R1 S1 hP=>?_)))
  ·have hP:=PG.mv S1 hL1 hP
   refine jr (jw (show letOwnedTupleGo (kj whTgt whC) (.ref (W.ρ c)) v=pure () from rfl) ?_)
   obtain ⟨m,hm,_⟩:=R1.ns
   have hloc:cenv.locals=W1.L:=(hL1.trans hL).symm
   show wpR _ _ (assign (.Name (Str.ofString "word") _) cenv v >>= _) _ _ _
   refine jr (wpR_assign_Name (.of (wpAny_storeName_local CE.word (m:=m) (by rw [hloc];exact hm) (fun h' hn hs=>?_) (by rw [CE.kind];rfl))))
   rw [hloc] at hn hs
   obtain ⟨R2,S2⟩:=R1.forget (h':=h') (fun b o hb e=>(hs.2 b hb).trans e) hn
   have R2:Rel V w.params Hz fs e00 { W1 with h:=h' } []:=R2
   have HC2:=(HC.step S1).step S2
   have hob2:=S2.R (S1.R hob)
   have hx2:=S2.R hx
   have hP:=PG.mv S2 rfl hP
   have hm2:(at' sh { W1 with h:=h' } (t1+1)).heap.Ns cenv.locals (fun y=>if y=Str.ofString "word" then some v else m y):=by rw [hloc];exact hn
   show wpR _ _ _ _ _ (at' sh { W1 with h:=h' } (t1+1))
   generalize hW2:({ W1 with h:=h' }:Wd)=W2 at R2 S2 HC2 hob2 hx2 hP hm2 ⊢
   have hL2:W2.L=W.L:=by rw [<- hW2];exact hL1
   have S12:=S1.trans S2
   refine jr (m:=forIn _ _ _) ?_
   rw [List.forIn_nil]
   refine jv ?_
   rw [if_pos rfl]
   refine jr (jr ?_)
   have he:eval (kj whElt whC) cenv=(do callWith (P3 649 18 43) (<- eval (kj (.gl 0 (P3 649 18 24)) whC) cenv) [] (backTo (P3 649 18 43) (starEach (km [.nm 0 (P3 649 25 29),.nm 1 (P3 649 31 36),.nm 2 (P3 649 38 42)] whC) cenv)) (backToKw (P3 649 18 43) (keywordEach [] cenv))):=rfl
   rw [he,qo]
   refine jr (.of (glo_name (x:=Str.ofString "one_of") (g:=121) (a:=.fn 105) G R2 CE.kind CE.gl CE.bu (by rfl) (by intro q;cases q) CE.one (by decide +kernel) fun fv hfv=>?_))
   refine callWith_of (P:=fun h=>∃ W':Wd,W'.h=h/\Rel V w.params Hz fs e00 W' []/\W'.R V (.fn 105) fv) (by rw [kg];rfl) (fun h ⟨W',e,R',r⟩=>e▸Pr.keep R' r rfl) ?_
   refine zv (kg _ _ _) ?_
   refine spliced_cons (.of (wpAny_Name (x:=Str.ofString "word") (wpAny_loadName_local CE.kind CE.word hm2 (v:=v) (by simp) ?_) (by decide +kernel)))
   refine spliced_cons (.of (wpAny_Name (x:=Str.ofString "words") (wpAny_loadName_cell CE.kind CE.words CE.c2 HC2.c2 ?_) (by decide +kernel)))
   refine spliced_cons (.of (wpAny_Name (x:=Str.ofString "wire") (wpAny_loadName_cell CE.kind CE.wire CE.c1 HC2.c1 ?_) (by decide +kernel)))
   refine spliced_nil ⟨⟨W2,rfl,R2,hfv⟩,?_⟩
   obtain ⟨fi,hfi,rfl⟩:=hfv
   refine ge (I.fnc AO R2 hfi (as:=[x,.st ws,.ob wn]) (ku.consI hx2 (ku.consI ⟨u,rfl⟩ (ku.one hob2))) sh _ _ _ ?_)
   have hP:PG w.params V Hz fs (envf :: outer) LF W2 sh (wh_2 acc (wh_go ⟨p,ih⟩ cd wn ws c acc n) (ih cd e00 [] W2.s (.cal (.fn 105) [x,.st ws,.ob wn]))) (fun s=>RR (.ok .next) s) (fun e s=>RR (.error e) s):=by
    rw [<- hW2];rw [<- hW2] at hP;exact hP
   show PV w.params V Hz fs (envf :: outer) e00 W2 [] sh (ih cd e00 [] W2.s (.cal (.fn 105) [x,.st ws,.ob wn])) _ _
   induction he:ih cd e00 [] W2.s (.cal (.fn 105) [x,.st ws,.ob wn]) with
   |v y s4=>
    rw [he] at hP
    intro vy W4 t4 hL4 hs4 R4 S4 hy
    subst hs4
    refine wh2_inv (PP:=fun r=>PG w.params V Hz fs (envf :: outer) LF W2 sh r (fun s=>RR (.ok .next) s) (fun e s=>RR (.error e) s)) (fun _ h=>h) hP fun l4 hl hlt hP=>?_
    have hacc4:W4.ρ acc=W.ρ acc:=(S12.trans S4).ρ acc hacc
    refine jr (jz (hacc4▸rfl) (Pr.methB AO R4 (o:=.ce acc) (vo:=.ref (W4.ρ acc)) ⟨(R4.cell acc _ hl).1,rfl⟩ (ku.one hy) (app_mId hl) sh t4 _ _ ?_))
    rw [app_methB hl hlt]
    intro v5 W5 t5 hL5 hs5 R5 S5 hv5
    refine jv (jv (qg _ _ ⟨rfl,rfl,?_⟩))
    rw [<- hs5] at hP
    have S25:=S4.trans S5
    have SS:=S12.trans S25
    rw [<- show W5.ρ c=W.ρ c from SS.ρ c hc,<- show W5.ρ acc=W.ρ acc from SS.ρ acc hacc]
    exact wh_loop I Pr G AO hff CE itx sc q n R5 ((hL5.trans (hL4.trans hL2)).trans hL) (HC2.step S25) (S25.R hob2) (Nat.lt_of_lt_of_le hc SS.nx) (Nat.lt_of_lt_of_le hacc SS.nx) (PG.mv S25 (hL5.trans hL4) hP)
   |ex k s4=>
    rw [he] at hP
    intro e W4 h t4 hL4 hs4 R4 S4 hT
    obtain ⟨Ck,B,a0,hCk,hB,hup,hfl⟩:=hT
    refine eg _ _ ?_
    show noteR _ _ _ _ _ _
    unfold noteR
    rw [noteFrame_same (env':=envf) (CE.fr.trans hff.symm)]
    refine .of (wpAny_looks_onW AO.fr hff hfl fun h4 hheld hup4=>?_)
    exact hP e W4 h4 t4 hL4 hs4 R4 S4 ⟨Ck,B,a0,hCk,hB,hup.trans hup4,hheld⟩
   |_=>rw [he] at hP;exact hP.elim
  ·exact jv (qg _ _ (hP.2 W1 t1 hL1 rfl R1 S1))
end
theorem held_hide {B h h':Heap} {l:List Env} {e LF C:Addr} {cls a0:Value} (x:Heap.HeldW B l e cls a0 LF h) (hs:∀ b o,b ≠ C->h.get? b=some o->h'.get? b=some o) (hC:∃ m,h.Ns C m) (hl:∀ env ∈ l,env.frame ≠ some C):
  Heap.HeldW (hideAll B [C]) l e cls a0 LF h':=by
 obtain ⟨f1,f2,f3,oe,vs,T,oT,ts,he,hc,hd,h1,hnT,hTe,hT,hdT,h3⟩:=x
 obtain ⟨m,oC,es,ep,hoC,hdC,_⟩:=hC
 have ne:∀ b o vs,h.get? b=some o->o.data=.fields vs->b ≠ C:=fun b o vs e1 e2 q=>by rw [q,hoC] at e1;cases e1;rw [hdC] at e2;cases e2
 have hn:∀ b,B.get? b=none->(hideAll B [C]).get? b=none:=fun b q=>by
  induction e1:(hideAll B [C]).get? b with
  |none=>rfl
  |some o=>have:=of_hideAll _ e1;rw [q] at this;exact (jg _ this.symm).elim
 refine ⟨fun b o e1=>?_,hn e f2,?_,oe,vs,T,oT,ts,hs _ _ (ne _ _ _ he hd) he,hc,hd,h1,hn T hnT,hTe,hs _ _ (ne _ _ _ hT hdT) hT,hdT,h3⟩
 ·refine hs b o (fun q=>?_) (f1 b o (of_hideAll _ e1))
  rw [q,hideAll_none _ (List.mem_singleton.mpr rfl)] at e1;exact (jg _ e1.symm).elim
 ·clear hT hdT he
  induction l with
  |nil=>trivial
  |cons env r ih=>
   obtain ⟨a1,⟨L,o,b1,b2,b3,b4⟩,a3⟩:=f3
   refine ⟨a1,⟨L,o,b1,hn L b2,hs L o (fun q=>hl env List.mem_cons_self (q▸b1)) b3,b4⟩,ih (fun e he=>hl e (List.mem_cons_of_mem _ he)) a3⟩
section
variable {M:Model} {A:Around} {E:VP} {s:Shared} {env:Env}
theorem passOn_held {α:Type} {base:Heap} {l:List Env} {e L:Addr} {cls a0:Value} {what:String} {Q:α->Shared->Prop} (hf:env.frame=some L) (hh:Heap.HeldW base l e cls a0 L s.heap)
  (hE:∀ h',Heap.HeldW base l e cls a0 L h'->s.heap.UpToSlots h'->E (.ref e) { s with heap:=h' }):wpAny M A (PySem.passOn what (.ref e) env) Q E s:=by
 obtain ⟨f1,f2,f3,oe,vs,T,oT,ts,he,hcls,hd,h1,hnT,hTe,hT,hdT,h3⟩:=hh
 have hsz3:3 < ts.size:=(Array.getElem?_eq_some_iff.mp h3).1
 have other:∀ b,b ≠ T->(s.heap.update T (Obj.mapFields (·.setIfInBounds 3 (rawInt L)))).get? b=s.heap.get? b:=fun b hb=>Heap.get?_update_other _ _ (Ne.symm hb)
 have noRecord:∀ b o,s.heap.get? b=some o->(∀ vs,o.data ≠ .fields vs)->b ≠ T:=fun b o hb hnf q=>by
  rw [q,hT] at hb;injection hb with hb;subst hb;exact hnf ts hdT
 unfold PySem.passOn
 refine jc (wpAny_field he hd h1 ?_)
 rw [if_neg (show ¬ ((Value.ref T == Value.none)=true) from by simp)]
 refine jc (m:=setFlight _ _) ?_
 unfold setFlight
 refine jc (wpAny_field he hd h1 ?_)
 rw [if_pos (show (Value.ref T != Value.none)=true from by simp),hf]
 refine wpAny_setField hT hdT hsz3 (wpAny_throw ?_)
 refine hE _ ⟨fun b o hbo=>(other b fun q=>by rw [q,hnT] at hbo;exact (jg _ hbo.symm).elim).trans (f1 b o hbo),f2,f3.of_keeps fun b o hb hnf=>⟨o,(other b (noRecord b o hb hnf)).trans hb,rfl⟩,?_⟩ fun b o hb hn=>⟨o.slots,(other b (noRecord b o hb hn)).trans hb⟩
 exact ⟨oe,vs,T,_,_,(other e (Ne.symm hTe)).trans he,hcls,hd,h1,hnT,hTe,Heap.get?_update_self _ hT (Obj.isFreed_of_fields (Obj.data_mapFields hdT _)),Obj.data_mapFields hdT _,by simp [hsz3]⟩
theorem leaving_held {base:Heap} {outer:List Env} {e L:Addr} {cls a0:Value} {Q:Unit->Shared->Prop} (hf:env.frame=some L) (hh:Heap.HeldW base (env :: outer) e cls a0 L s.heap)
  (hQ:∀ h',Heap.FlyingW base outer e cls a0 h'->s.heap.UpToSlots h'->Q () { s with heap:=h' }):wpAny M A (leaving env (.ref e)) Q E s:=by
 unfold leaving
 refine jc (wpAny_noteFrame_againW hf hh.2.2.2 ?_)
 refine wpAny_landsW hh fun h' hfl hup=>?_
 obtain ⟨k1,k2,⟨_,_,k3⟩,k4⟩:=hfl
 exact hQ h' ⟨k1,k2,k3,k4⟩ hup
end
section
variable {prog:Program} {w:World} {V:Vl} {Hz:Heap} {fs:List Addr} {l:List Env} {C:EC} {W:Wd} {loc:List AV} {A:Around} {cd:Nat}
theorem off_back {P:Params} {fs':List Addr} {C':EC} {loc':List AV} {W2 W4:Wd} {L':Addr} (R2:Rel V P Hz fs C W2 loc) (hLn:W2.h.get? L'=none) (R4:Rel V P Hz fs' C' W4 loc') (hL4:W4.L=L'):Off Hz fs W2 { W4 with L:=W2.L } L':=by
 have hno:∀ b o,W2.h.get? b=some o->b ≠ L':=fun b o e q=>by rw [q,hLn] at e;exact (jg _ e.symm).elim
 refine ⟨by obtain ⟨m,hm,_⟩:=R4.ns;rw [hL4] at hm;exact ⟨m,hm⟩,?_,?_,?_,fun j c hl q=>R4.nL j c hl (by rw [hL4];exact q),fun o e=>absurd rfl (hno _ _ e)⟩
 ·obtain ⟨_,⟨o,_,_,e,_⟩,_⟩:=R2.ns
  exact fun q=>hno _ _ e q.symm
 ·intro q
  obtain ⟨_,o,_,_,e,_⟩:=R2.f0 _ q
  exact hno _ _ e rfl
 ·induction e:Hz.get? L' with
  |none=>rfl
  |some o=>exact absurd rfl (hno _ _ (R2.base _ _ e))
theorem k_leaveH (AO:AOk cd l fs A) (R:Rel V w.params Hz fs C W loc) {env:Env} {L':Addr} {h₁:Heap} (hk:∀ b o,W.h.get? b=some o->h₁.get? b=some o) (hLn:W.h.get? L'=none) (hf:env.frame=some L')
  {C':EC} {loc':List AV} {W2:Wd} (hL2:W2.L=L') (R2:Rel V w.params Hz (L' :: fs) C' W2 loc') (S2:Stp (L' :: fs) { W with h:=h₁,L:=L' } W2) {k:Nat} {e:Addr} {h:Heap} (hr:HeldT (L' :: fs) (env :: l) L' W2 k e h) {sh:Shared} {t:Nat} {E E':VP}
  (hE:exE w.params V Hz fs l C W sh k W2.s E):wpAny (model prog w) (A.deeper env) (leaving env (.ref e)) (fun _ s=>E (.ref e) s) E' { at' sh W2 t with heap:=h }:=by
 obtain ⟨R3,S3⟩:=R.back (fs':=L' :: fs) (L':=L') hk hLn (fun b hb=>(List.mem_cons.mp hb).symm) (fun b hb=>List.mem_cons_of_mem _ hb) hL2 R2 S2
 have F:Off Hz fs W { W2 with L:=W.L } L':=off_back R hLn R2 hL2
 obtain ⟨R4,S4⟩:=R3.off S3 F (h':=hideAll W2.h [L']) fun b o hb e=>hideAll_get _ e fun q=>hb (List.mem_singleton.mp q)
 have R5:=R4.unl (loc':=uns C.names) (qf _) (qp _)
 have hb1:∀ b o,(hideAll W2.h [L']).get? b=some o->b ≠ L':=fun b o e q=>by
  rw [q,hideAll_none _ (List.mem_singleton.mpr rfl)] at e;exact (jg _ e.symm).elim
 obtain ⟨Ck,B,a0,hCk,hB,hup,hheld⟩:=hr
 refine leaving_held hf hheld fun h' hfl' hup'=>?_
 refine hE e { W2 with L:=W.L,h:=hideAll W2.h [L'] } h' t rfl rfl R5 S4 ⟨Ck,B,a0,hCk,fun b o eb hbf=>?_,fun b o eb hn=>?_,hfl'⟩
 ·exact hB b o (of_hideAll _ eb) fun q=>(List.mem_cons.mp q).elim (hb1 b o eb) hbf
 ·exact (hup.trans hup') b o (of_hideAll _ eb) hn
end
noncomputable def whSc:Scope:={ fsc [cel "wire",cel "words",glb "tuple"] with more:=[(Str.ofString "fast",.str (Str.ofString "wire")),(Str.ofString "fast",.str (Str.ofString "words")),(Str.ofString "fast",.str (Str.ofString "word"))] }
structure WhOk (Hz:Heap):Prop where
 ex:∃ o fd,Hz.get? jm.addr=some o/\o.data=.func fd/\fd.body=.stmts (kr jm.body jm.ec)/\fd.scope=whSc/\fd.globals=mainGlobals/\fd.builtins=builtinsNs/\
  Hz.CodeRec fd.code fd.qualname/\(∀ v u,bindArgs fd ⟨[v,u],[]⟩=pure [(Str.ofString "wire",v),(Str.ofString "words",u)])/\fd.closure=[]
theorem wh_names:(ciAt 13).sc.names=[(Str.ofString ".0",NameKind.local),(Str.ofString "word",.local),(Str.ofString "one_of",.globalImplicit),(Str.ofString "wire",.free),(Str.ofString "words",.free)]:=rfl
theorem wh_clos {env:Env} {a b:Addr} (h1:env.cells.lookup (Str.ofString "wire")=some a) (h2:env.cells.lookup (Str.ofString "words")=some b):closureFor (ciAt 13).sc env=pure [(Str.ofString "words",b),(Str.ofString "wire",a)]:=by
 have e1:cellOf env (Str.ofString "wire")=pure a:=by unfold cellOf;rw [h1]
 have e2:cellOf env (Str.ofString "words")=pure b:=by unfold cellOf;rw [h2]
 unfold closureFor
 rw [wh_names]
 simp [e1,e2]
theorem str_ne1:Str.ofString "wire" ≠ Str.ofString "words":=by decide +kernel
theorem wh_lk' {α:Type} (a b:α):[(Str.ofString "words",b),(Str.ofString "wire",a)].lookup (Str.ofString "wire")=some a/\[(Str.ofString "words",b),(Str.ofString "wire",a)].lookup (Str.ofString "words")=some b:=by
 have h:(Str.ofString "wire" == Str.ofString "words")=false:=by decide +kernel
 simp [List.lookup,h]
theorem wh_env {env:Env} {a b L C:Addr} (hk:env.scope.kind=.function) (hkw:env.kindOf (Str.ofString "wire")=some .cell) (hkws:env.kindOf (Str.ofString "words")=some .cell) (hgl:env.globals=mainGlobals) (hbu:env.builtins=builtinsNs) (hfr:env.frame=some L):
  WhEnv { newEnv (ciAt 13).sc C env.globals [(Str.ofString "words",b),(Str.ofString "wire",a)] env.qual none .none (some env) builtinsNs with scope:=relabel (ciAt 13).sc env } a b L:=by
 have hr:(relabel (ciAt 13).sc env).names=[(Str.ofString ".0",NameKind.local),(Str.ofString "word",.local),(Str.ofString "one_of",.globalImplicit),(Str.ofString "wire",.cell),(Str.ofString "words",.cell)]:=by
  unfold relabel
  rw [wh_names]
  simp [hk,hkw,hkws]
 refine ⟨rfl,?_,?_,?_,?_,(wh_lk' a b).1,(wh_lk' a b).2,hgl,hbu,hfr⟩<;>
 ·show List.lookup _ (relabel (ciAt 13).sc env).names=_
  rw [hr]
  decide +kernel
section
variable {prog:Program} {w:World} {V:Vl} {Hz:Heap} {p:Par} {fs:List Addr} {l:List Env} {C:EC} {W:Wd} {loc:List AV} {A:Around} {cd:Nat} {ih:RunTy}
set_option smartUnfolding false in
theorem bi1_tu {c k:Nat} {s sy:Mine.St} (h:bi1 .tuple (.ce c) s=.ex k sy):False:=
 J.li (Φ:=fun r:Res=>r=Res.ex k sy) (fun h=>by cases h) h fun l _ h=>J.tt (Φ:=fun r:Res=>r=Res.ex k sy) (fun h=>by cases h) h fun _ h=>by cases h
theorem wh_inv {Φ:Res->Prop} (hd:¬ Φ (.fail 24)) {z:Z} {cd:Nat} {s:Mine.St} {as:List AV} {G:Prop} (h:Φ (k_wh z (cd+1) s as)) (k:∀ wn ws,as=[.ob wn,.st ws]->Φ (wh_5 z cd wn ws s (look s.sto wn))->G):G:=by
 rcases as with _|⟨a,_|⟨b,_|⟨_,_⟩⟩⟩
 ·exact (hd h).elim
 ·induction a using AV.casesOn<;>exact (hd h).elim
 ·induction a using AV.casesOn with
  |ob wn=>induction b using AV.casesOn with
   |st ws=>exact k wn ws rfl h
   |_=>exact (hd h).elim
  |_=>exact (hd h).elim
 ·induction a using AV.casesOn with
  |ob wn=>induction b using AV.casesOn<;>exact (hd h).elim
  |_=>exact (hd h).elim
set_option tactic.hygienic true in
theorem wh_body {env:Env} {A1:Around} {fs1:List Addr} {LF cw cs:Addr} {W1:Wd} {vo:Value} {ws:List Nat} {u:Tok} {wn n0:Nat} {es:List (Nat × AV)} {sh:Shared} {t₁:Nat} {QF:Flow->Shared->Prop} {EF:VP} {PP:Res->Prop}
  (I:Ih prog w V Hz ih cd) (Pr:Prim prog w V Hz p) (O:VOk V p) (nd:Hz.NoDigits) (G:Gd prog w V Hz) (AO1:AOk cd (env :: l) fs1 A1) (hk:env.scope.kind=.function) (hkw:env.kindOf (Str.ofString "wire")=some .cell) (hkws:env.kindOf (Str.ofString "words")=some .cell) (hkt:env.kindOf (Str.ofString "tuple")=some .globalImplicit)
  (hglE:env.globals=mainGlobals) (hbuE:env.builtins=builtinsNs) (hfrm:env.frame=some LF) (hcl1:env.cells.lookup (Str.ofString "wire")=some cw) (hcl2:env.cells.lookup (Str.ofString "words")=some cs) (hL1:W1.L=LF) (R1:Rel V w.params Hz fs1 e00 W1 [])
  (HC1:WhC W1 cw cs vo (.str (jk ws) u)) (hob1:W1.R V (.ob wn) vo) (hl:qb W1.s wn (.id es)) (hok:okEs es=true) (hn:look es 30=none) (hPf:∀ n,¬ PP (.fail n))
  (hQF:∀ a v W2 t2,W2.L=LF->Rel V w.params Hz fs1 e00 W2 []->Stp fs1 W1 W2->W2.R V a v->PP (noCe n0 a W2.s)->QF (.ret v) (at' sh W2 t2))
  (hEF:∀ k e W2 h t2,W2.L=LF->Rel V w.params Hz fs1 e00 W2 []->Stp fs1 W1 W2->(Thrown fs1 (env :: l) W2 k e h \/ HeldT fs1 (env :: l) LF W2 k e h)->PP (.ex k W2.s)->EF (.ref e) { at' sh W2 t2 with heap:=h })
  (hQ:PP (wh_0 ⟨p,ih⟩ cd n0 wn ws (e_att2 31 (.v (.ob wn) W1.s)))):wpR (model prog w) A1 (execs (kr jm.body jm.ec) env) QF EF (at' sh W1 t₁):=by
 refine wpR_execs_cons (wpR_Return_some ?_)
 have he:eval (kj (.cal (.gl 0 (P3 649 11 16)) [.cmp1 13 whElt whTgt whIt [] (P3 649 17 80)] (P3 649 11 81)) jm.ec) env=(do callWith (P3 649 11 81) (<- eval (kj (.gl 0 (P3 649 11 16)) jm.ec) env) [] (backTo (P3 649 11 81) (starEach (km [.cmp1 13 whElt whTgt whIt [] (P3 649 17 80)] jm.ec) env)) (backToKw (P3 649 11 81) (keywordEach [] env))):=rfl
 show wpR _ _ (eval (kj (.cal (.gl 0 (P3 649 11 16)) [.cmp1 13 whElt whTgt whIt [] (P3 649 17 80)] (P3 649 11 81)) jm.ec) env) _ _ _
 rw [he,qo]
 refine jr (.of (glo_name (x:=Str.ofString "tuple") (g:=44) (a:=.bi .tuple) G R1 hk hglE hbuE (by rfl) (by intro q;cases q) hkt (by decide +kernel) fun fv hfv=>?_))
 obtain rfl:fv=.type "tuple":=hfv
 refine callWith_of (P:=fun _=>True) (by rw [kg];rfl) (fun h _=>⟨.machine,.inr (.inl rfl),Looks.of_pure rfl⟩) ?_
 refine zv (kg _ _ _) (spliced_cons ?_)
 show wpR _ _ (eval (.ListComp (kj whElt whC) [⟨kj whTgt whC,kj whIt jm.ec,[],0⟩] (ciAt 13).sc (P3 649 17 80)) env) _ _ _
 refine wpR_gen fun Q0 E0 q0 e0=>?_
 rw [eval_ListComp]
 refine wpR_comprehension_free (cl:=[(Str.ofString "words",cs),(Str.ofString "wire",cw)]) rfl (fun x=>rfl) (wh_clos hcl1 hcl2) rfl (by decide +kernel) ?_
 refine wpR_gen fun Q1 E1 q1 e1=>?_
 show wpR _ _ (eval (.Call (.Attribute (kj (.nm 0 (P3 649 56 60)) jm.ec) (atAt 30) (P3 649 56 68)) (km [.att (.nm 0 (P3 649 69 73)) 31 (P3 649 69 78)] jm.ec) [] (P3 649 56 79)) env) _ _ _
 rw [arm_eval_Call,attBase Pr rfl,qo]
 refine jr (.of (wpAny_Name (x:=Str.ofString "wire") (wpAny_loadName_cell hk hkw hcl1 HC1.c1 ?_) (by decide +kernel)))
 refine jr (jt ?_)
 show wpR (model prog w) _ (methodCall (kj (.nm 0 (P3 649 56 60)) jm.ec) (atAt 30) (P3 649 56 68) (P3 649 56 79) env vo (1+0) (each [.att (.nm 0 (P3 649 69 73)) 31 (P3 649 69 78)] jm.ec env) []) _ _ _
 have hfi:ftab.get 70=some ga:=rfl
 refine methodCall_of (f:=.ref ga.addr) (first:=[vo]) (kg _ _ _) (by decide) (by rfl) (fun {pl Q'} hq=>Pr.gi AO1 R1 hl hok hn (f:=70) (by rfl) hob1 fun fi' e=>by rw [hfi] at e;obtain rfl:=jf e;exact hq) ?_
 have hfv:∀ W':Wd,W'.R V (.fn 70) (.ref ga.addr):=fun W'=>⟨_,hfi,rfl⟩
 refine callWith_of (P:=fun h=>∃ W':Wd,W'.h=h/\Rel V w.params Hz fs1 e00 W' []) (by rw [kg];rfl) (fun h ⟨W',e,R'⟩=>e▸Pr.keep R' (hfv W') rfl) ?_
 refine zv (kg _ _ _) (spliced_cons ?_)
 show wpR _ _ (eval (.Attribute (kj (.nm 0 (P3 649 69 73)) jm.ec) (atAt 31) (P3 649 69 78)) env) _ _ _
 rw [arm_eval_Attribute,attBase Pr rfl]
 refine jr (.of (wpAny_Name (x:=Str.ofString "wire") (wpAny_loadName_cell hk hkw hcl1 HC1.c1 ?_) (by decide +kernel)))
 refine jr (jt (jr (ju (Pr.att AO1 R1 hob1 sh t₁ _ _ ?_))))
 induction ha:e_att2 31 (.v (.ob wn) W1.s) with
 |v a sa=>
  rw [ha] at hQ
  intro va W2 t2 hL2 hs2 R2 S2 hva
  subst hs2
  refine jr (zy (jv ?_))
  refine spliced_nil ⟨⟨W2,rfl,R2⟩,?_⟩
  refine ge (I.fnc AO1 R2 hfi (as:=[.ob wn,a]) (ku.consI (S2.R hob1) (ku.one hva)) sh t2 _ _ ?_)
  have hQ:PP (wh_1 ⟨p,ih⟩ cd n0 wn ws (ih cd e00 [] W2.s (.cal (.fn 70) [.ob wn,a]))):=hQ
  show PV w.params V Hz _ _ e00 W2 [] sh (ih cd e00 [] W2.s (.cal (.fn 70) [.ob wn,a])) _ _
  induction hr:ih cd e00 [] W2.s (.cal (.fn 70) [.ob wn,a]) with
  |v b sb=>
   rw [hr] at hQ
   intro vb W3 t3 hL3 hs3 R3 S3 hvb
   subst hs3
   have hQ:PP (mkIter W3.s b fun c s=>newC s (.li []) fun acc s=>wh_3 n0 acc (wh_go ⟨p,ih⟩ cd wn ws c acc 40 s)):=hQ
   refine q1 _ _ (Pr.iter AO1 R3 hvb (PP:=PP) hPf hQ fun i W4 t4 ic hL4 hlive hit R4 S4 hP4=>?_)
   have hi:i < W4.s.nx:=(R4.cell i ic hlive).1
   refine wpR_newList ?_ (by decide)
   simp only [newC,fN_eq] at hP4
   obtain ⟨W5,e1,e2,e3,e4,R5,S5⟩:=R4.new (h':=W4.h.push { cls:=.type "list",data:=.seq ([]:List Value).toArray }) (a:=W4.h.objs.size) (c:=.li []) (fun _ _ e=>ja _ e) (Heap.get?_none_of_le (jj _))
     fun ρ' hρ hρa=>⟨[],⟨_,Heap.get?_push_size _ rfl⟩,rfl⟩
   have hs:({ at' sh W4 t4 with heap:=(at' sh W4 t4).heap.push { cls:=.type "list",data:=.seq ([]:List Value).toArray } }:Shared)=at' sh W5 t4:=by
    rw [at'_eq e1];rfl
   show wpR _ _ _ _ _ ({ at' sh W4 t4 with heap:=(at' sh W4 t4).heap.push { cls:=.type "list",data:=.seq ([]:List Value).toArray } }:Shared)
   rw [hs]
   have hiρ:W4.ρ i=W5.ρ i:=(S5.ρ i hi).symm
   have hacc:W4.h.objs.size=W5.ρ W4.s.nx:=e4.symm
   refine gc (by decide +kernel) (by intro y hy;simp at hy) (fun h₆ hns₆ hsb₆=>?_) rfl
   have hLn5:W5.h.get? W5.h.objs.size=none:=Heap.get?_none_of_le (jj _)
   have hk1:∀ b o,W5.h.get? b=some o->h₆.get? b=some o:=fun b o e=>hsb₆.extBut b o (Nat.ne_of_lt (Heap.lt_size e)) (ja _ e)
   obtain ⟨R6,S6⟩:=R5.enter (fs':=fs1) (C':=e00) (loc':=[]) hk1 hLn5 rfl hns₆ (fun b hb=>.inl hb) (fun i x a e1 e2=>by simp at e2)
   have CE:=wh_env (env:=env) (a:=cw) (b:=cs) (L:=LF) (C:=W5.h.objs.size) hk hkw hkws hglE hbuE hfrm
   rw [<- e3] at hP4
   have S15:Stp fs1 W1 W5:=((S2.trans S3).trans S4).trans S5
   have hL5:W5.L=LF:=e2.trans (hL4.trans (hL3.trans (hL2.trans hL1)))
   have HC6:=(HC1.step S15).step S6
   have hob6:=S6.R (S15.R hob1)
   have live6:qb W5.s i ic:=by
    rw [e3]
    exact qc.mpr (.inr ⟨Nat.ne_of_lt hi,hlive⟩)
   have hi5:i < W5.s.nx:=(R5.cell i ic live6).1
   have ha5:W4.s.nx < W5.s.nx:=by rw [e3];exact Nat.lt_succ_self _
   show kb _ _ (.compStart _ 0 (.ref (W4.ρ i)) (.ref W4.h.objs.size) _) _ _
   rw [hiρ,hacc]
   refine codeR_gen fun RR rr=>?_
   have start:∀ {RR:Result->Shared->Prop} {cenv:Env} {tt:Nat},kb (model prog w) A1 (.compLoop (.ListComp (kj whElt whC) [⟨kj whTgt whC,kj whIt jm.ec,[],0⟩] (ciAt 13).sc (P3 649 17 80)) 0 (.ref (W5.ρ i)) (.ref (W5.ρ W4.s.nx)) cenv) RR (at' sh { W5 with h:=h₆,L:=W5.h.objs.size } tt)->
     kb (model prog w) A1 (.compStart (.ListComp (kj whElt whC) [⟨kj whTgt whC,kj whIt jm.ec,[],0⟩] (ciAt 13).sc (P3 649 17 80)) 0 (.ref (W5.ρ i)) (.ref (W5.ρ W4.s.nx)) cenv) RR (at' sh { W5 with h:=h₆,L:=W5.h.objs.size } tt):=
    fun h=>codeR_compStart_list h (Pr.it2 (W:={ W5 with h:=h₆,L:=W5.h.objs.size }) AO1 R6 live6 hit h)
   refine start (wh_loop I Pr G AO1 hfrm CE _ _ _ 40 R6 rfl HC6 hob6 hi5 ha5 ?_)
   show PG _ _ _ _ _ _ _ _ (wh_go ⟨p,ih⟩ cd wn ws i W4.s.nx 40 W5.s) _ _
   induction hg:wh_go ⟨p,ih⟩ cd wn ws i W4.s.nx 40 W5.s with
   |fl f lo sf=>
    rw [hg] at hP4
    induction f with
    |next=>
     refine ⟨rfl,fun W7 t7 hL7 hs7 R7 S7=>?_⟩
     subst hs7
     obtain ⟨R8,S8⟩:=R5.back (fs':=fs1) (L':=W5.h.objs.size) hk1 hLn5 (fun b hb=>.inl hb) (fun b hb=>hb) hL7 R7 S7
     have F:=off_back R5 hLn5 R7 hL7
     obtain ⟨m,hm⟩:=F.ns
     refine rr _ _ ⟨m,hm,fun h' hsb=>?_⟩
     obtain ⟨R9,S9⟩:=R8.off S8 F fun b o hb e=>hsb.extBut b o hb e
     refine q0 _ _ (spliced_nil ⟨trivial,?_⟩)
     have hP4:PP (wh_4 n0 (bi1 .tuple (.ce W4.s.nx) W7.s)):=hP4
     have hρ:W7.ρ W4.s.nx=W5.ρ W4.s.nx:=S7.ρ _ ha5
     have hvv:Wd.Rs V { W7 with L:=W5.L,h:=h' } [.ce W4.s.nx] [.ref (W5.ρ W4.s.nx)]:=ku.one ⟨Nat.lt_of_lt_of_le ha5 S7.nx,by show _=Value.ref (W7.ρ W4.s.nx);rw [hρ]⟩
     have hbi:biCall .tuple [.ce W4.s.nx] W7.s=bi1 .tuple (.ce W4.s.nx) W7.s:=rfl
     show wpR _ _ (call (biV .tuple) [.ref W4.h.objs.size] []) _ _ (at' sh { W7 with L:=W5.L,h:=h' } t7)
     rw [hacc]
     refine p_bi O AO1 R9 nd (b:=.tuple) hvv sh t7 _ _ ?_
     show PV _ _ _ _ _ _ _ _ _ (biCall .tuple [.ce W4.s.nx] W7.s) _ _
     rw [hbi]
     induction hb:bi1 .tuple (.ce W4.s.nx) W7.s with
     |v y sy=>
      rw [hb] at hP4
      intro vy W10 t10 hL10 hs10 R10 S10 hy
      subst hs10
      have hP4:PP (noCe n0 y W10.s):=hP4
      exact hQF _ _ _ _ (hL10.trans hL5) R10 (S15.trans (S9.trans S10)) hy hP4
     |ex k sy=>
      exact (bi1_tu hb).elim
     |_=>rw [hb] at hP4;exact (hPf _ hP4).elim
    |_=>exact (hPf _ hP4).elim
   |ex k sf=>
    rw [hg] at hP4
    intro e W7 h t7 hL7 hs7 R7 S7 hT
    subst hs7
    obtain ⟨R8,S8⟩:=R5.back (fs':=fs1) (L':=W5.h.objs.size) hk1 hLn5 (fun b hb=>.inl hb) (fun b hb=>hb) hL7 R7 S7
    have F:=off_back R5 hLn5 R7 hL7
    obtain ⟨m,hm⟩:=F.ns
    obtain ⟨Ck,B,a0,hCk,hB,hup,hheld⟩:=hT
    refine rr _ _ ⟨m,hup.ns hm,fun h' hsb=>?_⟩
    obtain ⟨R9,S9⟩:=R8.off S8 F (h':=hideAll W7.h [W5.h.objs.size]) fun b o hb e=>hideAll_get _ e fun q=>hb (List.mem_singleton.mp q)
    have hld:=held_hide hheld (fun b o hb e=>hsb.extBut b o hb e) ⟨m,hup.ns hm⟩ (fun env' he' q=>by
     have hmem:W5.h.objs.size ∈ (env :: l).filterMap (·.frame):=List.mem_filterMap.mpr ⟨env',he',q⟩
     rw [AO1.fs] at hmem
     exact F.nf hmem)
    refine .of (passOn_held CE.fr hld fun h'' hh'' hup''=>?_)
    refine e0 _ _ (hEF _ _ { W7 with L:=W5.L,h:=hideAll W7.h [W5.h.objs.size] } _ _ hL5 R9 (S15.trans S9) (.inr ⟨Ck,hideAll B [W5.h.objs.size],a0,hCk,fun b o eb hbf=>?_,fun b o eb hn=>?_,hh''⟩) hP4)
    ·have hbn:b ∉ [W5.h.objs.size]:=fun q=>by
      have eb:(hideAll W7.h [W5.h.objs.size]).get? b=some o:=eb
      rw [hideAll_none _ q] at eb;exact (jg _ eb.symm).elim
     exact hideAll_get _ (hB b o (of_hideAll _ eb) hbf) hbn
    ·have hbn:b ≠ W5.h.objs.size:=fun q=>by
      have eb:(hideAll W7.h [W5.h.objs.size]).get? b=some o:=eb
      rw [hideAll_none _ (List.mem_singleton.mpr q)] at eb;exact (jg _ eb.symm).elim
     obtain ⟨sl,e1⟩:=hup b o (of_hideAll _ eb) hn
     exact hup'' b { o with slots:=sl } ((hsb.2 b hbn).trans e1) hn
   |_=>rw [hg] at hP4;exact (hPf _ hP4).elim
  |ex k sb=>
   rw [hr] at hQ
   intro e W3 h t3 hL3 hs3 R3 S3 hT
   subst hs3
   exact e1 _ _ (e0 _ _ (hEF _ _ _ _ _ (hL3.trans (hL2.trans hL1)) R3 (S2.trans S3) (.inl hT) hQ))
  |_=>rw [hr] at hQ;exact (hPf _ hQ).elim
 |_=>rw [ha] at hQ;exact (hPf _ hQ).elim
theorem d_wh (WO:WhOk Hz) (I:∀ cd,Ih prog w V Hz ih cd) (Pr:Prim prog w V Hz p) (O:VOk V p) (nd:Hz.NoDigits) (G:Gd prog w V Hz) (AO:AOk cd l fs A) (R:Rel V w.params Hz fs C W loc) {as:List AV} {vs:List Value} (hv:W.Rs V as vs):
  DoesK prog w V Hz A fs l C W loc (.call (.ref jm.addr) ⟨vs,[]⟩) (k_wh ⟨p,ih⟩ cd W.s as):=by
 intro sh t Q E hQ
 induction cd using Nat.casesAuxOn with
 |zero=>exact hQ.elim
 |succ cd=>
 have I:=I cd
 refine wh_inv (Φ:=fun r=>PV w.params V Hz fs l C W loc sh r Q E) id hQ fun wn ws e hQ'=>?_
 subst e
 replace hQ:=hQ'
 obtain ⟨vo,s1,rfl,ho,h1⟩:=Rs_cons hv
 obtain ⟨vs2,s2,rfl,hs,h2⟩:=Rs_cons h1
 obtain rfl:=Rs_nil h2
 obtain ⟨u,rfl⟩:=hs
 rw [ke] at hQ
 induction hl:W.s.sto.lookup wn with
 |none=>rw [hl] at hQ;exact hQ.elim
 |some cc=>
 rw [hl] at hQ
 induction cc with
 |id es=>
  simp only [wh_5] at hQ
  induction hok:okEs es with
  |false=>rw [hok] at hQ;exact hQ.elim
  |true=>
  rw [hok] at hQ
  simp only at hQ
  induction hn:look es 30 with
  |some _=>rw [hn] at hQ;exact hQ.elim
  |none=>
  rw [hn] at hQ
  simp only at hQ
  obtain ⟨o,fd,ho',hd,hbody,hsc,hgl,hbu,hcd,hbind,hclo⟩:=WO.ex
  refine codeR_call_cells (by have:=AO.dp;omega) (R.base _ _ ho') hd (G.nl.keeps R.base) (hcd.keeps R.base) hbody (hbind _ _) hclo ?_ (fun s₁ x=>?_) (by rw [hsc];rfl) (by rw [hsc];rfl) (by rw [hsc];rfl)
  ·intro x hx
   rw [hsc]
   rcases List.mem_cons.mp hx with rfl|hx
   ·exact .inr ⟨by rfl,by rfl⟩
   ·obtain rfl:=List.mem_singleton.mp hx
    exact .inr ⟨by rfl,by rfl⟩
  ·have hsc':(callEnvC fd (at' sh W t).heap.objs.size jm.addr).scope=whSc:=hsc
   have hk:(callEnvC fd (at' sh W t).heap.objs.size jm.addr).scope.kind=.function:=by rw [hsc'];rfl
   have hkw:(callEnvC fd (at' sh W t).heap.objs.size jm.addr).kindOf (Str.ofString "wire")=some .cell:=by unfold Env.kindOf;rw [hsc'];decide +kernel
   have hkws:(callEnvC fd (at' sh W t).heap.objs.size jm.addr).kindOf (Str.ofString "words")=some .cell:=by unfold Env.kindOf;rw [hsc'];decide +kernel
   have hkt:(callEnvC fd (at' sh W t).heap.objs.size jm.addr).kindOf (Str.ofString "tuple")=some .globalImplicit:=by unfold Env.kindOf;rw [hsc'];decide +kernel
   have hcells:(callEnvC fd (at' sh W t).heap.objs.size jm.addr).cells=[(Str.ofString "words",W.h.objs.size+1+1),(Str.ofString "wire",W.h.objs.size+1)]:=by
    show cellsFrom _ fd.scope.names []=_
    rw [hsc];rfl
   have hcm:∀ (f:Str->Option NameKind),f (Str.ofString "wire")=some .cell->f (Str.ofString "words")=some .cell->bindC f [(Str.ofString "wire",vo),(Str.ofString "words",Value.str (jk ws) u)] (fun _=>none)=fun y=>if y=Str.ofString "words" then some (Value.str (jk ws) u) else if y=Str.ofString "wire" then some vo else none:=by
    intro f e1 e2
    simp [bindC,e1,e2]
   rw [hcm _ hkw hkws] at x
   have hglE:(callEnvC fd (at' sh W t).heap.objs.size jm.addr).globals=mainGlobals:=hgl
   have hbuE:(callEnvC fd (at' sh W t).heap.objs.size jm.addr).builtins=builtinsNs:=hbu
   have hfrm:(callEnvC fd (at' sh W t).heap.objs.size jm.addr).frame=some W.h.objs.size:=rfl
   have hlocs:(callEnvC fd (at' sh W t).heap.objs.size jm.addr).locals=W.h.objs.size:=rfl
   generalize callEnvC fd (at' sh W t).heap.objs.size jm.addr=env at x hk hkw hkws hkt hcells hglE hbuE hfrm hlocs ⊢
   generalize bindL env.kindOf _ _=m at x
   have hkd:env.scope.kind ≠ .module:=by rw [hk];decide
   obtain ⟨h₁,t₁,rfl⟩:=x.toInCall.same
   have hkp:∀ b o,W.h.get? b=some o->h₁.get? b=some o:=x.toInCall.keep
   have hLn:W.h.get? W.h.objs.size=none:=Heap.get?_none_of_le (jj _)
   have hns:h₁.Ns W.h.objs.size m:=by have:=x.toInCall.ns;rw [hlocs] at this;exact this
   obtain ⟨R1,_⟩:=R.enter (fs':=W.h.objs.size :: fs) (C':=e00) (loc':=[]) hkp hLn rfl hns (fun b hb=>(List.mem_cons.mp hb).symm) (fun i x a e1 e2=>by simp at e2)
   have hcl1:env.cells.lookup (Str.ofString "wire")=some (W.h.objs.size+1):=by rw [hcells];exact (wh_lk' _ _).1
   have hcl2:env.cells.lookup (Str.ofString "words")=some (W.h.objs.size+1+1):=by rw [hcells];exact (wh_lk' _ _).2
   have notMu:∀ n,¬ Mu { W with h:=h₁,L:=W.h.objs.size } (W.h.objs.size+1+n):=by
    intro n q
    rcases q with q|⟨i,c,hlv,q⟩
    ·have q:W.h.objs.size+1+n=W.h.objs.size:=q;omega
    ·have q:W.h.objs.size+1+n=W.ρ i:=q
     obtain ⟨o',e',_⟩:=(R.cell i c hlv).2.there
     have h3:W.h.objs.size+1+n < W.h.objs.size:=by rw [q];exact Heap.lt_size e'
     exact absurd h3 (Nat.not_lt.mpr (Nat.le_trans (Nat.le_succ _) (Nat.le_add_right _ _)))
   have HC1:WhC { W with h:=h₁,L:=W.h.objs.size } (W.h.objs.size+1) (W.h.objs.size+1+1) vo (.str (jk ws) u):=by
    refine ⟨?_,?_,notMu 0,notMu 1⟩
    ·have:=x.cell _ _ hcl1
     rw [if_neg str_ne1,if_pos rfl] at this
     exact this
    ·have:=x.cell _ _ hcl2
     rw [if_pos rfl] at this
     exact this
   have AO1:AOk cd (env :: l) (W.h.objs.size :: fs) (A.deeper env):=by
    refine ⟨AO.hd,?_,?_,?_,?_,?_,AO.gd⟩
    ·show A.depth+1+_+_ < _;have:=AO.dp;omega
    ·show A.units+3+_+_ < _;have:=AO.un;omega
    ·show A.frames.map _=_;rw [AO.fr];rfl
    ·show (env :: l).filterMap (·.frame)=_
     rw [List.filterMap_cons_some hfrm,AO.fs]
    ·intro env' he
     rcases List.mem_cons.mp he with rfl|he
     ·exact ⟨hkd,_,hfrm⟩
     ·exact AO.lk env' he
   have hob1:Wd.R V { W with h:=h₁,L:=W.h.objs.size } (.ob wn) vo:=kz.mono (fun b o e _=>hkp b o e) (jj _) (fun _ _=>rfl) ho
   have hs0:W.s=({ W with h:=h₁,L:=W.h.objs.size }:Wd).s:=rfl
   have back:∀ {W2:Wd},W2.L=W.h.objs.size->Rel V w.params Hz (W.h.objs.size :: fs) e00 W2 []->Stp (W.h.objs.size :: fs) { W with h:=h₁,L:=W.h.objs.size } W2->Rel V w.params Hz fs C { W2 with L:=W.L } loc/\Stp fs W { W2 with L:=W.L }:=
    fun a b c=>R.back (fs':=W.h.objs.size :: fs) (L':=W.h.objs.size) hkp hLn (fun b hb=>(List.mem_cons.mp hb).symm) (fun b hb=>List.mem_cons_of_mem _ hb) a b c
   have thrown:∀ {W2:Wd} {k:Nat} {e:Addr} {h:Heap} {t2:Nat} {E':VP},W2.L=W.h.objs.size->Rel V w.params Hz (W.h.objs.size :: fs) e00 W2 []->Stp (W.h.objs.size :: fs) { W with h:=h₁,L:=W.h.objs.size } W2->Thrown (W.h.objs.size :: fs) (env :: l) W2 k e h->exE w.params V Hz fs l C W sh k W2.s E->
     wpAny (model prog w) (A.deeper env) (leaving env (.ref e)) (fun _ s=>E (.ref e) s) E' { at' sh W2 t2 with heap:=h }:=
    fun a b c d e=>k_leave AO R hkp hLn hfrm hkd a b c (.inl d) e
   have held:∀ {W2:Wd} {k:Nat} {e:Addr} {h:Heap} {t2:Nat} {E':VP},W2.L=W.h.objs.size->Rel V w.params Hz (W.h.objs.size :: fs) e00 W2 []->Stp (W.h.objs.size :: fs) { W with h:=h₁,L:=W.h.objs.size } W2->HeldT (W.h.objs.size :: fs) (env :: l) W.h.objs.size W2 k e h->exE w.params V Hz fs l C W sh k W2.s E->
     wpAny (model prog w) (A.deeper env) (leaving env (.ref e)) (fun _ s=>E (.ref e) s) E' { at' sh W2 t2 with heap:=h }:=
    fun a b c d e=>k_leaveH AO R hkp hLn hfrm a b c d e
   have fin:∀ {W2:Wd} {t2:Nat} {a:AV} {v:Value},W2.L=W.h.objs.size->Rel V w.params Hz (W.h.objs.size :: fs) e00 W2 []->Stp (W.h.objs.size :: fs) { W with h:=h₁,L:=W.h.objs.size } W2->W2.R V a v->PV w.params V Hz fs l C W loc sh (noCe W.s.nx a W2.s) Q E->Q v (at' sh W2 t2):=by
    intro W2 t2 a v hL2 R2 S2 ha hq
    obtain ⟨R3,S3⟩:=back hL2 R2 S2
    exact PV.noCe (W:={ W2 with L:=W.L }) (W₀:=W) R3 rfl S3 ha hq
   rw [hs0] at hl hQ
   show wpR _ _ (execs (kr jm.body jm.ec) env) _ _ (at' sh { W with h:=h₁,L:=W.h.objs.size } t₁)
   generalize hW1:({ W with h:=h₁,L:=W.h.objs.size }:Wd)=W1 at R1 HC1 hob1 back thrown held fin hl hQ ⊢
   have hL1:W1.L=W.h.objs.size:=by rw [<- hW1]
   have hnx1:W1.s.nx=W.s.nx:=by rw [<- hW1]
   exact wh_body (PP:=fun r=>PV w.params V Hz fs l C W loc sh r Q E) I Pr O nd G AO1 hk hkw hkws hkt hglE hbuE hfrm hcl1 hcl2 hL1 R1 HC1 hob1 hl hok hn (fun n h=>h)
    (fun a v W2 t2 h1 h2 h3 h4 h5=>fin h1 h2 h3 h4 h5) (fun k e W2 h t2 h1 h2 h3 h4 h5=>.of (h4.elim (fun d=>thrown h1 h2 h3 d h5) fun d=>held h1 h2 h3 d h5)) (n0:=W.s.nx) (by rw [<- hnx1];exact hQ)
 |_=>exact hQ.elim
end
mutual
noncomputable def shutA:AV->Bool
 |.no|.it _|.st _=>true
 |.by cs=>match conc? cs with
  |some _=>true
  |none=>false
 |.tu l=>shutAs l
 |_=>false
noncomputable def shutAs:List AV->Bool
 |[]=>true
 |a :: r=>match shutA a with
  |true=>shutAs r
  |false=>false
end
theorem conc_flat {V V':Vl}:∀ {cs:List Ck} {x:List Nat},conc? cs=some x->flat V cs=flat V' cs
 |[],_,_=>rfl
 |.lit l :: [],_,_=>rfl
 |.lit _ :: _ :: _,_,h=>by exact (jg _ h.symm).elim
 |.atm _ :: _,_,h=>by exact (jg _ h.symm).elim
set_option smartUnfolding false in
mutual
theorem shut_rep {T T':Nat->Value->Prop} {V V':Vl} {h h':Heap} {ρ ρ':Nat->Addr} {nx nx':Nat} (hi:∀ b o,h.get? b=some o->qm o->h'.get? b=some o):∀ (a:AV) (v:Value),shutA a=true->RepG T V h ρ nx a v->RepG T' V' h' ρ' nx' a v
 |.no,v,_,x|.it _,v,_,x|.st _,v,_,x=>x
 |.by cs,v,hs,x=>by
  obtain ⟨d,t,rfl,e⟩:=x
  refine ⟨d,t,rfl,e.trans ?_⟩
  exact J.so (Φ:=fun b=>b=true) (o:=conc? cs) jh hs fun y hy _=>conc_flat hy
 |.tu l,v,hs,x=>by
  obtain ⟨a,vs,rfl,⟨o,ho,hc,hd⟩,r⟩:=x
  exact ⟨a,vs,rfl,⟨o,hi a o ho ⟨.inl hc,fun _ _ q=>by rw [hd.choose_spec] at q;cases q⟩,hc,hd⟩,shut_reps hi l vs hs r⟩
 |.un,v,hs,x|.bo _,v,hs,x|.ln _ _,v,hs,x|.rg _,v,hs,x|.ce _,v,hs,x|.ob _,v,hs,x|.fn _,v,hs,x|.kl _,v,hs,x|.bi _,v,hs,x|.bm _ _,v,hs,x|.tr _,v,hs,x|.hd _,v,hs,x|.sc _,v,hs,x|.sm _,v,hs,x|.kx _,v,hs,x|.scr,v,hs,x=>(jh hs).elim
theorem shut_reps {T T':Nat->Value->Prop} {V V':Vl} {h h':Heap} {ρ ρ':Nat->Addr} {nx nx':Nat} (hi:∀ b o,h.get? b=some o->qm o->h'.get? b=some o):∀ (l:List AV) (vs:List Value),shutAs l=true->ku T V h ρ nx l vs->ku T' V' h' ρ' nx' l vs
 |[],vs,_,x=>x
 |a :: r,vs,hs,x=>by
  obtain ⟨v,s,rfl,x1,x2⟩:=x
  have hs:=bt_of (b:=shutA a) (c:=shutAs r) hs
  exact ⟨v,s,rfl,shut_rep hi a v hs.1 x1,shut_reps hi r s hs.2 x2⟩
end
theorem pos_rep {T:Nat->Value->Prop} {V:Vl} {h:Heap} {ρ:Nat->Addr} {nx:Nat} {q:AV} {js:List Nat} {c:Nat} (hp:pos? q=some (js,c)) {v:Value}:RepG T V h ρ nx q v ↔ ∃ t,v=.int ((lens V js+c:Nat):Int) t:=by
 unfold pos? at hp
 split at hp
 ·split at hp
  ·cases hp;exact Iff.of_eq (by rw [show lens V []=0 from rfl,Nat.zero_add];rfl)
  ·exact (jg _ hp.symm).elim
 ·cases hp;exact Iff.rfl
 ·exact (jg _ hp.symm).elim
theorem lens_snoc (V:Vl) (js:List Nat) (a:Nat):lens V (js ++ [a])=lens V js+(V.β a).length:=by
 induction js with
 |nil=>simp [lens]
 |cons j r ih=>simp only [List.cons_append,lens,ih];omega
theorem idE2 (P:Params) (x y x' y':AV) (vs:List Value) (ts:List Tok):kc P [(12,x),(2,y)] vs ts=kc P [(12,x'),(2,y')] vs ts:=by
 induction vs using List.casesOn with
 |nil=>rfl
 |cons v r=>
  induction ts using List.casesOn with
  |nil=>rfl
  |cons t s=>
   induction r using List.casesOn with
   |nil=>rfl
   |cons v2 r2=>
    induction s using List.casesOn with
    |nil=>rfl
    |cons t2 s2=>rfl
theorem cell_conv {V V':Vl} {P:Params} {h h':Heap} {ρ ρ':Nat->Addr} {nx nx':Nat} {a:Addr} {D D':List Ck} {q q':AV} (hh:∀ o,h.get? a=some o->h'.get? a=some o) (e1:flat V D=flat V' D') (e2:∀ v,kz V h ρ nx q v->kz V' h' ρ' nx' q' v)
  (x:qa V P h ρ nx a (.id [(12,.by D),(2,q)])):qa V' P h' ρ' nx' a (.id [(12,.by D'),(2,q')]):=by
 obtain ⟨vs,ts,hl,ho,hv⟩:=x
 refine ⟨vs,ts,hl,?_,?_⟩
 ·rw [idE2 P (.by D') q' (.by D) q];exact hh _ ho
 ·obtain ⟨v1,s1,rfl,⟨d,t,rfl,hd⟩,v2,s2,rfl,h2,rfl⟩:=hv
  exact ⟨_,_,rfl,⟨d,t,rfl,hd.trans e1⟩,v2,_,rfl,e2 v2 h2,rfl⟩
section
variable {P:Params} {V Vk:Vl} {Hz:Heap} {fs:List Addr} {C:EC} {W:Wd} {loc:List AV}
theorem rel_sub1 (R:Rel V P Hz fs C W loc) {c0:Nat} {cV ck:Cell} (hl:qb W.s c0 cV) (hc:qa Vk P W.h (fun _=>W.ρ c0) 1 (W.ρ c0) ck) {lock:List AV} (hlen:lock.length=C.names.length)
  (hloc:∀ (i:Nat) (ak:AV),lock[i]?=some ak->ak=.un \/ ∃ a,loc[i]?=some a/\a ≠ .un/\∀ v,W.R V a v->kz Vk W.h (fun _=>W.ρ c0) 1 ak v):
  Rel Vk P Hz fs C { W with ρ:=fun _=>W.ρ c0,s:=⟨[(0,ck)],1⟩ } lock:=by
 have lv:∀ {i c},qb ⟨[(0,ck)],1⟩ i c->i=0/\c=ck:=fun {i c} h=>by
  rcases qc.mp (show List.lookup i ((0,ck) :: [])=some c from h) with ⟨a,b⟩|⟨_,b⟩
  ·exact ⟨a,b.symm⟩
  ·exact (jg _ b.symm).elim
 refine ⟨R.base,fun b q=>?_,hlen,?_,fun i c h=>?_,fun i j c d h1 h2 _=>by rw [(lv h1).1,(lv h2).1],fun i c h=>R.nL c0 cV hl,fun i c h=>R.nF c0 cV hl,R.f0,?_⟩
 ·rcases q with q|⟨i,c,h,q⟩
  ·exact R.b0 b (.inl q)
  ·exact R.b0 b (.inr ⟨c0,cV,hl,q⟩)
 ·obtain ⟨m,hm,hn⟩:=R.ns
  refine ⟨m,hm,fun i x ak e1 e2=>?_⟩
  rcases hloc i ak e2 with e|⟨a,ha,hu,hr⟩
  ·exact .inl e
  ·rcases hn i x a e1 ha with e|⟨v,hv,r⟩
   ·exact absurd e hu
   ·exact .inr ⟨v,hv,hr v r⟩
 ·obtain ⟨rfl,rfl⟩:=lv h
  exact ⟨Nat.lt_succ_self _,hc⟩
 ·exact List.pairwise_singleton _ _
theorem rel_sub0 (R:Rel V P Hz fs C W loc) {lock:List AV} (hlen:lock.length=C.names.length)
  (hloc:∀ (i:Nat) (ak:AV),lock[i]?=some ak->ak=.un \/ ∃ a,loc[i]?=some a/\a ≠ .un/\∀ v,W.R V a v->kz Vk W.h W.ρ 0 ak v):
  Rel Vk P Hz fs C { W with s:=⟨[],0⟩ } lock:=by
 refine ⟨R.base,fun b q=>?_,hlen,?_,fun i c h=>(by cases h),fun i j c d h1 h2 _=>(by cases h1),fun i c h=>(by cases h),fun i c h=>(by exact (jg _ h.symm).elim),R.f0,List.Pairwise.nil⟩
 ·rcases q with q|⟨i,c,h,q⟩
  ·exact R.b0 b (.inl q)
  ·exact (jg _ h.symm).elim
 ·obtain ⟨m,hm,hn⟩:=R.ns
  refine ⟨m,hm,fun i x ak e1 e2=>?_⟩
  rcases hloc i ak e2 with e|⟨a,ha,hu,hr⟩
  ·exact .inl e
  ·rcases hn i x a e1 ha with e|⟨v,hv,r⟩
   ·exact absurd e hu
   ·exact .inr ⟨v,hv,hr v r⟩
theorem rel_back1 (R:Rel V P Hz fs C W loc) {c0:Nat} {cV cV' ck:Cell} (hl:qb W.s c0 cV) {W2:Wd} {lok:List AV} (hL:W2.L=W.L) (Rk:Rel Vk P Hz fs C W2 lok) (S:Stp fs { W with ρ:=fun _=>W.ρ c0,s:=⟨[(0,ck)],1⟩ } W2)
  (hc:qa V P W2.h W.ρ W.s.nx (W.ρ c0) cV'):
  Rel V P Hz fs C ⟨W2.h,W.L,W.ρ,⟨putP W.s.sto c0 cV',W.s.nx⟩⟩ (uns C.names)/\Stp fs W ⟨W2.h,W.L,W.ρ,⟨putP W.s.sto c0 cV',W.s.nx⟩⟩:=by
 have hmk:∀ b,Mu { W with ρ:=fun _=>W.ρ c0,s:=⟨[(0,ck)],1⟩ } b->b=W.L \/ b=W.ρ c0:=fun b q=>q.imp id fun ⟨i,c,_,e⟩=>e
 have himm:∀ b o,W.h.get? b=some o->qm o->W2.h.get? b=some o:=S.imm
 have hmu:∀ b,Mu ⟨W2.h,W.L,W.ρ,⟨putP W.s.sto c0 cV',W.s.nx⟩⟩ b->Mu W b:=fun b q=>by
  rcases q with q|⟨j,d,h,e⟩
  ·exact .inl q
  ·rcases live_putP h with ⟨_,h⟩|⟨rfl,_⟩
   ·exact .inr ⟨j,d,h,e⟩
   ·exact .inr ⟨j,cV,hl,e⟩
 have back:∀ {j d},qb ⟨putP W.s.sto c0 cV',W.s.nx⟩ j d->∃ d',qb W.s j d':=fun {j d} h=>by
  rcases live_putP h with ⟨_,h⟩|⟨rfl,_⟩
  ·exact ⟨d,h⟩
  ·exact ⟨cV,hl⟩
 have other:∀ j d,j ≠ c0->qb W.s j d->∀ o,W.h.get? (W.ρ j)=some o->W2.h.get? (W.ρ j)=some o:=fun j d hj h o e=>by
  obtain ⟨o',e',sm⟩:=S.oth (W.ρ j) o e fun q=>(hmk _ q).elim (fun q=>R.nL j d h q) fun q=>hj (R.inj j c0 d cV h hl q)
  rcases sm with rfl|⟨q,_⟩
  ·exact e'
  ·exact absurd q (R.nF j d h)
 refine ⟨⟨Rk.base,fun b q=>R.b0 b (hmu b q),qf _,?_,fun j d h=>?_,?_,?_,?_,Rk.f0,?_⟩,⟨jj _,fun _ _=>rfl,himm,fun b o e hm=>?_,fun b q=>.inl (hmu b q)⟩⟩
 ·obtain ⟨m,hm,_⟩:=Rk.ns
  rw [hL] at hm
  exact ⟨m,hm,fun i x a _ e=>.inl (qp _ _ _ e)⟩
 ·rcases live_putP h with ⟨hj,h⟩|⟨rfl,rfl⟩
  ·have y:=R.cell j d h
   exact ⟨y.1,y.2.mono (fun o e=>other j d hj h o e) himm (jj _) fun _ _=>rfl⟩
  ·exact ⟨(R.cell j cV hl).1,hc⟩
 ·intro i j c d h1 h2 e
  obtain ⟨c',h1⟩:=back h1
  obtain ⟨d',h2⟩:=back h2
  exact R.inj i j c' d' h1 h2 e
 ·intro i c h
  obtain ⟨c',h⟩:=back h
  exact R.nL i c' h
 ·intro i c h
  obtain ⟨c',h⟩:=back h
  exact R.nF i c' h
 ·show ((putP W.s.sto c0 cV').map (·.1)).Pairwise (· > ·)
  rw [keys_putP];exact R.srt
 ·exact S.oth b o e fun q=>hm ((hmk b q).elim (fun q=>.inl q) fun q=>.inr ⟨c0,cV,hl,q⟩)
theorem rel_back0 (R:Rel V P Hz fs C W loc) {W2:Wd} {lok:List AV} (hL:W2.L=W.L) (Rk:Rel Vk P Hz fs C W2 lok) (S:Stp fs { W with s:=⟨[],0⟩ } W2):
  Rel V P Hz fs C ⟨W2.h,W.L,W.ρ,W.s⟩ (uns C.names)/\Stp fs W ⟨W2.h,W.L,W.ρ,W.s⟩:=by
 have hmk:∀ b,Mu { W with s:=⟨[],0⟩ } b->b=W.L:=fun b q=>q.elim id fun ⟨i,c,h,e⟩=>by exact (jg _ h.symm).elim
 have himm:∀ b o,W.h.get? b=some o->qm o->W2.h.get? b=some o:=S.imm
 have hmu:∀ b,Mu ⟨W2.h,W.L,W.ρ,W.s⟩ b->Mu W b:=fun b q=>q
 refine ⟨⟨Rk.base,fun b q=>R.b0 b (hmu b q),qf _,?_,fun j d h=>?_,R.inj,R.nL,R.nF,Rk.f0,R.srt⟩,⟨jj _,fun _ _=>rfl,himm,fun b o e hm=>?_,fun b q=>.inl (hmu b q)⟩⟩
 ·obtain ⟨m,hm,_⟩:=Rk.ns
  rw [hL] at hm
  exact ⟨m,hm,fun i x a _ e=>.inl (qp _ _ _ e)⟩
 ·have y:=R.cell j d h
  refine ⟨y.1,y.2.mono (fun o e=>?_) himm (jj _) fun _ _=>rfl⟩
  obtain ⟨o',e',sm⟩:=S.oth (W.ρ j) o e fun q=>R.nL j d h (hmk _ q)
  rcases sm with rfl|⟨q,_⟩
  ·exact e'
  ·exact absurd q (R.nF j d h)
 ·exact S.oth b o e fun q=>hm (.inl (hmk b q))
end
section
variable {prog:Program} {w:World} {V Vk:Vl} {Hz:Heap} {fs:List Addr} {l:List Env} {C:EC} {W:Wd} {loc:List AV} {A:Around} {env:Env} {cd:Nat} {ihk:RunTy}
theorem run_sub1 (Ik:Ih prog w Vk Hz ihk cd) (AO:AOk cd l fs A) (EO:EnvOk C W.L env) (TO:TopOk l W.L env) (R:Rel V w.params Hz fs C W loc) {c0:Nat} {cV cV' ck ck':Cell} (hl:qb W.s c0 cV)
  (hc:qa Vk w.params W.h (fun _=>W.ρ c0) 1 (W.ρ c0) ck) {lock:List AV} (hlen:lock.length=C.names.length)
  (hloc:∀ (i:Nat) (ak:AV),lock[i]?=some ak->ak=.un \/ ∃ a,loc[i]?=some a/\a ≠ .un/\∀ v,W.R V a v->kz Vk W.h (fun _=>W.ρ c0) 1 ak v)
  {ss:List XS} {a ak:AV} {lo:List AV} {sk:Mine.St} (hrun:ihk cd C lock ⟨[(0,ck)],1⟩ (.ex ss)=.fl (.ret ak) lo sk) (hck:qb sk 0 ck')
  (hcell:∀ (h:Heap) (ρ:Nat->Addr) (nx:Nat),qa Vk w.params h ρ nx (W.ρ c0) ck'->qa V w.params h W.ρ W.s.nx (W.ρ c0) cV')
  (hval:∀ (h:Heap) (ρ:Nat->Addr) (nx:Nat) (v:Value),kz Vk h ρ nx ak v->kz V h W.ρ W.s.nx a v):
  DoesF prog w V Hz A fs l C W (execs (kr ss C) env) (.fl (.ret a) (uns C.names) ⟨putP W.s.sto c0 cV',W.s.nx⟩):=by
 intro sh t Q E hQ
 have Rk:=rel_sub1 R hl hc hlen hloc
 refine Ik.ex (W:={ W with ρ:=fun _=>W.ρ c0,s:=⟨[(0,ck)],1⟩ }) AO EO TO Rk ss sh t Q E ?_
 show PF _ _ _ _ _ _ _ _ (ihk cd C lock ⟨[(0,ck)],1⟩ (.ex ss)) _ _
 rw [hrun]
 intro f' W2 t2 hL2 hs2 R2 S2 hf
 obtain ⟨v,rfl,hv⟩:=hf
 subst hs2
 have h2:=(R2.cell 0 ck' hck).2
 have hρ:W2.ρ 0=W.ρ c0:=S2.ρ 0 (Nat.lt_succ_self _)
 rw [hρ] at h2
 obtain ⟨R3,S3⟩:=rel_back1 (cV':=cV') R hl hL2 R2 S2 (hcell _ _ _ h2)
 exact hQ (.ret v) ⟨W2.h,W.L,W.ρ,⟨putP W.s.sto c0 cV',W.s.nx⟩⟩ t2 rfl rfl R3 S3 ⟨v,rfl,hval _ _ _ v hv⟩
theorem run_sub0 (Ik:Ih prog w Vk Hz ihk cd) (AO:AOk cd l fs A) (EO:EnvOk C W.L env) (TO:TopOk l W.L env) (R:Rel V w.params Hz fs C W loc) {lock:List AV} (hlen:lock.length=C.names.length)
  (hloc:∀ (i:Nat) (ak:AV),lock[i]?=some ak->ak=.un \/ ∃ a,loc[i]?=some a/\a ≠ .un/\∀ v,W.R V a v->kz Vk W.h W.ρ 0 ak v)
  {ss:List XS} {a ak:AV} {lo:List AV} {sk:Mine.St} (hrun:ihk cd C lock ⟨[],0⟩ (.ex ss)=.fl (.ret ak) lo sk)
  (hval:∀ (h:Heap) (ρ:Nat->Addr) (nx:Nat) (v:Value),kz Vk h ρ nx ak v->kz V h W.ρ W.s.nx a v):
  DoesF prog w V Hz A fs l C W (execs (kr ss C) env) (.fl (.ret a) (uns C.names) W.s):=by
 intro sh t Q E hQ
 have Rk:=rel_sub0 (Vk:=Vk) R hlen hloc
 refine Ik.ex (W:={ W with s:=⟨[],0⟩ }) AO EO TO Rk ss sh t Q E ?_
 show PF _ _ _ _ _ _ _ _ (ihk cd C lock ⟨[],0⟩ (.ex ss)) _ _
 rw [hrun]
 intro f' W2 t2 hL2 hs2 R2 S2 hf
 obtain ⟨v,rfl,hv⟩:=hf
 obtain ⟨R3,S3⟩:=rel_back0 R hL2 R2 S2
 exact hQ (.ret v) ⟨W2.h,W.L,W.ρ,W.s⟩ t2 rfl rfl R3 S3 ⟨v,rfl,hval _ _ _ v hv⟩
end
end Mine
end
section
open PySem PySem.W PyProof.Rows
namespace Mine
noncomputable def KT:List AV:=[
 .tu [.tu [.st [97,108,108]],.by [.lit [65,76,76]],.by [.lit [97,108,108]]],
 .tu [.tu [.st [102,108,97,103],.st [92,83,101,101,110]],.by [.lit [83,69,69,78]],.by [.lit [115,101,101,110]]],
 .tu [.tu [.st [110,111,116],.tu [.st [102,108,97,103],.st [92,68,114,97,102,116]]],.by [.lit [85,78,68,82,65,70,84]],.by [.lit [117,110,100,114,97,102,116]]],
 .tu [.tu [.st [102,108,97,103],.st [87,111,114,107]],.by [.lit [75,69,89,87,79,82,68,32,87,111,114,107]],.by [.lit [107,101,121,119,111,114,100,32,87,111,114,107]]],
 .tu [.tu [.st [115,101,113],.tu [.tu [.it 2,.it 4],.tu [.it 9,.it 0]]],.by [.lit [50,58,52,44,57,58,42]],.by [.lit [50,58,52,44,57,58,42]]],
 .tu [.tu [.st [117,105,100],.tu [.tu [.it 0,.it 0]]],.by [.lit [85,73,68,32,42]],.by [.lit [117,105,100,32,42]]],
 .tu [.tu [.st [108,97,114,103,101,114],.it 100],.by [.lit [76,65,82,71,69,82,32,49,48,48]],.by [.lit [108,97,114,103,101,114,32,48,49,48,48]]],
 .tu [.tu [.st [115,105,110,99,101],.tu [.it 2000,.it 2,.it 29]],.by [.lit [83,73,78,67,69,32,50,57,45,70,101,98,45,50,48,48,48]],.by [.lit [115,105,110,99,101,32,34,50,57,45,102,101,98,45,50,48,48,48,34]]],
 .tu [.tu [.st [104,101,97,100,101,114],.st [120,45,97],.by [.lit [116,119,111,32,119,111,114,100,115]]],.by [.lit [72,69,65,68,69,82,32,120,45,97,32,34,116,119,111,32,119,111,114,100,115,34]],.by [.lit [104,101,97,100,101,114,32,88,45,65,32,34,116,119,111,32,119,111,114,100,115,34]]],
 .tu [.tu [.st [111,114],.tu [.st [97,108,108]],.tu [.st [102,108,97,103],.st [92,83,101,101,110]]],.by [.lit [79,82,32,65,76,76,32,83,69,69,78]],.by [.lit [111,114,32,97,108,108,32,40,115,101,101,110,41]]],
 .tu [.tu [.st [110,111,116],.tu [.st [110,111,116],.tu [.st [97,108,108]]]],.by [.lit [78,79,84,32,78,79,84,32,65,76,76]],.by [.lit [110,111,116,32,40,110,111,116,32,97,108,108,41]]]]
noncomputable def sUtf:List Nat:=[117,116,102,45,56]
noncomputable def sAsc:List Nat:=[117,115,45,97,115,99,105,105]
noncomputable def sRet:List Nat:=[82,69,84,85,82,78]
noncomputable def wireBy (a q:AV):Option (List Ck × AV):=match a with
 |.by D=>some (D,q)
 |_=>none
noncomputable def wireL (es:List (Nat × AV)):Option (List Ck × AV):=match es with
 |[]=>none
 |x :: r=>match r with
  |[]=>none
  |y :: r=>match r with
   |[]=>match Nat.beq x.1 12 with
    |true=>match Nat.beq y.1 2 with
     |true=>wireBy x.2 y.2
     |false=>none
    |false=>none
   |_ :: _=>none
noncomputable def isWire (c:Cell):Option (List Ck × AV):=match c with
 |.id es=>wireL es
 |_=>none
noncomputable def kD (y:List Nat):List Ck:=[.atm 100,.lit y,.atm 101]
noncomputable def kE (y:List Nat):List Ck:=[.atm 100,.lit y]
noncomputable def kS (D:List Ck):Mine.St:=⟨[(0,.id [(12,.by D),(2,.ln [100] 0)])],1⟩
noncomputable def posIs (q:AV) (m:Nat):Bool:=match q with
 |.ln js n=>match eqL js [100] with
  |true=>Nat.beq n m
  |false=>false
 |_=>false
noncomputable def ckPair (D:List Ck) (m:Nat) (x:List Ck × AV):Bool:=match eqC x.1 D with
 |true=>posIs x.2 m
 |false=>false
noncomputable def ckCell (D:List Ck) (m:Nat) (s:Mine.St):Bool:=match look s.sto 0 with
 |some c=>match isWire c with
  |some x=>ckPair D m x
  |none=>false
 |none=>false
noncomputable def retOf (r:Res):Option (AV × Mine.St):=match r with
 |.fl f _ s=>match f with
  |.ret a=>some (a,s)
  |_=>none
 |_=>none
noncomputable def ckRes (v:AV) (D:List Ck) (m:Nat) (r:Res):Bool:=match retOf r with
 |some x=>match AV.eq x.1 v with
  |true=>ckCell D m x.2
  |false=>false
 |none=>false
noncomputable def boOf (a:AV):Option Bool:=match a with
 |.bo b=>some b
 |_=>none
noncomputable def ckBo (D:List Ck) (m:Nat) (r:Res):Bool:=match retOf r with
 |some x=>match boOf x.1 with
  |some b=>match b with
   |false=>ckCell D m x.2
   |true=>false
  |none=>false
 |none=>false
noncomputable def ckBy (x:List Nat) (r:Res):Bool:=match retOf r with
 |some y=>AV.eq y.1 (.by [.lit x])
 |none=>false
noncomputable def kPar (n w:Nat):Par:=⟨fun _ _ _ _=>none,KT,n,w⟩
noncomputable def kd:Nat:=29
noncomputable def kn:Nat:=100000
noncomputable def fLoc (fi:FI) (bs:List AV):List AV:=bs ++ uns (fi.ec.names.drop fi.np)
noncomputable def kR (n w:Nat) (fi:FI) (bs:List AV) (s:Mine.St):Res:=runK (kPar n w) kn kd fi.ec (fLoc fi bs) s (.ex fi.body)
noncomputable def kTy (a:AV):List Nat:=match a with
 |.by c=>match conc? c with
  |some x=>x
  |none=>[]
 |_=>[]
noncomputable def kTl (b:Nat) (l:List AV):List Nat:=match nth l (b+1) with
 |some a=>kTy a
 |none=>[]
noncomputable def kTx (b:Nat) (e:AV):List Nat:=match e with
 |.tu l=>kTl b l
 |_=>[]
noncomputable def kTh (l:List AV):AV:=match l with
 |t :: _=>t
 |[]=>.un
noncomputable def kTr (e:AV):AV:=match e with
 |.tu l=>kTh l
 |_=>.un
noncomputable def k92 (n w:Nat) (x:List Nat) (tr:AV) (cs:List Nat) (t:Nat):Bool:=ckRes tr (kD (x ++ [t])) x.length (kR n w f_read_key [.ob 0,.st cs,.it 0] (kS (kD (x ++ [t]))))
noncomputable def k94 (n w:Nat) (x:List Nat) (t:Nat):Bool:=ckRes (.st sUtf) (kD (x ++ [t])) 0 (kR n w f_charset_here [.ob 0] (kS (kD (x ++ [t]))))
noncomputable def k59 (n w:Nat) (D:List Ck):Bool:=ckBo D 0 (kR n w zz [.ob 0,.st sRet] (kS D))
noncomputable def k59n (n w b:Nat) (x:List Nat):List AV->Bool
 |[]=>true
 |e :: r=>match k59 n w (kD (x ++ (32 :: (kTx b e).take 3))) with
  |true=>k59n n w b x r
  |false=>false
noncomputable def kSk (n w b:Nat) (x:List Nat):Bool:=match Nat.ble 6 x.length with
 |true=>k59 n w (kD (x ++ [32])) && k59 n w (kD (x ++ [41]))
 |false=>k59 n w (kE (x ++ [41])) && k59n n w b x KT
noncomputable def k100 (n w:Nat) (x:List Nat) (tr:AV):Bool:=ckBy x (kR n w jo [tr] ⟨[],0⟩)
noncomputable def kOne (n w:Nat) (e:AV) (t:Nat):Bool:=
 k92 n w (kTx 0 e) (kTr e) sUtf t && (k92 n w (kTx 1 e) (kTr e) sUtf t && (k92 n w (kTx 1 e) (kTr e) sAsc t && (k94 n w (kTx 0 e) t && k94 n w (kTx 1 e) t)))
noncomputable def kAll (n w:Nat) (e:AV):Bool:=k100 n w (kTx 0 e) (kTr e) && (kOne n w e 32 && (kOne n w e 41 && (kSk n w 0 (kTx 0 e) && kSk n w 1 (kTx 1 e))))
noncomputable def isT (t:Nat):Bool:=match Nat.beq t 32 with
 |true=>true
 |false=>Nat.beq t 41
noncomputable def okD (D:List Ck) (js:List Nat) (n:Nat):Bool:=match ki js 20 with
 |true=>match Nat.blt n 2000 with
  |true=>match lenCk D with
   |(js',c')=>match ki js' 20 with
    |true=>Nat.blt c' 2000
    |false=>false
  |false=>false
 |false=>false
noncomputable def front (l:List Ck):Option (Nat × Nat × List Nat × List Ck):=match l with
 |[]=>none
 |x :: r=>match x with
  |.lit _=>none
  |.atm a=>match r with
   |[]=>none
   |y :: r=>match y with
    |.atm _=>none
    |.lit z=>match z with
     |[]=>none
     |t :: l=>some (a,t,l,r)
noncomputable def atC (js:List Nat) (n:Nat) (D:List Ck) (x:Nat × Nat × List Nat × List Ck):Option (Nat × List Nat × Nat × List Ck):=match isT x.2.1 with
 |true=>match Nat.blt x.1 100 with
  |true=>some (x.1,js,n,D)
  |false=>none
 |false=>none
noncomputable def atB (js:List Nat) (n:Nat) (D:List Ck):Option (Nat × List Nat × Nat × List Ck):=match okD D js n with
 |true=>match rest D js n with
  |some l=>match front l with
   |some x=>atC js n D x
   |none=>none
  |none=>none
 |false=>none
noncomputable def atW (x:List Ck × AV):Option (Nat × List Nat × Nat × List Ck):=match pos? x.2 with
 |some p=>atB p.1 p.2 x.1
 |none=>none
noncomputable def atA (s:Mine.St) (c:Nat):Option (Nat × List Nat × Nat × List Ck):=match look s.sto c with
 |some d=>match isWire d with
  |some x=>atW x
  |none=>none
 |none=>none
noncomputable def csOk (cs:List Nat) (a:Nat):Bool:=match eqL cs sUtf with
 |true=>true
 |false=>match eqL cs sAsc with
  |true=>Nat.beq (a % 2) 1
  |false=>false
noncomputable def trOf (a:AV):Option Nat:=match a with
 |.tr j=>some j
 |_=>none
noncomputable def obOf (a:AV):Option Nat:=match a with
 |.ob j=>some j
 |_=>none
noncomputable def stOf (a:AV):Option (List Nat):=match a with
 |.st l=>some l
 |_=>none
noncomputable def i0Of (a:AV):Bool:=match a with
 |.it i=>Z.eqB i 0
 |_=>false
noncomputable def o100 (args:List AV) (s:Mine.St):Option (AV × Mine.St):=match args with
 |[]=>none
 |a :: r=>match r with
  |_ :: _=>none
  |[]=>match trOf a with
   |some j=>match Nat.blt j 50 with
    |true=>some (.by [.atm (2 * j)],s)
    |false=>none
   |none=>none
noncomputable def o92b (c:Nat) (cs:List Nat) (s:Mine.St) (x:Nat × List Nat × Nat × List Ck):Option (AV × Mine.St):=match csOk cs x.1 with
 |true=>fL (x.2.1 ++ [x.1]) fun js=>fN (x.1 / 2) fun j=>put s.sto c (.id [(12,.by x.2.2.2),(2,.ln js x.2.2.1)]) fun sto=>some (.tr j,⟨sto,s.nx⟩)
 |false=>none
noncomputable def o92a (a b d:AV) (s:Mine.St):Option (AV × Mine.St):=match i0Of d with
 |true=>match obOf a with
  |some c=>match stOf b with
   |some cs=>match atA s c with
    |some x=>o92b c cs s x
    |none=>none
   |none=>none
  |none=>none
 |false=>none
noncomputable def o92 (args:List AV) (s:Mine.St):Option (AV × Mine.St):=match args with
 |[]=>none
 |a :: r=>match r with
  |[]=>none
  |b :: r=>match r with
   |[]=>none
   |d :: r=>match r with
    |[]=>o92a a b d s
    |_ :: _=>none
noncomputable def o94 (args:List AV) (s:Mine.St):Option (AV × Mine.St):=match args with
 |[]=>none
 |a :: r=>match r with
  |_ :: _=>none
  |[]=>match obOf a with
   |some c=>match atA s c with
    |some _=>some (.st sUtf,s)
    |none=>none
   |none=>none
noncomputable def nxC (x:Nat × Nat × List Nat × List Ck):Bool:=match x.2.2.1 with
 |[]=>match x.2.2.2 with
  |[]=>Nat.beq x.2.1 41
  |y :: _=>match y with
   |.lit _=>false
   |.atm b=>match Nat.beq x.2.1 32 with
    |true=>match Nat.blt b 100 with
     |true=>Nat.beq (x.1 % 2) (b % 2)
     |false=>false
    |false=>false
 |_ :: _=>false
noncomputable def nxA (D:List Ck) (js:List Nat) (n:Nat):Bool:=match rest D js n with
 |some l=>match front l with
  |some x=>nxC x
  |none=>false
 |none=>false
noncomputable def o59a (a b:AV) (s:Mine.St):Option (AV × Mine.St):=match obOf a with
 |some c=>match stOf b with
  |some x=>match eqL x sRet with
   |true=>match atA s c with
    |some y=>match nxA y.2.2.2 y.2.1 y.2.2.1 with
     |true=>some (.bo false,s)
     |false=>none
    |none=>none
   |false=>none
  |none=>none
 |none=>none
noncomputable def o59 (args:List AV) (s:Mine.St):Option (AV × Mine.St):=match args with
 |[]=>none
 |a :: r=>match r with
  |[]=>none
  |b :: r=>match r with
   |[]=>o59a a b s
   |_ :: _=>none
noncomputable def oW (cd k:Nat) (args:List AV) (s:Mine.St):Option (AV × Mine.St):=match Nat.ble 30 cd with
 |true=>match Nat.beq k 92 with
  |true=>o92 args s
  |false=>match Nat.beq k 94 with
   |true=>o94 args s
   |false=>match Nat.beq k 59 with
    |true=>o59 args s
    |false=>match Nat.beq k 100 with
     |true=>o100 args s
     |false=>none
 |false=>none
noncomputable def lPar (n w:Nat):Par:=⟨oW,KT,n,w⟩
noncomputable def lcd:Nat:=60
noncomputable def lR (n w:Nat):Res:=runK (lPar n w) 1000000 lcd jp.ec (fLoc jp [.scr]) ⟨[],0⟩ (.ex jp.body)
noncomputable def ckTrue (r:Res):Bool:=match retOf r with
 |some x=>match boOf x.1 with
  |some b=>b
  |none=>false
 |none=>false
theorem kf0 (n w:Nat):kAll n w KT[0]=true:=by kernel_rfl
theorem kf1 (n w:Nat):kAll n w KT[1]=true:=by kernel_rfl
theorem kf2 (n w:Nat):kAll n w KT[2]=true:=by kernel_rfl
theorem kf3 (n w:Nat):kAll n w KT[3]=true:=by kernel_rfl
theorem kf4 (n w:Nat):kAll n w KT[4]=true:=by kernel_rfl
theorem kf5 (n w:Nat):kAll n w KT[5]=true:=by kernel_rfl
theorem kf6 (n w:Nat):kAll n w KT[6]=true:=by kernel_rfl
theorem kf7 (n w:Nat):kAll n w KT[7]=true:=by kernel_rfl
theorem kf8 (n w:Nat):kAll n w KT[8]=true:=by kernel_rfl
theorem kf9 (n w:Nat):kAll n w KT[9]=true:=by kernel_rfl
theorem kf10 (n w:Nat):kAll n w KT[10]=true:=by kernel_rfl
theorem kf (n w:Nat):∀ e ∈ KT,kAll n w e=true:=by
 intro e he
 obtain ⟨i,hi,rfl⟩:=List.mem_iff_getElem.mp he
 exact ltS (P:=fun i=>∀ hi:i < KT.length,kAll n w KT[i]=true) (ltS (ltS (ltS (ltS (ltS (ltS (ltS (ltS (ltS (ltS lt0 (fun _=>kf0 n w)) (fun _=>kf1 n w)) (fun _=>kf2 n w)) (fun _=>kf3 n w)) (fun _=>kf4 n w)) (fun _=>kf5 n w)) (fun _=>kf6 n w)) (fun _=>kf7 n w)) (fun _=>kf8 n w)) (fun _=>kf9 n w)) (fun _=>kf10 n w) i hi hi
end Mine
end
section
open PySem PySem.W PyProof.Rows PySem.Calls PySem.NumText
namespace Mine
structure Fix (prog:Program) (w:World) (Hz:Heap) (K:Frag):Prop where
 KX:K.In Hz
 KO:KW K
 KF:KF K
 sm:∃ o,Hz.get? sysModules=some o
 G:∀ V,Gd prog w V Hz
 fo:∀ V k fi,ftab.get k=some fi->k ≠ 15->k ≠ 106->FnOk V Hz fi
 u8:U8Ok Hz
 wo:WhOk Hz
 nd:Hz.NoDigits
 hcls:findCls K (.type "Exception") (.type "type") "__init__"=some (.val (.builtin "Exception.__init__"))
 ex:∀ k C,nth qk k=some C->k < 7->KExc K C
 wi:KWire K
 hfn:∃ o,Hz.get? jl.addr=some o/\o.cls=.type "function"
section
variable {prog:Program} {w:World} {V:Vl} {Hz:Heap} {p:Par} {K:Frag}
theorem Fix.base (F:Fix prog w Hz K) (O:VOk V p) (SO:SOk V p Hz):Base prog w V Hz p K:=⟨O,SO,F.KX,F.KO,F.KF,F.G V,F.sm⟩
theorem Fix.cb (F:Fix prog w Hz K) (O:VOk V p) (SO:SOk V p Hz)
  (orc:∀ {cd fs l C W loc A},AOk cd l fs A->Rel V w.params Hz fs C W loc->∀ {k as vs a s' fi},p.orc cd k as W.s=some (a,s')->ftab.get k=some fi->W.Rs V as vs->DoesK prog w V Hz A fs l C W loc (.call (.ref fi.addr) ⟨vs,[]⟩) (.v a s')):CB prog w V Hz p K where
 B:=F.base O SO
 fo:=F.fo V
 u8:=F.u8
 nd:=F.nd
 hcls:=F.hcls
 ex:=F.ex
 wi:=F.wi
 hfn:=F.hfn
 wh:=fun I=>fun AO R=>fun hv=>d_wh F.wo I (prim (F.base O SO)) O F.nd (F.G V) AO R hv
 orc:=orc
noncomputable def keyV (V:Vl) (pre post:List Nat):Vl:={ V with β:=fun j=>if j=100 then pre else if j=101 then post else V.β j }
theorem keyV_β (V:Vl) (pre post:List Nat) {j:Nat} (h:j < 100):(keyV V pre post).β j=V.β j:=by
 show (if j=100 then pre else if j=101 then post else V.β j)=_
 rw [if_neg (by omega),if_neg (by omega)]
theorem keyV_ok {n wv:Nat} (O:VOk V (lPar n wv)) {pre post:List Nat} (h1:pre.length<=10000) (h2:post.length<=10000):VOk (keyV V pre post) (kPar n wv):=by
 refine ⟨fun j=>?_,O.w,O.ix,fun j hj=>?_,O.τ⟩
 ·show (if j=100 then pre else if j=101 then post else V.β j).length<=10000
  split
  ·exact h1
  ·split
   ·exact h2
   ·exact O.β j
 ·obtain ⟨t,e,ht⟩:=O.kt j hj
  refine ⟨t,?_,ht⟩
  rw [keyV_β V pre post (by omega),keyV_β V pre post (by omega)]
  exact e
theorem key_run {n wv:Nat} (F:Fix prog w Hz K) (O:VOk V (lPar n wv)) (SO:SOk V (lPar n wv) Hz) {pre post:List Nat} (h1:pre.length<=10000) (h2:post.length<=10000) (N cd:Nat):Ih prog w (keyV V pre post) Hz (run (kPar n wv) N) cd:=
 run_ok (F.cb (keyV_ok O h1 h2) SO fun _ _=>fun h=>by exact (jg _ h.symm).elim) N cd
theorem AOk.le {cd cd':Nat} {l:List Env} {fs:List Addr} {A:Around} (h:cd'<=cd) (AO:AOk cd l fs A):AOk cd' l fs A:=
 ⟨AO.hd,Nat.lt_of_le_of_lt (Nat.add_le_add_right (Nat.add_le_add_left (Nat.mul_le_mul_left 4 h) _) 20) AO.dp,Nat.lt_of_le_of_lt (Nat.add_le_add_right (Nat.add_le_add_left (Nat.mul_le_mul_left 40 h) _) 100) AO.un,AO.fr,AO.fs,AO.lk,AO.gd⟩
theorem dropN_id:∀ {l:List (Nat × Cell)} {n:Nat},(∀ x ∈ l,x.1 < n)->dropN l n=l
 |[],_,_=>rfl
 |(j,d) :: r,n,h=>by
  have hj:Nat.ble n j=false:=by
   have:=h (j,d) List.mem_cons_self
   exact Bool.eq_false_iff.mpr fun q=>by rw [Nat.ble_eq] at q;simp only at this;omega
  simp only [dropN,hj]
theorem putP_self:∀ {l:List (Nat × Cell)} {i:Nat} {c:Cell},l.lookup i=some c->putP l i c=l
 |[],_,_,h=>by exact (jg _ h.symm).elim
 |(j,d) :: r,i,c,h=>by
  rcases qc.mp h with ⟨rfl,rfl⟩|⟨hj,h⟩
  ·simp [putP]
  ·simp only [putP,if_neg (Ne.symm hj),putP_self h]
inductive ArgK (c:Nat):AV->AV->Prop
 |ob:ArgK c (.ob c) (.ob 0)
 |same (a:AV):shutA a=true->ArgK c a a
theorem ArgK.nu {c:Nat} {a ak:AV} (h:ArgK c a ak):a ≠ .un:=by
 induction h with
 |ob=>intro q;cases q
 |same _ h=>intro q;subst q;exact (jh h).elim
noncomputable def ArgsK (c:Nat) (as bk:List AV):Prop:=as.length=bk.length/\∀ (i:Nat) (a ak:AV),as[i]?=some a->bk[i]?=some ak->ArgK c a ak
theorem Bt.tt {b r:Bool} (h:(match b with|true=>r|false=>false)=true) {G:Prop} (k:b=true->r=true->G):G:=J.tt (Φ:=fun b=>b=true) (d:=false) nofun h k
set_option smartUnfolding false
theorem Bt.so {α:Type} {o:Option α} {f:α->Bool} (h:(match o with|some a=>f a|none=>false)=true) {G:Prop} (k:∀ a,o=some a->f a=true->G):G:=J.so (Φ:=fun b=>b=true) (d:=false) nofun h k
theorem wireL_of {es:List (Nat × AV)} {D:List Ck} {q:AV} (h:wireL es=some (D,q)):es=[(12,.by D),(2,q)]:=by
 match es,h with
 |[(i,a),(j,b)],h=>
  refine Op.tt h fun h1 h=>Op.tt h fun h2 h=>Op.by h fun D' e h=>?_
  have h:=Prod.mk.inj (jf h)
  have h1:Nat.beq i 12=true:=h1
  have h2:Nat.beq j 2=true:=h2
  rw [je h1,je h2,show a=.by D from e.trans (congrArg AV.by h.1),show b=q from h.2]
 |[],h|[_],h|_ :: _ :: _ :: _,h=>exact (jg _ h.symm).elim
theorem isWire_of {c:Cell} {D:List Ck} {q:AV} (h:isWire c=some (D,q)):c=.id [(12,.by D),(2,q)]:=by
 induction c with
 |id es=>exact congrArg Cell.id (wireL_of h)
 |_=>exact (jg _ h.symm).elim
theorem front_of {l:List Ck} {a t:Nat} {z:List Nat} {r:List Ck} (h:front l=some (a,t,z,r)):l=.atm a :: .lit (t :: z) :: r:=by
 match l,h with
 |.atm _ :: .lit (_ :: _) :: _,h=>cases h;rfl
 |[],h|.lit _ :: _,h|[.atm _],h|.atm _ :: .atm _ :: _,h|.atm _ :: .lit [] :: _,h=>exact (jg _ h.symm).elim
theorem isT_of {t:Nat} (h:isT t=true):t=32 \/ t=41:=J.b2 (Φ:=fun b=>b=true) (b:=Nat.beq t 32) h (fun e _=>.inl (je e)) fun _ h=>.inr (je h)
theorem atA_of {s:Mine.St} {c a n:Nat} {js:List Nat} {D:List Ck} (h:atA s c=some (a,js,n,D)):
  ∃ q t l r,look s.sto c=some (.id [(12,.by D),(2,q)])/\pos? q=some (js,n)/\okD D js n=true/\rest D js n=some (.atm a :: .lit (t :: l) :: r)/\(t=32 \/ t=41)/\a < 100:=by
 refine Op.so (o:=look s.sto c) h fun d hl h=>Op.so (o:=isWire d) h fun x hw h=>Op.so (o:=pos? x.2) h fun p hp h=>Op.tt h fun hok h=>Op.so (o:=rest x.1 p.1 p.2) h fun l hr h=>Op.so (o:=front l) h fun y hf h=>Op.tt h fun ht h=>Op.tt h fun ha h=>?_
 have e:=jf (show some (y.1,p.1,p.2,x.1)=some (a,js,n,D) from h)
 have e1:a=y.1:=(congrArg (·.1) e).symm
 have e2:p.1=js:=congrArg (·.2.1) e
 have e3:p.2=n:=congrArg (·.2.2.1) e
 have e4:x.1=D:=congrArg (·.2.2.2) e
 rw [e1,<- e2,<- e3,<- e4]
 exact ⟨x.2,y.2.1,y.2.2.1,y.2.2.2,hl.trans (congrArg some (isWire_of hw)),hp,hok,hr.trans (congrArg some (front_of hf)),isT_of ht,qq ha⟩
set_option smartUnfolding true
end
section
variable {prog:Program} {w:World} {V:Vl} {Hz:Heap} {fs:List Addr} {l:List Env} {C:EC} {W:Wd} {loc:List AV} {A:Around} {K:Frag} {n wv:Nat}
theorem lens_lt {V:Vl} (hβ:∀ j,(V.β j).length<=100):∀ js:List Nat,lens V js<=100 * js.length
 |[]=>jj _
 |j :: r=>by
  have h1:=lens_lt hβ r
  have h2:=hβ j
  simp only [lens,List.length_cons]
  omega
set_option smartUnfolding false in
theorem okD_le {V:Vl} (hβ:∀ j,(V.β j).length<=100) {D:List Ck} {js:List Nat} {n:Nat} (h:okD D js n=true):(flat V D).length<=10000:=
 Bt.tt h fun _ h=>Bt.tt h fun _ h=>by
  have h:(match lenCk D with|(js',c')=>match ki js' 20 with|true=>Nat.blt c' 2000|false=>false)=true:=h
  rw [flat_length]
  revert h
  generalize lenCk D=x
  obtain ⟨js',c'⟩:=x
  intro h
  exact Bt.tt (b:=ki js' 20) (r:=Nat.blt c' 2000) h fun hj h=>Nat.le_trans (Nat.add_le_add (Nat.le_trans (lens_lt hβ js') (Nat.mul_le_mul_left 100 (Nat.le_of_lt (kh hj)))) (Nat.le_of_lt (qq h))) (by decide)
theorem orc_core (F:Fix prog w Hz K) (O:VOk V (lPar n wv)) (SO:SOk V (lPar n wv) Hz) (AO:AOk 30 l fs A) (R:Rel V w.params Hz fs C W loc) {k:Nat} {fi:FI} (hk:ftab.get k=some fi) (hk1:k ≠ 15) (hk2:k ≠ 106)
  {as bk:List AV} {vs:List Value} (hv:W.Rs V as vs) (hb:bindA fi.np fi.dfl as=some as) (hnp:as.length=fi.np) {c:Nat} {D D':List Ck} {q q':AV} (hl:look W.s.sto c=some (.id [(12,.by D),(2,q)]))
  {js js':List Nat} {n0 n1 m:Nat} (hq:pos? q=some (js,n0)) (hq':pos? q'=some (js',n1)) {pre post:List Nat} (h1:pre.length<=10000) (h2:post.length<=10000) (hD:flat (keyV V pre post) D'=flat V D) (hpre:pre.length=lens V js+n0) (hm:lens V js'+n1=pre.length+m)
  (hargs:ArgsK c as bk) {a ak:AV} {lo:List AV} {sk:Mine.St} (hrun:kR n wv fi bk ⟨[(0,.id [(12,.by D'),(2,.ln [100] 0)])],1⟩=.fl (.ret ak) lo sk) (hck:look sk.sto 0=some (.id [(12,.by D'),(2,.ln [100] m)]))
  (hval:∀ (h:Heap) (ρ ρ':Nat->Addr) (nx nx':Nat) (v:Value),kz (keyV V pre post) h ρ nx ak v->kz V h ρ' nx' a v) (hfree:AV.free a=true):
  DoesK prog w V Hz A fs l C W loc (.call (.ref fi.addr) ⟨vs,[]⟩) (.v a ⟨putP W.s.sto c (.id [(12,.by D),(2,q')]),W.s.nx⟩):=by
 have hl':W.s.sto.lookup c=some (.id [(12,.by D),(2,q)]):=by rw [<- ke];exact hl
 intro sh t Q E hQ
 refine d_fnKX (p:=lPar n wv) (ih:=fun _ _ _ _ _=>.fl (.ret a) (uns fi.ec.names) ⟨putP W.s.sto c (.id [(12,.by D),(2,q')]),W.s.nx⟩) (cd:=29) (F.G V) (F.fo V k fi hk hk1 hk2) AO R hv (fun bs hbs=>?_) sh t Q E ?_
 ·intro fs' l' W' A' env' AO' EO' TO' R' hs
  rw [hb] at hbs
  obtain rfl:=jf hbs
  have hlive:qb W'.s c (.id [(12,.by D),(2,q)]):=by rw [hs];exact hl'
  have ih0:=key_run F O SO h1 h2 kn 29 (pre:=pre) (post:=post)
  have hlen:(fLoc fi bk).length=fi.ec.names.length:=by
   have:=R'.len
   unfold fLoc
   rw [List.length_append] at this ⊢
   rw [<- hargs.1];exact this
  have hc0:qa (keyV V pre post) w.params W'.h (fun _=>W'.ρ c) 1 (W'.ρ c) (.id [(12,.by D'),(2,.ln [100] 0)]):=by
   refine cell_conv (fun _ e=>e) hD.symm (fun v hv=>?_) (R'.cell c _ hlive).2
   obtain ⟨t,rfl⟩:=(pos_rep hq).mp hv
   refine ⟨t,?_⟩
   have:lens (keyV V pre post) [100]=pre.length:=by simp [lens,keyV]
   rw [this,hpre]
   rfl
  have:=run_sub1 (Vk:=keyV V pre post) (cV':=.id [(12,.by D),(2,q')]) (ck':=.id [(12,.by D'),(2,.ln [100] m)]) ih0 AO' EO' TO' R' hlive hc0 hlen (fun i x hi=>?_) (a:=a) (ak:=ak) (lo:=lo) (sk:=sk) (ss:=fi.body) ?_ ?_ (fun h ρ nx hx=>?_) (fun h ρ nx v hx=>hval _ _ _ _ _ v hx)
  ·rw [hs] at this;exact this
  ·unfold fLoc at hi
   by_cases hlt:i < bk.length
   ·rw [List.getElem?_append_left hlt] at hi
    have hlt':i < as.length:=by rw [hargs.1];exact hlt
    refine .inr ⟨as[i],?_,?_,?_⟩
    ·rw [List.getElem?_append_left hlt'];exact List.getElem?_eq_getElem hlt'
    all_goals
     have hx:x=bk[i]:=by rw [List.getElem?_eq_getElem hlt] at hi;exact (jf hi).symm
     have hA:ArgK c as[i] bk[i]:=by
      exact hargs.2 i _ _ (List.getElem?_eq_getElem hlt') (List.getElem?_eq_getElem hlt)
     rw [<- hx] at hA
    ·exact hA.nu
    ·intro v hv
     generalize as[i]=z at hA hv
     induction hA with
     |ob=>
      obtain ⟨hn,ad,rfl,ho⟩:=hv
      exact ⟨Nat.lt_succ_self _,ad,rfl,ho⟩
     |same _ hsh=>exact shut_rep (fun _ _ e _=>e) _ _ hsh hv
   ·rw [List.getElem?_append_right (by omega)] at hi
    exact .inl (qp _ _ _ hi)
  ·rw [<- hrun]
   unfold kR kd
   rw [runK_eq]
  ·show sk.sto.lookup 0=_
   rw [<- ke];exact hck
  ·refine cell_conv (fun _ e=>e) hD (fun v hv=>?_) hx
   obtain ⟨t,rfl⟩:=hv
   refine (pos_rep hq').mpr ⟨t,?_⟩
   have:lens (keyV V pre post) [100]=pre.length:=by simp [lens,keyV]
   rw [this,hm]
 ·have hdrop:dropN (putP W.s.sto c (.id [(12,.by D),(2,q')])) W.s.nx=putP W.s.sto c (.id [(12,.by D),(2,q')]):=by
   refine dropN_id fun x hx=>?_
   have hk:x.1 ∈ (putP W.s.sto c (.id [(12,.by D),(2,q')])).map (·.1):=List.mem_map_of_mem hx
   rw [keys_putP] at hk
   obtain ⟨⟨j,d⟩,hm,he⟩:=List.mem_map.mp hk
   rw [<- he]
   exact live_lt R (live_of_mem R.srt hm)
  have:k_fn2 ⟨lPar n wv,fun _ _ _ _ _=>.fl (.ret a) (uns fi.ec.names) ⟨putP W.s.sto c (.id [(12,.by D),(2,q')]),W.s.nx⟩⟩ 29 W.s fi as=.v a ⟨putP W.s.sto c (.id [(12,.by D),(2,q')]),W.s.nx⟩:=by
   simp only [k_fn2,hb,fSp_eq,k_end,noCe,hfree,hdrop]
  rw [this];exact hQ
end
set_option smartUnfolding false
theorem posIs_of {q:AV} {m:Nat} (h:posIs q m=true):q=.ln [100] m:=J.ln (Φ:=fun b=>b=true) (d:=false) nofun h fun js n e h=>Bt.tt h fun h1 h=>by rw [e,(qd _ _).mp h1,je h]
theorem ckCell_of {D:List Ck} {m:Nat} {s:Mine.St} (h:ckCell D m s=true):look s.sto 0=some (.id [(12,.by D),(2,.ln [100] m)]):=
 Bt.so (o:=look s.sto 0) h fun c hl h=>Bt.so (o:=isWire c) h fun x hw h=>Bt.tt h fun hD h=>by rw [hl,isWire_of hw,eqC_of hD,posIs_of h]
theorem retOf_of {r:Res} {a:AV} {s:Mine.St} (h:retOf r=some (a,s)):∃ lo,r=.fl (.ret a) lo s:=OpP.of (P:=fun x=>∃ lo,r=.fl (.ret x.1) lo x.2) (by
 induction r with
 |fl f lo s=>induction f<;>first|exact True.intro|exact ⟨_,Eq.refl _⟩
 |_=>exact True.intro) h
theorem boOf_of {a:AV} {b:Bool} (h:boOf a=some b):a=.bo b:=J.bo (Φ:=fun o=>o=some b) (d:=none) nofun h fun x e h=>jf h▸e
theorem trOf_of {a:AV} {b:Nat} (h:trOf a=some b):a=.tr b:=OpP.of (P:=fun k=>a=.tr k) (by induction a using AV.casesOn<;>first|exact True.intro|exact Eq.refl _) h
theorem obOf_of {a:AV} {b:Nat} (h:obOf a=some b):a=.ob b:=AV.ob?_eq ((show a.ob?=obOf a by induction a using AV.casesOn<;>first|exact Eq.refl none|exact Eq.refl (some _)).trans h)
theorem stOf_of {a:AV} {b:List Nat} (h:stOf a=some b):a=.st b:=J.st (Φ:=fun o=>o=some b) (d:=none) nofun h fun x e h=>jf h▸e
theorem i0Of_of {a:AV} (h:i0Of a=true):a=.it 0:=J.it (Φ:=fun b=>b=true) (d:=false) nofun h fun i e h=>e.trans (congrArg AV.it ((Z.eqB_iff _ _).mp h))
theorem ckRes_of {v:AV} {D:List Ck} {m:Nat} {r:Res} (h:ckRes v D m r=true):∃ lo sk,r=.fl (.ret v) lo sk/\look sk.sto 0=some (.id [(12,.by D),(2,.ln [100] m)]):=
 Bt.so (o:=retOf r) h fun x hr h=>Bt.tt h fun ha h=>(retOf_of (a:=x.1) (s:=x.2) hr).elim fun lo e=>⟨lo,x.2,AV.eq_of ha▸e,ckCell_of h⟩
theorem ckBo_of {D:List Ck} {m:Nat} {r:Res} (h:ckBo D m r=true):∃ lo sk,r=.fl (.ret (.bo false)) lo sk/\look sk.sto 0=some (.id [(12,.by D),(2,.ln [100] m)]):=
 Bt.so (o:=retOf r) h fun x hr h=>Bt.so (o:=boOf x.1) h fun b hb h=>(retOf_of (a:=x.1) (s:=x.2) hr).elim fun lo e=>by
  induction b with
  |true=>exact (jh h).elim
  |false=>exact ⟨lo,x.2,boOf_of hb▸e,ckCell_of h⟩
theorem ckBy_of {x:List Nat} {r:Res} (h:ckBy x r=true):∃ lo sk,r=.fl (.ret (.by [.lit x])) lo sk:=
 Bt.so (o:=retOf r) h fun y hr h=>(retOf_of (a:=y.1) (s:=y.2) hr).elim fun lo e=>⟨lo,y.2,AV.eq_of (show AV.eq y.1 (.by [.lit x])=true from h)▸e⟩
set_option smartUnfolding true
theorem conc_mkCk (x:List Nat):conc? (mkCk x)=some x:=by induction x<;>rfl
theorem kt_tr:(KT.all fun e=>shutA (kTr e))=true:=by decide +kernel
section
variable {V:Vl} {n wv:Nat}
theorem key_of (O:VOk V (lPar n wv)) {j:Nat} (hj:j < 50):∃ e ∈ KT,kTr e=V.τ j/\kTx 0 e=V.β (2 * j)/\kTx 1 e=V.β (2 * j+1)/\shutA (V.τ j)=true:=by
 obtain ⟨t,e,ht⟩:=O.kt j hj
 have he:AV.tu [t,.by (mkCk (V.β (2 * j))),.by (mkCk (V.β (2 * j+1)))] ∈ KT:=List.mem_of_getElem? e
 refine ⟨_,he,ht.symm,?_,?_,?_⟩
 ·show (match conc? (mkCk (V.β (2 * j))) with|some x=>x|none=>[])=_
  rw [conc_mkCk]
 ·show (match conc? (mkCk (V.β (2 * j+1))) with|some x=>x|none=>[])=_
  rw [conc_mkCk]
 ·have:=List.all_eq_true.mp kt_tr _ he
  rw [ht];exact this
theorem key_at (O:VOk V (lPar n wv)) {a:Nat} (ha:a < 100):∃ e ∈ KT,kTr e=V.τ (a / 2)/\kTx (a % 2) e=V.β a/\shutA (V.τ (a / 2))=true/\(a % 2=0 \/ a % 2=1):=by
 obtain ⟨e,he,h1,h2,h3,h4⟩:=key_of O (j:=a / 2) (by omega)
 refine ⟨e,he,h1,?_,h4,by omega⟩
 rcases Nat.mod_two_eq_zero_or_one a with h|h
 ·rw [h,h2];congr 1;omega
 ·rw [h,h3];congr 1;omega
end
set_option smartUnfolding false
section
variable {as:List AV} {s s':Mine.St} {a:AV} {G:Prop}
theorem o92_of (h:o92 as s=some (a,s')) (k:∀ c cs a0 js n0 D,as=[.ob c,.st cs,.it 0]->atA s c=some (a0,js,n0,D)->csOk cs a0=true->a=.tr (a0 / 2)->s'=⟨putP s.sto c (.id [(12,.by D),(2,.ln (js ++ [a0]) n0)]),s.nx⟩->G):G:=by
 match as,h with
 |[x,y,d],h=>
  refine Op.tt h fun h1 h=>Op.so (o:=obOf x) h fun c h2 h=>Op.so (o:=stOf y) h fun cs h3 h=>Op.so (o:=atA s c) h fun z h4 h=>Op.tt h fun h5 h=>?_
  obtain ⟨a0,js,n0,D⟩:=z
  simp only [fL_eq,fN_eq,put_eq] at h
  have e:=Prod.mk.inj (jf h)
  exact k c cs a0 js n0 D (by rw [i0Of_of h1,obOf_of h2,stOf_of h3]) h4 h5 e.1.symm e.2.symm
 |[],h|[_],h|[_,_],h|_ :: _ :: _ :: _ :: _,h=>exact (jg _ h.symm).elim
theorem o94_of (h:o94 as s=some (a,s')) (k:∀ c a0 js n0 D,as=[.ob c]->atA s c=some (a0,js,n0,D)->a=.st sUtf->s'=s->G):G:=by
 match as,h with
 |[x],h=>exact Op.so (o:=obOf x) h fun c h2 h=>Op.so (o:=atA s c) h fun z h4 h=>k c z.1 z.2.1 z.2.2.1 z.2.2.2 (by rw [obOf_of h2]) h4 (Prod.mk.inj (jf h)).1.symm (Prod.mk.inj (jf h)).2.symm
 |[],h|_ :: _ :: _,h=>exact (jg _ h.symm).elim
theorem o59_of (h:o59 as s=some (a,s')) (k:∀ c a0 js n0 D,as=[.ob c,.st sRet]->atA s c=some (a0,js,n0,D)->nxA D js n0=true->a=.bo false->s'=s->G):G:=by
 match as,h with
 |[x,y],h=>exact Op.so (o:=obOf x) h fun c h2 h=>Op.so (o:=stOf y) h fun cs h3 h=>Op.tt h fun h1 h=>Op.so (o:=atA s c) h fun z h4 h=>Op.tt h fun h5 h=>k c z.1 z.2.1 z.2.2.1 z.2.2.2 (by rw [obOf_of h2,stOf_of h3,(qd _ _).mp h1]) h4 h5 (Prod.mk.inj (jf h)).1.symm (Prod.mk.inj (jf h)).2.symm
 |[],h|[_],h|_ :: _ :: _ :: _,h=>exact (jg _ h.symm).elim
theorem o100_of (h:o100 as s=some (a,s')) (k:∀ j,as=[.tr j]->j < 50->a=.by [.atm (2 * j)]->s'=s->G):G:=by
 match as,h with
 |[x],h=>exact Op.so (o:=trOf x) h fun j h2 h=>Op.tt h fun h4 h=>k j (by rw [trOf_of h2]) (qq h4) (Prod.mk.inj (jf h)).1.symm (Prod.mk.inj (jf h)).2.symm
 |[],h|_ :: _ :: _,h=>exact (jg _ h.symm).elim
end
set_option smartUnfolding true
theorem nxA_of {D:List Ck} {js:List Nat} {n a t:Nat} {z:List Nat} {r:List Ck} (hr:rest D js n=some (.atm a :: .lit (t :: z) :: r)) (h:nxA D js n=true):z=[]/\((r=[]/\t=41) \/ ∃ b r',r=.atm b :: r'/\t=32/\b < 100/\a % 2=b % 2):=by
 unfold nxA at h
 rw [hr] at h
 have h:nxC (a,t,z,r)=true:=h
 match z,r,h with
 |_ :: _,_,h=>exact (jh h).elim
 |[],[],h=>exact ⟨rfl,.inl ⟨rfl,je h⟩⟩
 |[],.lit _ :: _,h=>exact (jh h).elim
 |[],.atm b :: r',h=>
  exact Bt.tt (show (match Nat.beq t 32 with|true=>(match Nat.blt b 100 with|true=>Nat.beq (a % 2) (b % 2)|false=>false)|false=>false)=true from h) fun h1 h=>Bt.tt h fun h2 h=>⟨rfl,.inr ⟨b,r',rfl,je h1,qq h2,je h⟩⟩
theorem args1 (c:Nat):ArgsK c [.ob c] [.ob 0]:=⟨rfl,fun i a ak h1 h2=>by
 match i,h1,h2 with
 |0,h1,h2=>obtain rfl:=jf h1;obtain rfl:=jf h2;exact .ob⟩
theorem args2 (c:Nat) (x:List Nat):ArgsK c [.ob c,.st x] [.ob 0,.st x]:=⟨rfl,fun i a ak h1 h2=>by
 match i,h1,h2 with
 |0,h1,h2=>obtain rfl:=jf h1;obtain rfl:=jf h2;exact .ob
 |1,h1,h2=>obtain rfl:=jf h1;obtain rfl:=jf h2;exact .same _ rfl⟩
theorem args3 (c:Nat) (x:List Nat):ArgsK c [.ob c,.st x,.it 0] [.ob 0,.st x,.it 0]:=⟨rfl,fun i a ak h1 h2=>by
 match i,h1,h2 with
 |0,h1,h2=>obtain rfl:=jf h1;obtain rfl:=jf h2;exact .ob
 |1,h1,h2=>obtain rfl:=jf h1;obtain rfl:=jf h2;exact .same _ rfl
 |2,h1,h2=>obtain rfl:=jf h1;obtain rfl:=jf h2;exact .same _ rfl⟩
section
variable {prog:Program} {w:World} {V:Vl} {Hz:Heap} {fs:List Addr} {l:List Env} {C:EC} {W:Wd} {loc:List AV} {A:Around} {K:Frag} {n wv:Nat}
variable (F:Fix prog w Hz K) (O:VOk V (lPar n wv)) (SO:SOk V (lPar n wv) Hz) (hβ:∀ j,(V.β j).length<=100) (AO:AOk 30 l fs A) (R:Rel V w.params Hz fs C W loc)
include F O SO hβ AO R
theorem at_key {s:Mine.St} {c a0 n0:Nat} {js:List Nat} {D:List Ck} (hA:atA s c=some (a0,js,n0,D)) {G:Prop} (kk:∀ q t l' r pre e,look s.sto c=some (.id [(12,.by D),(2,q)])->pos? q=some (js,n0)->rest D js n0=some (.atm a0 :: .lit (t :: l') :: r)->a0 < 100->flat V D=pre ++ (V.β a0 ++ (t :: l' ++ flat V r))->pre.length=lens V js+n0->pre.length<=10000->(l' ++ flat V r).length<=10000->e ∈ KT->kTr e=V.τ (a0 / 2)->kTx (a0 % 2) e=V.β a0->shutA (V.τ (a0 / 2))=true->(a0 % 2=0 \/ a0 % 2=1)->kOne n wv e t=true->kSk n wv (a0 % 2) (V.β a0)=true->(t=32 \/ t=41)->G):G:=by
 refine fr fun G' gg=>?_
 obtain ⟨q,t,l',r,hl,hp,hok,hr,ht,ha⟩:=atA_of hA
 obtain ⟨pre,e1,e2⟩:=rest_of V hr
 have hlen:=okD_le hβ hok
 have e1:flat V D=pre ++ (V.β a0 ++ (t :: l' ++ flat V r)):=e1
 rw [e1] at hlen
 simp only [List.length_append,List.length_cons] at hlen
 obtain ⟨e,he,g1,g2,g3,g4⟩:=key_at O ha
 have hk:=kf n wv e he
 unfold kAll at hk
 obtain ⟨_,hk⟩:=jb.mp hk
 obtain ⟨k1,hk⟩:=jb.mp hk
 obtain ⟨k2,hk⟩:=jb.mp hk
 obtain ⟨k3,k4⟩:=jb.mp hk
 refine gg (kk q t l' r pre e hl hp hr ha e1 e2 (by omega) (by rw [List.length_append];omega) he g1 g2 g3 g4 ?_ ?_ ht)
 ·rcases ht with rfl|rfl
  ·exact k1
  ·exact k2
 ·rw [<- g2]
  rcases g4 with g|g<;>rw [g]
  ·exact k3
  ·exact k4
omit F O SO hβ AO R in
theorem kOne_of {e:AV} {t:Nat} (h:kOne n wv e t=true):k92 n wv (kTx 0 e) (kTr e) sUtf t=true/\k92 n wv (kTx 1 e) (kTr e) sUtf t=true/\k92 n wv (kTx 1 e) (kTr e) sAsc t=true/\k94 n wv (kTx 0 e) t=true/\k94 n wv (kTx 1 e) t=true:=
 (jb.mp h).imp_right fun h=>(jb.mp h).imp_right fun h=>(jb.mp h).imp_right fun h=>jb.mp h
omit F O SO hβ AO R in
theorem k59n_all {b:Nat} {x:List Nat}:∀ {es:List AV},k59n n wv b x es=true->∀ e ∈ es,k59 n wv (kD (x ++ (32 :: (kTx b e).take 3)))=true
 |[],_,_,h=>nomatch h
 |y :: r,h,e,hm=>Bt.tt (show (match k59 n wv (kD (x ++ (32 :: (kTx b y).take 3))) with|true=>k59n n wv b x r|false=>false)=true from h) fun h1 h=>(List.mem_cons.mp hm).elim (fun q=>q▸h1) fun hm=>k59n_all h e hm
theorem orc92 {as:List AV} {vs:List Value} {a:AV} {s':Mine.St} (h:o92 as W.s=some (a,s')) (hv:W.Rs V as vs):DoesK prog w V Hz A fs l C W loc (.call (.ref f_read_key.addr) ⟨vs,[]⟩) (.v a s'):=by
 refine o92_of h fun c cs a0 js n0 D e1 hA hcs e2 e3=>?_
 subst e1 e2 e3
 refine at_key F O SO hβ AO R hA fun q t l' r pre e hl hp hr ha e1 e2 h1 h2 he g1 g2 g3 g4 hOne _ _=>?_
 have q1:=(kOne_of hOne).1
 have q2:=(kOne_of hOne).2.1
 have q3:=(kOne_of hOne).2.2.1
 have h92:k92 n wv (V.β a0) (V.τ (a0 / 2)) cs t=true:=by
  rw [<- g1,<- g2]
  unfold csOk at hcs
  induction hu:eqL cs sUtf with
  |true=>
   rw [(qd _ _).mp hu]
   rcases g4 with g|g<;>rw [g]
   ·exact q1
   ·exact q2
  |false=>
   rw [hu] at hcs
   simp only at hcs
   induction hu2:eqL cs sAsc with
   |false=>rw [hu2] at hcs;exact (jh hcs).elim
   |true=>
    rw [hu2] at hcs
    rw [(qd _ _).mp hu2,je hcs]
    exact q3
 obtain ⟨lo,sk,f1,f2⟩:=ckRes_of h92
 exact orc_core F O SO AO R (k:=92) (by rfl) (by decide) (by decide) hv (by rfl) (by rfl) hl hp (q':=.ln (js ++ [a0]) n0) (js':=js ++ [a0]) (n1:=n0) (by rfl) (pre:=pre) (post:=l' ++ flat V r) h1 h2 (by rw [e1];simp [kD,flat,keyV]) e2 (by rw [lens_snoc];omega) (bk:=[.ob 0,.st cs,.it 0]) (args3 c cs) f1 f2
  (fun h ρ ρ' nx nx' v hx=>by
   show RepC V h ρ' nx' (V.τ (a0 / 2)) v
   exact shut_rep (fun _ _ e _=>e) _ _ g3 hx) (by rfl)
theorem orc94 {as:List AV} {vs:List Value} {a:AV} {s':Mine.St} (h:o94 as W.s=some (a,s')) (hv:W.Rs V as vs):DoesK prog w V Hz A fs l C W loc (.call (.ref f_charset_here.addr) ⟨vs,[]⟩) (.v a s'):=by
 refine o94_of h fun c a0 js n0 D e1 hA e2 e3=>?_
 subst e1 e2 e3
 refine at_key F O SO hβ AO R hA fun q t l' r pre e hl hp hr ha e1 e2 h1 h2 he g1 g2 g3 g4 hOne _ _=>?_
 have q1:=(kOne_of hOne).2.2.2.1
 have q2:=(kOne_of hOne).2.2.2.2
 have h94:k94 n wv (V.β a0) t=true:=by
  rw [<- g2]
  rcases g4 with g|g<;>rw [g]
  ·exact q1
  ·exact q2
 obtain ⟨lo,sk,f1,f2⟩:=ckRes_of h94
 have:=orc_core F O SO AO R (k:=94) (by rfl) (by decide) (by decide) hv (by rfl) (by rfl) hl hp (q':=q) (js':=js) (n1:=n0) (m:=0) hp (pre:=pre) (post:=l' ++ flat V r) h1 h2 (by rw [e1];simp [kD,flat,keyV]) e2 (by rw [e2];rfl) (bk:=[.ob 0]) (args1 c) f1 f2 (a:=.st sUtf) (fun h ρ ρ' nx nx' v hx=>shut_rep (fun _ _ e _=>e) _ _ rfl hx) (by rfl)
 rw [putP_self (by rw [<- ke];exact hl)] at this
 exact this
theorem orc59 {as:List AV} {vs:List Value} {a:AV} {s':Mine.St} (h:o59 as W.s=some (a,s')) (hv:W.Rs V as vs):DoesK prog w V Hz A fs l C W loc (.call (.ref zz.addr) ⟨vs,[]⟩) (.v a s'):=by
 refine o59_of h fun c a0 js n0 D e1 hA hN e2 e3=>?_
 subst e1 e2 e3
 refine at_key F O SO hβ AO R hA fun q t l' r pre e hl hp hr ha e1 e2 h1 h2 he g1 g2 g3 g4 _ hSk ht=>?_
 have fin:∀ {D':List Ck} {post:List Nat},post.length<=10000->flat (keyV V pre post) D'=flat V D->k59 n wv D'=true->
   DoesK prog w V Hz A fs l C W loc (.call (.ref zz.addr) ⟨vs,[]⟩) (.v (.bo false) W.s):=by
  intro D' post hpo hD h59
  obtain ⟨lo,sk,f1,f2⟩:=ckBo_of h59
  have:=orc_core F O SO AO R (k:=59) (by rfl) (by decide) (by decide) hv (by rfl) (by rfl) hl hp (q':=q) (js':=js) (n1:=n0) (m:=0) hp (pre:=pre) (post:=post) h1 hpo hD e2 (by rw [e2];rfl) (bk:=[.ob 0,.st sRet]) (args2 c sRet) f1 f2 (a:=.bo false) (fun h ρ ρ' nx nx' v hx=>hx) (by rfl)
  rw [putP_self (by rw [<- ke];exact hl)] at this
  exact this
 unfold kSk at hSk
 induction h6:Nat.ble 6 (V.β a0).length with
 |true=>
  rw [h6] at hSk
  obtain ⟨q1,q2⟩:=jb.mp hSk
  refine fin (D':=kD (V.β a0 ++ [t])) h2 (by rw [e1];simp [kD,flat,keyV]) ?_
  rcases ht with rfl|rfl
  ·exact q1
  ·exact q2
 |false=>
  rw [h6] at hSk
  obtain ⟨q1,q2⟩:=jb.mp hSk
  obtain ⟨rfl,⟨rfl,rfl⟩|⟨b,r',rfl,rfl,hb,hpar⟩⟩:=nxA_of hr hN
  ·exact fin (D':=kE (V.β a0 ++ [41])) (post:=[]) (Nat.zero_le _) (by rw [e1];simp [kE,flat,keyV]) q1
  ·refine (key_at O hb).elim fun e' K2=>?_
   have he':=K2.1
   have k2:=K2.2.2.1
   have h59:=k59n_all q2 e' he'
   rw [hpar,k2] at h59
   refine fin (post:=(V.β b).drop 3 ++ flat V r') ?_ ?_ h59
   ·simp only [flat,List.nil_append,List.length_append] at h2
    rw [List.length_append,List.length_drop];omega
   ·rw [e1]
    simp only [kD,flat,keyV]
    simp
    rw [<- List.append_assoc,List.take_append_drop]
theorem orc100 {as:List AV} {vs:List Value} {a:AV} {s':Mine.St} (h:o100 as W.s=some (a,s')) (hv:W.Rs V as vs):DoesK prog w V Hz A fs l C W loc (.call (.ref jo.addr) ⟨vs,[]⟩) (.v a s'):=by
 refine o100_of h fun j e1 hj e2 e3=>?_
 subst e1 e2 e3
 obtain ⟨e,he,g1,g2,_,g3⟩:=key_of O hj
 have hk:=kf n wv e he
 unfold kAll at hk
 have h100:=(jb.mp hk).1
 unfold k100 at h100
 rw [g1,g2] at h100
 obtain ⟨lo,sk,f1⟩:=ckBy_of h100
 intro sh t Q E hQ
 refine d_fnKX (p:=lPar n wv) (ih:=fun _ _ _ _ _=>.fl (.ret (.by [.atm (2 * j)])) (uns jo.ec.names) W.s) (cd:=29) (F.G V) (F.fo V 100 _ (by rfl) (by decide) (by decide)) AO R hv (fun bs hbs=>?_) sh t Q E ?_
 ·intro fs' l' W' A' env' AO' EO' TO' R' hs
  have hbs:some [AV.tr j]=some bs:=hbs
  obtain rfl:=jf hbs
  have ih0:=key_run F O SO (pre:=[]) (post:=[]) (Nat.zero_le _) (Nat.zero_le _) kn 29
  have:=run_sub0 (Vk:=keyV V [] []) ih0 AO' EO' TO' R' (lock:=fLoc jo [V.τ j]) (by have:=R'.len;exact this) (fun i x hi=>?_) (a:=.by [.atm (2 * j)]) (ak:=.by [.lit (V.β (2 * j))]) (lo:=lo) (sk:=sk) (ss:=jo.body) ?_ (fun h ρ nx v hx=>?_)
  ·rw [hs] at this;exact this
  ·match i,hi with
   |0,hi=>
    obtain rfl:=jf hi
    refine .inr ⟨.tr j,rfl,(by intro q;cases q),fun v hv=>?_⟩
    have hv:RepC V W'.h W'.ρ W'.s.nx (V.τ j) v:=hv
    exact shut_rep (fun _ _ e _=>e) _ _ g3 hv
   |i+1,hi=>exact .inl (qp _ i _ hi)
  ·rw [<- f1]
   unfold kR kd
   rw [runK_eq]
  ·obtain ⟨d,t,rfl,hd⟩:=hx
   exact ⟨d,t,rfl,hd.trans (by simp [flat])⟩
 ·have hdrop:dropN W.s.sto W.s.nx=W.s.sto:=dropN_id fun x hx=>live_lt R (live_of_mem R.srt hx)
  have:k_fn2 ⟨lPar n wv,fun _ _ _ _ _=>.fl (.ret (.by [.atm (2 * j)])) (uns jo.ec.names) W.s⟩ 29 W.s jo [.tr j]=.v (.by [.atm (2 * j)]) W.s:=by
   have hb:bindA jo.np jo.dfl [AV.tr j]=some [.tr j]:=rfl
   simp only [k_fn2,hb,fSp_eq,k_end,noCe,AV.free,hdrop]
  rw [this];exact hQ
end
section
variable {prog:Program} {w:World} {V:Vl} {Hz:Heap} {K:Frag} {n wv:Nat}
set_option tactic.hygienic true in
theorem law_run (F:Fix prog w Hz K) (O:VOk V (lPar n wv)) (SO:SOk V (lPar n wv) Hz) (hβ:∀ j,(V.β j).length<=100):∀ N cd,Ih prog w V Hz (run (lPar n wv) N) cd:=by
 refine run_ok (F.cb O SO fun {cd fs l C W loc A} AO R {k as vs a s' fi} h hk hv=>?_)
 replace h:oW cd k as W.s=some (a,s'):=h
 unfold oW at h
 split at h
 ·rename_i hcd
  have AO30:=AO.le (cd':=30) (by simpa [Nat.ble_eq] using hcd)
  split at h
  ·rename_i e
   obtain rfl:=je e
   obtain rfl:=jf hk
   exact orc92 F O SO hβ AO30 R h hv
  ·split at h
   ·rename_i e
    obtain rfl:=je e
    obtain rfl:=jf hk
    exact orc94 F O SO hβ AO30 R h hv
   ·split at h
    ·rename_i e
     obtain rfl:=je e
     obtain rfl:=jf hk
     exact orc59 F O SO hβ AO30 R h hv
    ·split at h
     ·rename_i e
      obtain rfl:=je e
      obtain rfl:=jf hk
      exact orc100 F O SO hβ AO30 R h hv
     ·exact (jg _ h.symm).elim
 ·exact (jg _ h.symm).elim
end
end Mine
end
section
open PySem PySem.W PyProof.Rows
namespace Mine
theorem lf0 (w:Nat):ckTrue (lR 0 w)=true:=by kernel_rfl
theorem lf10:ckTrue (lR 1 0)=true:=by kernel_rfl
theorem lf11:ckTrue (lR 1 1)=true:=by kernel_rfl
theorem lf12:ckTrue (lR 1 2)=true:=by kernel_rfl
theorem lf13:ckTrue (lR 1 3)=true:=by kernel_rfl
theorem lf20:ckTrue (lR 2 0)=true:=by kernel_rfl
theorem lf21:ckTrue (lR 2 1)=true:=by kernel_rfl
theorem lf22:ckTrue (lR 2 2)=true:=by kernel_rfl
theorem lf23:ckTrue (lR 2 3)=true:=by kernel_rfl
theorem lf30:ckTrue (lR 3 0)=true:=by kernel_rfl
theorem lf31:ckTrue (lR 3 1)=true:=by kernel_rfl
theorem lf32:ckTrue (lR 3 2)=true:=by kernel_rfl
theorem lf33:ckTrue (lR 3 3)=true:=by kernel_rfl
theorem lf40:ckTrue (lR 4 0)=true:=by kernel_rfl
theorem lf41:ckTrue (lR 4 1)=true:=by kernel_rfl
theorem lf42:ckTrue (lR 4 2)=true:=by kernel_rfl
theorem lf43:ckTrue (lR 4 3)=true:=by kernel_rfl
theorem law_true (n w:Nat) (hn:n<=4) (hw:w<=3):ckTrue (lR n w)=true:=by
 match n,w,hn,hw with
 |0,w,_,_=>exact lf0 w
 |1,0,_,_=>exact lf10
 |1,1,_,_=>exact lf11
 |1,2,_,_=>exact lf12
 |1,3,_,_=>exact lf13
 |2,0,_,_=>exact lf20
 |2,1,_,_=>exact lf21
 |2,2,_,_=>exact lf22
 |2,3,_,_=>exact lf23
 |3,0,_,_=>exact lf30
 |3,1,_,_=>exact lf31
 |3,2,_,_=>exact lf32
 |3,3,_,_=>exact lf33
 |4,0,_,_=>exact lf40
 |4,1,_,_=>exact lf41
 |4,2,_,_=>exact lf42
 |4,3,_,_=>exact lf43
 |n+5,_,h,_=>omega
 |_,w+4,_,h=>omega
end Mine
end
section
open PySem PySem.W PyProof.Rows
namespace Mine.Hd
noncomputable section
abbrev pw:Program:=PySem.Challenge.pw_nz0334_01
noncomputable def s (x:String):Str:=Str.ofString x
noncomputable def v (x:String) (t:Nat):Value:=.str (Str.ofString x) t
noncomputable def r (a:Nat):Value:=.ref a
noncomputable def i (n:Nat):Value:=.int (.ofNat n) 0
noncomputable def e (P:Params) (k:String) (t:Nat) (x:Value):DictEntry:=⟨PyData.keyHash P (Str.ofString k),.str (Str.ofString k) t,x⟩
noncomputable def tu (l:List Value):Obj:=⟨.type "tuple",none,.seq ⟨l⟩ 0,⟨[]⟩⟩
noncomputable def fl (l:List Value):Obj:=⟨.none,none,.fields ⟨l⟩,⟨[]⟩⟩
noncomputable def fc (c:String) (l:List Value):Obj:=⟨.type c,none,.fields ⟨l⟩,⟨[]⟩⟩
noncomputable def stm (k:Nat):Stmt:=match nth pw.main.body k with
 |some x=>x
 |none=>.Pass ⟨0,0,0,0⟩
noncomputable def mem (k j:Nat):Stmt:=match stm k with
 |.ClassDef _ _ _ body _ _ _ _ _ _ _=>match nth body j with
  |some x=>x
  |none=>.Pass ⟨0,0,0,0⟩
 |_=>.Pass ⟨0,0,0,0⟩
noncomputable def fo (c:Value) (st:Stmt) (q:Str) (g:Nat) (d pm cd:Value):Obj:=match st with
 |.FunctionDef name args body _ _ _ sc _ _ _=>⟨c,none,.func ⟨name,q,args,.stmts body,sc,g,[],d,.none,.none,pm,none,cd,.none,0⟩,⟨[]⟩⟩
 |_=>⟨.none,none,.plain,⟨[]⟩⟩
noncomputable def tk {α:Type}:Nat->List α->List α
 |0,_=>[]
 |_+1,[]=>[]
 |n+1,x :: l=>x :: tk n l
noncomputable def dr {α:Type}:Nat->List α->List α
 |0,l=>l
 |_+1,[]=>[]
 |n+1,_ :: l=>dr n l
noncomputable def nm1 (x:Option Value):List DictEntry->List DictEntry
 |[]=>[]
 |d :: l=>match x with
  |some y=>⟨d.hash,d.key,y⟩ :: l
  |none=>d :: l
noncomputable def dk (n m:Nat) (x:Option Value):Obj->Obj
 |⟨c,d,.dict es _,sl⟩=>⟨c,d,.dict ⟨nm1 x (tk n es.toList)⟩ m,sl⟩
 |o=>o
noncomputable def fk (n:Nat):Obj->Obj
 |⟨c,d,.fields es,sl⟩=>⟨c,d,.fields ⟨tk n es.toList⟩,sl⟩
 |o=>o
noncomputable def insA:BT->Nat->List Obj->BT
 |t,_,[]=>t
 |t,n,o :: l=>insA (t.ins n o) (n+1) l
noncomputable def setA:BT->List (Nat × Obj)->BT
 |t,[]=>t
 |t,(a,o) :: l=>setA (t.set a fun _=>o) l
noncomputable def lf:Life:={}
noncomputable def dw:Drawn:={}
noncomputable def gs:Array GenState:=⟨[]⟩
noncomputable def stt (t:BT) (n k:Nat) (os:OsState):SharedT:=⟨t,n,lf,gs,dw,k,os⟩
noncomputable def fF (n:Nat) (x:String) (m:Value) (c:Nat):Obj:=fo (.type "function") (stm n) (s x) 3 .none m (r c)
noncomputable def fN (n:Nat) (x:String):Obj:=fo .none (stm n) (s x) 0 .none .none .none
noncomputable def vc (t:Nat):Value:=v "/claim/cut.py" t
noncomputable def co (x:String) (n l a b c:Nat) (m:List Value) (d e:Nat):Obj:=fc "code" ([v x n,v x (n+1),vc (n+2),i l,i a,i 0,i 0,i 3,r b,.bool true,i 181,r c] ++ (m ++ [r d,i e,i l,vc (e+1)]))
def o2 (P:Params):Obj:=⟨.none,none,(.dict ⟨[e P "type.__subclasses__.Exception.0" 232 (i 46),e P "type.__subclasses__.Exception.n" 233 (i 1)]⟩ 2),⟨[]⟩⟩
def o3 (P:Params):Obj:=⟨.type "dict",none,(.dict ⟨[e P "__name__" 165 (v "law_nz0334_01" 1321),e P "__doc__" 166 .none,e P "__package__" 167 .none,e P "__loader__" 168 (.builtin "__main__.__loader__#opaque"),e P "__spec__" 169 .none,e P "__annotations__" 170 (r 6),e P "__builtins__" 171 (r 4),e P "__file__" 173 (vc 172),e P "__cached__" 174 .none,e P "_wall" 193 (r 21),e P "PostError" 235 (r 46),e P "WordFault" 251 (r 59),e P "MimeFault" 267 (r 71),e P "SetFault" 283 (r 83),e P "WireFault" 299 (r 95),e P "StoreFault" 315 (r 107),e P "QueryFault" 331 (r 119),e P "CRLF" 335 (.bytes ⟨[13,10]⟩ 334),e P "lower_code" 342 (r 128),e P "lower" 348 (r 133),e P "lower_text" 354 (r 138),e P "upper_text" 360 (r 143),e P "ascii_text" 366 (r 148),e P "text_octets" 372 (r 153),e P "SYSTEM" 376 (v "\\Seen \\Answered \\Flagged \\Deleted \\Draft" 375),e P "NO_KEYWORD" 378 (v "(){ %*\"\\]" 377),e P "MOST_KEYWORD" 380 (.int (60) 379),e P "system_flags" 386 (r 160),e P "is_keyword" 394 (r 167),e P "flag_name" 402 (r 174),e P "ASCII" 406 (v "us-ascii" 405),e P "LATIN" 408 (v "iso-8859-1" 407),e P "UTF8" 410 (v "utf-8" 409),e P "CHARSETS" 411 (r 175),e P "charset_names" 419 (r 182),e P "charset_name" 426 (r 189),e P "need_charset" 433 (r 196),e P "utf8_length" 439 (r 201),e P "utf8_octets" 450 (r 208),e P "follower_span" 457 (r 215),e P "utf8_sign" 471 (r 222),e P "sign_at" 480 (r 229),e P "strict_text" 492 (r 236),e P "has_sign" 500 (r 243),e P "octets_in" 511 (r 250),e P "MONTHS" 526 (r 251),e P "MOST_YEAR" 528 (.int (9999) 527),e P "is_leap" 535 (r 258),e P "month_length" 543 (r 265),e P "is_day" 552 (r 272),e P "month_number" 558 (r 277),e P "padded" 567 (r 284),e P "is_figures" 573 (r 289),e P "day_text" 582 (r 296),e P "day_in" 593 (r 303),e P "read_day" 600 (r 310),e P "write_day" 607 (r 317),e P "MOST" 611 (.int (4294967295) 610),e P "read_end" 621 (r 324),e P "read_set" 632 (r 331),e P "show_end" 639 (r 338),e P "show_pair" 646 (r 345),e P "show_set" 652 (r 350),e P "QUOTE_wire" 656 (.int (34) 655),e P "BACKSLASH" 658 (.int (92) 657),e P "MOST_DEPTH_wire" 660 (.int (30) 659),e P "MOST_FIGURES" 662 (.int (19) 661),e P "MOST_COUNT_FIGURES" 664 (.int (10) 663),e P "MOST_QUOTED" 666 (.int (72) 665),e P "SPECIALS" 668 (.bytes ⟨[40,41,123,37,42,34,92,93]⟩ 667),e P "VALUE_SPECIALS" 670 (.bytes ⟨[40,41,123,34,93]⟩ 669),e P "Atom" 706 (r 374),e P "is_printable" 713 (r 385),e P "is_atom_code" 720 (r 392),e P "is_astring_code" 727 (r 399),e P "is_value_code" 734 (r 406),e P "is_set_code" 741 (r 413),e P "is_figure" 748 (r 420),e P "number_of_figures" 757 (r 427),e P "figures_of" 764 (r 434),e P "Wire" 988 (r 619),e P "is_quotable" 994 (r 628),e P "quoted_octets" 1003 (r 635),e P "literal_octets" 1011 (r 643),e P "string_octets" 1019 (r 651),e P "astring_octets" 1025 (r 657),e P "MOST_DEPTH_query" 1029 (.int (20) 1028),e P "BLANK" 1031 (.int (32) 1030),e P "OPEN" 1033 (.int (40) 1032),e P "QUOTE_query" 1035 (.int (34) 1034),e P "FLAG_KEYS" 1037 (v "ANSWERED DELETED DRAFT FLAGGED SEEN" 1036),e P "HEADER_KEYS" 1039 (v "BCC CC FROM SUBJECT TO" 1038),e P "DAY_KEYS" 1041 (v "BEFORE ON SINCE SENTBEFORE SENTON SENTSINCE" 1040),e P "SIZE_KEYS" 1043 (v "LARGER SMALLER" 1042),e P "LOOK_KEYS" 1045 (v "BODY TEXT" 1044),e P "SET_SIGNS" 1047 (.bytes ⟨[48,49,50,51,52,53,54,55,56,57,58,42,44]⟩ 1046),e P "every_letter" 1053 (r 664),e P "no_letter" 1059 (r 671),e P "is_letter_code" 1066 (r 678),e P "key_word" 1074 (r 685),e P "set_here" 1084 (r 692),e P "looked_for" 1094 (r 699),e P "day_here" 1102 (r 706),e P "number_here" 1109 (r 713),e P "word_here" 1117 (r 720),e P "modseq_here" 1125 (r 727),e P "flag_leaf" 1132 (r 734),e P "keyword_leaf" 1142 (r 741),e P "leaf_of" 1152 (r 748),e P "bracket" 1162 (r 755),e P "read_key" 1175 (r 762),e P "read_keys" 1185 (r 769),e P "charset_here" 1194 (r 776),e P "read_query" 1201 (r 783),e P "read_query_in" 1210 (r 790),e P "row_of" 1218 (r 797),e P "show_flag" 1226 (r 804),e P "show_leaf" 1235 (r 811),e P "show_key" 1243 (r 818),e P "show_query" 1249 (r 823),e P "words_part" 1258 (r 830),e P "write_search" 1268 (r 837),e P "write_thread" 1275 (r 844),e P "WANTS" 1279 (v "MIN MAX COUNT ALL" 1278),e P "THREAD_WORDS" 1281 (v "ORDEREDSUBJECT REFERENCES" 1280),e P "one_of" 1290 (r 851),e P "words_here" 1296 (r 856),e P "read_search" 1304 (r 863),e P "query_in_charset" 1312 (r 870),e P "read_thread" 1320 (r 877),e P "_law_keys" 1328 (r 884),e P "_law_is_refused" 1336 (r 891),e P "_law_is_read" 1346 (r 898),e P "law" 1352 (r 903)]⟩ 134),⟨[]⟩⟩
def o12:Obj:=fl [i 1,i 0,r 20,i 5,i 0,r 27,i 14,i 0,r 55,i 16,i 0,r 67,i 18,i 0,r 79,i 20,i 0,r 91,i 22,i 0,r 103,i 24,i 0,r 115,i 28,i 0,r 127,i 30,i 0,r 132,i 32,i 0,r 137,i 34,i 0,r 142,i 36,i 0,r 147,i 41,i 0,r 152,i 50,i 0,r 159,i 52,i 0,r 166,i 59,i 0,r 173,i 71,i 0,r 181,i 80,i 0,r 188,i 82,i 0,r 195,i 85,i 0,r 200,i 89,i 0,r 207,i 99,i 0,r 214,i 107,i 0,r 221,i 121,i 0,r 228,i 127,i 0,r 235,i 138,i 0,r 242,i 142,i 0,r 249,i 157,i 0,r 257,i 159,i 0,r 264,i 163,i 0,r 271,i 165,i 0,r 276,i 168,i 0,r 283,i 171,i 0,r 288,i 173,i 0,r 295,i 175,i 0,r 302,i 183,i 0,r 309,i 185,i 0,r 316,i 191,i 0,r 323,i 206,i 0,r 330,i 220,i 0,r 337,i 224,i 0,r 344,i 228,i 0,r 349,i 239,i 0,r 356,i 246,i 0,r 384,i 248,i 0,r 391,i 250,i 0,r 398,i 252,i 0,r 405,i 254,i 0,r 412,i 256,i 0,r 419,i 258,i 0,r 426,i 263,i 0,r 433,i 267,i 0,r 440,i 423,i 0,r 627,i 425,i 0,r 634,i 433,i 0,r 642,i 435,i 0,r 650,i 439,i 0,r 656,i 455,i 0,r 663,i 457,i 0,r 670,i 459,i 0,r 677,i 461,i 0,r 684,i 466,i 0,r 691,i 473,i 0,r 698,i 481,i 0,r 705,i 488,i 0,r 712,i 491,i 0,r 719,i 498,i 0,r 726,i 507,i 0,r 733,i 515,i 0,r 740,i 523,i 0,r 747,i 543,i 0,r 754,i 549,i 0,r 761,i 568,i 0,r 768,i 574,i 0,r 775,i 584,i 0,r 782,i 586,i 0,r 789,i 591,i 0,r 796,i 598,i 0,r 803,i 602,i 0,r 810,i 617,i 0,r 817,i 630,i 0,r 822,i 633,i 0,r 829,i 635,i 0,r 836,i 639,i 0,r 843,i 644,i 0,r 850,i 648,i 0,r 855,i 650,i 0,r 862,i 657,i 0,r 869,i 661,i 0,r 876,i 667,i 0,r 883,i 669,i 0,r 890,i 675,i 0,r 897,i 678,i 0,r 902]
def o21:Obj:=fF 0 "_wall" (v "__main__" 164) 20
def o36:Obj:=fo (.type "function") (mem 2 0) (s "PostError.__init__") 3 (r 29) (v "postkeep.errors" 194) (r 35)
def o43:Obj:=fo (.type "function") (mem 2 1) (s "PostError.told") 3 .none (v "postkeep.errors" 194) (r 42)
def o45 (P:Params):Obj:=⟨.type "dict",none,(.dict ⟨[e P "__module__" 203 (v "postkeep.errors" 194),e P "__firstlineno__" 207 (.int (5) 206),e P "__init__" 218 (r 36),e P "told" 225 (r 43),e P "__static_attributes__" 228 (r 44),e P "__weakref__" 230 (r 47),e P "__doc__" 231 .none]⟩ 3),⟨[]⟩⟩
def o46:Obj:=⟨.type "type",none,(.cls ⟨(s "PostError"),[.type "Exception"],[r 46,.type "Exception",.type "BaseException",.type "object"],45,(s "PostError"),true,[],[r 59,r 71,r 83,r 95,r 107,r 119],false,none,false⟩),⟨[some (r 22),none,some (v "PostError" 196),some (v "PostError" 204),some (.builtin "Exception.__new__"),some (.bool true)]⟩⟩
def o58 (P:Params):Obj:=⟨.type "dict",none,(.dict ⟨[e P "__module__" 243 (v "postkeep.errors" 194),e P "__firstlineno__" 247 (.int (14) 246),e P "__static_attributes__" 248 (r 57),e P "__doc__" 249 .none]⟩ 2),⟨[]⟩⟩
def o59:Obj:=⟨.type "type",none,(.cls ⟨(s "WordFault"),[r 46],[r 59,r 46,.type "Exception",.type "BaseException",.type "object"],58,(s "WordFault"),true,[],[],false,none,false⟩),⟨[some (r 50),none,some (v "WordFault" 236),some (v "WordFault" 244),some (.builtin "Exception.__new__"),some (.bool true)]⟩⟩
def o70 (P:Params):Obj:=⟨.type "dict",none,(.dict ⟨[e P "__module__" 259 (v "postkeep.errors" 194),e P "__firstlineno__" 263 (.int (16) 262),e P "__static_attributes__" 264 (r 69),e P "__doc__" 265 .none]⟩ 2),⟨[]⟩⟩
def o71:Obj:=⟨.type "type",none,(.cls ⟨(s "MimeFault"),[r 46],[r 71,r 46,.type "Exception",.type "BaseException",.type "object"],70,(s "MimeFault"),true,[],[],false,none,false⟩),⟨[some (r 62),none,some (v "MimeFault" 252),some (v "MimeFault" 260),some (.builtin "Exception.__new__"),some (.bool true)]⟩⟩
def o82 (P:Params):Obj:=⟨.type "dict",none,(.dict ⟨[e P "__module__" 275 (v "postkeep.errors" 194),e P "__firstlineno__" 279 (.int (18) 278),e P "__static_attributes__" 280 (r 81),e P "__doc__" 281 .none]⟩ 2),⟨[]⟩⟩
def o83:Obj:=⟨.type "type",none,(.cls ⟨(s "SetFault"),[r 46],[r 83,r 46,.type "Exception",.type "BaseException",.type "object"],82,(s "SetFault"),true,[],[],false,none,false⟩),⟨[some (r 74),none,some (v "SetFault" 268),some (v "SetFault" 276),some (.builtin "Exception.__new__"),some (.bool true)]⟩⟩
def o94 (P:Params):Obj:=⟨.type "dict",none,(.dict ⟨[e P "__module__" 291 (v "postkeep.errors" 194),e P "__firstlineno__" 295 (.int (20) 294),e P "__static_attributes__" 296 (r 93),e P "__doc__" 297 .none]⟩ 2),⟨[]⟩⟩
def o95:Obj:=⟨.type "type",none,(.cls ⟨(s "WireFault"),[r 46],[r 95,r 46,.type "Exception",.type "BaseException",.type "object"],94,(s "WireFault"),true,[],[],false,none,false⟩),⟨[some (r 86),none,some (v "WireFault" 284),some (v "WireFault" 292),some (.builtin "Exception.__new__"),some (.bool true)]⟩⟩
def o106 (P:Params):Obj:=⟨.type "dict",none,(.dict ⟨[e P "__module__" 307 (v "postkeep.errors" 194),e P "__firstlineno__" 311 (.int (22) 310),e P "__static_attributes__" 312 (r 105),e P "__doc__" 313 .none]⟩ 2),⟨[]⟩⟩
def o107:Obj:=⟨.type "type",none,(.cls ⟨(s "StoreFault"),[r 46],[r 107,r 46,.type "Exception",.type "BaseException",.type "object"],106,(s "StoreFault"),true,[],[],false,none,false⟩),⟨[some (r 98),none,some (v "StoreFault" 300),some (v "StoreFault" 308),some (.builtin "Exception.__new__"),some (.bool true)]⟩⟩
def o118 (P:Params):Obj:=⟨.type "dict",none,(.dict ⟨[e P "__module__" 323 (v "postkeep.errors" 194),e P "__firstlineno__" 327 (.int (24) 326),e P "__static_attributes__" 328 (r 117),e P "__doc__" 329 .none]⟩ 2),⟨[]⟩⟩
def o119:Obj:=⟨.type "type",none,(.cls ⟨(s "QueryFault"),[r 46],[r 119,r 46,.type "Exception",.type "BaseException",.type "object"],118,(s "QueryFault"),true,[],[],false,none,false⟩),⟨[some (r 110),none,some (v "QueryFault" 316),some (v "QueryFault" 324),some (.builtin "Exception.__new__"),some (.bool true)]⟩⟩
def o128:Obj:=fF 11 "lower_code" (v "postkeep.octets" 332) 127
def o133:Obj:=fF 12 "lower" (v "postkeep.octets" 332) 132
def o138:Obj:=fF 13 "lower_text" (v "postkeep.octets" 332) 137
def o143:Obj:=fF 14 "upper_text" (v "postkeep.octets" 332) 142
def o148:Obj:=fF 15 "ascii_text" (v "postkeep.octets" 332) 147
def o153:Obj:=fF 16 "text_octets" (v "postkeep.octets" 332) 152
def o160:Obj:=fF 21 "system_flags" (v "postkeep.boxes" 373) 159
def o167:Obj:=fF 22 "is_keyword" (v "postkeep.boxes" 373) 166
def o174:Obj:=fF 23 "flag_name" (v "postkeep.boxes" 373) 173
def o182:Obj:=fF 29 "charset_names" (v "postkeep.charsets" 403) 181
def o189:Obj:=fF 30 "charset_name" (v "postkeep.charsets" 403) 188
def o196:Obj:=fF 31 "need_charset" (v "postkeep.charsets" 403) 195
def o201:Obj:=fF 32 "utf8_length" (v "postkeep.charsets" 403) 200
def o208:Obj:=fF 33 "utf8_octets" (v "postkeep.charsets" 403) 207
def o215:Obj:=fF 34 "follower_span" (v "postkeep.charsets" 403) 214
def o222:Obj:=fF 35 "utf8_sign" (v "postkeep.charsets" 403) 221
def o229:Obj:=fF 36 "sign_at" (v "postkeep.charsets" 403) 228
def o236:Obj:=fF 37 "strict_text" (v "postkeep.charsets" 403) 235
def o243:Obj:=fF 38 "has_sign" (v "postkeep.charsets" 403) 242
def o250:Obj:=fF 39 "octets_in" (v "postkeep.charsets" 403) 249
def o258:Obj:=fF 43 "is_leap" (v "postkeep.dates" 512) 257
def o265:Obj:=fF 44 "month_length" (v "postkeep.dates" 512) 264
def o272:Obj:=fF 45 "is_day" (v "postkeep.dates" 512) 271
def o277:Obj:=fF 46 "month_number" (v "postkeep.dates" 512) 276
def o284:Obj:=fF 47 "padded" (v "postkeep.dates" 512) 283
def o289:Obj:=fF 48 "is_figures" (v "postkeep.dates" 512) 288
def o296:Obj:=fF 49 "day_text" (v "postkeep.dates" 512) 295
def o303:Obj:=fF 50 "day_in" (v "postkeep.dates" 512) 302
def o310:Obj:=fF 51 "read_day" (v "postkeep.dates" 512) 309
def o317:Obj:=fF 52 "write_day" (v "postkeep.dates" 512) 316
def o324:Obj:=fF 55 "read_end" (v "postkeep.sets" 608) 323
def o331:Obj:=fF 56 "read_set" (v "postkeep.sets" 608) 330
def o338:Obj:=fF 57 "show_end" (v "postkeep.sets" 608) 337
def o345:Obj:=fF 58 "show_pair" (v "postkeep.sets" 608) 344
def o350:Obj:=fF 59 "show_set" (v "postkeep.sets" 608) 349
def o364:Obj:=fo (.type "function") (mem 69 0) (s "Atom.__init__") 3 .none (v "postkeep.wire" 653) (r 363)
def o371:Obj:=fo (.type "function") (mem 69 1) (s "Atom.told") 3 .none (v "postkeep.wire" 653) (r 370)
def o373 (P:Params):Obj:=⟨.type "dict",none,(.dict ⟨[e P "__module__" 678 (v "postkeep.wire" 653),e P "__firstlineno__" 682 (.int (239) 681),e P "__init__" 690 (r 364),e P "told" 697 (r 371),e P "__static_attributes__" 699 (r 372),e P "__dict__" 701 (r 375),e P "__weakref__" 703 (r 376),e P "__doc__" 704 .none]⟩ 4),⟨[]⟩⟩
def o374:Obj:=⟨.type "type",none,(.cls ⟨(s "Atom"),[.type "object"],[r 374,.type "object"],373,(s "Atom"),true,[],[],false,none,false⟩),⟨[none,none,some (v "Atom" 671),some (v "Atom" 679),some (.builtin "object.__new__"),some (.bool true)]⟩⟩
def o385:Obj:=fF 70 "is_printable" (v "postkeep.wire" 653) 384
def o392:Obj:=fF 71 "is_atom_code" (v "postkeep.wire" 653) 391
def o399:Obj:=fF 72 "is_astring_code" (v "postkeep.wire" 653) 398
def o406:Obj:=fF 73 "is_value_code" (v "postkeep.wire" 653) 405
def o413:Obj:=fF 74 "is_set_code" (v "postkeep.wire" 653) 412
def o420:Obj:=fF 75 "is_figure" (v "postkeep.wire" 653) 419
def o427:Obj:=fF 76 "number_of_figures" (v "postkeep.wire" 653) 426
def o434:Obj:=fF 77 "figures_of" (v "postkeep.wire" 653) 433
def o449:Obj:=fo (.type "function") (mem 78 0) (s "Wire.__init__") 3 (r 442) (v "postkeep.wire" 653) (r 448)
def o456:Obj:=fo (.type "function") (mem 78 1) (s "Wire.fault") 3 .none (v "postkeep.wire" 653) (r 455)
def o463:Obj:=fo (.type "function") (mem 78 2) (s "Wire.peek") 3 .none (v "postkeep.wire" 653) (r 462)
def o470:Obj:=fo (.type "function") (mem 78 3) (s "Wire.skip") 3 .none (v "postkeep.wire" 653) (r 469)
def o477:Obj:=fo (.type "function") (mem 78 4) (s "Wire.need") 3 .none (v "postkeep.wire" 653) (r 476)
def o484:Obj:=fo (.type "function") (mem 78 5) (s "Wire.space") 3 .none (v "postkeep.wire" 653) (r 483)
def o491:Obj:=fo (.type "function") (mem 78 6) (s "Wire.done") 3 .none (v "postkeep.wire" 653) (r 490)
def o498:Obj:=fo (.type "function") (mem 78 7) (s "Wire.run") 3 .none (v "postkeep.wire" 653) (r 497)
def o505:Obj:=fo (.type "function") (mem 78 8) (s "Wire.word_of") 3 .none (v "postkeep.wire" 653) (r 504)
def o512:Obj:=fo (.type "function") (mem 78 9) (s "Wire.atom") 3 .none (v "postkeep.wire" 653) (r 511)
def o519:Obj:=fo (.type "function") (mem 78 10) (s "Wire.word") 3 .none (v "postkeep.wire" 653) (r 518)
def o526:Obj:=fo (.type "function") (mem 78 11) (s "Wire.skip_word") 3 .none (v "postkeep.wire" 653) (r 525)
def o533:Obj:=fo (.type "function") (mem 78 12) (s "Wire.set_text") 3 .none (v "postkeep.wire" 653) (r 532)
def o540:Obj:=fo (.type "function") (mem 78 13) (s "Wire.flag") 3 .none (v "postkeep.wire" 653) (r 539)
def o547:Obj:=fo (.type "function") (mem 78 14) (s "Wire.number") 3 .none (v "postkeep.wire" 653) (r 546)
def o554:Obj:=fo (.type "function") (mem 78 15) (s "Wire.quoted") 3 .none (v "postkeep.wire" 653) (r 553)
def o561:Obj:=fo (.type "function") (mem 78 16) (s "Wire.literal") 3 .none (v "postkeep.wire" 653) (r 560)
def o568:Obj:=fo (.type "function") (mem 78 17) (s "Wire.string") 3 .none (v "postkeep.wire" 653) (r 567)
def o575:Obj:=fo (.type "function") (mem 78 18) (s "Wire.string_or") 3 .none (v "postkeep.wire" 653) (r 574)
def o582:Obj:=fo (.type "function") (mem 78 19) (s "Wire.astring") 3 .none (v "postkeep.wire" 653) (r 581)
def o589:Obj:=fo (.type "function") (mem 78 20) (s "Wire.pattern") 3 .none (v "postkeep.wire" 653) (r 588)
def o596:Obj:=fo (.type "function") (mem 78 21) (s "Wire.nstring") 3 .none (v "postkeep.wire" 653) (r 595)
def o603:Obj:=fo (.type "function") (mem 78 22) (s "Wire.list_of") 3 .none (v "postkeep.wire" 653) (r 602)
def o608:Obj:=fo (.type "function") (mem 78 23) (s "Wire.plain_value") 3 .none (v "postkeep.wire" 653) (r 607)
def o616:Obj:=fo (.type "function") (mem 78 24) (s "Wire.value") 3 (r 609) (v "postkeep.wire" 653) (r 615)
def o618 (P:Params):Obj:=⟨.type "dict",none,(.dict ⟨[e P "__module__" 772 (v "postkeep.wire" 653),e P "__firstlineno__" 776 (.int (267) 775),e P "__init__" 786 (r 449),e P "fault" 794 (r 456),e P "peek" 801 (r 463),e P "skip" 809 (r 470),e P "need" 818 (r 477),e P "space" 825 (r 484),e P "done" 832 (r 491),e P "run" 841 (r 498),e P "word_of" 851 (r 505),e P "atom" 858 (r 512),e P "word" 865 (r 519),e P "skip_word" 874 (r 526),e P "set_text" 881 (r 533),e P "flag" 889 (r 540),e P "number" 898 (r 547),e P "quoted" 906 (r 554),e P "literal" 916 (r 561),e P "string" 923 (r 568),e P "string_or" 932 (r 575),e P "astring" 939 (r 582),e P "pattern" 946 (r 589),e P "nstring" 953 (r 596),e P "list_of" 962 (r 603),e P "plain_value" 968 (r 608),e P "value" 978 (r 616),e P "__static_attributes__" 981 (r 617),e P "__dict__" 983 (r 620),e P "__weakref__" 985 (r 621),e P "__doc__" 986 .none]⟩ 4),⟨[]⟩⟩
def o619:Obj:=⟨.type "type",none,(.cls ⟨(s "Wire"),[.type "object"],[r 619,.type "object"],618,(s "Wire"),true,[],[],false,none,false⟩),⟨[none,none,some (v "Wire" 765),some (v "Wire" 773),some (.builtin "object.__new__"),some (.bool true)]⟩⟩
def o628:Obj:=fF 79 "is_quotable" (v "postkeep.wire" 653) 627
def o635:Obj:=fF 80 "quoted_octets" (v "postkeep.wire" 653) 634
def o643:Obj:=fo (.type "function") (stm 81) (s "literal_octets") 3 (r 636) (v "postkeep.wire" 653) (r 642)
def o651:Obj:=fo (.type "function") (stm 82) (s "string_octets") 3 (r 644) (v "postkeep.wire" 653) (r 650)
def o657:Obj:=fo (.type "function") (stm 83) (s "astring_octets") 3 (r 652) (v "postkeep.wire" 653) (r 656)
def o664:Obj:=fF 95 "every_letter" (v "postkeep.query" 1026) 663
def o671:Obj:=fF 96 "no_letter" (v "postkeep.query" 1026) 670
def o678:Obj:=fF 97 "is_letter_code" (v "postkeep.query" 1026) 677
def o685:Obj:=fF 98 "key_word" (v "postkeep.query" 1026) 684
def o692:Obj:=fF 99 "set_here" (v "postkeep.query" 1026) 691
def o699:Obj:=fF 100 "looked_for" (v "postkeep.query" 1026) 698
def o706:Obj:=fF 101 "day_here" (v "postkeep.query" 1026) 705
def o713:Obj:=fF 102 "number_here" (v "postkeep.query" 1026) 712
def o720:Obj:=fF 103 "word_here" (v "postkeep.query" 1026) 719
def o727:Obj:=fF 104 "modseq_here" (v "postkeep.query" 1026) 726
def o734:Obj:=fF 105 "flag_leaf" (v "postkeep.query" 1026) 733
def o741:Obj:=fF 106 "keyword_leaf" (v "postkeep.query" 1026) 740
def o748:Obj:=fF 107 "leaf_of" (v "postkeep.query" 1026) 747
def o755:Obj:=fF 108 "bracket" (v "postkeep.query" 1026) 754
def o762:Obj:=fF 109 "read_key" (v "postkeep.query" 1026) 761
def o769:Obj:=fF 110 "read_keys" (v "postkeep.query" 1026) 768
def o776:Obj:=fF 111 "charset_here" (v "postkeep.query" 1026) 775
def o783:Obj:=fF 112 "read_query" (v "postkeep.query" 1026) 782
def o790:Obj:=fF 113 "read_query_in" (v "postkeep.query" 1026) 789
def o797:Obj:=fF 114 "row_of" (v "postkeep.query" 1026) 796
def o804:Obj:=fF 115 "show_flag" (v "postkeep.query" 1026) 803
def o811:Obj:=fF 116 "show_leaf" (v "postkeep.query" 1026) 810
def o818:Obj:=fF 117 "show_key" (v "postkeep.query" 1026) 817
def o823:Obj:=fF 118 "show_query" (v "postkeep.query" 1026) 822
def o830:Obj:=fF 120 "words_part" (v "postkeep.cmdwrite" 1250) 829
def o837:Obj:=fF 121 "write_search" (v "postkeep.cmdwrite" 1250) 836
def o844:Obj:=fF 122 "write_thread" (v "postkeep.cmdwrite" 1250) 843
def o851:Obj:=fF 126 "one_of" (v "postkeep.cmdread" 1276) 850
def o856:Obj:=fF 127 "words_here" (v "postkeep.cmdread" 1276) 855
def o863:Obj:=fF 128 "read_search" (v "postkeep.cmdread" 1276) 862
def o870:Obj:=fF 129 "query_in_charset" (v "postkeep.cmdread" 1276) 869
def o877:Obj:=fF 130 "read_thread" (v "postkeep.cmdread" 1276) 876
def o884:Obj:=fF 132 "_law_keys" (v "law_nz0334_01" 1321) 883
def o891:Obj:=fF 133 "_law_is_refused" (v "law_nz0334_01" 1321) 890
def o898:Obj:=fF 134 "_law_is_read" (v "law_nz0334_01" 1321) 897
def o903:Obj:=fF 135 "law" (v "law_nz0334_01" 1321) 902
def b0a (P:Params):List Obj:=[
 ⟨.type "dict",none,(.dict ⟨[e P "__name__" 1 (v "builtins" 160),e P "__doc__" 2 (.builtin "builtins.__doc__:str#opaque"),e P "__package__" 3 (.builtin "builtins.__package__:str#opaque"),e P "__loader__" 4 (.builtin "builtins.__loader__:shared#opaque"),e P "__spec__" 5 (.builtin "builtins.__spec__#opaque"),e P "__build_class__" 6 (.builtin "__build_class__"),e P "__import__" 7 (.builtin "__import__"),e P "abs" 8 (.builtin "abs"),e P "all" 9 (.builtin "all"),e P "any" 10 (.builtin "any"),e P "ascii" 11 (.builtin "ascii"),e P "bin" 12 (.builtin "bin"),e P "breakpoint" 13 (.builtin "breakpoint"),e P "callable" 14 (.builtin "callable"),e P "chr" 15 (.builtin "chr"),e P "compile" 16 (.builtin "compile"),e P "delattr" 17 (.builtin "delattr"),e P "dir" 18 (.builtin "dir"),e P "divmod" 19 (.builtin "divmod"),e P "eval" 20 (.builtin "eval"),e P "exec" 21 (.builtin "exec"),e P "format" 22 (.builtin "format"),e P "getattr" 23 (.builtin "getattr"),e P "globals" 24 (.builtin "globals"),e P "hasattr" 25 (.builtin "hasattr"),e P "hash" 26 (.builtin "hash"),e P "hex" 27 (.builtin "hex"),e P "id" 28 (.builtin "id"),e P "input" 29 (.builtin "input"),e P "isinstance" 30 (.builtin "isinstance"),e P "issubclass" 31 (.builtin "issubclass"),e P "iter" 32 (.builtin "iter"),e P "aiter" 33 (.builtin "aiter"),e P "len" 34 (.builtin "len"),e P "locals" 35 (.builtin "locals"),e P "max" 36 (.builtin "max"),e P "min" 37 (.builtin "min"),e P "next" 38 (.builtin "next"),e P "anext" 39 (.builtin "anext"),e P "oct" 40 (.builtin "oct"),e P "ord" 41 (.builtin "ord"),e P "pow" 42 (.builtin "pow"),e P "print" 43 (.builtin "print"),e P "repr" 44 (.builtin "repr"),e P "round" 45 (.builtin "round"),e P "setattr" 46 (.builtin "setattr"),e P "sorted" 47 (.builtin "sorted"),e P "sum" 48 (.builtin "sum"),e P "vars" 49 (.builtin "vars"),e P "None" 50 .none,e P "Ellipsis" 51 (.ellipsis),e P "NotImplemented" 52 (.notImplemented),e P "False" 53 (.bool false),e P "True" 54 (.bool true),e P "bool" 55 (.type "bool"),e P "memoryview" 56 (.type "memoryview"),e P "bytearray" 57 (.type "bytearray"),e P "bytes" 58 (.type "bytes"),e P "classmethod" 59 (.type "classmethod"),e P "complex" 60 (.type "complex"),e P "dict" 61 (.type "dict"),e P "enumerate" 62 (.type "enumerate"),e P "filter" 63 (.type "filter"),e P "float" 64 (.type "float"),e P "frozenset" 65 (.type "frozenset"),e P "property" 66 (.type "property"),e P "int" 67 (.type "int"),e P "list" 68 (.type "list"),e P "map" 69 (.type "map"),e P "object" 70 (.type "object"),e P "range" 71 (.type "range"),e P "reversed" 72 (.type "reversed"),e P "set" 73 (.type "set"),e P "slice" 74 (.type "slice"),e P "staticmethod" 75 (.type "staticmethod"),e P "str" 76 (.type "str"),e P "super" 77 (.type "super"),e P "tuple" 78 (.type "tuple"),e P "type" 79 (.type "type"),e P "zip" 80 (.type "zip"),e P "__debug__" 81 (.bool true),e P "BaseException" 82 (.type "BaseException"),e P "BaseExceptionGroup" 83 (.type "BaseExceptionGroup"),e P "Exception" 84 (.type "Exception"),e P "GeneratorExit" 85 (.type "GeneratorExit"),e P "KeyboardInterrupt" 86 (.type "KeyboardInterrupt"),e P "SystemExit" 87 (.type "SystemExit"),e P "ArithmeticError" 88 (.type "ArithmeticError"),e P "AssertionError" 89 (.type "AssertionError"),e P "AttributeError" 90 (.type "AttributeError"),e P "BufferError" 91 (.type "BufferError"),e P "EOFError" 92 (.type "EOFError"),e P "ImportError" 93 (.type "ImportError"),e P "LookupError" 94 (.type "LookupError"),e P "MemoryError" 95 (.type "MemoryError"),e P "NameError" 96 (.type "NameError"),e P "OSError" 97 (.type "OSError"),e P "ReferenceError" 98 (.type "ReferenceError"),e P "RuntimeError" 99 (.type "RuntimeError"),e P "StopAsyncIteration" 100 (.type "StopAsyncIteration"),e P "StopIteration" 101 (.type "StopIteration"),e P "SyntaxError" 102 (.type "SyntaxError"),e P "SystemError" 103 (.type "SystemError"),e P "TypeError" 104 (.type "TypeError"),e P "ValueError" 105 (.type "ValueError"),e P "Warning" 106 (.type "Warning"),e P "FloatingPointError" 107 (.type "FloatingPointError"),e P "OverflowError" 108 (.type "OverflowError"),e P "ZeroDivisionError" 109 (.type "ZeroDivisionError"),e P "BytesWarning" 110 (.type "BytesWarning"),e P "DeprecationWarning" 111 (.type "DeprecationWarning"),e P "EncodingWarning" 112 (.type "EncodingWarning"),e P "FutureWarning" 113 (.type "FutureWarning"),e P "ImportWarning" 114 (.type "ImportWarning"),e P "PendingDeprecationWarning" 115 (.type "PendingDeprecationWarning"),e P "ResourceWarning" 116 (.type "ResourceWarning"),e P "RuntimeWarning" 117 (.type "RuntimeWarning"),e P "SyntaxWarning" 118 (.type "SyntaxWarning"),e P "UnicodeWarning" 119 (.type "UnicodeWarning"),e P "UserWarning" 120 (.type "UserWarning"),e P "BlockingIOError" 121 (.type "BlockingIOError"),e P "ChildProcessError" 122 (.type "ChildProcessError"),e P "ConnectionError" 123 (.type "ConnectionError"),e P "FileExistsError" 124 (.type "FileExistsError"),e P "FileNotFoundError" 125 (.type "FileNotFoundError"),e P "InterruptedError" 126 (.type "InterruptedError"),e P "IsADirectoryError" 127 (.type "IsADirectoryError"),e P "NotADirectoryError" 128 (.type "NotADirectoryError"),e P "PermissionError" 129 (.type "PermissionError"),e P "ProcessLookupError" 130 (.type "ProcessLookupError"),e P "TimeoutError" 131 (.type "TimeoutError"),e P "IndentationError" 132 (.type "IndentationError"),e P "_IncompleteInputError" 133 (.type "_IncompleteInputError"),e P "IndexError" 134 (.type "IndexError"),e P "KeyError" 135 (.type "KeyError"),e P "ModuleNotFoundError" 136 (.type "ModuleNotFoundError"),e P "NotImplementedError" 137 (.type "NotImplementedError"),e P "PythonFinalizationError" 138 (.type "PythonFinalizationError"),e P "RecursionError" 139 (.type "RecursionError"),e P "UnboundLocalError" 140 (.type "UnboundLocalError"),e P "UnicodeError" 141 (.type "UnicodeError"),e P "BrokenPipeError" 142 (.type "BrokenPipeError"),e P "ConnectionAbortedError" 143 (.type "ConnectionAbortedError"),e P "ConnectionRefusedError" 144 (.type "ConnectionRefusedError"),e P "ConnectionResetError" 145 (.type "ConnectionResetError"),e P "TabError" 146 (.type "TabError"),e P "UnicodeDecodeError" 147 (.type "UnicodeDecodeError"),e P "UnicodeEncodeError" 148 (.type "UnicodeEncodeError"),e P "UnicodeTranslateError" 149 (.type "UnicodeTranslateError"),e P "ExceptionGroup" 150 (.type "ExceptionGroup"),e P "EnvironmentError" 151 (.type "OSError"),e P "IOError" 152 (.type "OSError"),e P "open" 153 (.builtin "open"),e P "quit" 154 (.builtin "builtins.quit#opaque"),e P "exit" 155 (.builtin "builtins.exit#opaque"),e P "copyright" 156 (.builtin "builtins.copyright#opaque"),e P "credits" 157 (.builtin "builtins.credits#opaque"),e P "license" 158 (.builtin "builtins.license#opaque"),e P "help" 159 (.builtin "builtins.help#opaque")]⟩ 159),⟨[]⟩⟩,
 ⟨.type "dict",none,(.dict ⟨[e P "builtins" 162 (r 4),e P "__main__" 163 (r 5)]⟩ 2),⟨[]⟩⟩]
def b0d:List Obj:=[
 ⟨.type "module",some 0,.plain,⟨[]⟩⟩,
 ⟨.type "module",some 3,.plain,⟨[]⟩⟩,
 ⟨.type "dict",none,(.dict ⟨[]⟩ 0),⟨[]⟩⟩,
 tu [],
 fl [],
 fc "code" [v "<module>" 176,v "<module>" 177,vc 178,i 1,i 0,i 0,i 0,i 0,r 7,.bool false,i 175,r 8,.none,.none,.none,.none,i 179,i 1,vc 180],
 ⟨.type "frame",none,.plain,⟨[some (r 9),some (r 3),some (r 3),none,some (v "__main__" 164),none,some (r 0)]⟩⟩,
 tu []]
def b0f:List Obj:=[
 fc "code" [v "<module>" 182,v "<module>" 183,vc 184,i 1,i 0,i 0,i 0,i 0,r 11,.bool false,i 181,r 12,.none,.none,.none,.none,i 185,i 1,vc 186],
 ⟨.type "frame",none,.plain,⟨[some (r 13),some (r 3),some (r 3),none,some (v "__main__" 164),none,some (r 0)]⟩⟩]
def b1a (P:Params):List Obj:=[
 tu [],
 fl [],
 tu [v "k" 190],
 tu [],
 fN 0 "_wall",
 co "_wall" 187 1 1 15 16 [.none,r 17,r 18] 19 191,
 o21,
 tu [.type "Exception"],
 fc "builtin_function_or_method" [.builtin "type.__prepare__",.type "type"],
 ⟨.type "dict",none,(.dict ⟨[e P "__module__" 203 (v "postkeep.errors" 194),e P "__qualname__" 205 (v "PostError" 204),e P "__firstlineno__" 207 (.int (5) 206),e P "__init__" 218 (r 36),e P "told" 225 (r 43),e P "__static_attributes__" 228 (r 44)]⟩ 6),⟨[]⟩⟩,
 tu [],
 fl [i 7,i 4,r 35,i 12,i 4,r 42],
 fc "code" [v "PostError" 198,v "PostError" 199,vc 200,i 5,i 0,i 0,i 0,i 0,r 25,.bool false,i 181,r 26,.none,.none,.none,.none,i 201,i 5,vc 202],
 ⟨.type "frame",none,.plain,⟨[some (r 27),some (r 3),some (r 24),none,some (v "postkeep.errors" 194),none,some (r 0)]⟩⟩,
 tu [.int (-1) 209],
 tu [],
 fl [],
 tu [v "self" 213,v "what" 214,v "at" 215],
 tu [],
 fo .none (mem 2 0) (s "PostError.__init__") 0 .none .none .none,
 fc "code" [v "__init__" 210,v "PostError.__init__" 211,vc 212,i 7,i 3,i 0,i 0,i 3,r 30,.bool true,i 181,r 31,.none,r 32,r 33,r 34,i 216,i 7,vc 217],
 o36,
 tu [],
 fl [],
 tu [v "self" 222],
 tu [],
 fo .none (mem 2 1) (s "PostError.told") 0 .none .none .none,
 fc "code" [v "told" 219,v "PostError.told" 220,vc 221,i 12,i 1,i 0,i 0,i 3,r 37,.bool true,i 181,r 38,.none,r 39,r 40,r 41,i 223,i 12,vc 224],
 o43,
 tu [v "at" 226,v "what" 227],
 o45 P]
def b1c:List Obj:=[
 fc "getset_descriptor" [v "__weakref__" 229,r 46,.builtin "ExceptionGroup.__weakref__",.none],
 fc "super" [r 46,r 46,r 46],
 fc "builtin_function_or_method" [.builtin "object.__init_subclass__",r 46]]
def b2 (P:Params):List Obj:=[
 tu [r 46],
 fc "builtin_function_or_method" [.builtin "type.__prepare__",.type "type"],
 ⟨.type "dict",none,(.dict ⟨[e P "__module__" 243 (v "postkeep.errors" 194),e P "__qualname__" 245 (v "WordFault" 244),e P "__firstlineno__" 247 (.int (14) 246),e P "__static_attributes__" 248 (r 57)]⟩ 4),⟨[]⟩⟩,
 tu [],
 fl [],
 fc "code" [v "WordFault" 238,v "WordFault" 239,vc 240,i 14,i 0,i 0,i 0,i 0,r 53,.bool false,i 181,r 54,.none,.none,.none,.none,i 241,i 14,vc 242],
 ⟨.type "frame",none,.plain,⟨[some (r 55),some (r 3),some (r 52),none,some (v "postkeep.errors" 194),none,some (r 0)]⟩⟩,
 tu [],
 o58 P,
 o59,
 fc "super" [r 59,r 59,r 59],
 fc "builtin_function_or_method" [.builtin "object.__init_subclass__",r 59],
 tu [r 46],
 fc "builtin_function_or_method" [.builtin "type.__prepare__",.type "type"],
 ⟨.type "dict",none,(.dict ⟨[e P "__module__" 259 (v "postkeep.errors" 194),e P "__qualname__" 261 (v "MimeFault" 260),e P "__firstlineno__" 263 (.int (16) 262),e P "__static_attributes__" 264 (r 69)]⟩ 4),⟨[]⟩⟩,
 tu [],
 fl [],
 fc "code" [v "MimeFault" 254,v "MimeFault" 255,vc 256,i 16,i 0,i 0,i 0,i 0,r 65,.bool false,i 181,r 66,.none,.none,.none,.none,i 257,i 16,vc 258],
 ⟨.type "frame",none,.plain,⟨[some (r 67),some (r 3),some (r 64),none,some (v "postkeep.errors" 194),none,some (r 0)]⟩⟩,
 tu [],
 o70 P,
 o71,
 fc "super" [r 71,r 71,r 71],
 fc "builtin_function_or_method" [.builtin "object.__init_subclass__",r 71]]
def b3 (P:Params):List Obj:=[
 tu [r 46],
 fc "builtin_function_or_method" [.builtin "type.__prepare__",.type "type"],
 ⟨.type "dict",none,(.dict ⟨[e P "__module__" 275 (v "postkeep.errors" 194),e P "__qualname__" 277 (v "SetFault" 276),e P "__firstlineno__" 279 (.int (18) 278),e P "__static_attributes__" 280 (r 81)]⟩ 4),⟨[]⟩⟩,
 tu [],
 fl [],
 fc "code" [v "SetFault" 270,v "SetFault" 271,vc 272,i 18,i 0,i 0,i 0,i 0,r 77,.bool false,i 181,r 78,.none,.none,.none,.none,i 273,i 18,vc 274],
 ⟨.type "frame",none,.plain,⟨[some (r 79),some (r 3),some (r 76),none,some (v "postkeep.errors" 194),none,some (r 0)]⟩⟩,
 tu [],
 o82 P,
 o83,
 fc "super" [r 83,r 83,r 83],
 fc "builtin_function_or_method" [.builtin "object.__init_subclass__",r 83],
 tu [r 46],
 fc "builtin_function_or_method" [.builtin "type.__prepare__",.type "type"],
 ⟨.type "dict",none,(.dict ⟨[e P "__module__" 291 (v "postkeep.errors" 194),e P "__qualname__" 293 (v "WireFault" 292),e P "__firstlineno__" 295 (.int (20) 294),e P "__static_attributes__" 296 (r 93)]⟩ 4),⟨[]⟩⟩,
 tu [],
 fl [],
 fc "code" [v "WireFault" 286,v "WireFault" 287,vc 288,i 20,i 0,i 0,i 0,i 0,r 89,.bool false,i 181,r 90,.none,.none,.none,.none,i 289,i 20,vc 290],
 ⟨.type "frame",none,.plain,⟨[some (r 91),some (r 3),some (r 88),none,some (v "postkeep.errors" 194),none,some (r 0)]⟩⟩,
 tu [],
 o94 P,
 o95,
 fc "super" [r 95,r 95,r 95],
 fc "builtin_function_or_method" [.builtin "object.__init_subclass__",r 95]]
def b4 (P:Params):List Obj:=[
 tu [r 46],
 fc "builtin_function_or_method" [.builtin "type.__prepare__",.type "type"],
 ⟨.type "dict",none,(.dict ⟨[e P "__module__" 307 (v "postkeep.errors" 194),e P "__qualname__" 309 (v "StoreFault" 308),e P "__firstlineno__" 311 (.int (22) 310),e P "__static_attributes__" 312 (r 105)]⟩ 4),⟨[]⟩⟩,
 tu [],
 fl [],
 fc "code" [v "StoreFault" 302,v "StoreFault" 303,vc 304,i 22,i 0,i 0,i 0,i 0,r 101,.bool false,i 181,r 102,.none,.none,.none,.none,i 305,i 22,vc 306],
 ⟨.type "frame",none,.plain,⟨[some (r 103),some (r 3),some (r 100),none,some (v "postkeep.errors" 194),none,some (r 0)]⟩⟩,
 tu [],
 o106 P,
 o107,
 fc "super" [r 107,r 107,r 107],
 fc "builtin_function_or_method" [.builtin "object.__init_subclass__",r 107],
 tu [r 46],
 fc "builtin_function_or_method" [.builtin "type.__prepare__",.type "type"],
 ⟨.type "dict",none,(.dict ⟨[e P "__module__" 323 (v "postkeep.errors" 194),e P "__qualname__" 325 (v "QueryFault" 324),e P "__firstlineno__" 327 (.int (24) 326),e P "__static_attributes__" 328 (r 117)]⟩ 4),⟨[]⟩⟩,
 tu [],
 fl [],
 fc "code" [v "QueryFault" 318,v "QueryFault" 319,vc 320,i 24,i 0,i 0,i 0,i 0,r 113,.bool false,i 181,r 114,.none,.none,.none,.none,i 321,i 24,vc 322],
 ⟨.type "frame",none,.plain,⟨[some (r 115),some (r 3),some (r 112),none,some (v "postkeep.errors" 194),none,some (r 0)]⟩⟩,
 tu [],
 o118 P,
 o119,
 fc "super" [r 119,r 119,r 119],
 fc "builtin_function_or_method" [.builtin "object.__init_subclass__",r 119]]
def b5:List Obj:=[
 tu [],
 fl [],
 tu [v "code" 339],
 tu [],
 fN 11 "lower_code",
 co "lower_code" 336 28 1 122 123 [.none,r 124,r 125] 126 340,
 o128,
 tu [],
 fl [],
 fN 12 "lower",
 co "lower" 343 30 1 129 130 [.none,.none,.none] 131 346,
 o133,
 tu [],
 fl [],
 fN 13 "lower_text",
 co "lower_text" 349 32 1 134 135 [.none,.none,.none] 136 352,
 o138,
 tu [],
 fl [],
 fN 14 "upper_text",
 co "upper_text" 355 34 1 139 140 [.none,.none,.none] 141 358,
 o143,
 tu [],
 fl [],
 fN 15 "ascii_text",
 co "ascii_text" 361 36 1 144 145 [.none,.none,.none] 146 364,
 o148,
 tu [],
 fl [],
 fN 16 "text_octets",
 co "text_octets" 367 41 1 149 150 [.none,.none,.none] 151 370,
 o153,
 tu [],
 fl [],
 tu [],
 tu [],
 fN 21 "system_flags",
 co "system_flags" 381 50 0 154 155 [.none,r 156,r 157] 158 384,
 o160,
 tu [],
 fl [],
 tu [v "text" 390,v "sign" 391],
 tu [],
 fN 22 "is_keyword",
 co "is_keyword" 387 52 1 161 162 [.none,r 163,r 164] 165 392,
 o167,
 tu [],
 fl [],
 tu [v "text" 398,v "name" 399],
 tu [],
 fN 23 "flag_name",
 co "flag_name" 395 59 1 168 169 [.none,r 170,r 171] 172 400,
 o174,
 tu [v "us-ascii" 405,v "iso-8859-1" 407,v "utf-8" 409],
 tu [],
 fl [],
 tu [v "found" 415,v "alias" 416],
 tu [],
 fN 29 "charset_names",
 co "charset_names" 412 71 0 176 177 [.none,r 178,r 179] 180 417,
 o182,
 tu [],
 fl [],
 tu [v "text" 423],
 tu [],
 fN 30 "charset_name",
 co "charset_name" 420 80 1 183 184 [.none,r 185,r 186] 187 424,
 o189,
 tu [],
 fl [],
 tu [v "charset" 430],
 tu [],
 fN 31 "need_charset",
 co "need_charset" 427 82 1 190 191 [.none,r 192,r 193] 194 431,
 o196,
 tu [],
 fl [],
 fN 32 "utf8_length",
 co "utf8_length" 434 85 1 197 198 [.none,.none,.none] 199 437,
 o201]
def b6:List Obj:=[
 tu [],
 fl [],
 tu [v "code" 443,v "length" 444,v "found" 445,v "left" 446,v "place" 447],
 tu [],
 fN 33 "utf8_octets",
 co "utf8_octets" 440 89 1 202 203 [.none,r 204,r 205] 206 448,
 o208,
 tu [],
 fl [],
 tu [v "lead" 454],
 tu [],
 fN 34 "follower_span",
 co "follower_span" 451 99 1 209 210 [.none,r 211,r 212] 213 455,
 o215,
 tu [],
 fl [],
 tu [v "octets" 461,v "at" 462,v "lead" 463,v "least" 464,v "most" 465,v "count" 466,v "code" 467,v "place" 468],
 tu [],
 fN 35 "utf8_sign",
 co "utf8_sign" 458 107 2 216 217 [.none,r 218,r 219] 220 469,
 o222,
 tu [],
 fl [],
 tu [v "charset" 475,v "octets" 476,v "at" 477],
 tu [],
 fN 36 "sign_at",
 co "sign_at" 472 121 3 223 224 [.none,r 225,r 226] 227 478,
 o229,
 tu [],
 fl [],
 tu [v "charset" 484,v "octets" 485,v "signs" 486,v "at" 487,v "code" 488,v "length" 489],
 tu [],
 fN 37 "strict_text",
 co "strict_text" 481 127 2 230 231 [.none,r 232,r 233] 234 490,
 o236,
 tu [],
 fl [],
 tu [v "charset" 496,v "code" 497],
 tu [],
 fN 38 "has_sign",
 co "has_sign" 493 138 2 237 238 [.none,r 239,r 240] 241 498,
 o243,
 tu [],
 fl [],
 tu [v "charset" 504,v "text" 505,v "row" 506,v "at" 507,v "code" 508],
 tu [],
 fN 39 "octets_in",
 co "octets_in" 501 142 2 244 245 [.none,r 246,r 247] 248 509,
 o250,
 tu [v "Jan" 514,v "Feb" 515,v "Mar" 516,v "Apr" 517,v "May" 518,v "Jun" 519,v "Jul" 520,v "Aug" 521,v "Sep" 522,v "Oct" 523,v "Nov" 524,v "Dec" 525],
 tu [],
 fl [],
 tu [v "year" 532],
 tu [],
 fN 43 "is_leap",
 co "is_leap" 529 157 1 252 253 [.none,r 254,r 255] 256 533,
 o258,
 tu [],
 fl [],
 tu [v "year" 539,v "month" 540],
 tu [],
 fN 44 "month_length",
 co "month_length" 536 159 2 259 260 [.none,r 261,r 262] 263 541,
 o265,
 tu [],
 fl [],
 tu [v "year" 547,v "month" 548,v "day" 549],
 tu [],
 fN 45 "is_day",
 co "is_day" 544 163 3 266 267 [.none,r 268,r 269] 270 550,
 o272,
 tu [],
 fl [],
 fN 46 "month_number",
 co "month_number" 553 165 1 273 274 [.none,.none,.none] 275 556,
 o277,
 tu [],
 fl [],
 tu [v "number" 562,v "width" 563,v "figures" 564],
 tu [],
 fN 47 "padded",
 co "padded" 559 168 2 278 279 [.none,r 280,r 281] 282 565,
 o284,
 tu [],
 fl [],
 fN 48 "is_figures",
 co "is_figures" 568 171 1 285 286 [.none,.none,.none] 287 571,
 o289]
def b7:List Obj:=[
 tu [],
 fl [],
 tu [v "year" 577,v "month" 578,v "day" 579],
 tu [],
 fN 49 "day_text",
 co "day_text" 574 173 3 290 291 [.none,r 292,r 293] 294 580,
 o296,
 tu [],
 fl [],
 tu [v "text" 586,v "at" 587,v "end" 588,v "parts" 589,v "found" 590],
 tu [],
 fN 50 "day_in",
 co "day_in" 583 175 3 297 298 [.none,r 299,r 300] 301 591,
 o303,
 tu [],
 fl [],
 tu [v "text" 597],
 tu [],
 fN 51 "read_day",
 co "read_day" 594 183 1 304 305 [.none,r 306,r 307] 308 598,
 o310,
 tu [],
 fl [],
 tu [v "day" 604],
 tu [],
 fN 52 "write_day",
 co "write_day" 601 185 1 311 312 [.none,r 313,r 314] 315 605,
 o317,
 tu [],
 fl [],
 tu [v "text" 615,v "at" 616,v "end" 617,v "number" 618],
 tu [],
 fN 55 "read_end",
 co "read_end" 612 191 2 318 319 [.none,r 320,r 321] 322 619,
 o324,
 tu [],
 fl [],
 tu [v "text" 625,v "some" 626,v "at" 627,v "low" 628,v "high" 629],
 tu [],
 fN 56 "read_set",
 co "read_set" 622 206 1 325 326 [.none,r 327,r 328] 329 630,
 o331,
 tu [],
 fl [],
 tu [v "number" 636],
 tu [],
 fN 57 "show_end",
 co "show_end" 633 220 1 332 333 [.none,r 334,r 335] 336 637,
 o338,
 tu [],
 fl [],
 tu [v "pair" 643],
 tu [],
 fN 58 "show_pair",
 co "show_pair" 640 224 1 339 340 [.none,r 341,r 342] 343 644,
 o345,
 tu [],
 fl [],
 fN 59 "show_set",
 co "show_set" 647 228 1 346 347 [.none,.none,.none] 348 650,
 o350]
def b8 (P:Params):List Obj:=[
 tu [],
 fc "builtin_function_or_method" [.builtin "type.__prepare__",.type "type"],
 ⟨.type "dict",none,(.dict ⟨[e P "__module__" 678 (v "postkeep.wire" 653),e P "__qualname__" 680 (v "Atom" 679),e P "__firstlineno__" 682 (.int (239) 681),e P "__init__" 690 (r 364),e P "told" 697 (r 371),e P "__static_attributes__" 699 (r 372)]⟩ 6),⟨[]⟩⟩,
 tu [],
 fl [i 241,i 4,r 363,i 244,i 4,r 370],
 fc "code" [v "Atom" 673,v "Atom" 674,vc 675,i 239,i 0,i 0,i 0,i 0,r 354,.bool false,i 181,r 355,.none,.none,.none,.none,i 676,i 239,vc 677],
 ⟨.type "frame",none,.plain,⟨[some (r 356),some (r 3),some (r 353),none,some (v "postkeep.wire" 653),none,some (r 0)]⟩⟩,
 tu [],
 fl [],
 tu [v "self" 686,v "text" 687],
 tu [],
 fo .none (mem 69 0) (s "Atom.__init__") 0 .none .none .none,
 fc "code" [v "__init__" 683,v "Atom.__init__" 684,vc 685,i 241,i 2,i 0,i 0,i 3,r 358,.bool true,i 181,r 359,.none,r 360,r 361,r 362,i 688,i 241,vc 689],
 o364,
 tu [],
 fl [],
 tu [v "self" 694],
 tu [],
 fo .none (mem 69 1) (s "Atom.told") 0 .none .none .none,
 fc "code" [v "told" 691,v "Atom.told" 692,vc 693,i 244,i 1,i 0,i 0,i 3,r 365,.bool true,i 181,r 366,.none,r 367,r 368,r 369,i 695,i 244,vc 696],
 o371,
 tu [v "text" 698],
 o373 P,
 o374,
 fc "getset_descriptor" [v "__dict__" 700,r 374,.builtin "function.__dict__",.builtin "function.__dict__#set"],
 fc "getset_descriptor" [v "__weakref__" 702,r 374,.builtin "ExceptionGroup.__weakref__",.none],
 fc "super" [r 374,r 374,r 374],
 fc "builtin_function_or_method" [.builtin "object.__init_subclass__",r 374],
 tu [],
 fl [],
 tu [v "code" 710],
 tu [],
 fN 70 "is_printable",
 co "is_printable" 707 246 1 379 380 [.none,r 381,r 382] 383 711,
 o385,
 tu [],
 fl [],
 tu [v "code" 717],
 tu [],
 fN 71 "is_atom_code",
 co "is_atom_code" 714 248 1 386 387 [.none,r 388,r 389] 390 718,
 o392,
 tu [],
 fl [],
 tu [v "code" 724],
 tu [],
 fN 72 "is_astring_code",
 co "is_astring_code" 721 250 1 393 394 [.none,r 395,r 396] 397 725,
 o399,
 tu [],
 fl [],
 tu [v "code" 731],
 tu [],
 fN 73 "is_value_code",
 co "is_value_code" 728 252 1 400 401 [.none,r 402,r 403] 404 732,
 o406,
 tu [],
 fl [],
 tu [v "code" 738],
 tu [],
 fN 74 "is_set_code",
 co "is_set_code" 735 254 1 407 408 [.none,r 409,r 410] 411 739,
 o413,
 tu [],
 fl [],
 tu [v "code" 745],
 tu [],
 fN 75 "is_figure",
 co "is_figure" 742 256 1 414 415 [.none,r 416,r 417] 418 746,
 o420]
def b9:List Obj:=[
 tu [],
 fl [],
 tu [v "octets" 752,v "number" 753,v "code" 754],
 tu [],
 fN 76 "number_of_figures",
 co "number_of_figures" 749 258 1 421 422 [.none,r 423,r 424] 425 755,
 o427,
 tu [],
 fl [],
 tu [v "number" 761],
 tu [],
 fN 77 "figures_of",
 co "figures_of" 758 263 1 428 429 [.none,r 430,r 431] 432 762,
 o434]
def b10 (P:Params):List Obj:=[
 tu [],
 fc "builtin_function_or_method" [.builtin "type.__prepare__",.type "type"],
 ⟨.type "dict",none,(.dict ⟨[e P "__module__" 772 (v "postkeep.wire" 653),e P "__qualname__" 774 (v "Wire" 773),e P "__firstlineno__" 776 (.int (267) 775),e P "__init__" 786 (r 449),e P "fault" 794 (r 456),e P "peek" 801 (r 463),e P "skip" 809 (r 470),e P "need" 818 (r 477),e P "space" 825 (r 484),e P "done" 832 (r 491),e P "run" 841 (r 498),e P "word_of" 851 (r 505),e P "atom" 858 (r 512),e P "word" 865 (r 519),e P "skip_word" 874 (r 526),e P "set_text" 881 (r 533),e P "flag" 889 (r 540),e P "number" 898 (r 547),e P "quoted" 906 (r 554),e P "literal" 916 (r 561),e P "string" 923 (r 568),e P "string_or" 932 (r 575),e P "astring" 939 (r 582),e P "pattern" 946 (r 589),e P "nstring" 953 (r 596),e P "list_of" 962 (r 603),e P "plain_value" 968 (r 608),e P "value" 978 (r 616),e P "__static_attributes__" 981 (r 617)]⟩ 29),⟨[]⟩⟩,
 tu [],
 fl [i 269,i 4,r 448,i 273,i 4,r 455,i 276,i 4,r 462,i 279,i 4,r 469,i 285,i 4,r 476,i 289,i 4,r 483,i 292,i 4,r 490,i 297,i 4,r 497,i 303,i 4,r 504,i 309,i 4,r 511,i 312,i 4,r 518,i 315,i 4,r 525,i 322,i 4,r 532,i 325,i 4,r 539,i 329,i 4,r 546,i 336,i 4,r 553,i 351,i 4,r 560,i 365,i 4,r 567,i 368,i 4,r 574,i 376,i 4,r 581,i 379,i 4,r 588,i 382,i 4,r 595,i 385,i 4,r 602,i 396,i 4,r 607,i 409,i 4,r 615],
 fc "code" [v "Wire" 767,v "Wire" 768,vc 769,i 267,i 0,i 0,i 0,i 0,r 438,.bool false,i 181,r 439,.none,.none,.none,.none,i 770,i 267,vc 771],
 ⟨.type "frame",none,.plain,⟨[some (r 440),some (r 3),some (r 437),none,some (v "postkeep.wire" 653),none,some (r 0)]⟩⟩,
 tu [.int (0) 777],
 tu [],
 fl [],
 tu [v "self" 781,v "data" 782,v "at" 783],
 tu [],
 fo .none (mem 78 0) (s "Wire.__init__") 0 .none .none .none,
 fc "code" [v "__init__" 778,v "Wire.__init__" 779,vc 780,i 269,i 3,i 0,i 0,i 3,r 443,.bool true,i 181,r 444,.none,r 445,r 446,r 447,i 784,i 269,vc 785],
 o449,
 tu [],
 fl [],
 tu [v "self" 790,v "what" 791],
 tu [],
 fo .none (mem 78 1) (s "Wire.fault") 0 .none .none .none,
 fc "code" [v "fault" 787,v "Wire.fault" 788,vc 789,i 273,i 2,i 0,i 0,i 3,r 450,.bool true,i 181,r 451,.none,r 452,r 453,r 454,i 792,i 273,vc 793],
 o456,
 tu [],
 fl [],
 tu [v "self" 798],
 tu [],
 fo .none (mem 78 2) (s "Wire.peek") 0 .none .none .none,
 fc "code" [v "peek" 795,v "Wire.peek" 796,vc 797,i 276,i 1,i 0,i 0,i 3,r 457,.bool true,i 181,r 458,.none,r 459,r 460,r 461,i 799,i 276,vc 800],
 o463,
 tu [],
 fl [],
 tu [v "self" 805,v "octets" 806],
 tu [],
 fo .none (mem 78 3) (s "Wire.skip") 0 .none .none .none,
 fc "code" [v "skip" 802,v "Wire.skip" 803,vc 804,i 279,i 2,i 0,i 0,i 3,r 464,.bool true,i 181,r 465,.none,r 466,r 467,r 468,i 807,i 279,vc 808],
 o470,
 tu [],
 fl [],
 tu [v "self" 813,v "octets" 814,v "what" 815],
 tu [],
 fo .none (mem 78 4) (s "Wire.need") 0 .none .none .none,
 fc "code" [v "need" 810,v "Wire.need" 811,vc 812,i 285,i 3,i 0,i 0,i 3,r 471,.bool true,i 181,r 472,.none,r 473,r 474,r 475,i 816,i 285,vc 817],
 o477,
 tu [],
 fl [],
 tu [v "self" 822],
 tu [],
 fo .none (mem 78 5) (s "Wire.space") 0 .none .none .none,
 fc "code" [v "space" 819,v "Wire.space" 820,vc 821,i 289,i 1,i 0,i 0,i 3,r 478,.bool true,i 181,r 479,.none,r 480,r 481,r 482,i 823,i 289,vc 824],
 o484,
 tu [],
 fl [],
 tu [v "self" 829],
 tu [],
 fo .none (mem 78 6) (s "Wire.done") 0 .none .none .none,
 fc "code" [v "done" 826,v "Wire.done" 827,vc 828,i 292,i 1,i 0,i 0,i 3,r 485,.bool true,i 181,r 486,.none,r 487,r 488,r 489,i 830,i 292,vc 831],
 o491,
 tu [],
 fl [],
 tu [v "self" 836,v "fits" 837,v "first" 838],
 tu [],
 fo .none (mem 78 7) (s "Wire.run") 0 .none .none .none,
 fc "code" [v "run" 833,v "Wire.run" 834,vc 835,i 297,i 2,i 0,i 0,i 3,r 492,.bool true,i 181,r 493,.none,r 494,r 495,r 496,i 839,i 297,vc 840],
 o498,
 tu [],
 fl [],
 tu [v "self" 845,v "fits" 846,v "what" 847,v "octets" 848],
 tu [],
 fo .none (mem 78 8) (s "Wire.word_of") 0 .none .none .none,
 fc "code" [v "word_of" 842,v "Wire.word_of" 843,vc 844,i 303,i 3,i 0,i 0,i 3,r 499,.bool true,i 181,r 500,.none,r 501,r 502,r 503,i 849,i 303,vc 850],
 o505,
 tu [],
 fl [],
 tu [v "self" 855],
 tu [],
 fo .none (mem 78 9) (s "Wire.atom") 0 .none .none .none,
 fc "code" [v "atom" 852,v "Wire.atom" 853,vc 854,i 309,i 1,i 0,i 0,i 3,r 506,.bool true,i 181,r 507,.none,r 508,r 509,r 510,i 856,i 309,vc 857],
 o512,
 tu [],
 fl [],
 tu [v "self" 862],
 tu [],
 fo .none (mem 78 10) (s "Wire.word") 0 .none .none .none,
 fc "code" [v "word" 859,v "Wire.word" 860,vc 861,i 312,i 1,i 0,i 0,i 3,r 513,.bool true,i 181,r 514,.none,r 515,r 516,r 517,i 863,i 312,vc 864],
 o519,
 tu [],
 fl [],
 tu [v "self" 869,v "text" 870,v "octets" 871],
 tu [],
 fo .none (mem 78 11) (s "Wire.skip_word") 0 .none .none .none,
 fc "code" [v "skip_word" 866,v "Wire.skip_word" 867,vc 868,i 315,i 2,i 0,i 0,i 3,r 520,.bool true,i 181,r 521,.none,r 522,r 523,r 524,i 872,i 315,vc 873],
 o526,
 tu [],
 fl [],
 tu [v "self" 878],
 tu [],
 fo .none (mem 78 12) (s "Wire.set_text") 0 .none .none .none,
 fc "code" [v "set_text" 875,v "Wire.set_text" 876,vc 877,i 322,i 1,i 0,i 0,i 3,r 527,.bool true,i 181,r 528,.none,r 529,r 530,r 531,i 879,i 322,vc 880],
 o533,
 tu [],
 fl [],
 tu [v "self" 885,v "ahead" 886],
 tu [],
 fo .none (mem 78 13) (s "Wire.flag") 0 .none .none .none,
 fc "code" [v "flag" 882,v "Wire.flag" 883,vc 884,i 325,i 1,i 0,i 0,i 3,r 534,.bool true,i 181,r 535,.none,r 536,r 537,r 538,i 887,i 325,vc 888],
 o540,
 tu [],
 fl [],
 tu [v "self" 893,v "first" 894,v "octets" 895],
 tu [],
 fo .none (mem 78 14) (s "Wire.number") 0 .none .none .none,
 fc "code" [v "number" 890,v "Wire.number" 891,vc 892,i 329,i 1,i 0,i 0,i 3,r 541,.bool true,i 181,r 542,.none,r 543,r 544,r 545,i 896,i 329,vc 897],
 o547,
 tu [],
 fl [],
 tu [v "self" 902,v "found" 903],
 tu [],
 fo .none (mem 78 15) (s "Wire.quoted") 0 .none .none .none,
 fc "code" [v "quoted" 899,v "Wire.quoted" 900,vc 901,i 336,i 1,i 0,i 0,i 3,r 548,.bool true,i 181,r 549,.none,r 550,r 551,r 552,i 904,i 336,vc 905],
 o554,
 tu [],
 fl [],
 tu [v "self" 910,v "octets" 911,v "end" 912,v "found" 913],
 tu [],
 fo .none (mem 78 16) (s "Wire.literal") 0 .none .none .none,
 fc "code" [v "literal" 907,v "Wire.literal" 908,vc 909,i 351,i 1,i 0,i 0,i 3,r 555,.bool true,i 181,r 556,.none,r 557,r 558,r 559,i 914,i 351,vc 915],
 o561,
 tu [],
 fl [],
 tu [v "self" 920],
 tu [],
 fo .none (mem 78 17) (s "Wire.string") 0 .none .none .none,
 fc "code" [v "string" 917,v "Wire.string" 918,vc 919,i 365,i 1,i 0,i 0,i 3,r 562,.bool true,i 181,r 563,.none,r 564,r 565,r 566,i 921,i 365,vc 922],
 o568,
 tu [],
 fl [],
 tu [v "self" 927,v "fits" 928,v "octets" 929],
 tu [],
 fo .none (mem 78 18) (s "Wire.string_or") 0 .none .none .none,
 fc "code" [v "string_or" 924,v "Wire.string_or" 925,vc 926,i 368,i 2,i 0,i 0,i 3,r 569,.bool true,i 181,r 570,.none,r 571,r 572,r 573,i 930,i 368,vc 931],
 o575,
 tu [],
 fl [],
 tu [v "self" 936],
 tu [],
 fo .none (mem 78 19) (s "Wire.astring") 0 .none .none .none,
 fc "code" [v "astring" 933,v "Wire.astring" 934,vc 935,i 376,i 1,i 0,i 0,i 3,r 576,.bool true,i 181,r 577,.none,r 578,r 579,r 580,i 937,i 376,vc 938],
 o582,
 tu [],
 fl [],
 tu [v "self" 943],
 tu [],
 fo .none (mem 78 20) (s "Wire.pattern") 0 .none .none .none,
 fc "code" [v "pattern" 940,v "Wire.pattern" 941,vc 942,i 379,i 1,i 0,i 0,i 3,r 583,.bool true,i 181,r 584,.none,r 585,r 586,r 587,i 944,i 379,vc 945],
 o589,
 tu [],
 fl [],
 tu [v "self" 950],
 tu [],
 fo .none (mem 78 21) (s "Wire.nstring") 0 .none .none .none,
 fc "code" [v "nstring" 947,v "Wire.nstring" 948,vc 949,i 382,i 1,i 0,i 0,i 3,r 590,.bool true,i 181,r 591,.none,r 592,r 593,r 594,i 951,i 382,vc 952],
 o596,
 tu [],
 fl [],
 tu [v "self" 957,v "read" 958,v "found" 959],
 tu [],
 fo .none (mem 78 22) (s "Wire.list_of") 0 .none .none .none,
 fc "code" [v "list_of" 954,v "Wire.list_of" 955,vc 956,i 385,i 2,i 0,i 0,i 3,r 597,.bool true,i 181,r 598,.none,r 599,r 600,r 601,i 960,i 385,vc 961],
 o603,
 tu [],
 fl [],
 fo .none (mem 78 23) (s "Wire.plain_value") 0 .none .none .none,
 fc "code" [v "plain_value" 963,v "Wire.plain_value" 964,vc 965,i 396,i 1,i 0,i 0,i 3,r 604,.bool true,i 181,r 605,.none,.none,.none,r 606,i 966,i 396,vc 967],
 o608,
 tu [.int (0) 969],
 tu [],
 fl [],
 tu [v "self" 973,v "depth" 974,v "found" 975],
 tu [],
 fo .none (mem 78 24) (s "Wire.value") 0 .none .none .none,
 fc "code" [v "value" 970,v "Wire.value" 971,vc 972,i 409,i 2,i 0,i 0,i 3,r 610,.bool true,i 181,r 611,.none,r 612,r 613,r 614,i 976,i 409,vc 977],
 o616,
 tu [v "at" 979,v "data" 980],
 o618 P,
 o619,
 fc "getset_descriptor" [v "__dict__" 982,r 619,.builtin "function.__dict__",.builtin "function.__dict__#set"],
 fc "getset_descriptor" [v "__weakref__" 984,r 619,.builtin "ExceptionGroup.__weakref__",.none],
 fc "super" [r 619,r 619,r 619],
 fc "builtin_function_or_method" [.builtin "object.__init_subclass__",r 619]]
def b11:List Obj:=[
 tu [],
 fl [],
 fN 79 "is_quotable",
 co "is_quotable" 989 423 1 624 625 [.none,.none,.none] 626 992,
 o628,
 tu [],
 fl [],
 tu [v "octets" 998,v "found" 999,v "code" 1000],
 tu [],
 fN 80 "quoted_octets",
 co "quoted_octets" 995 425 1 629 630 [.none,r 631,r 632] 633 1001,
 o635,
 tu [.bool false],
 tu [],
 fl [],
 tu [v "octets" 1007,v "is_plus" 1008],
 tu [],
 fN 81 "literal_octets",
 co "literal_octets" 1004 433 2 637 638 [.none,r 639,r 640] 641 1009,
 o643,
 tu [.bool false],
 tu [],
 fl [],
 tu [v "octets" 1015,v "is_plus" 1016],
 tu [],
 fN 82 "string_octets",
 co "string_octets" 1012 435 2 645 646 [.none,r 647,r 648] 649 1017,
 o651,
 tu [.bool false],
 tu [],
 fl [],
 fN 83 "astring_octets",
 co "astring_octets" 1020 439 2 653 654 [.none,.none,.none] 655 1023,
 o657,
 tu [],
 fl [],
 tu [],
 tu [],
 fN 95 "every_letter",
 co "every_letter" 1048 455 0 658 659 [.none,r 660,r 661] 662 1051,
 o664,
 tu [],
 fl [],
 tu [],
 tu [],
 fN 96 "no_letter",
 co "no_letter" 1054 457 0 665 666 [.none,r 667,r 668] 669 1057,
 o671,
 tu [],
 fl [],
 tu [v "code" 1063],
 tu [],
 fN 97 "is_letter_code",
 co "is_letter_code" 1060 459 1 672 673 [.none,r 674,r 675] 676 1064,
 o678,
 tu [],
 fl [],
 tu [v "wire" 1070,v "octets" 1071],
 tu [],
 fN 98 "key_word",
 co "key_word" 1067 461 1 679 680 [.none,r 681,r 682] 683 1072,
 o685,
 tu [],
 fl [],
 tu [v "wire" 1078,v "begin" 1079,v "text" 1080,v "fault" 1081],
 tu [],
 fN 99 "set_here",
 co "set_here" 1075 466 1 686 687 [.none,r 688,r 689] 690 1082,
 o692,
 tu [],
 fl [],
 tu [v "wire" 1088,v "charset" 1089,v "begin" 1090,v "octets" 1091],
 tu [],
 fN 100 "looked_for",
 co "looked_for" 1085 473 2 693 694 [.none,r 695,r 696] 697 1092,
 o699]
def b12:List Obj:=[
 tu [],
 fl [],
 tu [v "wire" 1098,v "begin" 1099],
 tu [],
 fN 101 "day_here",
 co "day_here" 1095 481 1 700 701 [.none,r 702,r 703] 704 1100,
 o706,
 tu [],
 fl [],
 tu [v "wire" 1106],
 tu [],
 fN 102 "number_here",
 co "number_here" 1103 488 1 707 708 [.none,r 709,r 710] 711 1107,
 o713,
 tu [],
 fl [],
 tu [v "wire" 1113,v "begin" 1114],
 tu [],
 fN 103 "word_here",
 co "word_here" 1110 491 1 714 715 [.none,r 716,r 717] 718 1115,
 o720,
 tu [],
 fl [],
 tu [v "wire" 1121,v "sort" 1122],
 tu [],
 fN 104 "modseq_here",
 co "modseq_here" 1118 498 1 721 722 [.none,r 723,r 724] 725 1123,
 o727,
 tu [],
 fl [],
 tu [v "word" 1129],
 tu [],
 fN 105 "flag_leaf",
 co "flag_leaf" 1126 507 1 728 729 [.none,r 730,r 731] 732 1130,
 o734,
 tu [],
 fl [],
 tu [v "wire" 1136,v "word" 1137,v "begin" 1138,v "leaf" 1139],
 tu [],
 fN 106 "keyword_leaf",
 co "keyword_leaf" 1133 515 2 735 736 [.none,r 737,r 738] 739 1140,
 o741,
 tu [],
 fl [],
 tu [v "wire" 1146,v "word" 1147,v "charset" 1148,v "name" 1149],
 tu [],
 fN 107 "leaf_of",
 co "leaf_of" 1143 523 3 742 743 [.none,r 744,r 745] 746 1150,
 o748,
 tu [],
 fl [],
 tu [v "wire" 1156,v "charset" 1157,v "depth" 1158,v "tree" 1159],
 tu [],
 fN 108 "bracket",
 co "bracket" 1153 543 3 749 750 [.none,r 751,r 752] 753 1160,
 o755,
 tu [],
 fl [],
 tu [v "wire" 1166,v "charset" 1167,v "depth" 1168,v "code" 1169,v "word" 1170,v "one" 1171,v "leaf" 1172],
 tu [],
 fN 109 "read_key",
 co "read_key" 1163 549 3 756 757 [.none,r 758,r 759] 760 1173,
 o762,
 tu [],
 fl [],
 tu [v "wire" 1179,v "charset" 1180,v "depth" 1181,v "tree" 1182],
 tu [],
 fN 110 "read_keys",
 co "read_keys" 1176 568 3 763 764 [.none,r 765,r 766] 767 1183,
 o769,
 tu [],
 fl [],
 tu [v "wire" 1189,v "begin" 1190,v "charset" 1191],
 tu [],
 fN 111 "charset_here",
 co "charset_here" 1186 574 1 770 771 [.none,r 772,r 773] 774 1192,
 o776,
 tu [],
 fl [],
 tu [v "wire" 1198],
 tu [],
 fN 112 "read_query",
 co "read_query" 1195 584 1 777 778 [.none,r 779,r 780] 781 1199,
 o783,
 tu [],
 fl [],
 tu [v "wire" 1205,v "text" 1206,v "charset" 1207],
 tu [],
 fN 113 "read_query_in",
 co "read_query_in" 1202 586 2 784 785 [.none,r 786,r 787] 788 1208,
 o790,
 tu [],
 fl [],
 tu [v "tree" 1214,v "found" 1215],
 tu [],
 fN 114 "row_of",
 co "row_of" 1211 591 1 791 792 [.none,r 793,r 794] 795 1216,
 o797]
def b13:List Obj:=[
 tu [],
 fl [],
 tu [v "name" 1222,v "front" 1223],
 tu [],
 fN 115 "show_flag",
 co "show_flag" 1219 598 2 798 799 [.none,r 800,r 801] 802 1224,
 o804,
 tu [],
 fl [],
 tu [v "tree" 1230,v "kind" 1231,v "worth" 1232],
 tu [],
 fN 116 "show_leaf",
 co "show_leaf" 1227 602 1 805 806 [.none,r 807,r 808] 809 1233,
 o811,
 tu [],
 fl [],
 tu [v "tree" 1239,v "kind" 1240],
 tu [],
 fN 117 "show_key",
 co "show_key" 1236 617 1 812 813 [.none,r 814,r 815] 816 1241,
 o818,
 tu [],
 fl [],
 fN 118 "show_query",
 co "show_query" 1244 630 1 819 820 [.none,.none,.none] 821 1247,
 o823,
 tu [],
 fl [],
 tu [v "words" 1255],
 tu [],
 fN 120 "words_part",
 co "words_part" 1252 633 1 824 825 [.none,r 826,r 827] 828 1256,
 o830,
 tu [],
 fl [],
 tu [v "args" 1262,v "tree" 1263,v "wants" 1264,v "found" 1265],
 tu [],
 fN 121 "write_search",
 co "write_search" 1259 635 1 831 832 [.none,r 833,r 834] 835 1266,
 o837,
 tu [],
 fl [],
 tu [v "args" 1272],
 tu [],
 fN 122 "write_thread",
 co "write_thread" 1269 639 1 838 839 [.none,r 840,r 841] 842 1273,
 o844,
 tu [],
 fl [],
 tu [v "word" 1285,v "words" 1286,v "wire" 1287],
 tu [],
 fN 126 "one_of",
 co "one_of" 1282 644 3 845 846 [.none,r 847,r 848] 849 1288,
 o851,
 tu [],
 fl [],
 fN 127 "words_here",
 co "words_here" 1291 648 2 852 853 [.none,.none,.none] 854 1294,
 o856,
 tu [],
 fl [],
 tu [v "wire" 1300,v "wants" 1301],
 tu [],
 fN 128 "read_search",
 co "read_search" 1297 650 1 857 858 [.none,r 859,r 860] 861 1302,
 o863,
 tu [],
 fl [],
 tu [v "wire" 1308,v "charset" 1309],
 tu [],
 fN 129 "query_in_charset",
 co "query_in_charset" 1305 657 1 864 865 [.none,r 866,r 867] 868 1310,
 o870,
 tu [],
 fl [],
 tu [v "wire" 1316,v "way" 1317],
 tu [],
 fN 130 "read_thread",
 co "read_thread" 1313 661 1 871 872 [.none,r 873,r 874] 875 1318,
 o877,
 tu [],
 fl [],
 tu [],
 tu [],
 fN 132 "_law_keys",
 co "_law_keys" 1323 667 0 878 879 [.none,r 880,r 881] 882 1326,
 o884]
def b14:List Obj:=[
 tu [],
 fl [],
 tu [v "read" 1332,v "octets" 1333],
 tu [],
 fN 133 "_law_is_refused",
 co "_law_is_refused" 1329 669 2 885 886 [.none,r 887,r 888] 889 1334,
 o891,
 tu [],
 fl [],
 tu [v "read" 1340,v "octets" 1341,v "args" 1342,v "wire" 1343],
 tu [],
 fN 134 "_law_is_read",
 co "_law_is_read" 1337 675 3 892 893 [.none,r 894,r 895] 896 1344,
 o898,
 tu [],
 fl [],
 fN 135 "law",
 co "law" 1347 678 1 899 900 [.none,.none,.none] 901 1350,
 o903]
def q00 (P:Params):List Obj:=b0a P ++ ((dk 0 0 none (o2 P)) :: ((dk 9 9 (some (v "__main__" 164)) (o3 P)) :: (b0d ++ ((fk 0 (o12)) :: b0f))))
def t0 (P:Params):BT:=insA .nil 0 (q00 P)
def t1 (P:Params):BT:=insA (setA (t0 P) [(2,o2 P),(3,(dk 11 11 (some (v "postkeep.errors" 194)) (o3 P))),(12,(fk 6 (o12)))]) 15 (b1a P ++ ((⟨.type "type",none,(.cls ⟨(s "PostError"),[.type "Exception"],[r 46,.type "Exception",.type "BaseException",.type "object"],45,(s "PostError"),true,[],[],false,none,false⟩),⟨[some (r 22),none,some (v "PostError" 196),some (v "PostError" 204),some (.builtin "Exception.__new__"),some (.bool true)]⟩⟩) :: b1c))
def t2 (P:Params):BT:=insA (setA (t1 P) [(3,(dk 13 13 (some (v "postkeep.errors" 194)) (o3 P))),(12,(fk 12 (o12))),(46,(⟨.type "type",none,(.cls ⟨(s "PostError"),[.type "Exception"],[r 46,.type "Exception",.type "BaseException",.type "object"],45,(s "PostError"),true,[],[r 59,r 71],false,none,false⟩),⟨[some (r 22),none,some (v "PostError" 196),some (v "PostError" 204),some (.builtin "Exception.__new__"),some (.bool true)]⟩⟩))]) 50 (b2 P)
def t3 (P:Params):BT:=insA (setA (t2 P) [(3,(dk 15 15 (some (v "postkeep.errors" 194)) (o3 P))),(12,(fk 18 (o12))),(46,(⟨.type "type",none,(.cls ⟨(s "PostError"),[.type "Exception"],[r 46,.type "Exception",.type "BaseException",.type "object"],45,(s "PostError"),true,[],[r 59,r 71,r 83,r 95],false,none,false⟩),⟨[some (r 22),none,some (v "PostError" 196),some (v "PostError" 204),some (.builtin "Exception.__new__"),some (.bool true)]⟩⟩))]) 74 (b3 P)
def t4 (P:Params):BT:=insA (setA (t3 P) [(3,(dk 18 18 (some (v "postkeep.octets" 332)) (o3 P))),(12,(fk 24 (o12))),(46,o46)]) 98 (b4 P)
def t5 (P:Params):BT:=insA (setA (t4 P) [(3,(dk 38 38 (some (v "postkeep.charsets" 403)) (o3 P))),(12,(fk 63 (o12)))]) 122 b5
def t6 (P:Params):BT:=insA (setA (t5 P) [(3,(dk 53 53 (some (v "postkeep.dates" 512)) (o3 P))),(12,(fk 102 (o12)))]) 202 b6
def t7 (P:Params):BT:=insA (setA (t6 P) [(3,(dk 71 71 (some (v "postkeep.wire" 653)) (o3 P))),(12,(fk 129 (o12)))]) 290 b7
def t8 (P:Params):BT:=insA (setA (t7 P) [(3,(dk 78 78 (some (v "postkeep.wire" 653)) (o3 P))),(12,(fk 150 (o12)))]) 351 (b8 P)
def t9 (P:Params):BT:=insA (setA (t8 P) [(3,(dk 80 80 (some (v "postkeep.wire" 653)) (o3 P))),(12,(fk 156 (o12)))]) 421 b9
def t10 (P:Params):BT:=insA (setA (t9 P) [(3,(dk 81 81 (some (v "postkeep.wire" 653)) (o3 P))),(12,(fk 159 (o12)))]) 435 (b10 P)
def t11 (P:Params):BT:=insA (setA (t10 P) [(3,(dk 102 102 (some (v "postkeep.query" 1026)) (o3 P))),(12,(fk 192 (o12)))]) 624 b11
def t12 (P:Params):BT:=insA (setA (t11 P) [(3,(dk 116 116 (some (v "postkeep.query" 1026)) (o3 P))),(12,(fk 234 (o12)))]) 700 b12
def t13 (P:Params):BT:=insA (setA (t12 P) [(3,(dk 131 131 none (o3 P))),(12,(fk 273 (o12)))]) 798 b13
def t14 (P:Params):BT:=insA (setA (t13 P) [(3,o3 P),(12,o12)]) 885 b14
def hF (P:Params):Heap:=⟨⟨(b0a P ++ (o2 P :: (o3 P :: (b0d ++ (o12 :: (b0f ++ (b1a P ++ (o46 :: (b1c ++ (b2 P ++ (b3 P ++ (b4 P ++ (b5 ++ (b6 ++ (b7 ++ (b8 P ++ (b9 ++ (b10 P ++ (b11 ++ (b12 ++ (b13 ++ b14)))))))))))))))))))))⟩,lf⟩
def hA (P:Params):Heap:=⟨⟨q00 P⟩,lf⟩
noncomputable def bd:List Stmt:=behindTheImports pw
noncomputable def env:Env:={ scope:=pw.main.scope,locals:=mainNs,globals:=mainNs,cells:=[],code:=.ref 13,frame:=some 14 }
noncomputable def cE:Code:=.body bd env
noncomputable def q0:Pos:=⟨0,0,0,0⟩
noncomputable def B:List Frame:=[topFrame q0]
noncomputable def ann:Option Value:=some (.ref 6)
noncomputable def sts (a n:Nat):List Stmt:=tk n (dr a pw.main.body)
def g0:List Stmt:=sts 0 3
def g1:List Stmt:=sts 3 2
def g2:List Stmt:=sts 5 2
def g3:List Stmt:=sts 7 4
def g4:List Stmt:=sts 11 22
def g5:List Stmt:=sts 33 16
def g6:List Stmt:=sts 49 20
def g7:List Stmt:=sts 69 7
def g8:List Stmt:=sts 76 2
def g9:List Stmt:=sts 78 1
def g10:List Stmt:=sts 79 22
def g11:List Stmt:=sts 101 14
def g12:List Stmt:=sts 115 18
def g13:List Stmt:=sts 133 3
end
theorem p0 (w:World):(fun os=>segRunT treeTable pw w 11 ann 1 307 (stt (t0 w.params) 15 187 os) (piecesOf g0 env cE ⟨0,0,0,0⟩ B))=fun os=>some (Flow.next,stt (t1 w.params) 50 236 os,cE,⟨5,0,13,35⟩):=by
 rw [PySem.W.Fast.te10110043849684766642,PySem.W.Fast.te14364793385576792824]
 kernel_rfl
theorem p1 (w:World):(fun os=>segRunT treeTable pw w 11 ann 1 427 (stt (t1 w.params) 50 236 os) (piecesOf g1 env cE ⟨5,0,13,35⟩ B))=fun os=>some (Flow.next,stt (t2 w.params) 74 268 os,cE,⟨16,0,17,8⟩):=by
 rw [PySem.W.Fast.te10110043849684766642,PySem.W.Fast.te14364793385576792824]
 kernel_rfl
theorem p2 (w:World):(fun os=>segRunT treeTable pw w 11 ann 1 427 (stt (t2 w.params) 74 268 os) (piecesOf g2 env cE ⟨16,0,17,8⟩ B))=fun os=>some (Flow.next,stt (t3 w.params) 98 300 os,cE,⟨20,0,21,8⟩):=by
 rw [PySem.W.Fast.te10110043849684766642,PySem.W.Fast.te14364793385576792824]
 kernel_rfl
theorem p3 (w:World):(fun os=>segRunT treeTable pw w 11 ann 1 445 (stt (t3 w.params) 98 300 os) (piecesOf g3 env cE ⟨20,0,21,8⟩ B))=fun os=>some (Flow.next,stt (t4 w.params) 122 336 os,cE,⟨27,0,27,4⟩):=by
 rw [PySem.W.Fast.te10110043849684766642,PySem.W.Fast.te14364793385576792824]
 kernel_rfl
theorem p4 (w:World):(fun os=>segRunT treeTable pw w 11 ann 1 450 (stt (t4 w.params) 122 336 os) (piecesOf g4 env cE ⟨27,0,27,4⟩ B))=fun os=>some (Flow.next,stt (t5 w.params) 202 440 os,cE,⟨85,0,88,72⟩):=by
 rw [PySem.W.Fast.te10110043849684766642,PySem.W.Fast.te14364793385576792824]
 kernel_rfl
theorem p5 (w:World):(fun os=>segRunT treeTable pw w 11 ann 1 440 (stt (t5 w.params) 202 440 os) (piecesOf g5 env cE ⟨85,0,88,72⟩ B))=fun os=>some (Flow.next,stt (t6 w.params) 290 574 os,cE,⟨171,0,172,81⟩):=by
 rw [PySem.W.Fast.te10110043849684766642,PySem.W.Fast.te14364793385576792824]
 kernel_rfl
theorem p6 (w:World):(fun os=>segRunT treeTable pw w 11 ann 1 371 (stt (t6 w.params) 290 574 os) (piecesOf g6 env cE ⟨171,0,172,81⟩ B))=fun os=>some (Flow.next,stt (t7 w.params) 351 671 os,cE,⟨238,0,238,14⟩):=by
 rw [PySem.W.Fast.te10110043849684766642,PySem.W.Fast.te14364793385576792824]
 kernel_rfl
theorem p7 (w:World):(fun os=>segRunT treeTable pw w 11 ann 1 428 (stt (t7 w.params) 351 671 os) (piecesOf g7 env cE ⟨238,0,238,14⟩ B))=fun os=>some (Flow.next,stt (t8 w.params) 421 749 os,cE,⟨256,0,257,27⟩):=by
 rw [PySem.W.Fast.te10110043849684766642,PySem.W.Fast.te14364793385576792824]
 kernel_rfl
theorem p8 (w:World):(fun os=>segRunT treeTable pw w 11 ann 1 61 (stt (t8 w.params) 421 749 os) (piecesOf g8 env cE ⟨256,0,257,27⟩ B))=fun os=>some (Flow.next,stt (t9 w.params) 435 765 os,cE,⟨263,0,266,35⟩):=by
 rw [PySem.W.Fast.te10110043849684766642,PySem.W.Fast.te14364793385576792824]
 kernel_rfl
theorem p9 (w:World):(fun os=>segRunT treeTable pw w 11 ann 1 994 (stt (t9 w.params) 435 765 os) (piecesOf g9 env cE ⟨263,0,266,35⟩ B))=fun os=>some (Flow.next,stt (t10 w.params) 624 989 os,cE,⟨267,0,422,20⟩):=by
 rw [PySem.W.Fast.te10110043849684766642,PySem.W.Fast.te14364793385576792824]
 kernel_rfl
theorem p10 (w:World):(fun os=>segRunT treeTable pw w 11 ann 1 425 (stt (t10 w.params) 624 989 os) (piecesOf g10 env cE ⟨267,0,422,20⟩ B))=fun os=>some (Flow.next,stt (t11 w.params) 700 1095 os,cE,⟨473,0,480,60⟩):=by
 rw [PySem.W.Fast.te10110043849684766642,PySem.W.Fast.te14364793385576792824]
 kernel_rfl
theorem p11 (w:World):(fun os=>segRunT treeTable pw w 11 ann 1 433 (stt (t11 w.params) 700 1095 os) (piecesOf g11 env cE ⟨473,0,480,60⟩ B))=fun os=>some (Flow.next,stt (t12 w.params) 798 1219 os,cE,⟨591,0,597,22⟩):=by
 rw [PySem.W.Fast.te10110043849684766642,PySem.W.Fast.te14364793385576792824]
 kernel_rfl
theorem p12 (w:World):(fun os=>segRunT treeTable pw w 11 ann 1 428 (stt (t12 w.params) 798 1219 os) (piecesOf g12 env cE ⟨591,0,597,22⟩ B))=fun os=>some (Flow.next,stt (t13 w.params) 885 1329 os,cE,⟨667,0,668,635⟩):=by
 rw [PySem.W.Fast.te10110043849684766642,PySem.W.Fast.te14364793385576792824]
 kernel_rfl
theorem p13 (w:World):(fun os=>segRunT treeTable pw w 11 ann 1 89 (stt (t13 w.params) 885 1329 os) (piecesOf g13 env cE ⟨667,0,668,635⟩ B))=fun os=>some (Flow.next,stt (t14 w.params) 904 1353 os,cE,⟨678,0,715,15⟩):=by
 rw [PySem.W.Fast.te10110043849684766642,PySem.W.Fast.te14364793385576792824]
 kernel_rfl
theorem h_pre (w:World):(fun os=>topGo treeTable pw w 11 ann 12 ⟨boot_heap w.params,gs,boot_drawn,boot_toks,os⟩ (topStub pw))=fun os=>some ((⟨hA w.params,gs,dw,187,os⟩:Shared),(⟨denote treeTable cE,cE,⟨0,0,0,0⟩,B⟩:Thread)):=by
 rw [PySem.W.Fast.te15667345088766844465,PySem.W.Fast.te14364793385576792824,PySem.W.Fast.te11892475500146522536]
 kernel_rfl
theorem h_block (w:World):(fun os=>segRun treeTable pw w 11 ann 1 1 ⟨hA w.params,gs,dw,187,os⟩ (blockOf bd env cE ⟨0,0,0,0⟩ B))=fun os=>some (Flow.next,(stt (t0 w.params) 15 187 os).abs,cE,⟨0,0,0,0⟩):=by
 rw [PySem.W.Fast.te14374325043358763698,PySem.W.Fast.te14364793385576792824]
 kernel_rfl
set_option tactic.hygienic true in
theorem h_fin (w:World):(fun os=>topRun treeTable pw w 11 ann 2 (stt (t14 w.params) 904 1353 os).abs ⟨doneF .next,cE,⟨678,0,715,15⟩,B⟩)=fun os=>some (⟨hF w.params,gs,dw,1353,os⟩:Shared):=by
 rw [PySem.W.Fast.te14082659384304107361,PySem.W.Fast.te14364793385576792824]
 kernel_rfl
theorem h_size (w:World):((boot_heap w.params).isNs mainGlobals && gs.size == 0,(boot_heap w.params).objs.size,(boot_heap w.params).nsMap mainGlobals "__annotations__")=(true,11,ann):=by
 kernel_rfl
theorem h_open:∀ w:World,(fencedOpening treeTable pw w 12000).map (fun s=>(s.heap,s.gens,s.drawn,s.toks))=some (boot_heap w.params,gs,boot_drawn,boot_toks):=
 boot_open (p:=pw) (N:=12000) (by kernel_rfl) (by decide +kernel) (fun s=>by kernel_rfl)
theorem h_body:bd=g0 ++ (g1 ++ (g2 ++ (g3 ++ (g4 ++ (g5 ++ (g6 ++ (g7 ++ (g8 ++ (g9 ++ (g10 ++ (g11 ++ (g12 ++ (g13 ++ []))))))))))))):=by kernel_rfl
theorem h_run (w:World) (os:OsState):topRun treeTable pw w 11 ann (12+(1+(307+(427+(427+(445+(450+(440+(371+(428+(61+(994+(425+(433+(428+(89+2)))))))))))))))) ⟨boot_heap w.params,gs,boot_drawn,boot_toks,os⟩ (topStub pw)=some (⟨hF w.params,gs,dw,1353,os⟩:Shared):=by
 have k14:topRun treeTable pw w 11 ann 2 (stt (t14 w.params) 904 1353 os).abs (restOf [] env cE ⟨678,0,715,15⟩ B)=some (⟨hF w.params,gs,dw,1353,os⟩:Shared):=piece_nil (congrFun (h_fin w) os)
 have k13:topRun treeTable pw w 11 ann (89+2) (stt (t13 w.params) 885 1329 os).abs (restOf (g13 ++ []) env cE ⟨667,0,668,635⟩ B)=some (⟨hF w.params,gs,dw,1353,os⟩:Shared):=piece_app (segRun_of (congrFun (p13 w) os)) k14
 have k12:topRun treeTable pw w 11 ann (428+(89+2)) (stt (t12 w.params) 798 1219 os).abs (restOf (g12 ++ (g13 ++ [])) env cE ⟨591,0,597,22⟩ B)=some (⟨hF w.params,gs,dw,1353,os⟩:Shared):=piece_app (segRun_of (congrFun (p12 w) os)) k13
 have k11:topRun treeTable pw w 11 ann (433+(428+(89+2))) (stt (t11 w.params) 700 1095 os).abs (restOf (g11 ++ (g12 ++ (g13 ++ []))) env cE ⟨473,0,480,60⟩ B)=some (⟨hF w.params,gs,dw,1353,os⟩:Shared):=piece_app (segRun_of (congrFun (p11 w) os)) k12
 have k10:topRun treeTable pw w 11 ann (425+(433+(428+(89+2)))) (stt (t10 w.params) 624 989 os).abs (restOf (g10 ++ (g11 ++ (g12 ++ (g13 ++ [])))) env cE ⟨267,0,422,20⟩ B)=some (⟨hF w.params,gs,dw,1353,os⟩:Shared):=piece_app (segRun_of (congrFun (p10 w) os)) k11
 have k9:topRun treeTable pw w 11 ann (994+(425+(433+(428+(89+2))))) (stt (t9 w.params) 435 765 os).abs (restOf (g9 ++ (g10 ++ (g11 ++ (g12 ++ (g13 ++ []))))) env cE ⟨263,0,266,35⟩ B)=some (⟨hF w.params,gs,dw,1353,os⟩:Shared):=piece_app (segRun_of (congrFun (p9 w) os)) k10
 have k8:topRun treeTable pw w 11 ann (61+(994+(425+(433+(428+(89+2)))))) (stt (t8 w.params) 421 749 os).abs (restOf (g8 ++ (g9 ++ (g10 ++ (g11 ++ (g12 ++ (g13 ++ [])))))) env cE ⟨256,0,257,27⟩ B)=some (⟨hF w.params,gs,dw,1353,os⟩:Shared):=piece_app (segRun_of (congrFun (p8 w) os)) k9
 have k7:topRun treeTable pw w 11 ann (428+(61+(994+(425+(433+(428+(89+2))))))) (stt (t7 w.params) 351 671 os).abs (restOf (g7 ++ (g8 ++ (g9 ++ (g10 ++ (g11 ++ (g12 ++ (g13 ++ []))))))) env cE ⟨238,0,238,14⟩ B)=some (⟨hF w.params,gs,dw,1353,os⟩:Shared):=piece_app (segRun_of (congrFun (p7 w) os)) k8
 have k6:topRun treeTable pw w 11 ann (371+(428+(61+(994+(425+(433+(428+(89+2)))))))) (stt (t6 w.params) 290 574 os).abs (restOf (g6 ++ (g7 ++ (g8 ++ (g9 ++ (g10 ++ (g11 ++ (g12 ++ (g13 ++ [])))))))) env cE ⟨171,0,172,81⟩ B)=some (⟨hF w.params,gs,dw,1353,os⟩:Shared):=piece_app (segRun_of (congrFun (p6 w) os)) k7
 have k5:topRun treeTable pw w 11 ann (440+(371+(428+(61+(994+(425+(433+(428+(89+2))))))))) (stt (t5 w.params) 202 440 os).abs (restOf (g5 ++ (g6 ++ (g7 ++ (g8 ++ (g9 ++ (g10 ++ (g11 ++ (g12 ++ (g13 ++ []))))))))) env cE ⟨85,0,88,72⟩ B)=some (⟨hF w.params,gs,dw,1353,os⟩:Shared):=piece_app (segRun_of (congrFun (p5 w) os)) k6
 have k4:topRun treeTable pw w 11 ann (450+(440+(371+(428+(61+(994+(425+(433+(428+(89+2)))))))))) (stt (t4 w.params) 122 336 os).abs (restOf (g4 ++ (g5 ++ (g6 ++ (g7 ++ (g8 ++ (g9 ++ (g10 ++ (g11 ++ (g12 ++ (g13 ++ [])))))))))) env cE ⟨27,0,27,4⟩ B)=some (⟨hF w.params,gs,dw,1353,os⟩:Shared):=piece_app (segRun_of (congrFun (p4 w) os)) k5
 have k3:topRun treeTable pw w 11 ann (445+(450+(440+(371+(428+(61+(994+(425+(433+(428+(89+2))))))))))) (stt (t3 w.params) 98 300 os).abs (restOf (g3 ++ (g4 ++ (g5 ++ (g6 ++ (g7 ++ (g8 ++ (g9 ++ (g10 ++ (g11 ++ (g12 ++ (g13 ++ []))))))))))) env cE ⟨20,0,21,8⟩ B)=some (⟨hF w.params,gs,dw,1353,os⟩:Shared):=piece_app (segRun_of (congrFun (p3 w) os)) k4
 have k2:topRun treeTable pw w 11 ann (427+(445+(450+(440+(371+(428+(61+(994+(425+(433+(428+(89+2)))))))))))) (stt (t2 w.params) 74 268 os).abs (restOf (g2 ++ (g3 ++ (g4 ++ (g5 ++ (g6 ++ (g7 ++ (g8 ++ (g9 ++ (g10 ++ (g11 ++ (g12 ++ (g13 ++ [])))))))))))) env cE ⟨16,0,17,8⟩ B)=some (⟨hF w.params,gs,dw,1353,os⟩:Shared):=piece_app (segRun_of (congrFun (p2 w) os)) k3
 have k1:topRun treeTable pw w 11 ann (427+(427+(445+(450+(440+(371+(428+(61+(994+(425+(433+(428+(89+2))))))))))))) (stt (t1 w.params) 50 236 os).abs (restOf (g1 ++ (g2 ++ (g3 ++ (g4 ++ (g5 ++ (g6 ++ (g7 ++ (g8 ++ (g9 ++ (g10 ++ (g11 ++ (g12 ++ (g13 ++ []))))))))))))) env cE ⟨5,0,13,35⟩ B)=some (⟨hF w.params,gs,dw,1353,os⟩:Shared):=piece_app (segRun_of (congrFun (p1 w) os)) k2
 have k0:topRun treeTable pw w 11 ann (307+(427+(427+(445+(450+(440+(371+(428+(61+(994+(425+(433+(428+(89+2)))))))))))))) (stt (t0 w.params) 15 187 os).abs (restOf (g0 ++ (g1 ++ (g2 ++ (g3 ++ (g4 ++ (g5 ++ (g6 ++ (g7 ++ (g8 ++ (g9 ++ (g10 ++ (g11 ++ (g12 ++ (g13 ++ [])))))))))))))) env cE ⟨0,0,0,0⟩ B)=some (⟨hF w.params,gs,dw,1353,os⟩:Shared):=piece_app (segRun_of (congrFun (p0 w) os)) k1
 rw [<- h_body] at k0
 exact go_top (congrFun (h_pre w) os) (piece_block (congrFun (h_block w) os) k0)
theorem l_said:PySem.Challenge.rw_nz0334_01.wellSaid=true:=by
 rw [PySem.W.Fast.te9446332074065402090]
 kernel_rfl
noncomputable def qv:Program:={ pw with main:={ pw.main with body:=sts 135 1 } }
noncomputable def loo:List Str:=(pw.main.scope.names.map (·.1)).dropLast
theorem l_kept (w:World):(fun (os:OsState)=>(staticsOk (importedModules pw.main.body) (boot_heap w.params) (hF w.params) && namesBound pw (hF w.params) && gensDone ⟨hF w.params,gs,dw,1353,os⟩ && laidKept (boot_heap w.params) (hF w.params)))=fun _=>true:=by
 kernel_rfl
noncomputable abbrev rW:RowW:=OpenRow.toRowW PySem.Challenge.rw_nz0334_01.row
theorem l_looks (w:World):(fun (os:OsState)=>openSeen qv loo (importedModules pw.main.body) (fun s=>xlAt qv [] s && recOk (RowW.records rW) s) true ⟨hF w.params,gs,dw,1353,os⟩)=fun _=>openGood qv loo:=by
 rw [PySem.W.Fast.te4187177175401517315]
 kernel_rfl
end Mine.Hd
end
section
open PySem PySem.W PyProof.Rows PySem.Calls
namespace Mine.Hd
theorem caller_ok:Okay ⟨.builtin "claim.caller" {},none,none,[],none⟩:=⟨by decide +kernel,fun x hx=>by cases hx⟩
theorem ends_R {prog:Program} {w:World} {t:Sem Fin} {s:Shared} {R:Result->Shared->Prop} (hz:s.asleep)
  (h:wpR (model prog w) callerA t (fun fin s'=>∃ f,fin=.done f/\R (.ok f) s'/\leftWithCleanup s'.gens=false) (fun e s'=>R (.error e) s'/\leftWithCleanup s'.gens=false) s):
  ∃ n r s' s'',PySem.runN (denote table) prog w n s ⟨t,.builtin "claim.caller" {},default,[]⟩=.halted (outcomeOf r) s'/\schedN (denote table) prog w n (.single s ⟨t,.builtin "claim.caller" {},default,[]⟩)=.halted (outcomeOf r) s'/\s'.forget=s''.forget/\R r s'':=by
 have h1:=h _ default caller_in caller_ok
 have h2:Sem.wp (model prog w) ⟨.builtin "claim.caller" {},none,none,[],none⟩ t (Sem.finPost (model prog w) ⟨.builtin "claim.caller" {},none,none,[],none⟩ fun r s'=>R r s'/\leftWithCleanup s'.gens=false)
   (fun e _ s'=>R (.error e) s'/\leftWithCleanup s'.gens=false) default s:=by
  refine Sem.wp_mono _ _ t (fun fin p s' h'=>?_) (fun _ _ _ h'=>h') default s h1
  obtain ⟨f,rfl,hf⟩:=h'
  exact hf
 obtain ⟨n,r,sa,sb,a,b,c,d⟩:=wp_halts_full (M:=model prog w) hz h2
 exact ⟨n,r,sb,sa,b,a,c,d⟩
theorem h_left:LeftO pw qv loo (fun s=>xlAt qv [] s && recOk (RowW.records rW) s) (fun s=>s.heap) (fun w=>hF w.params) 12000:=
 LeftO.of_pieces (H₀:=boot_heap) (H₁:=hF) h_open h_size h_run (by decide +kernel) fun w=>by
  funext os
  exact Prod.ext (congrFun (l_kept w) os) (Prod.ext (congrFun (l_looks w) os) rfl)
noncomputable def lawD:DefRec:=match stm 135 with
 |.FunctionDef name args body _ _ _ sc _ _ q=>⟨name,args,body,sc,q⟩
 |_=>⟨default,default,[],default,default⟩
theorem l_ok:(chainsOk qv && opensWell rW.prog && (frees rW && rW.within.isEmpty))=true:=by decide +kernel
theorem l_bare:rW.prog.bare:=⟨rfl,rfl,rfl,rfl,rfl,by decide +kernel⟩
theorem l_word:rW.promised:=⟨[WData.list [WData.int 3,WData.int 1]],by decide +kernel,by decide +kernel⟩
theorem l_def:defOf qv rW.name=some (lawD,[]):=by kernel_rfl
theorem l_the:rW.prog.theDef rW.name=some (lawD.params,lawD.body,lawD.scope):=by kernel_rfl
theorem l_kw:kwWritten? lawD.params.kwonlyargs lawD.params.kw_defaults=some []:=by kernel_rfl
theorem l_name (P:Params):(hF P).nsMap mainGlobals rW.name=some (.ref 903):=by kernel_rfl
theorem l_post (as:List WData):rW.claim.post as (.bool true) as=true:=by kernel_rfl
noncomputable def CallOk:Prop:=∀ (w:World) (s:Shared) (args:List WData) (vs:List Value) (as:List Addr) (cl:Str->Option Addr),(∀ b o,(hF w.params).get? b=some o->s.heap.get? b=some o)->s.heap.NoLimit->s.heap.NoDigits->rW.claim.pre args=true->ReadsAllW [] cl s.heap vs args as->
 wpR (model pw w) callerA (PySem.call (.ref 903) vs) (fun v s'=>v=.bool true/\∃ h t,s'={ s with heap:=h,toks:=t }/\∀ b o,s.heap.get? b=some o->h.get? b=some o) (fun _ _=>False) s
end Mine.Hd
end
section
open PySem PySem.W PyProof.Rows
namespace Mine.Hd
noncomputable def kP (P:Params):Frag:=[(21,o21),(36,o36),(43,o43),(45,o45 P),(46,o46),(58,o58 P),(59,o59),(70,o70 P),(71,o71),(82,o82 P),(83,o83),(94,o94 P),(95,o95),(106,o106 P),(107,o107),(118,o118 P),(119,o119),(128,o128),(133,o133),(138,o138),(143,o143),(148,o148),(153,o153),(160,o160),(167,o167),(174,o174),(182,o182),(189,o189),(196,o196),(201,o201),(208,o208),(215,o215),(222,o222),(229,o229),(236,o236),(243,o243),(250,o250),(258,o258),(265,o265),(272,o272),(277,o277),(284,o284),(289,o289),(296,o296),(303,o303),(310,o310),(317,o317),(324,o324),(331,o331),(338,o338),(345,o345),(350,o350),(364,o364),(371,o371),(373,o373 P),(374,o374),(385,o385),(392,o392),(399,o399),(406,o406),(413,o413),(420,o420),(427,o427),(434,o434),(449,o449),(456,o456),(463,o463),(470,o470),(477,o477),(484,o484),(491,o491),(498,o498),(505,o505),(512,o512),(519,o519),(526,o526),(533,o533),(540,o540),(547,o547),(554,o554),(561,o561),(568,o568),(575,o575),(582,o582),(589,o589),(596,o596),(603,o603),(608,o608),(616,o616),(618,o618 P),(619,o619),(628,o628),(635,o635),(643,o643),(651,o651),(657,o657),(664,o664),(671,o671),(678,o678),(685,o685),(692,o692),(699,o699),(706,o706),(713,o713),(720,o720),(727,o727),(734,o734),(741,o741),(748,o748),(755,o755),(762,o762),(769,o769),(776,o776),(783,o783),(790,o790),(797,o797),(804,o804),(811,o811),(818,o818),(823,o823),(830,o830),(837,o837),(844,o844),(851,o851),(856,o856),(863,o863),(870,o870),(877,o877),(884,o884),(891,o891),(898,o898),(903,o903)]
noncomputable def kAs:List Addr:=[21,36,43,45,46,58,59,70,71,82,83,94,95,106,107,118,119,128,133,138,143,148,153,160,167,174,182,189,196,201,208,215,222,229,236,243,250,258,265,272,277,284,289,296,303,310,317,324,331,338,345,350,364,371,373,374,385,392,399,406,413,420,427,434,449,456,463,470,477,484,491,498,505,512,519,526,533,540,547,554,561,568,575,582,589,596,603,608,616,618,619,628,635,643,651,657,664,671,678,685,692,699,706,713,720,727,734,741,748,755,762,769,776,783,790,797,804,811,818,823,830,837,844,851,856,863,870,877,884,891,898,903]
theorem k_in (P:Params):(kP P).In (hF P):=Frag.in_of (as:=kAs) (by kernel_rfl) (by kernel_rfl)
end Mine.Hd
end
section
open PySem PySem.W PyProof.Rows
namespace Mine
noncomputable def biB:Value->Value->Bool
 |.builtin a,.builtin b=>a == b
 |.type a,.type b=>a == b
 |_,_=>false
theorem biB_ok {a b:Value} (h:biB a b=true):b=a:=by
 induction a with
 |builtin x=>induction b with
  |builtin y=>rw [beq_iff_eq.mp (show (x == y)=true from h)]
  |_=>exact (jh h).elim
 |type x=>induction b with
  |type y=>rw [beq_iff_eq.mp (show (x == y)=true from h)]
  |_=>exact (jh h).elim
 |_=>exact (jh h).elim
noncomputable def rf? (v:Value):Option Addr:=match v with
 |.ref a=>some a
 |_=>none
theorem rf?_eq {v:Value} {a:Addr} (h:rf? v=some a):v=.ref a:=OpP.of (P:=fun a=>v=.ref a) (by induction v<;>first|exact True.intro|exact Eq.refl _) h
noncomputable def sq? (d:Data):Option (Array Value × Nat):=match d with
 |.seq items n=>some (items,n)
 |_=>none
theorem sq?_eq {d:Data} {x} (h:sq? d=some x):d=.seq x.1 x.2:=OpP.of (P:=fun x=>d=.seq x.1 x.2) (by induction d<;>first|exact True.intro|exact Eq.refl _) h
noncomputable def allT:List Bool->Bool
 |[]=>true
 |b :: r=>match b with
  |true=>allT r
  |false=>false
set_option smartUnfolding false in
theorem allT_get {b:Bool}:∀ {l:List Bool},allT l=true->∀ i:Nat,l[i]?=some b->b=true
 |c :: r,h,0,e=>Bt.tt (b:=c) (r:=allT r) h fun h1 _=>jf e▸h1
 |c :: r,h,i+1,e=>Bt.tt (b:=c) (r:=allT r) h fun _ h=>allT_get h i e
noncomputable def rvI (i:Int) (v:Value):Bool:=match v with
 |.int j _=>Z.eqB i j
 |_=>false
noncomputable def rvO (b:Bool) (v:Value):Bool:=match v with
 |.bool c=>b == c
 |_=>false
noncomputable def rvS (l:List Nat) (v:Value):Bool:=match v with
 |.str s _=>eqL s.cps.toList l
 |_=>false
noncomputable def rvY (cs:List Ck) (v:Value):Bool:=match v with
 |.bytes d _=>match conc? cs with
  |some l=>eqL (bN d) l
  |none=>false
 |_=>false
noncomputable def rvF (k:Nat) (v:Value):Bool:=match rf? v with
 |some a=>match ftab.get k with
  |some fi=>Nat.beq a fi.addr
  |none=>false
 |none=>false
noncomputable def rvK (k:Nat) (v:Value):Bool:=match rf? v with
 |some a=>match nth qk k with
  |some b=>Nat.beq a b
  |none=>false
 |none=>false
noncomputable def tupOf (H:Heap) (v:Value):Option (List Value):=match rf? v with
 |some a=>match H.get? a with
  |some o=>match biB (.type "tuple") o.cls with
   |true=>match sq? o.data with
    |some x=>some x.1.toList
    |none=>none
   |false=>none
  |none=>none
 |none=>none
set_option smartUnfolding false
theorem tupOf_ok {H h:Heap} (hk:∀ b o,H.get? b=some o->h.get? b=some o) {v:Value} {l:List Value} (x:tupOf H v=some l):∃ a,v=.ref a/\h.IsTuple a l.toArray:=
 Op.so (o:=rf? v) x fun a ha x=>Op.so (o:=H.get? a) x fun o ho x=>Op.tt x fun hb x=>Op.so (o:=sq? o.data) x fun y hd x=>⟨a,rf?_eq ha,o,hk _ _ ho,biB_ok hb,y.2,by rw [sq?_eq hd,<- jf x]⟩
theorem tuB {o:Option (List Value)} {f:List Value->Bool} (h:(match o with|some vs=>f vs|none=>false)=true) {G:Prop} (k:∀ vs,o=some vs->f vs=true->G):G:=Bt.so h k
theorem notT {b:Bool} (h:(!b)=true):b=false:=by cases b;rfl;exact (jh h).elim
theorem rvI_ok {i:Int} {v:Value} (x:rvI i v=true):∃ t,v=.int i t:=by
 induction v with
 |int j t=>exact ⟨t,by rw [(Z.eqB_iff _ _).mp x]⟩
 |_=>exact (jh x).elim
theorem rvO_ok {b:Bool} {v:Value} (x:rvO b v=true):v=.bool b:=by
 induction v with
 |bool c=>rw [beq_iff_eq.mp (show (b == c)=true from x)]
 |_=>exact (jh x).elim
theorem rvS_ok {l:List Nat} {v:Value} (x:rvS l v=true):∃ t,v=.str (jk l) t:=by
 induction v with
 |str s t=>exact ⟨t,by unfold jk;rw [<- (qd _ _).mp x]⟩
 |_=>exact (jh x).elim
theorem rvY_ok {cs:List Ck} {v:Value} (x:rvY cs v=true) (V:Vl):∃ d t,v=.bytes d t/\bN d=flat V cs:=by
 induction v with
 |bytes d t=>exact Bt.so (o:=conc? cs) x fun l hc x=>⟨d,t,rfl,by rw [(qd _ _).mp x,conc_of hc V]⟩
 |_=>exact (jh x).elim
theorem rvF_ok {k:Nat} {v:Value} (x:rvF k v=true):∃ fi,ftab.get k=some fi/\v=.ref fi.addr:=
 Bt.so (o:=rf? v) x fun a ha x=>Bt.so (o:=ftab.get k) x fun fi hf x=>⟨fi,hf,je x▸rf?_eq ha⟩
theorem rvK_ok {k:Nat} {v:Value} (x:rvK k v=true):∃ a,nth qk k=some a/\v=.ref a:=
 Bt.so (o:=rf? v) x fun a ha x=>Bt.so (o:=nth qk k) x fun b hf x=>⟨b,hf,je x▸rf?_eq ha⟩
set_option smartUnfolding true
mutual
noncomputable def repB (H:Heap):AV->Value->Bool
 |.it i,v=>rvI i v
 |.bo b,v=>rvO b v
 |.st l,v=>rvS l v
 |.by cs,v=>rvY cs v
 |.tu l,v=>match tupOf H v with
  |some vs=>repBs H l vs
  |none=>false
 |.fn k,v=>rvF k v
 |.kl k,v=>rvK k v
 |.bi b,v=>biB (biV b) v
 |_,_=>false
noncomputable def repBs (H:Heap):List AV->List Value->Bool
 |[],vs=>match vs with
  |[]=>true
  |_ :: _=>false
 |a :: r,vs=>match vs with
  |[]=>false
  |v :: s=>match repB H a v with
   |true=>repBs H r s
   |false=>false
end
mutual
theorem repB_ok {H:Heap} {T:Nat->Value->Prop} {V:Vl} {h:Heap} {ρ:Nat->Addr} {nx:Nat} (hk:∀ b o,H.get? b=some o->h.get? b=some o):∀ (a:AV) (v:Value),repB H a v=true->RepG T V h ρ nx a v
 |.it i,v,x=>rvI_ok x
 |.bo b,v,x=>rvO_ok x
 |.st l,v,x=>rvS_ok x
 |.by cs,v,x=>rvY_ok x V
 |.tu l,v,x=>tuB (show (match tupOf H v with|some vs=>repBs H l vs|none=>false)=true from x) fun vs ht x=>(tupOf_ok hk ht).elim fun a h=>⟨a,vs,h.1,h.2,repBs_ok hk l vs x⟩
 |.fn k,v,x=>rvF_ok x
 |.kl k,v,x=>rvK_ok x
 |.bi b,v,x=>biB_ok x
 |.un,v,x|.no,v,x|.ln _ _,v,x|.rg _,v,x|.ce _,v,x|.ob _,v,x|.bm _ _,v,x|.tr _,v,x|.hd _,v,x|.sc _,v,x|.sm _,v,x|.kx _,v,x|.scr,v,x=>Bool.noConfusion (show false=true from x)
theorem repBs_ok {H:Heap} {T:Nat->Value->Prop} {V:Vl} {h:Heap} {ρ:Nat->Addr} {nx:Nat} (hk:∀ b o,H.get? b=some o->h.get? b=some o):∀ (l:List AV) (vs:List Value),repBs H l vs=true->ku T V h ρ nx l vs
 |[],vs,x=>by
  induction vs using List.casesOn with
  |nil=>rfl
  |cons _ _=>exact Bool.noConfusion (show false=true from x)
 |a :: r,[],x=>(jh x).elim
 |a :: r,v :: s,x=>Bt.tt x fun h1 x=>⟨v,s,rfl,repB_ok hk a v h1,repBs_ok hk r s x⟩
end
noncomputable def gloB (m1 m2:Str->Option Value) (H:Heap) (p:Str × AV):Bool:=match Nat.beq p.2.ctorIdx 0 with
 |true=>true
 |false=>match m1 p.1 with
  |some v=>repB H p.2 v
  |none=>match m2 p.1 with
   |some v=>repB H p.2 v
   |none=>false
theorem AV.un_of {a:AV} (h:Nat.beq a.ctorIdx 0=true):a=.un:=by induction a using AV.casesOn<;>first|rfl|exact (jh h).elim
set_option smartUnfolding false
theorem gloB_ok {m1 m2:Str->Option Value} {H:Heap} {p:Str × AV} (h:gloB m1 m2 H p=true) {V:Vl}:
  p.2=.un \/ ∃ v,(m1 p.1=some v \/ (m1 p.1=none/\m2 p.1=some v))/\∀ h ρ nx,(∀ b o,H.get? b=some o->h.get? b=some o)->kz V h ρ nx p.2 v:=
 J.b2 (Φ:=fun b=>b=true) (b:=Nat.beq p.2.ctorIdx 0) h (fun e _=>.inl (AV.un_of e)) fun _ h=>.inr (J.so2 (Φ:=fun b=>b=true) (o:=m1 p.1) h (fun v hv h=>⟨v,.inl hv,fun h' ρ nx hk=>repB_ok hk _ _ h⟩) fun hn h=>Bt.so (o:=m2 p.1) h fun v hv h=>⟨v,.inr ⟨hn,hv⟩,fun h' ρ nx hk=>repB_ok hk _ _ h⟩)
noncomputable def fl? (d:Data):Option (Array Value):=match d with
 |.fields vs=>some vs
 |_=>none
theorem fl?_eq {d:Data} {x} (h:fl? d=some x):d=.fields x:=OpP.of (P:=fun x=>d=.fields x) (by induction d<;>first|exact True.intro|exact Eq.refl _) h
noncomputable def st? (v:Value):Option (Str × Tok):=match v with
 |.str s t=>some (s,t)
 |_=>none
theorem st?_eq {d:Value} {x} (h:st? d=some x):d=.str x.1 x.2:=OpP.of (P:=fun x=>d=.str x.1 x.2) (by induction d<;>first|exact True.intro|exact Eq.refl _) h
set_option smartUnfolding true
noncomputable def codeB (H:Heap) (cd:Value) (q:Str):Bool:=match rf? cd with
 |some c=>match H.get? c with
  |some o=>match fl? o.data with
   |some vs=>match vs[1]? with
    |some v=>match st? v with
     |some s=>eqL s.1.cps.toList q.cps.toList
     |none=>false
    |none=>false
   |none=>false
  |none=>false
 |none=>false
theorem str_eq {a b:Str} (h:a.cps.toList=b.cps.toList):a=b:=by
 cases a;cases b
 simp only [Str.mk.injEq]
 exact Array.toList_inj.mp h
set_option smartUnfolding false in
theorem codeB_ok {H:Heap} {cd:Value} {q:Str} (h:codeB H cd q=true):H.CodeRec cd q:=
 Bt.so (o:=rf? cd) h fun c hc h=>Bt.so (o:=H.get? c) h fun o ho h=>Bt.so (o:=fl? o.data) h fun vs hd h=>Bt.so (o:=vs[1]?) h fun v hv h=>Bt.so (o:=st? v) h fun s hs h=>
  ⟨c,_,vs,s.2,rf?_eq hc,ho,fl?_eq hd,by rw [hv,st?_eq hs,str_eq ((qd _ _).mp h)]⟩
noncomputable def strsB:List Str->List Str->Bool
 |[],l=>match l with
  |[]=>true
  |_ :: _=>false
 |a :: r,l=>match l with
  |[]=>false
  |b :: s=>match eqL a.cps.toList b.cps.toList with
   |true=>strsB r s
   |false=>false
theorem strsB_ok:∀ {a b:List Str},strsB a b=true->a=b
 |[],[],_=>rfl
 |[],_ :: _,h=>(jh h).elim
 |_ :: _,[],h=>(jh h).elim
 |a :: r,b :: s,h=>Bt.tt (r:=strsB r s) h fun h1 h=>by rw [str_eq ((qd _ _).mp h1),strsB_ok h]
noncomputable def noneB {α:Type}:Option α->Bool
 |none=>true
 |some _=>false
noncomputable def nilB {α:Type}:List α->Bool
 |[]=>true
 |_ :: _=>false
theorem noneB_ok {α:Type} {o:Option α} (h:noneB o=true):o=none:=by
 induction o with
 |none=>rfl
 |some _=>exact (jh h).elim
theorem nilB_ok {α:Type} {o:List α} (h:nilB o=true):o=[]:=by
 induction o using List.casesOn with
 |nil=>rfl
 |cons _ _=>exact (jh h).elim
noncomputable def nnB (d:Value):Bool:=match d with
 |.none=>true
 |_=>false
theorem nnB_ok {d:Value} (h:nnB d=true):d=.none:=by induction d<;>first|rfl|exact (jh h).elim
noncomputable def dflB (H:Heap) (l:List AV) (d:Value):Bool:=match l with
 |[]=>nnB d
 |x :: r=>match rf? d with
  |some T=>match H.get? T with
   |some o=>match sq? o.data with
    |some y=>repBs default (x :: r) y.1.toList
    |none=>false
   |none=>false
  |none=>false
noncomputable def stmB:FuncBody->Bool
 |.stmts _=>true
 |.expr _=>false
noncomputable def fnD? (o:Obj):Option FuncData:=match o.data with
 |.func fd=>some fd
 |_=>none
theorem fnD?_eq {o:Obj} {x} (h:fnD? o=some x):o.data=.func x:=by
 obtain ⟨c,d,dt,s⟩:=o
 exact OpP.of (P:=fun x=>dt=.func x) (o:=fnD? ⟨c,d,dt,s⟩) (by clear h;induction dt<;>first|exact True.intro|exact Eq.refl _) h
noncomputable def fnB (H:Heap) (fi:FI):Bool:=match H.get? fi.addr with
 |some o=>match fnD? o with
  |some fd=>allT [scB fi.ec fd.scope,!fd.scope.isCoroutine,!fd.scope.isGenerator,Nat.beq fd.globals mainGlobals,Nat.beq fd.builtins builtinsNs,codeB H fd.code fd.qualname,nilB fd.params.posonlyargs,nilB fd.params.kwonlyargs,noneB fd.params.vararg,noneB fd.params.kwarg,strsB (fd.params.args.map (·.arg)) (fi.ec.names.take fi.np),Nat.ble fi.np fi.ec.names.length,Nat.ble fi.dfl.length fi.np,dflB H fi.dfl fd.defaults,stmB fd.body]
  |none=>false
 |none=>false
noncomputable def bdS:FuncBody->List Stmt
 |.stmts b=>b
 |.expr e=>[.Expr e ⟨0,0,0,0⟩,.Pass ⟨0,0,0,0⟩]
noncomputable def bodyB (H:Heap) (a:Nat):List Stmt:=match H.get? a with
 |some o=>match fnD? o with
  |some fd=>bdS fd.body
  |none=>[]
 |none=>[]
theorem bdS_ok {f:FuncBody} {b:List Stmt} (h:stmB f=true) (e:bdS f=b):f=.stmts b:=by
 induction f with
 |stmts b=>exact congrArg _ e
 |expr e=>exact (jh h).elim
theorem default_get (b:Addr):(default:Heap).get? b=none:=Heap.get?_none_of_le (Nat.zero_le _)
set_option smartUnfolding false in
theorem dflB_ok {H Hz:Heap} (hk:∀ b o,H.get? b=some o->Hz.get? b=some o) {l:List AV} {d:Value} (h:dflB H l d=true) (V:Vl):(l=[]/\d=.none) \/ ∃ T items o n,d=.ref T/\Hz.get? T=some o/\o.data=.seq items n/\∀ h ρ nx,ky V h ρ nx l items.toList:=by
 induction l using List.casesOn with
 |nil=>exact .inl ⟨rfl,nnB_ok h⟩
 |cons x r=>exact Bt.so (o:=rf? d) h fun T hT h=>Bt.so (o:=H.get? T) h fun o ho h=>Bt.so (o:=sq? o.data) h fun y hy h=>.inr ⟨T,y.1,o,y.2,rf?_eq hT,hk _ _ ho,sq?_eq hy,fun h' ρ nx=>repBs_ok (H:=default) (fun b o q=>by rw [default_get] at q;exact (jg _ q.symm).elim) _ _ h⟩
set_option smartUnfolding false in
theorem fn_ok {H Hz:Heap} (hk:∀ b o,H.get? b=some o->Hz.get? b=some o) {fi:FI} (h:fnB H fi=true) (hb:bodyB H fi.addr=kr fi.body fi.ec) (V:Vl):FnOk V Hz fi:=by
 refine Bt.so (o:=H.get? fi.addr) h fun o ho h=>Bt.so (o:=fnD? o) h fun fd hd h=>?_
 have g:∀ i b,_->b=true:=fun i b e=>allT_get (b:=b) h i e
 have hb:bdS fd.body=kr fi.body fi.ec:=by
  rw [<- hb];unfold bodyB;rw [ho];show _=(match fnD? o with|some fd=>bdS fd.body|none=>[]);rw [hd]
 exact ⟨o,fd,hk _ _ ho,fnD?_eq hd,bdS_ok (g 14 _ rfl) hb,g 0 _ rfl,notT (g 1 _ rfl),notT (g 2 _ rfl),je (g 3 _ rfl),je (g 4 _ rfl),(codeB_ok (g 5 _ rfl)).keeps hk,nilB_ok (g 6 _ rfl),nilB_ok (g 7 _ rfl),noneB_ok (g 8 _ rfl),noneB_ok (g 9 _ rfl),strsB_ok (g 10 _ rfl),ble_le (g 11 _ rfl),ble_le (g 12 _ rfl),dflB_ok hk (g 13 _ rfl) V⟩
noncomputable def Tr.allI {α:Type}:(Nat->α->Bool)->Tr α->Bool
 |_,.nil=>true
 |f,.node v l r=>f 0 v && (Tr.allI (fun i=>f (2 * i+1)) l && Tr.allI (fun i=>f (2 * i+2)) r)
theorem odd1 {k:Nat} (h:k % 2=0):2 * (k / 2)+1=k+1:=by rw [Nat.mul_div_cancel' (Nat.dvd_of_mod_eq_zero h)]
theorem odd2 {k:Nat} (h:Nat.beq (k % 2) 0=false):2 * (k / 2)+2=k+1:=by
 rcases Nat.mod_two_eq_zero_or_one k with q|q
 ·rw [q] at h;exact absurd h (by decide)
 ·have:=Nat.div_add_mod k 2
  rw [q] at this
  exact congrArg (·+1) this
set_option smartUnfolding false in
theorem Tr.of_allI {α:Type}:∀ {t:Tr α} {f:Nat->α->Bool} {k:Nat} {v:α},Tr.allI f t=true->t.get k=some v->f k v=true
 |.nil,_,_,_,_,h=>(jg _ h.symm).elim
 |.node v l r,f,0,x,ha,h=>jf h▸(jb.mp ha).1
 |.node v l r,f,k+1,x,ha,h=>by
  have ha:(Tr.allI (fun i=>f (2 * i+1)) l && Tr.allI (fun i=>f (2 * i+2)) r)=true:=(jb.mp ha).2
  have ha:=jb.mp ha
  refine J.b2 (Φ:=fun o=>o=some x) (b:=Nat.beq (k % 2) 0) (r1:=l.get (k / 2)) (r2:=r.get (k / 2)) h (fun e h=>?_) (fun e h=>?_)
  ·have h:f (2 * (k / 2)+1) x=true:=Tr.of_allI (f:=fun i=>f (2 * i+1)) ha.1 h
   rw [odd1 (je e)] at h;exact h
  ·have h:f (2 * (k / 2)+2) x=true:=Tr.of_allI (f:=fun i=>f (2 * i+2)) ha.2 h
   rw [odd2 e] at h;exact h
noncomputable def Tr.map {α β:Type} (f:α->β):Tr α->Tr β
 |.nil=>.nil
 |.node v l r=>.node (f v) (Tr.map f l) (Tr.map f r)
set_option smartUnfolding false in
theorem Tr.map_get {α β:Type} (f:α->β):∀ (t:Tr α) (k:Nat),(Tr.map f t).get k=(t.get k).map f
 |.nil,k=>rfl
 |.node v l r,0=>rfl
 |.node v l r,k+1=>by
  induction hb:Nat.beq (k % 2) 0 with
  |true=>exact (mb_t hb).trans ((Tr.map_get f l _).trans (congrArg (Option.map f) (mb_t (x:=l.get (k / 2)) (y:=r.get (k / 2)) hb).symm))
  |false=>exact (mb_f hb).trans ((Tr.map_get f r _).trans (congrArg (Option.map f) (mb_f (x:=l.get (k / 2)) (y:=r.get (k / 2)) hb).symm))
end Mine
end
section
open PySem PySem.W PyProof.Rows
namespace Mine.Hd
theorem t_glo (P:Params):gtab.all (gloB ((hF P).nsMap mainGlobals) ((hF P).nsMap builtinsNs) (hF P))=true:=by kernel_rfl
theorem t_fn (P:Params):Tr.allI (fun k fi=>Nat.beq k 15 || (Nat.beq k 106 || fnB (hF P) fi)) ftab=true:=by kernel_rfl
theorem t_body (P:Params):Tr.map (fun fi=>bodyB (hF P) fi.addr) ftab=Tr.map (fun fi=>kr fi.body fi.ec) ftab:=by kernel_rfl
theorem t_ns (P:Params):((hF P).isNs mainGlobals && (hF P).isNs builtinsNs)=true:=by kernel_rfl
theorem t_sm (P:Params):((hF P).get? sysModules).isSome=true:=by kernel_rfl
end Mine.Hd
end
section
open PySem PySem.W PyProof.Rows PySem.Calls
namespace Mine.Hd
theorem k_ats2 (P:Params):(match findIn (kP P) (.ref ql) (atAt 2) with|some attr=>noGet (kP P) attr|none=>false)=true/\takerIn (kP P) ql (atAt 2)=some none:=⟨by kernel_rfl,by kernel_rfl⟩
theorem k_ats12 (P:Params):(match findIn (kP P) (.ref ql) (atAt 12) with|some attr=>noGet (kP P) attr|none=>false)=true/\takerIn (kP P) ql (atAt 12)=some none:=⟨by kernel_rfl,by kernel_rfl⟩
noncomputable def fdO (o:Obj):FuncData:=match o.data with
 |.func fd=>fd
 |_=>default
noncomputable def wmB (K:Frag) (x:Nat × Nat):Bool:=match ftab.get x.2 with
 |some fi=>(match findIn K (.ref ql) (atAt x.1) with|some (some (.ref b))=>Nat.beq b fi.addr|_=>false) && (isFn K (.ref fi.addr) && ((match specialIn K (.ref fi.addr) "__get__" with|some (some (.builtin y))=>y == "function.__get__" |_=>false) &&
   ((match takesIn K (.ref fi.addr) with|some false=>true|_=>false) && (!copiedNames.contains (atAt x.1) && (!(atAt 2 == atAt x.1) && !(atAt 12 == atAt x.1))))))
 |none=>false
theorem k_wm (P:Params):wmeth.all (wmB (kP P))=true:=by kernel_rfl
set_option tactic.hygienic true in
theorem k_ko (P:Params):KW (kP P) where
 pg:=by kernel_rfl
 hd:=by kernel_rfl
 ats a h:=by
  rcases okA_iff h with rfl|rfl
  ·have:=k_ats2 P
   induction e:findIn (kP P) (.ref ql) (atAt 2) with
   |none=>rw [e] at this;cases this.1
   |some attr=>rw [e] at this;exact ⟨attr,rfl,this.1,this.2⟩
  ·have:=k_ats12 P
   induction e:findIn (kP P) (.ref ql) (atAt 12) with
   |none=>rw [e] at this;cases this.1
   |some attr=>rw [e] at this;exact ⟨attr,rfl,this.1,this.2⟩
 sa:=by kernel_rfl
 po:=by kernel_rfl
 wm a f h:=by
  have:=List.all_eq_true.mp (k_wm P) _ (look_mem h)
  unfold wmB at this
  split at this
  ·rename_i fi hf
   simp only [Bool.and_eq_true,Bool.not_eq_true'] at this
   obtain ⟨h1,h2,h3,h4,h5,h6,h7⟩:=this
   refine ⟨fi,hf,?_,h2,?_,?_,h5,h6,h7⟩
   ·split at h1
    ·rename_i b hb;rw [hb,je h1]
    ·exact (jh h1).elim
   ·split at h3
    ·rename_i y hy;rw [hy,beq_iff_eq.mp h3]
    ·exact (jh h3).elim
   ·split at h4
    ·rename_i hy;exact hy
    ·exact (jh h4).elim
  ·exact (jh this).elim
theorem k_fnin (P:Params):ftab.all (fun fi=>fnIn (kP P) fi.addr)=true:=by kernel_rfl
theorem k_cl (P:Params):qk.all (fun a=>keepIn (kP P) (.ref a))=true:=by kernel_rfl
theorem k_ex (P:Params):(qk.take 7).all (fun a=>(match mroIn (kP P) a (.type "BaseException") with|some b=>b|none=>false) && ((match typeIn (kP P) (.ref a) with|some (.type t)=>t == "type" |_=>false) && (match mroIn (kP P) a (.ref excC) with|some b=>b|none=>false)))=true:=by kernel_rfl
theorem nth_mem {α:Type}:∀ {l:List α} {k:Nat} {a:α},nth l k=some a->a ∈ l
 |x :: r,0,a,h=>by simp [nth] at h;rw [h];exact List.mem_cons_self
 |x :: r,k+1,a,h=>List.mem_cons_of_mem _ (nth_mem (by simpa [nth] using h))
theorem nth_take {α:Type} {l:List α} {k n:Nat} {a:α} (h:nth l k=some a) (hk:k < n):a ∈ l.take n:=by
 rw [qh] at h
 exact List.mem_of_getElem? (i:=k) (by rw [List.getElem?_take_of_lt hk];exact h)
set_option tactic.hygienic true in
theorem k_kf (P:Params):KF (kP P) where
 fn k fi h:=Tr.of_all (f:=fun fi=>fnIn (kP P) fi.addr) (k_fnin P) h
 cl k a h:=List.all_eq_true.mp (k_cl P) a (nth_mem h)
 ex k a h hk:=by
  have:=List.all_eq_true.mp (k_ex P) a (nth_take h hk)
  simp only [Bool.and_eq_true] at this
  obtain ⟨h1,h2,h3⟩:=this
  refine ⟨?_,?_,?_⟩
  ·split at h1
   ·rename_i b hb;rw [hb,h1]
   ·exact (jh h1).elim
  ·split at h2
   ·rename_i t ht;rw [ht,beq_iff_eq.mp h2]
   ·exact (jh h2).elim
  ·split at h3
   ·rename_i b hb;rw [hb,h3]
   ·exact (jh h3).elim
 c0:=by kernel_rfl
theorem k_wi (P:Params):KWire (kP P) where
 makes:=by kernel_rfl
 init:=⟨_,rfl,by kernel_rfl,by kernel_rfl⟩
theorem k_hcls (P:Params):findCls (kP P) (.type "Exception") (.type "type") "__init__"=some (.val (.builtin "Exception.__init__")):=by kernel_rfl
theorem k_exc (P:Params) {C:Addr} {cn:Str} {oC:Obj} {nm q:Str} {N:Addr} {bs bm:List Value} {hdct:Bool} {sn:List Str} {sub:List Value} {ab:Bool} {col:Option Bool} {dd:Option Addr} {k0 k1 k2 k3 k5:Option Value} (h:(kP P).lookup C=some (excClassObj nm q C N bs bm hdct sn sub ab col dd k0 k1 k2 k3 k5 "Exception.__new__"))
  (h1:bm.contains (.type "Exception")=true/\bm.contains (.type "AttributeError")=false/\bm.contains (.type "NameError")=false/\bm.contains (.type "object")=true/\∀ self,refuseLoop self "__setattr__" (.ref C :: bm)=pure ())
  (h2:findIn (kP P) (.ref C) "__init__"=some (some (.ref jl.addr))/\hasDictIn (kP P) C=true/\findIn (kP P) (.ref C) "__setattr__"=some (some (.builtin "object.__setattr__"))/\takerIn (kP P) C (atAt 1)=some none/\takerIn (kP P) C (atAt 2)=some none):KExc (kP P) C:=
 ⟨⟨nm,q,N,bs,bm,hdct,sn,sub,ab,col,dd,k0,k1,k2,k3,k5,h,h1.1,h1.2.1,h1.2.2.1,h1.2.2.2.1,h1.2.2.2.2⟩,h2.1,h2.2.1,h2.2.2.1,h2.2.2.2.1,h2.2.2.2.2⟩
theorem k_exc46 (P:Params):KExc (kP P) 46:=k_exc P (cn:=default) (oC:=default) (by rfl) ⟨by kernel_rfl,by kernel_rfl,by kernel_rfl,by kernel_rfl,fun self=>by kernel_rfl⟩ ⟨by kernel_rfl,by kernel_rfl,by kernel_rfl,by kernel_rfl,by kernel_rfl⟩
theorem k_exc59 (P:Params):KExc (kP P) 59:=k_exc P (cn:=default) (oC:=default) (by rfl) ⟨by kernel_rfl,by kernel_rfl,by kernel_rfl,by kernel_rfl,fun self=>by kernel_rfl⟩ ⟨by kernel_rfl,by kernel_rfl,by kernel_rfl,by kernel_rfl,by kernel_rfl⟩
theorem k_exc71 (P:Params):KExc (kP P) 71:=k_exc P (cn:=default) (oC:=default) (by rfl) ⟨by kernel_rfl,by kernel_rfl,by kernel_rfl,by kernel_rfl,fun self=>by kernel_rfl⟩ ⟨by kernel_rfl,by kernel_rfl,by kernel_rfl,by kernel_rfl,by kernel_rfl⟩
theorem k_exc83 (P:Params):KExc (kP P) 83:=k_exc P (cn:=default) (oC:=default) (by rfl) ⟨by kernel_rfl,by kernel_rfl,by kernel_rfl,by kernel_rfl,fun self=>by kernel_rfl⟩ ⟨by kernel_rfl,by kernel_rfl,by kernel_rfl,by kernel_rfl,by kernel_rfl⟩
theorem k_exc95 (P:Params):KExc (kP P) 95:=k_exc P (cn:=default) (oC:=default) (by rfl) ⟨by kernel_rfl,by kernel_rfl,by kernel_rfl,by kernel_rfl,fun self=>by kernel_rfl⟩ ⟨by kernel_rfl,by kernel_rfl,by kernel_rfl,by kernel_rfl,by kernel_rfl⟩
theorem k_exc107 (P:Params):KExc (kP P) 107:=k_exc P (cn:=default) (oC:=default) (by rfl) ⟨by kernel_rfl,by kernel_rfl,by kernel_rfl,by kernel_rfl,fun self=>by kernel_rfl⟩ ⟨by kernel_rfl,by kernel_rfl,by kernel_rfl,by kernel_rfl,by kernel_rfl⟩
theorem k_exc119 (P:Params):KExc (kP P) 119:=k_exc P (cn:=default) (oC:=default) (by rfl) ⟨by kernel_rfl,by kernel_rfl,by kernel_rfl,by kernel_rfl,fun self=>by kernel_rfl⟩ ⟨by kernel_rfl,by kernel_rfl,by kernel_rfl,by kernel_rfl,by kernel_rfl⟩
theorem k_excs (P:Params):∀ k C,nth qk k=some C->k < 7->KExc (kP P) C:=by
 intro k C h hk
 exact ltS (P:=fun k=>∀ C,nth qk k=some C->KExc (kP P) C) (ltS (ltS (ltS (ltS (ltS (ltS lt0 (fun _ h=>jf h▸k_exc46 P)) (fun _ h=>jf h▸k_exc59 P)) (fun _ h=>jf h▸k_exc71 P)) (fun _ h=>jf h▸k_exc83 P)) (fun _ h=>jf h▸k_exc95 P)) (fun _ h=>jf h▸k_exc107 P)) (fun _ h=>jf h▸k_exc119 P) k hk C h
theorem g_u8 (P:Params):(hF P).get? jn.addr=some (o201):=by kernel_rfl
theorem g_u8d (P:Params):(o201).data=.func (fdO (o201)):=by kernel_rfl
theorem g_u8b (P:Params):(fdO (o201)).body=.stmts (kr jn.body jn.ec):=by kernel_rfl
theorem g_u8s (P:Params):(fdO (o201)).scope=u8Sc:=by kernel_rfl
theorem g_u8c (P:Params):codeB (hF P) (fdO (o201)).code (fdO (o201)).qualname=true:=by kernel_rfl
theorem g_u8a (P:Params) (v:Value):bindArgs (fdO (o201)) ⟨[v],[]⟩=pure [(Str.ofString "code",v)]:=by kernel_rfl
theorem g_u8g (P:Params):(fdO (o201)).globals=mainGlobals/\(fdO (o201)).builtins=builtinsNs/\(fdO (o201)).closure=[]:=⟨by kernel_rfl,by kernel_rfl,by kernel_rfl⟩
theorem g_wh (P:Params):(hF P).get? jm.addr=some (o856):=by kernel_rfl
theorem g_whd (P:Params):(o856).data=.func (fdO (o856)):=by kernel_rfl
theorem g_whb (P:Params):(fdO (o856)).body=.stmts (kr jm.body jm.ec):=by kernel_rfl
theorem g_whs (P:Params):(fdO (o856)).scope=whSc:=by kernel_rfl
theorem g_whc (P:Params):codeB (hF P) (fdO (o856)).code (fdO (o856)).qualname=true:=by kernel_rfl
theorem g_wha (P:Params) (v u:Value):bindArgs (fdO (o856)) ⟨[v,u],[]⟩=pure [(Str.ofString "wire",v),(Str.ofString "words",u)]:=by kernel_rfl
theorem g_whg (P:Params):(fdO (o856)).globals=mainGlobals/\(fdO (o856)).builtins=builtinsNs/\(fdO (o856)).closure=[]:=⟨by kernel_rfl,by kernel_rfl,by kernel_rfl⟩
theorem g_in (P:Params):(hF P).get? jl.addr=some (o36)/\(o36).cls=.type "function":=⟨by kernel_rfl,by kernel_rfl⟩
theorem g_sta:stab.all (fun p=>eqL p.1.cps.toList p.2)=true:=by kernel_rfl
theorem fix {prog:Program} {w:World} {Hz:Heap} (hk:∀ b o,(hF w.params).get? b=some o->Hz.get? b=some o) (hl:Hz.NoLimit) (hd:Hz.NoDigits):Fix prog w Hz (kP w.params) where
 KX:=(k_in w.params).keeps hk
 KO:=k_ko w.params
 KF:=k_kf w.params
 sm:=by
  obtain ⟨o,ho⟩:=Option.isSome_iff_exists.mp (t_sm w.params)
  exact ⟨o,hk _ _ ho⟩
 G V:={
  nl:=hl
  glo:=by
   have h:=jb.mp (t_ns w.params)
   refine ⟨_,_,(Heap.Ns.of_isNs h.1).keeps hk,(Heap.Ns.of_isNs h.2).keeps hk,fun g p hg=>?_⟩
   rcases gloB_ok (Tr.of_all (t_glo w.params) hg) (V:=V) with e|⟨v,a,b⟩
   ·exact .inl e
   ·exact .inr ⟨v,a,fun h ρ nx hh=>b h ρ nx fun c o e=>hh c o (hk c o e)⟩
  sta:=fun k p h=>by
   have:=Tr.of_all (f:=fun p=>eqL p.1.cps.toList p.2) g_sta h
   refine str_eq ?_
   rw [(qd _ _).mp this];rfl }
 fo V k fi h h1 h2:=by
  have ha:=Tr.of_allI (f:=fun k fi=>Nat.beq k 15 || (Nat.beq k 106 || fnB (hF w.params) fi)) (t_fn w.params) h
  have hb:bodyB (hF w.params) fi.addr=kr fi.body fi.ec:=by
   have e:=congrArg (fun t=>Tr.get t k) (t_body w.params)
   simp only [Tr.map_get,h,Option.map_some,Option.some.injEq] at e
   exact e
  simp only [nbeq h1,nbeq h2,Bool.false_or] at ha
  exact fn_ok hk ha hb V
 u8:=⟨_,_,hk _ _ (g_u8 w.params),g_u8d w.params,g_u8b w.params,g_u8s w.params,(g_u8g w.params).1,(g_u8g w.params).2.1,(codeB_ok (g_u8c w.params)).keeps hk,g_u8a w.params,(g_u8g w.params).2.2⟩
 wo:=⟨_,_,hk _ _ (g_wh w.params),g_whd w.params,g_whb w.params,g_whs w.params,(g_whg w.params).1,(g_whg w.params).2.1,(codeB_ok (g_whc w.params)).keeps hk,g_wha w.params,(g_whg w.params).2.2⟩
 nd:=hd
 hcls:=k_hcls w.params
 ex:=k_excs w.params
 wi:=k_wi w.params
 hfn:=⟨_,hk _ _ (g_in w.params).1,(g_in w.params).2⟩
set_option backward.match.sparseCases true in
theorem pre_len {xs:List WData} (h:WTm.holds [] (.and (.not (.lt (.lit (.int 63)) (.len (.arg 0)))) (.lit (.bool true))) { args:=[.list xs] }=true):xs.length<=63:=by
 have e:WTm.value [] (.and (.not (.lt (.lit (.int 63)) (.len (.arg 0)))) (.lit (.bool true))) { args:=[.list xs] }=(if (63:Int) < xs.length then some (.bool false) else some (.bool true)):=by
  have e2:WTm.value [] (.not (.lt (.lit (.int 63)) (.len (.arg 0)))) { args:=[.list xs] }=some (.bool (!(decide ((63:Int) < xs.length)))):=rfl
  show (match WTm.value [] (.not (.lt (.lit (.int 63)) (.len (.arg 0)))) { args:=[.list xs] } with|some (.bool false)=>some (WData.bool false)|some (.bool true)=>WTm.value [] (.lit (.bool true)) { args:=[.list xs] }|_=>none)=_
  rw [e2]
  by_cases hc:(63:Int) < xs.length
  ·simp [hc]
  ·simp [hc];rfl
 unfold WTm.holds at h
 rw [e] at h
 by_cases hc:(63:Int) < xs.length
 ·rw [if_pos hc] at h;exact (jh h).elim
 ·omega
theorem ints_of {cl:Str->Option Addr} {h:Heap}:∀ {vs:List Value} {xs:List WData} {as:List Addr},ReadsAllW [] cl h vs xs as->WShape.hasItems [] xs .int=true->vs.length=xs.length/\∀ (i:Nat) (v:Value),vs[i]?=some v->∃ z t,v=.int z t
 |[],xs,as,hr,_=>by cases hr;exact ⟨rfl,fun i v e=>by simp at e⟩
 |v :: vs,xs,as,hr,hx=>by
  cases hr with
  |cons r1 r2=>
   simp only [WShape.hasItems,Bool.and_eq_true] at hx
   obtain ⟨z,rfl⟩:=hasW_int hx.1
   obtain ⟨h1,h2⟩:=ints_of r2 hx.2
   refine ⟨by simp [h1],fun i u e=>?_⟩
   induction i using Nat.casesAuxOn with
   |zero=>
    cases r1
    simp at e
    exact ⟨_,_,e.symm⟩
   |succ i=>exact h2 i u (by simpa using e)
noncomputable def zAt (vs:List Value) (i:Nat):Int:=match vs[i]? with
 |some (.int z _)=>z
 |_=>0
noncomputable def ixAt (vs:List Value) (k:Nat):Nat:=(zAt vs (k+1) % 44 % 11).toNat
noncomputable def keyAt (vs:List Value) (j:Nat):AV:=match KT[ixAt vs j]? with
 |some e=>e
 |none=>.un
noncomputable def lawV (vs:List Value) (a:Addr):Vl where
 β j:=kTx (j % 2) (keyAt vs (j / 2))
 τ j:=kTr (keyAt vs j)
 cs:=zAt vs
 ix:=ixAt vs
 scr:=a
noncomputable def lawW (vs:List Value):Nat:=(zAt vs 0 % 44 % 4).toNat
theorem kt_form:∀ e ∈ KT,e=.tu [kTr e,.by (mkCk (kTx 0 e)),.by (mkCk (kTx 1 e))]:=by
 intro e he
 simp only [KT,List.mem_cons,List.not_mem_nil,or_false] at he
 rcases he with rfl|rfl|rfl|rfl|rfl|rfl|rfl|rfl|rfl|rfl|rfl<;>rfl
theorem kt_tree:∀ e ∈ KT,plainA (kTr e)=true/\dep 20 (kTr e)=true/\∃ x r,kTr e=.tu (.st x :: r)/\x ≠ [97,110,100]:=by
 intro e he
 simp only [KT,List.mem_cons,List.not_mem_nil,or_false] at he
 rcases he with rfl|rfl|rfl|rfl|rfl|rfl|rfl|rfl|rfl|rfl|rfl<;>exact ⟨rfl,rfl,_,_,rfl,by decide⟩
theorem kt_len:∀ e ∈ KT,(kTx 0 e).length<=100/\(kTx 1 e).length<=100:=by
 intro e he
 simp only [KT,List.mem_cons,List.not_mem_nil,or_false] at he
 rcases he with rfl|rfl|rfl|rfl|rfl|rfl|rfl|rfl|rfl|rfl|rfl<;>exact ⟨by decide,by decide⟩
theorem ix_lt (vs:List Value) (k:Nat):ixAt vs k < 11:=by
 unfold ixAt
 have h1:=Int.emod_nonneg (zAt vs (k+1) % 44) (show (11:Int) ≠ 0 by decide)
 have h2:=Int.emod_lt_of_pos (zAt vs (k+1) % 44) (show (0:Int) < 11 by decide)
 exact Int.ofNat_lt.mp (Int.lt_of_le_of_lt (Int.le_of_eq (Int.toNat_of_nonneg h1)) h2)
theorem keyAt_eq (vs:List Value) (j:Nat):KT[ixAt vs j]?=some (keyAt vs j)/\keyAt vs j ∈ KT:=by
 have h:ixAt vs j < KT.length:=ix_lt vs j
 unfold keyAt
 rw [List.getElem?_eq_getElem h]
 exact ⟨rfl,List.getElem_mem h⟩
theorem lawV_β (vs:List Value) (a:Addr) (j:Nat):((lawV vs a).β j).length<=100:=by
 have h:=kt_len _ (keyAt_eq vs (j / 2)).2
 show (kTx (j % 2) (keyAt vs (j / 2))).length<=100
 rcases Nat.mod_two_eq_zero_or_one j with e|e<;>rw [e]
 ·exact h.1
 ·exact h.2
theorem lawV_ok (vs:List Value) (a:Addr) (n:Nat):VOk (lawV vs a) (lPar n (lawW vs)) where
 β j:=Nat.le_trans (lawV_β vs a j) (by decide)
 w:=by
  show zAt vs 0 % 44 % 4=((zAt vs 0 % 44 % 4).toNat:Int)
  exact (Int.toNat_of_nonneg (Int.emod_nonneg (zAt vs 0 % 44) (show (4:Int) ≠ 0 by decide))).symm
 ix k:=by
  show ((zAt vs (k+1) % 44 % 11).toNat:Int)=zAt vs (k+1) % 44 % 11
  exact Int.toNat_of_nonneg (Int.emod_nonneg (zAt vs (k+1) % 44) (show (11:Int) ≠ 0 by decide))
 kt j _:=by
  obtain ⟨h1,h2⟩:=keyAt_eq vs j
  refine ⟨kTr (keyAt vs j),?_,rfl⟩
  show KT[ixAt vs j]?=_
  rw [h1]
  have e0:(lawV vs a).β (2 * j)=kTx 0 (keyAt vs j):=by
   show kTx (2 * j % 2) (keyAt vs (2 * j / 2))=_
   rw [Nat.mul_mod_right,Nat.mul_div_cancel_left j Nat.two_pos]
  have e1:(lawV vs a).β (2 * j+1)=kTx 1 (keyAt vs j):=by
   show kTx ((2 * j+1) % 2) (keyAt vs ((2 * j+1) / 2))=_
   rw [Nat.mul_add_mod,Nat.mul_add_div Nat.two_pos];rfl
  rw [e0,e1,<- kt_form _ h2]
 τ j:=kt_tree _ (keyAt_eq vs j).2
theorem lawW_le (vs:List Value):lawW vs<=3:=by
 unfold lawW
 have h1:=Int.emod_nonneg (zAt vs 0 % 44) (show (4:Int) ≠ 0 by decide)
 have h2:=Int.emod_lt_of_pos (zAt vs 0 % 44) (show (0:Int) < 4 by decide)
 exact Nat.le_of_lt_succ (Int.ofNat_lt.mp (Int.lt_of_le_of_lt (Int.le_of_eq (Int.toNat_of_nonneg h1)) h2))
theorem ckTrue_of {r:Res} (h:ckTrue r=true):∃ lo s,r=.fl (.ret (.bo true)) lo s:=by
 unfold ckTrue at h
 induction hr:retOf r with
 |none=>rw [hr] at h;exact (jh h).elim
 |some x=>
 rw [hr] at h
 obtain ⟨a,s⟩:=x
 simp only at h
 obtain ⟨lo,e⟩:=retOf_of hr
 induction ha:boOf a with
 |none=>rw [ha] at h;exact (jh h).elim
 |some b=>
 rw [ha] at h
 have h:b=true:=h
 subst h
 rw [boOf_of ha] at e
 exact ⟨lo,s,e⟩
set_option tactic.hygienic true in
theorem call_ok:CallOk:=by
 intro w s args vs as cl hk hl hd hpre hrd
 obtain ⟨h1,h2⟩:=pre_splitW hpre
 have h1:WShape.hasAll [] args [.list .int]=true:=h1
 obtain ⟨d,r,rfl,hd1,hr⟩:=hasAllW_cons h1
 obtain rfl:=hasAllW_nil hr
 obtain ⟨xs,rfl,hxs⟩:=hasW_list hd1
 have hlen:=pre_len h2
 cases hrd with
 |cons r1 r2=>
 cases r2
 cases r1 with
 |list ho hc hdt items=>
 rename_i a o ws nn as'
 obtain ⟨e1,e2⟩:=ints_of items hxs
 have hL:s.heap.IsList a ws.toList.toArray:=⟨o,ho,hc,nn,by rw [hdt]⟩
 have F:Fix pw w s.heap (kP w.params):=fix hk hl hd
 have O:=lawV_ok ws.toList a (min 4 ws.toList.length)
 have SO:SOk (lawV ws.toList a) (lPar (min 4 ws.toList.length) (lawW ws.toList)) s.heap:=by
  refine ⟨ws.toList,hL,by omega,rfl,fun i v _ hv=>?_⟩
  obtain ⟨z,t,rfl⟩:=e2 i v hv
  refine ⟨t,?_⟩
  show Value.int z t=.int (zAt ws.toList i) t
  unfold zAt
  rw [hv]
 have I:=law_run F O SO (lawV_β ws.toList a) 1000000 lcd
 obtain ⟨lo,sk,hrun⟩:=ckTrue_of (law_true (min 4 ws.toList.length) (lawW ws.toList) (Nat.min_le_left _ _) (lawW_le _))
 unfold lR at hrun
 rw [runK_eq] at hrun
 refine fr fun G g=>?_
 obtain ⟨of,fd,hof,hdf,hbody,hsc,hco,hgen,hgl,hbu,hcd,hp1,hp2,hp3,hp4,hargs,hnp,hdl,hdf'⟩:=(F.fo (lawV ws.toList a) 113 jp (by rfl) (by decide) (by decide)).ex
 refine g ?_
 have CO:=ci_of (cc:=⟨jp.ec,fd.scope⟩) hsc
 have hnd:(jp.ec.names.take jp.np).Nodup:=CO.nd.sublist (List.take_sublist _ _)
 have hln:(jp.ec.names.take jp.np).length=1:=rfl
 have hbind:BindsTo s fd ⟨[.ref a],[]⟩ ((jp.ec.names.take jp.np).zip [Value.ref a]):=by
  intro M A E Q hq
  rcases hdf' with ⟨_,e⟩|⟨T,items',oT,n',q1,q2,q3,q4⟩
  ·refine binds_gen (ds:=[]) hp1 hargs hp2 hp3 hp4 hnd (r:=none) (fun hq'=>by rw [e];exact ji hq') rfl (jj _) (jj _) (Nat.zero_le _) ?_
   exact hq
  ·have hit:items'.toList=[]:=List.length_eq_zero_iff.mp (ku.length (q4 s.heap (fun _=>0) 0))
   refine binds_gen (ds:=items'.toList) hp1 hargs hp2 hp3 hp4 hnd (r:=some items') (fun hq'=>by rw [q1];exact wpAny_seqItems q2 q3 hq') rfl (jj _) (Nat.zero_le _) (by rw [hit];exact Nat.zero_le _) ?_
   rw [hit]
   exact hq
 show wpR _ _ (PySem.call (.ref jp.addr) [.ref a]) _ _ _
 refine ge (codeR_call_def (by decide +kernel) hof hdf hl hcd hbody hbind CO.cell (fun x hx=>?_) (fun h₁ hns hkp=>?_) hco hgen CO.kind)
 ·have hm:x.1 ∈ jp.ec.names:=List.mem_of_mem_take (List.of_mem_zip hx).1
  obtain ⟨i,hi⟩:=List.getElem?_of_mem hm
  exact (CO.names i x.1 hi).1
 have hLn:s.heap.get? s.heap.objs.size=none:=Heap.get?_none_of_le (jj _)
 have R1:Rel (lawV ws.toList a) w.params s.heap [s.heap.objs.size] jp.ec ⟨h₁,s.heap.objs.size,fun _=>0,⟨[],0⟩⟩ (fLoc jp [.scr]):=by
  refine ⟨hkp,fun b q=>?_,rfl,⟨_,hns,fun i x av e1 e2=>?_⟩,fun i c h=>(by cases h),fun i j c d h=>(by cases h),fun i c h=>(by cases h),fun i c h=>(by exact (jg _ h.symm).elim),fun b hb=>?_,List.Pairwise.nil⟩
  ·rcases q with q|⟨i,c,h,_⟩
   ·rw [q];exact hLn
   ·exact (jg _ h.symm).elim
  ·match i,e1,e2 with
   |0,e1,e2=>
    obtain rfl:=jf e1
    obtain rfl:=jf e2
    exact .inr ⟨.ref a,by rfl,rfl⟩
   |i+1,e1,e2=>exact .inl (qp _ i _ e2)
  ·obtain rfl:=List.mem_singleton.mp hb
   refine fr fun G g=>?_
   obtain ⟨o',es',ep',e',d',_⟩:=hns
   refine g ?_
   exact ⟨hLn,o',es',ep',e',d'⟩
 have hfrm:(callEnv fd s.heap.objs.size jp.addr).frame=some s.heap.objs.size:=rfl
 have AO1:AOk lcd [callEnv fd s.heap.objs.size jp.addr] [s.heap.objs.size] (callerA.deeper (callEnv fd s.heap.objs.size jp.addr)):=by
  refine ⟨rfl,?_,?_,rfl,?_,?_,rfl⟩
  ·show 1+claimMargin+1+4 * lcd+20 < recursionLimit
   decide
  ·show 4+3+40 * lcd+100 < cLine
   decide
  ·rw [List.filterMap_cons_some hfrm];rfl
  ·intro env he
   obtain rfl:=List.mem_singleton.mp he
   refine ⟨?_,_,hfrm⟩
   show fd.scope.kind ≠ .module
   rw [CO.kind];decide
 have EO1:EnvOk jp.ec s.heap.objs.size (callEnv fd s.heap.objs.size jp.addr):=⟨CO.kind,rfl,hgl,hbu,CO.names,CO.gls,CO.nd⟩
 have TO1:TopOk [callEnv fd s.heap.objs.size jp.addr] s.heap.objs.size (callEnv fd s.heap.objs.size jp.addr):=⟨⟨[],rfl⟩,rfl⟩
 refine I.ex AO1 EO1 TO1 R1 jp.body s _ _ _ ?_
 show PF _ _ _ _ _ _ _ _ (run (lPar (min 4 ws.toList.length) (lawW ws.toList)) 1000000 lcd jp.ec (fLoc jp [.scr]) ⟨[],0⟩ (.ex jp.body)) _ _
 rw [hrun]
 intro f' W2 t2 hL2 hs2 R2 S2 hf
 obtain ⟨v,rfl,hv⟩:=hf
 have hv:v=.bool true:=hv
 subst hv
 exact ⟨rfl,W2.h,t2,rfl,R2.base⟩
theorem l_within:rW.claim.within=[]:=rfl
theorem l_raises (as:List WData) (c:ExcName):rW.claim.raises as c=false:=rfl
theorem l_call {w:World} {s₀ s₁ s':Shared} {args:List WData} {vs:List Value} {as:List Addr} (L:Laid rW.records w s₀ s₁ args vs as) {v:Value} (hv:v=.bool true) {h:Heap} {t:Nat} (hs:s'={ s₁ with heap:=h,toks:=t }) (hk:∀ b o,s₁.heap.get? b=some o->h.get? b=some o):
  GoodWG rW.claim (classAt s₀.heap) (ExcName.means s₀.heap) args s₁ (.ok (.ret v)) s':=by
 subst hv
 subst hs
 refine ⟨.inl ⟨.bool true,.bool true,[],rfl,l_raises args,.bool true,l_post args,fun _=>⟨List.nodup_nil,fun a ha=>by cases ha⟩⟩,?_,rfl,?_⟩
 ·exact .of_keep hk
 ·exact .of_eq L.gens
noncomputable abbrev rO:OpenRow:=PySem.Challenge.rw_nz0334_01.row
noncomputable def Kept (s:Shared) (h:Heap):Prop:=rO.writes=true->namesKept rW.prog rO.keeps s.heap h/\∀ x ∈ rW.claim.records,∀ a,classAt s.heap x.1=some a->recordClass h a x.1 (x.2.map (·.1))=true
theorem holds_it (call:CallOk):PySem.Challenge.rw_nz0334_01.Holds:=by
 refine holds_law l_said fun said=>⟨said,l_word,?_⟩
 refine fr fun G g=>?_
 obtain ⟨hch,how⟩:=jb.mp (jb.mp l_ok).1
 obtain ⟨hsame,hu,ha,hap,hm⟩:=frees_parts (jb.mp (jb.mp l_ok).2).1
 refine g ?_
 have hi:=ident_freeW hu ha hap
 have left:=fun w=>h_left.behind (XP:=fun mg h=>XL qv [] mg h/\RecFacts (RowW.records rW) h) (fun s e=>⟨xl_of s (jb.mp e).1,recFacts_of (jb.mp e).2⟩) hch w
 refine ⟨⟨l_bare,how,by show (OpenRow.toRowW _).makers.map _=[];rw [hm];rfl⟩,l_word.witness,fun w=>⟨(left w).1,fun s' hs'=>?_⟩⟩
 refine fr fun G g=>?_
 obtain ⟨s₀,hf,hg0,s,hT,hz,hgens,hg,G0,y⟩:=(left w).2 s' hs'
 refine g ?_
 have hgens:s.gens=#[]:=Array.eq_empty_of_size_eq_zero (beq_iff_eq.mp hgens)
 have RF:=G0.X.2
 have G1:Ground qv loo [] (XL qv []) w s (s.heap.nsMap mainGlobals) (s.heap.nsMap builtinsNs) s.heap:=⟨G0.T,G0.B,G0.D,G0.TE,G0.TD,G0.W,G0.X.1,G0.cls,G0.has,G0.apart,G0.once,G0.K⟩
 have G2:Ground qv loo (RowW.records rW) (XL qv []) w s (s.heap.nsMap mainGlobals) (s.heap.nsMap builtinsNs) s.heap:=RF.ground G1
 have y:s.heap=hF w.params:=y
 refine ⟨s₀,hf,hg0,s,hT,fun n hn=>?_,RF.1,RF.2.1,fun args hpre hlay ord hord=>?_⟩
 ·obtain rfl:n=rW.name:=by split at hn<;>simp_all
  exact pinned_of_view hg G1 l_def l_the l_kw
 ·obtain ⟨⟨vs,s₁⟩,hlaid⟩:=Option.isSome_iff_exists.mp (layAllW_isSome (P:=w.params) (ord:=ord) G2.has args rW.args s (pre_splitW hpre).1)
  have keeps:=layAllW_keeps _ _ _ hlaid
  have hal:=layAllW_rest _ _ _ hlaid
  obtain ⟨as,hrd,hin,hold⟩:=reads_layAllW hord _ _ _ hlaid hlay s₁.heap (fun _ _ e=>e)
  have L:Laid rW.records w s s₁ args vs as:=⟨⟨ord,hord,hlaid⟩,hrd,hin,hold,keeps,hal.1.trans hgens,hal.2.2.1⟩
  have hk:∀ b o,(hF w.params).get? b=some o->s₁.heap.get? b=some o:=fun b o e=>keeps b o (by rw [y];exact e)
  have hname:s₁.heap.Ns mainGlobals (s.heap.nsMap mainGlobals):=G2.T.g.keeps keeps
  have hmain:(s.heap.nsMap mainGlobals) rW.name=some (.ref 903):=by rw [y];exact l_name w.params
  have run:=call w s₁ args vs as (classAt s.heap) hk (G2.T.nolimit.keeps keeps) (let ⟨mc,a,b⟩:=G2.T.nodigits;⟨mc,a.keeps keeps,b⟩) hpre hrd
  have fin:∀ v s',(v=.bool true/\∃ h t,s'={ s₁ with heap:=h,toks:=t }/\∀ b o,s₁.heap.get? b=some o->h.get? b=some o)->
    (rW.claim.Ends s args vs s₁ (.ok (.ret v)) s'/\s'.os=s.os/\Kept s s'.heap)/\leftWithCleanup s'.gens=false:=by
   rintro v s' ⟨hv,h,t,hs,hkp⟩
   have g:=l_call L hv hs hkp
   have z:=g.laid (c:=rW.claim) hsame l_within hi L
   exact ⟨⟨z.1,z.2.1,fun q=>⟨namesKept_of hT hg rO.keeps keeps g.2.1.old,fun x hx=>(by cases hx)⟩⟩,leftWithCleanup_false_of_bare z.2.2⟩
  have run2:wpR (model pw w) callerA (do match <- nsGet mainNs rW.name with
    |some f=>do ret (<- PySem.call f vs)
    |none=>unsupported "claim.caller:no-such-global") (fun fin s'=>∃ f,fin=.done f/\(rW.claim.Ends s args vs s₁ (.ok f) s'/\s'.os=s.os/\Kept s s'.heap)/\leftWithCleanup s'.gens=false)
    (fun e s'=>(rW.claim.Ends s args vs s₁ (.error e) s'/\s'.os=s.os/\Kept s s'.heap)/\leftWithCleanup s'.gens=false) s₁:=by
   refine jr (.of (wpAny_nsGet hname ?_))
   rw [hmain]
   exact jr (jq run (fun v s' hv=>jv ⟨_,rfl,fin v s' hv⟩) fun _ _ f=>f.elim)
  refine fr fun G g=>?_
  obtain ⟨k,r,sa,sb,hrun,hsched,hfo,hcase,hos,hkp⟩:=ends_R (R:=fun r s'=>rW.claim.Ends s args vs s₁ r s'/\s'.os=s.os/\Kept s s'.heap) (Shared.asleep_of_life hal.2.2.2 hz) run2
  obtain ⟨eh,_,_,eo,_⟩:=Shared.forget_eq hfo
  refine g ?_
  have hcase:=hcase.congr eh
  rw [<- eh] at hkp
  rw [<- eo] at hos
  have hlife:sa.heap.life=s.heap.life:=(runN_life _ _ _ hrun).trans hal.2.2.2
  refine ⟨vs,s₁,hlaid,k,_,sa,hsched,?_,(fun _ i x hx=>by rw [hgens] at hx;simp at hx),hkp,by rw [hlife],Shared.rest_eq hos⟩
  rcases hcase with ⟨v,rfl,d1,d2,d3,d4,d5⟩|⟨e,ob,cls,rfl,d1,d2,d3,d4,d5⟩
  ·exact .inl ⟨v,rfl,d1,d2,d3,fun b o z _=>d4 b o z,d5⟩
  ·exact .inr ⟨e,ob,cls,rfl,d1,d2,d3,d4,fun b o z _=>d5 b o z⟩
theorem law_holds:PySem.Challenge.rw_nz0334_01.Holds:=holds_it call_ok
end Mine.Hd
end
theorem PySem.Challenge.cw_nz0334_01_holds : PySem.Challenge.rw_nz0334_01.Holds :=
  Mine.Hd.law_holds
