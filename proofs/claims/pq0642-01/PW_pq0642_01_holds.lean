import PyProof.Rows.All
import Wide.All
import OpenK.AllK
import Wide.FinOn
import KE.KLam
import PyProof.ExcAttrAll.Exception
import PyProof.Rows.CatchOwn
import PyProof.ExcInit
import PyProof.ExcClass3
import KE.KDictOf
import PyProof.AttrMissHeap
import KE.KNestM
import Lean
import PySem.Challenge.RW_pq0642_01
set_option Elab.async false
set_option bootstrap.genMatcherCode false
set_option linter.all false
set_option maxRecDepth 1000000
set_option genInjectivity false
set_option genSizeOf false
set_option genCtorIdx false
set_option tactic.hygienic false
set_option compiler.extract_closed false
open PySem PySem.W PySem.Calls PyProof.Rows
set_option hygiene false in
local macro_rules
  | `(tactic| cases $h:ident) => `(tactic| (
    fail_if_success (fail_if_success (have := Eq.symm $h))
    first
    | (revert $h; intro a0; subst a0; fail_if_success (have := a0))
    | focus (injection $h; done)
    | (injection $h with a1 a2; cases a1; cases a2)
    | (injection $h with a1; cases a1)))
  | `(tactic| cases $h:term) => `(tactic| (
    fail_if_success (fail_if_success (have := Eq.symm $h))
    have a0 := $h
    cases a0))
set_option hygiene false in
local macro_rules
  | `(tactic| obtain $p:rcasesPatMed := $e:term) => `(tactic| (refine Classical.byContradiction fun hN => ?_; rcases $e:term with $p:rcasesPatMed; all_goals (refine hN ?_; clear hN)))
local macro_rules
  | `(def $i:declId $s:optDeclSig $v:declVal) => `(noncomputable def $i:declId $s:optDeclSig $v:declVal)
namespace Internal
abbrev SP(α:Type):=α->Shared->Prop
theorem Γ:type_of% @wpAny_bind:=@wpAny_bind
theorem Δ:type_of% @wpAny_pure:=@wpAny_pure
theorem Θ:type_of% @List.mem_of_getElem?:=@List.mem_of_getElem?
theorem Ξ:type_of% @List.not_mem_nil:=@List.not_mem_nil
theorem Φ:type_of% @List.getElem?_eq_getElem:=@List.getElem?_eq_getElem
theorem Ψ:type_of% @Nat.add_sub_cancel_left:=@Nat.add_sub_cancel_left
theorem Ω:type_of% @List.length_map:=@List.length_map
theorem ζ:type_of% @List.prefix_refl:=@List.prefix_refl
theorem η:type_of% @Heap.get?_push_of_some:=@Heap.get?_push_of_some
theorem θ:type_of% @List.prefix_append:=@List.prefix_append
theorem κ:type_of% @of_decide_eq_true:=@of_decide_eq_true
theorem μ:type_of% @List.mem_append_left:=@List.mem_append_left
theorem ξ:type_of% @List.mem_append_right:=@List.mem_append_right
theorem π:type_of% @Array.length_toList:=@Array.length_toList
theorem ς:type_of% @List.length_append:=@List.length_append
theorem τ:type_of% @List.IsPrefix.trans:=@List.IsPrefix.trans
theorem υ:type_of% @Heap.get?_update_self:=@Heap.get?_update_self
theorem χ:type_of% @Heap.get?_update_other:=@Heap.get?_update_other
theorem ω:type_of% @wpAny_holding:=@wpAny_holding
theorem ι:type_of% @wpAny_mono:=@wpAny_mono
theorem δ:type_of% @List.getElem?_map:=@List.getElem?_map
theorem ε:type_of% @Nat.ne_of_beq_eq_false:=@Nat.ne_of_beq_eq_false
theorem ϑ:type_of% @List.nodup_nil:=@List.nodup_nil
theorem ϕ:type_of% @List.mem_map_of_mem:=@List.mem_map_of_mem
theorem ϖ:type_of% @Nat.not_lt_of_le:=@Nat.not_lt_of_le
theorem ϱ:type_of% @Heap.lt_size:=@Heap.lt_size
theorem Ϙ:type_of% @Nat.le_refl:=@Nat.le_refl
theorem ϙ:type_of% @wpAny_standAt:=@wpAny_standAt
theorem Ϛ:type_of% @Nat.lt_of_lt_of_le:=@Nat.lt_of_lt_of_le
theorem ϛ:type_of% @Nat.lt_of_le_of_lt:=@Nat.lt_of_le_of_lt
theorem Ϝ:type_of% @Bool.false_ne_true:=@Bool.false_ne_true
theorem ϝ:type_of% @List.getElem?_append_right:=@List.getElem?_append_right
theorem Ϟ:type_of% @Nat.exists_eq_add_of_le:=@Nat.exists_eq_add_of_le
theorem ϟ:type_of% @Heap.get?_push_size:=@Heap.get?_push_size
theorem Ϡ:type_of% @Heap.SameBut.update:=@Heap.SameBut.update
theorem ϡ:type_of% @decide_eq_false:=@decide_eq_false
theorem Λ:type_of% @Array.getElem?_eq_getElem:=@Array.getElem?_eq_getElem
theorem Υ:type_of% @List.length_cons:=@List.length_cons
theorem ο:type_of% @List.getElem_mem:=@List.getElem_mem
theorem Ja:type_of% @congrArg:=@congrArg
theorem Jb:type_of% @List.map_map:=@List.map_map
theorem Jc:type_of% @Nat.ble_eq_true_of_le:=@Nat.ble_eq_true_of_le
theorem Jd:type_of% @List.lookup_cons:=@List.lookup_cons
theorem Je:type_of% @Nat.le_of_lt_succ:=@Nat.le_of_lt_succ
theorem Jf:type_of% @Nat.le_of_not_lt:=@Nat.le_of_not_lt
theorem Jg:type_of% @List.length_singleton:=@List.length_singleton
theorem Jh:type_of% @Nat.lt_succ_of_le:=@Nat.lt_succ_of_le
theorem Ji:type_of% @List.mem_cons_of_mem:=@List.mem_cons_of_mem
theorem Jj:type_of% @Nat.lt_irrefl:=@Nat.lt_irrefl
theorem Jk:type_of% @Nat.le_trans:=@Nat.le_trans
theorem Jl:type_of% @Nat.ne_of_lt:=@Nat.ne_of_lt
theorem Jm:type_of% @beq_self_eq_true:=@beq_self_eq_true
end Internal
namespace Internal
theorem c_{α:Type}{motive:List α->Prop}(t:List α)(nil:motive [])(cons:∀a l,motive (a::l)):motive t:=List.casesOn t nil cons
end Internal
local macro_rules
  | `(tactic| rfl') => `(tactic| kernel_rfl)
namespace Internal
theorem WQ{P:Nat->Prop}:∀k,k<0->P k:=λk h=>absurd h (Nat.not_lt_zero k)
theorem JC{P:Nat->Prop}{n:Nat}(h:∀k,k<n->P k)(hn:P n):∀k,k<n+1->P k:=λk hk=>(Nat.lt_or_eq_of_le (Nat.le_of_lt_succ hk)).elim (h k) λe=>e▸hn
theorem mc_{α:Type}{a b:α}{l:List α}(h:a∈b::l):a=b\/a∈l:=List.mem_cons.mp h
theorem ms_{α:Type}{a b:α}(h:a∈[b]):a=b:=List.mem_singleton.mp h
theorem ma_{α:Type}{a:α}{l r:List α}(h:a∈l++r):a∈l\/a∈r:=List.mem_append.mp h
theorem al_{α:Type}{p:α->Bool}{l:List α}(h:l.all p=true):∀x∈l,p x=true:=List.all_eq_true.mp h
theorem mm_{α β:Type}{f:α->β}{b:β}{l:List α}(h:b∈l.map f):∃a,a∈l/\f a=b:=List.mem_map.mp h
theorem mi_{α:Type}{a:α}{l:List α}(h:a∈l):∃i:Nat,l[i]?=some a:=List.mem_iff_getElem?.mp h
theorem bf_{b:Bool}(h:b≠true):b=false:=Bool.eq_false_iff.mpr h
theorem lt_{α:Type}{l:List α}{i:Nat}{a:α}(h:l[i]?=some a):i<l.length:=(List.getElem?_eq_some_iff.mp h).1
theorem oi{α:Type}{a b:α}(h:some a=some b):a=b:=Option.some.inj h
theorem nq{a b:Nat}(h:Nat.beq a b=true):a=b:=Nat.eq_of_beq_eq_true h
theorem nl{a b:Nat}(h:Nat.ble a b=true):a<=b:=Nat.le_of_ble_eq_true h
theorem no{α:Type}{x:α}{C:Prop}(h:(none:Option α)=some x):C:=nomatch h
theorem nb{C:Prop}(h:false=true):C:=nomatch h
theorem tf{C:Prop}(h:true=false):C:=nb h.symm
theorem WS{α β:Type}{x:α}{v:Option β}{b:β}{c:β->α}(e:x=Option.rec (motive:=λZ=>α) x c v)(h:v=some b):x=c b:=by subst h;exact e
set_option genCtorIdx true in
inductive BI where
 |len|min|abs|ord|split|index|append|excInit|extend|pop|sorted|dget|lindex
def BI.id:BI->String
 |.len=>"len"|.min=>"min"|.abs=>"abs"|.ord=>"ord"|.split=>"str.split"|.index=>"str.index"|.append=>"list.append"|.excInit=>"Exception.__init__"|.extend=>"list.extend"|.pop=>"list.pop"|.sorted=>"sorted"|.dget=>"dict.get"|.lindex=>"list.index"
set_option genCtorIdx true in
inductive TY where
 |tuple|range|enumerate|bytes|exception|list|dict|int
def TY.name:TY->String
 |.tuple=>"tuple"|.range=>"range"|.enumerate=>"enumerate"|.bytes=>"bytes"|.exception=>"Exception"|.list=>"list"|.dict=>"dict"|.int=>"int"
inductive AV where
 |none|bool (b:Bool)|int (i:Int)|str (s:Str)|bytes (b:List Nat)
 |bi (b:BI)|ty (n:TY)|st (a:Nat)|loc (i:Nat)|junk|sym (c k:Nat)|hd (c k:Nat)|op (k:Nat)|ix (m k:Nat)
def AV.ctorIdx(a:AV):Nat:=AV.casesOn a 0 (λZ=>1) (λZ=>2) (λZ=>3) (λZ=>4) (λZ=>5) (λZ=>6) (λZ=>7) (λZ=>8) 9 (λZ Z=>10) (λZ Z=>11) (λZ=>12) (λZ Z=>13)
structure Nt where
 f:Nat->Str
 op:Nat->Addr
inductive Dw where
 |c (m k:Nat)|y (m k:Nat)
def Dw.m:Dw->Nat
 |.c m _=>m
 |.y m _=>m
def JG(m:Nat):List Str:=Bool.rec (Bool.rec ["NUMERIC","ALPHABETIC-UPPER","ALPHABETIC","ALPHABETIC-LOWER"] ["P","W","Q","F-1","S"] (Nat.beq m 5)) ["P","Q","S"] (Nat.beq m 3)
def ixCls(m:Nat):Nat:=Bool.rec 0 1 (Nat.beq m 4)
def headS(x:Str):Str:=List.rec x (λc Z Z=>⟨#[c]⟩) x.cps.toList
def JR(c:Nat):List Str:=Nat.rec ["P","Q","S","W","F-1"] (λc Z=>Nat.rec ["NUMERIC","ALPHABETIC-UPPER","ALPHABETIC","ALPHABETIC-LOWER"] (λZ Z=>["P","Q","S","W","F-1","","X","A","B"]) c) c
inductive AO where
 |ns (es:List (Str×AV))
 |dict (es:List (Str×AV))
 |list (vs:List AV)
 |tup (vs:List AV)
 |inst (c:Nat) (d:Nat)
 |cell (v:Option AV)
 |clo (cells:List (Str×Nat)) (ps:List Str) (body:Expr) (sc:Scope) (j:Nat) (q:Str)
 |code (q:Str)
 |tab (t:Option (Nat×Nat×Nat))
 |exc (c:Nat) (d:Option Nat) (tb:Option Nat)
 |tb (fl:Option Nat)
 |rng (a b:Int)
 |lit (l k:Nat)
 |sit (x:Str) (k:Nat)
 |rit (n:Nat) (a:Int)
 |eit (j k:Nat)
 |lio (l k:Nat)
 |tit (l k:Nat)
 |dit (d k n:Nat)
 |tap (ds:List Dw)
 |kset (l:List Nat)
 |dead
def AO.ctorIdx(a:AO):Nat:=AO.casesOn a (λZ=>0) (λZ=>1) (λZ=>2) (λZ=>3) (λZ Z=>4) (λZ=>5) (λZ Z Z Z Z Z=>6) (λZ=>7) (λZ=>8) (λZ Z Z=>9) (λZ=>10) (λZ Z=>11) (λZ Z=>12) (λZ Z=>13) (λZ Z=>14) (λZ Z=>15) (λZ Z=>16) (λZ Z=>17) (λZ Z Z=>18) (λZ=>19) (λZ=>20) 21
inductive Tr (α:Type) where
 |nil|node (v:α) (l r:Tr α)
namespace Tr
noncomputable section
variable {α:Type}{v w:α}{l r t t':Tr α}{k i j:Nat}
def get(t:Tr α):Nat->Option α:=Tr.rec (motive:=λZ=>Nat->Option α) (λZ=>none) (λv Z Z gl gr i=>Bool.rec (Bool.rec (gr (Nat.sub (Nat.div i 2) 1)) (gl (Nat.div i 2)) (Nat.beq (Nat.mod i 2) 1)) (some v) (Nat.beq i 0)) t
def ins(t:Tr α):Nat->α->Option (Tr α):=Tr.rec (motive:=λZ=>Nat->α->Option (Tr α)) (λi v=>Bool.rec none (some (.node v .nil .nil)) (Nat.beq i 0))
 (λw l r il ir i v=>Bool.rec (Bool.rec (Option.rec none (λr'=>some (.node w l r')) (ir (Nat.sub (Nat.div i 2) 1) v)) (Option.rec none (λl'=>some (.node w l' r)) (il (Nat.div i 2) v)) (Nat.beq (Nat.mod i 2) 1)) (some (.node v l r)) (Nat.beq i 0)) t
theorem m1(k:Nat):Nat.mod (2*k+1) 2=1:=Nat.mul_add_mod 2 k 1
theorem m2(k:Nat):Nat.mod (2*k+2) 2=0:=Nat.mul_add_mod 2 k 2
theorem d1(k:Nat):Nat.div (2*k+1) 2=k:=Nat.mul_add_div (Nat.succ_pos 1) k 1
theorem d2(k:Nat):Nat.sub (Nat.div (2*k+2) 2) 1=k:=congrArg (Nat.sub · 1) (Nat.mul_add_div (Nat.succ_pos 1) k 2)
theorem WB(k:Nat):(node v l r).get (2*k+1)=l.get k:=by
 show (Bool.rec (r.get _) (l.get _) (Nat.beq (Nat.mod (2*k+1) 2) 1):Option α)=_;rw[m1,d1];rfl
theorem ZX(k:Nat):(node v l r).get (2*k+2)=r.get k:=by
 show (Bool.rec (r.get _) (l.get _) (Nat.beq (Nat.mod (2*k+2) 2) 1):Option α)=_;rw[m2,d2];rfl
theorem ins_odd(k:Nat):(node w l r).ins (2*k+1) v=Option.rec none (λl'=>some (.node w l' r)) (l.ins k v):=by
 show (Bool.rec _ (Option.rec none _ (l.ins _ v)) (Nat.beq (Nat.mod (2*k+1) 2) 1):Option (Tr α))=_;rw[m1,d1];rfl
theorem ins_even(k:Nat):(node w l r).ins (2*k+2) v=Option.rec none (λr'=>some (.node w l r')) (r.ins k v):=by
 show (Bool.rec (Option.rec none _ (r.ins _ v)) _ (Nat.beq (Nat.mod (2*k+2) 2) 1):Option (Tr α))=_;rw[m2,d2];rfl
theorem tri{P:Nat->Prop}(h0:P 0)(h1:∀k,P (2*k+1))(h2:∀k,P (2*k+2))(j:Nat):P j:=
 have:j=0\/(∃k,j=2*k+1)\/∃k,j=2*k+2:=Nat.rec (.inl rfl) (λj ih=>ih.elim (λe=>.inr (.inl ⟨0,congrArg (·+1) e⟩)) λh=>h.elim (λ⟨k,e⟩=>.inr (.inr ⟨k,congrArg (·+1) e⟩)) λ⟨k,e⟩=>.inr (.inl ⟨k+1,congrArg (·+1) e⟩)) j
 this.elim (λe=>e▸h0) λh=>h.elim (λ⟨k,e⟩=>e▸h1 k) λ⟨k,e⟩=>e▸h2 k
theorem getIns:∀{t:Tr α} (i:Nat) {t':Tr α},t.ins i v=some t'->t'.get i=some v/\∀j,j≠i->t'.get j=t.get j:=by
 intro t;induction t with
 |nil=>
  intro i t' h;induction i using Nat.casesAuxOn with
  |zero=>exact oi h▸⟨rfl,tri (P:=λj=>j≠0->(node v nil nil).get j=none) (λq=>absurd rfl q) (λk Z=>WB k) λk Z=>ZX k⟩
  |succ i=>exact nomatch h
 |node w l r ihl ihr=>
  intro i t' h;revert h;refine tri (P:=λi=>(node w l r).ins i v=some t'->t'.get i=some v/\∀j,j≠i->t'.get j=(node w l r).get j) ?_ (λk=>?_) (λk=>?_) i
  ·exactλh=>oi h▸⟨rfl,tri (P:=λj=>j≠0->(node v l r).get j=(node w l r).get j) (λq=>absurd rfl q) (λk Z=>(WB k).trans (WB k).symm) λk Z=>(ZX k).trans (ZX k).symm⟩
  ·rw[ins_odd]
   induction e:l.ins k v with
   |none=>exactλh=>nomatch h
   |some l'=>exactλh=>oi h▸⟨(WB k).trans (ihl k e).1,tri (P:=λj=>j≠2*k+1->(node w l' r).get j=(node w l r).get j) (λZ=>rfl) (λj q=>(WB j).trans (((ihl k e).2 j λz=>q (z▸rfl)).trans (WB j).symm)) λj Z=>(ZX j).trans (ZX j).symm⟩
  ·rw[ins_even]
   induction e:r.ins k v with
   |none=>exactλh=>nomatch h
   |some l'=>exactλh=>oi h▸⟨(ZX k).trans (ihr k e).1,tri (P:=λj=>j≠2*k+2->(node w l l').get j=(node w l r).get j) (λZ=>rfl) (λj Z=>(WB j).trans (WB j).symm) λj q=>(ZX j).trans (((ihr k e).2 j λz=>q (z▸rfl)).trans (ZX j).symm)⟩
end
end Tr
structure St where
 n:Nat
 t:Tr AO
noncomputable section
def St.get(S:St)(i:Nat):Option AO:=S.t.get i
def St.set(S:St)(i:Nat)(o:AO):Option St:=Bool.rec none (Option.rec none (λt=>some ⟨S.n,t⟩) (S.t.ins i o)) (Nat.blt i S.n)
def St.push(S:St)(o:AO):Option St:=Option.rec none (λt=>some ⟨S.n+1,t⟩) (S.t.ins S.n o)
structure Chg(S S':St)(n i:Nat)(o:AO):Prop where
 n:S'.n=n
 self:S'.get i=some o
 other:∀j,j≠i->S'.get j=S.get j
theorem St.push_get{S S':St}{o:AO}(h:S.push o=some S'):Chg S S' (S.n+1) S.n o:=by
 unfold St.push at h;induction e:S.t.ins S.n o with
 |none=>rw[e]at h;exact no h
 |some t=>rw[e]at h;exact oi h▸⟨rfl,(Tr.getIns _ e).1,(Tr.getIns _ e).2⟩
theorem St.set_lt{S S':St}{i:Nat}{o:AO}(h:S.set i o=some S'):i<S.n:=by
 unfold St.set at h;induction e:Nat.blt i S.n with
 |false=>rw[e]at h;exact no h
 |true=>exact nl e
theorem St.set_get{S S':St}{i:Nat}{o:AO}(h:S.set i o=some S'):Chg S S' S.n i o:=by
 unfold St.set at h;rw[show Nat.blt i S.n=true from Nat.ble_eq_true_of_le (St.set_lt h)]at h;induction e:S.t.ins i o with
 |none=>rw[e]at h;exact no h
 |some t=>rw[e]at h;exact oi h▸⟨rfl,(Tr.getIns _ e).1,(Tr.getIns _ e).2⟩
def eqL(a:List Nat):List Nat->Bool:=List.rec (motive:=λZ=>List Nat->Bool) (λb=>List.rec true (λZ Z Z=>false) b) (λa Z ih b=>List.rec false (λc r Z=>Bool.rec false (ih r) (Nat.beq a c)) b) a
def keyL(k:Nat)(l:List Nat):Nat:=List.rec (motive:=λZ=>Nat->Nat) (λk=>k) (λc Z ih k=>ih (k*256+c)) l k
def skey(a:Str):Nat:=keyL 1 a.cps.toList
def sEq(a b:Str):Bool:=Bool.rec false (eqL a.cps.toList b.cps.toList) (Nat.beq (skey a) (skey b))
theorem eqL_self:∀a,eqL a a=true:=by
 intro v0_;induction v0_ with
 |nil=>
  exact rfl
 |cons a l ih=>
  show (Bool.rec false (eqL l l) (Nat.beq a a):Bool)=true;rw[Nat.beq_refl];exact ih
theorem Ws:∀{a b:List Nat},eqL a b=true->a=b
 |[],[],_=>rfl
 |[],_::_,h=>nomatch h
 |_::_,[],h=>nomatch h
 |a::l,b::r,h=>by
  change (Bool.rec false (eqL l r) (Nat.beq a b):Bool)=true at h;induction e:Nat.beq a b with
  |false=>rw[e]at h;exact nb h
  |true=>rw[e]at h;rw[nq e,Ws h]
theorem Wk(a:Str):sEq a a=true:=by unfold sEq;rw[Nat.beq_refl];exact eqL_self _
theorem Jw{a b:Str}(h:sEq a b=true):a=b:=by
 unfold sEq at h;induction e:Nat.beq (skey a) (skey b)with
 |false=>rw[e]at h;exact nb h
 |true=>rw[e]at h;cases a;cases b;exact congrArg Str.mk (Array.toList_inj.mp (Ws h))
theorem Yb{a b:Str}(h:sEq a b=false):a≠b:=λq=>Bool.noConfusion ((Wk b).symm.trans (q▸h))
theorem sEq_of{a b:Str}(h:a≠b):sEq a b=false:=by
 induction e:sEq a b with
 |false=>rfl
 |true=>exact absurd (Jw e) h
theorem sEq_dec(a b:Str):sEq a b=decide (a=b):=by
 induction e:sEq a b with
 |false=>exact(decide_eq_false (Yb e)).symm
 |true=>exact(decide_eq_true (Jw e)).symm
def look{α:Type}(x:Str)(l:List (Str×α)):Option α:=List.rec none (λp Z ih=>Prod.rec (λy v=>Bool.rec ih (some v) (sEq x y)) p) l
def put(x:Str)(v:AV)(l:List (Str×AV)):List (Str×AV):=List.rec [(x,v)] (λp r ih=>Prod.rec (λy Z=>Bool.rec (p::ih) ((x,v)::r) (sEq x y)) p) l
theorem ZR{α:Type}(x:Str)(v:α)(r:List (Str×α)):look x ((x,v)::r)=some v:=by
 show (Bool.rec _ _ (sEq x x):Option α)=_;rw[Wk]
theorem ZV{α:Type}{x y:Str}(h:x≠y)(v:α)(r:List (Str×α)):look x ((y,v)::r)=look x r:=by
 show (Bool.rec _ _ (sEq x y):Option α)=_;rw[sEq_of h];rfl
theorem look_lookup{α:Type}(x:Str):∀l:List (Str×α),look x l=l.lookup x:=by
 intro v0_;induction v0_ with
 |nil=>
  exact rfl
 |cons z9 r ih=>
  obtain ⟨y,v⟩:=z9;by_cases e:x=y
  ·subst e;rw[ZR,List.lookup_cons_self]
  ·rw[ZV e,ih ,List.lookup_cons,show (x==y)=false from beq_eq_false_iff_ne.mpr e]
theorem look_put_self(x:Str)(v:AV):∀es,look x (put x v es)=some v:=by
 intro v0_;induction v0_ with
 |nil=>
  exact ZR x v []
 |cons z9 r ih=>
  obtain ⟨y,u⟩:=z9;show look x (Bool.rec ((y,u)::put x v r) ((x,v)::r) (sEq x y))=_;induction e:sEq x y with
  |true=>exact ZR x v r
  |false=>exact(ZV (Yb e) u _).trans (ih )
theorem look_put_ne{x y:Str}(h:y≠x)(v:AV):∀es,look y (put x v es)=look y es:=by
 intro v0_;induction v0_ with
 |nil=>
  exact ZV h v []
 |cons z9 r ih=>
  obtain ⟨z,u⟩:=z9;show look y (Bool.rec ((z,u)::put x v r) ((x,v)::r) (sEq x z))=_;induction e:sEq x z with
  |true=>exact(ZV h v r).trans (ZV (Jw e▸h) u r).symm
  |false=>
   by_cases q:y=z
   ·subst q;exact(ZR y u _).trans (ZR y u r).symm
   ·exact(ZV q u _).trans ((ih ).trans (ZV q u r).symm)
inductive Out where
 |v (x:AV)|vs (l:List AV)|b (b:Bool)|next|ret (x:AV)|exc (i:Nat)
def Out.ctorIdx(a:Out):Nat:=Out.casesOn a (λZ=>0) (λZ=>1) (λZ=>2) 3 (λZ=>4) (λZ=>5)
inductive R where
 |no|ok (o:Out) (S:St)|ask (i:Nat) (t f:R)
inductive Qb where
 |b (x:Bool)|u (i:Nat)
structure FrA where
 sc:Scope
 l:Nat
 cells:List (Str×Nat)
 hd:Bool
 code:Option Nat
 cn:Str
 he:Option Nat
 cp:Bool
structure FnI where
 ps:List Str
 df:List AV
 body:List Stmt
 sc:Scope
 code:Nat
 qual:Str
structure Kn where
 sob:Nat->Option AO:=λZ=>none
 eqs:Nat->Nat->Option Qb:=λZ Z=>none
 mem:Nat->Nat->Option Qb:=λZ Z=>none
 lmem:Nat->Nat->Option Qb:=λZ Z=>none
 same:Nat->Nat->Option Bool:=λZ Z=>none
 smem:Nat->Str->Option Bool:=λZ Z=>none
 dget:Nat->Nat->Option AV:=λZ Z=>none
 oatt:Nat->Str->Option AV:=λZ Z=>none
 fst:Nat->Option AV:=λZ=>none
 gl:List (Str×AV):=[]
 dk:List Nat->Option (List Str):=λZ=>none
structure Cx where
 P:Params
 kn:Kn
 sp:List Nat
 ora:Nat->List AV->St->R
 lam:Bool:=true
end
end Internal
set_option maxHeartbeats 0
namespace MineH
noncomputable section
/- the top's run,in trees,by the library's own quick forms -/
noncomputable abbrev P0:Program:=PySem.Challenge.pw_pq0642_01
def treeOf:List Obj->Nat->BT->BT
 |[],_,t=>t
 |o::l,n,t=>treeOf l (n+1) (t.ins n o)
def bootL(P:Params):List Obj:=(boot_heap P).objs.toList
def s0(P:Params)(os:OsState):SharedT:=⟨treeOf (bootL P) 0 .nil,(bootL P).length,(boot_heap P).life,#[],boot_drawn,boot_toks,os⟩
noncomputable abbrev stepQ:=Fast.tw10156331382660048174
noncomputable abbrev okQ:=Fast.tw6613529449190102663
noncomputable abbrev denQ:=Fast.tw11892475500146522536 Fast.tw14364793385576792824
noncomputable abbrev seenQ:=@Fast.tw4187177175401517315
def runQ(p:Program)(w:World)(n₀:Nat)(ann:Option Value)(n:Nat):SharedT->Thread->Option SharedT:=
 @Nat.rec (λZ=>SharedT->Thread->Option SharedT) (λZ Z=>none) (λZ ih s t=>match through t with
  |true=>some s
  |false=>match okQ n₀ ann t with
   |false=>none
   |true=>match stepQ denQ p w s t with
    |some (s',t')=>ih s' t'
    |none=>none) n
theorem runQ_spec{p:Program}{w:World}{n₀:Nat}{ann:Option Value}:∀(n:Nat) (s r:SharedT) (t:Thread),runQ p w n₀ ann n s t=some r->topRun treeTable p w n₀ ann n s.abs t=some r.abs:=by
 intro n;induction n with
 |zero=>exactλZ Z Z h=>nomatch h
 |succ n ih=>
  intro s r t h;unfold topRun;have h:(match through t with
   |true=>some s
   |false=>match okQ n₀ ann t with
    |false=>none
    |true=>match stepQ denQ p w s t with
     |some (s',t')=>runQ p w n₀ ann n s' t'
     |none=>none)=some r:=h
  rw[show @okQ=@stepOk from Fast.te6613529449190102663.symm,show stepQ=@stepT from Fast.te10156331382660048174.symm,show denQ=denote treeTable by rw[Fast.te11892475500146522536,Fast.te14364793385576792824]]at h;induction ht:through t with
  |true=>rw[ht]at h;rw[<-Option.some.inj h]
  |false=>
   rw[ht]at h;induction hk:stepOk n₀ ann t with
   |false=>rw[hk]at h;exact nomatch h
   |true=>
    rw[hk]at h;dsimp only at h ⊢;induction hs:stepT (denote treeTable) p w s t with
    |none=>rw[hs]at h;exact nomatch h
    |some x=>
     rw[hs]at h;rw[stepT_spec hs];exact ih x.1 r x.2 h
/- what we keep of the heap behind the top -/
def s(x:String)(t:Nat):Value:=.str (.ofString x) t
def r(a:Nat):Value:=.ref a
def n0:Value:=.none
def e(P:Params)(x:String)(t:Nat)(v:Value):DictEntry:=⟨PyData.keyHash P (.ofString x),.str (.ofString x) t,v⟩
def pick(i:Nat)(l:List Stmt):Stmt:=(l[i]?).getD (.Pass default)
def fT(i:Nat):Stmt:=pick i P0.main.body
def fC(i j:Nat):Stmt:=match fT i with|.ClassDef _ _ _ b ..=>pick j b|x=>x
def fn(st:Stmt)(q:String)(g:Addr)(cl:List (Str×Addr))(d kd dc m:Value)(an:Option Addr)(c ct:Value)(b:Addr):FuncData:=match st with
 |.FunctionDef n ps body _ _ _ sc ..=>⟨n,.ofString q,ps,.stmts body,sc,g,cl,d,kd,dc,m,an,c,ct,b⟩
 |_=>default
def cd(n q:String)(t:Nat)(a b c d e:Int)(x:Nat)(f:Int)(y:Nat)(u v:Value)(z g:Nat):Obj:=⟨.type "code",none,.fields #[s n t,s q (t+1),s "/claim/cut.py" (t+2),.int a 0,.int b 0,.int c 0,.int d 0,.int e 0,r x,.bool true,.int f 0,r y,n0,u,v,r z,.int g 0,.int a 0,s "/claim/cut.py" (g+1)],#[]⟩
def fo(a:Stmt)(b:String)(c:Addr)(d:List (Str×Addr))(e f g i:Value)(j:Option Addr)(k l:Value)(m:Addr):Obj:=⟨.type "function",none,.func (fn a b c d e f g i j k l m),#[]⟩
def KL:List Addr:=[2,29,30,36,37,46,47,48,59,60,71,72,82,88,89,95,96,123,124,130,131,144,145,154,155,156,157,172,173,179,180,193,194,201,202,203,204,219,220,227,228,229,230,238,239,245,246,252,253,259,260,266,267,271,272,273,279,280,293,294,300,301,307,308,314,315,321,322,326,327,333,334,340,341,347,348,354,355,361,362,368,369,375,376,382,383,389,390,391,392,393,394,395,396,397,403,404,410,411,417,418,424,425,431,432,445,446,452,453,459,460,466,467,473,474,480,481,487,488,494,495,501,502,508,509,515,516,522,523,525,526,527,528,534,535,536,542,543,549,550,556,557,563,564,570,571,575,576,584,590,591,592,598,599,612,613,619,620,621,627,628,634,635,641,642,655,656,664,670,671,677,678,686,692,693,699,700,706,707,713,714,720,721,741,742,744,745,746,747,755,756,764,765,771,772,781,782,783,784,787,788,794,795,801,802,806,807,813,814,820,821,827,828,832,833,839,840,844,845]
def KR(P:Params):Frag:=[(2,⟨n0,none,(.dict ⟨[e P "type.__subclasses__.Exception.0" 232 (.int 47 0),e P "type.__subclasses__.Exception.n" 233 (.int 1 0)]⟩ 2),#[]⟩),
(29,⟨(.type "tuple"),none,(.seq #[(.int 0 208),(.int 0 209)] 0),#[]⟩),
(30,⟨(.type "tuple"),none,(.seq #[(r 29)] 0),#[]⟩),
(36,cd "__init__" "LedgerError.__init__" 210 7 3 0 0 3 31 181 32 (r 33) (r 34) 35 216),
(37,fo (fC 2 0) "LedgerError.__init__" 3 [] (r 30) n0 n0 (s "ledgerspeak.errors" 194) none (r 36) n0 0),
(46,⟨(.type "dict"),none,(.dict ⟨[e P "__module__" 203 (s "ledgerspeak.errors" 194),e P "__firstlineno__" 207 (.int 5 206),e P "__init__" 218 (r 37),e P "told" 225 (r 44),e P "__static_attributes__" 228 (r 45),e P "__weakref__" 230 (r 48),e P "__doc__" 231 n0]⟩ 3),#[]⟩),
(47,⟨(.type "type"),none,(.cls ⟨"LedgerError",[(.type "Exception")],[(r 47),(.type "Exception"),(.type "BaseException"),(.type "object")],46,"LedgerError",true,[],[(r 60),(r 72)],false,none,false⟩),#[(some (r 22)),none,(some (s "LedgerError" 196)),(some (s "LedgerError" 204)),(some (.builtin "Exception.__new__")),(some (.bool true))]⟩),
(48,⟨(.type "getset_descriptor"),none,(.fields #[(s "__weakref__" 229),(r 47),(.builtin "ExceptionGroup.__weakref__"),n0]),#[]⟩),
(59,⟨(.type "dict"),none,(.dict ⟨[e P "__module__" 243 (s "ledgerspeak.errors" 194),e P "__firstlineno__" 247 (.int 14 246),e P "__static_attributes__" 248 (r 58),e P "__doc__" 249 n0]⟩ 2),#[]⟩),
(60,⟨(.type "type"),none,(.cls ⟨"TokenFault",[(r 47)],[(r 60),(r 47),(.type "Exception"),(.type "BaseException"),(.type "object")],59,"TokenFault",true,[],[],false,none,false⟩),#[(some (r 51)),none,(some (s "TokenFault" 236)),(some (s "TokenFault" 244)),(some (.builtin "Exception.__new__")),(some (.bool true))]⟩),
(71,⟨(.type "dict"),none,(.dict ⟨[e P "__module__" 259 (s "ledgerspeak.errors" 194),e P "__firstlineno__" 263 (.int 16 262),e P "__static_attributes__" 264 (r 70),e P "__doc__" 265 n0]⟩ 2),#[]⟩),
(72,⟨(.type "type"),none,(.cls ⟨"GrammarFault",[(r 47)],[(r 72),(r 47),(.type "Exception"),(.type "BaseException"),(.type "object")],71,"GrammarFault",true,[],[],false,none,false⟩),#[(some (r 63)),none,(some (s "GrammarFault" 252)),(some (s "GrammarFault" 260)),(some (.builtin "Exception.__new__")),(some (.bool true))]⟩),
(82,⟨(.type "tuple"),none,(.seq #[(.int 0 280)] 0),#[]⟩),
(88,cd "decimal" "decimal" 281 24 2 0 0 3 83 181 84 (r 85) (r 86) 87 286),
(89,fo (fT 8) "decimal" 3 [] (r 82) n0 n0 (s "ledgerspeak.decimals" 268) none (r 88) n0 0),
(95,cd "negated" "negated" 289 31 1 0 0 3 90 181 91 (r 92) (r 93) 94 293),
(96,fo (fT 9) "negated" 3 [] n0 n0 n0 (s "ledgerspeak.decimals" 268) none (r 95) n0 0),
(123,cd "worth_of" "worth_of" 321 45 1 0 0 3 118 181 119 (r 120) (r 121) 122 327),
(124,fo (fT 13) "worth_of" 3 [] n0 n0 n0 (s "ledgerspeak.decimals" 268) none (r 123) n0 0),
(130,cd "read_decimal" "read_decimal" 330 50 1 0 0 3 125 181 126 (r 127) (r 128) 129 340),
(131,fo (fT 14) "read_decimal" 3 [] n0 n0 n0 (s "ledgerspeak.decimals" 268) none (r 130) n0 0),
(144,cd "__init__" "Named.__init__" 359 69 3 0 0 3 139 181 140 (r 141) (r 142) 143 365),
(145,fo (fC 17 0) "Named.__init__" 3 [] n0 n0 n0 (s "ledgerspeak.items" 343) none (r 144) n0 0),
(154,⟨(.type "dict"),none,(.dict ⟨[e P "__module__" 354 (s "ledgerspeak.items" 343),e P "__firstlineno__" 358 (.int 67 357),e P "__init__" 367 (r 145),e P "told" 374 (r 152),e P "__static_attributes__" 377 (r 153),e P "__dict__" 379 (r 156),e P "__weakref__" 381 (r 157),e P "__doc__" 382 n0]⟩ 4),#[]⟩),
(155,⟨(.type "type"),none,(.cls ⟨"Named",[(.type "object")],[(r 155),(.type "object")],154,"Named",true,[],[],false,none,false⟩),#[none,none,(some (s "Named" 347)),(some (s "Named" 355)),(some (.builtin "object.__new__")),(some (.bool true))]⟩),
(156,⟨(.type "getset_descriptor"),none,(.fields #[(s "__dict__" 378),(r 155),(.builtin "function.__dict__"),(.builtin "function.__dict__#set")]),#[]⟩),
(157,⟨(.type "getset_descriptor"),none,(.fields #[(s "__weakref__" 380),(r 155),(.builtin "ExceptionGroup.__weakref__"),n0]),#[]⟩),
(172,cd "__init__" "Item.__init__" 397 77 3 0 0 3 167 181 168 (r 169) (r 170) 171 403),
(173,fo (fC 18 0) "Item.__init__" 3 [] n0 n0 n0 (s "ledgerspeak.items" 343) none (r 172) n0 0),
(179,cd "add" "Item.add" 406 98 2 0 0 3 174 181 175 (r 176) (r 177) 178 411),
(180,fo (fC 18 1) "Item.add" 3 [] n0 n0 n0 (s "ledgerspeak.items" 343) none (r 179) n0 0),
(193,cd "clauses" "Item.clauses" 421 105 1 0 0 3 188 181 189 (r 190) (r 191) 192 427),
(194,fo (fC 18 3) "Item.clauses" 3 [] n0 n0 n0 (s "ledgerspeak.items" 343) none (r 193) n0 0),
(201,⟨(.type "dict"),none,(.dict ⟨[e P "__module__" 392 (s "ledgerspeak.items" 343),e P "__firstlineno__" 396 (.int 75 395),e P "__init__" 405 (r 173),e P "add" 413 (r 180),e P "count" 420 (r 187),e P "clauses" 429 (r 194),e P "told" 435 (r 199),e P "__static_attributes__" 455 (r 200),e P "__dict__" 457 (r 203),e P "__weakref__" 459 (r 204),e P "__doc__" 460 n0]⟩ 4),#[]⟩),
(202,⟨(.type "type"),none,(.cls ⟨"Item",[(.type "object")],[(r 202),(.type "object")],201,"Item",true,[],[],false,none,false⟩),#[none,none,(some (s "Item" 385)),(some (s "Item" 393)),(some (.builtin "object.__new__")),(some (.bool true))]⟩),
(203,⟨(.type "getset_descriptor"),none,(.fields #[(s "__dict__" 456),(r 202),(.builtin "function.__dict__"),(.builtin "function.__dict__#set")]),#[]⟩),
(204,⟨(.type "getset_descriptor"),none,(.fields #[(s "__weakref__" 458),(r 202),(.builtin "ExceptionGroup.__weakref__"),n0]),#[]⟩),
(219,cd "__init__" "Data.__init__" 475 115 1 0 0 3 214 181 215 (r 216) (r 217) 218 479),
(220,fo (fC 19 0) "Data.__init__" 3 [] n0 n0 n0 (s "ledgerspeak.items" 343) none (r 219) n0 0),
(227,⟨(.type "dict"),none,(.dict ⟨[e P "__module__" 470 (s "ledgerspeak.items" 343),e P "__firstlineno__" 474 (.int 113 473),e P "__init__" 481 (r 220),e P "told" 487 (r 225),e P "__static_attributes__" 494 (r 226),e P "__dict__" 496 (r 229),e P "__weakref__" 498 (r 230),e P "__doc__" 499 n0]⟩ 4),#[]⟩),
(228,⟨(.type "type"),none,(.cls ⟨"Data",[(.type "object")],[(r 228),(.type "object")],227,"Data",true,[],[],false,none,false⟩),#[none,none,(some (s "Data" 463)),(some (s "Data" 471)),(some (.builtin "object.__new__")),(some (.bool true))]⟩),
(229,⟨(.type "getset_descriptor"),none,(.fields #[(s "__dict__" 495),(r 228),(.builtin "function.__dict__"),(.builtin "function.__dict__#set")]),#[]⟩),
(230,⟨(.type "getset_descriptor"),none,(.fields #[(s "__weakref__" 497),(r 228),(.builtin "ExceptionGroup.__weakref__"),n0]),#[]⟩),
(238,cd "records" "records" 502 126 1 0 0 3 233 181 234 (r 235) (r 236) 237 508),
(239,fo (fT 20) "records" 3 [] n0 n0 n0 (s "ledgerspeak.items" 343) none (r 238) n0 0),
(245,cd "items_under" "items_under" 511 131 1 0 0 3 240 181 241 (r 242) (r 243) 244 518),
(246,fo (fT 21) "items_under" 3 [] n0 n0 n0 (s "ledgerspeak.items" 343) none (r 245) n0 0),
(252,cd "all_items" "all_items" 521 139 1 0 0 3 247 181 248 (r 249) (r 250) 251 527),
(253,fo (fT 22) "all_items" 3 [] n0 n0 n0 (s "ledgerspeak.items" 343) none (r 252) n0 0),
(259,cd "items_around" "items_around" 530 144 1 0 0 3 254 181 255 (r 256) (r 257) 258 536),
(260,fo (fT 23) "items_around" 3 [] n0 n0 n0 (s "ledgerspeak.items" 343) none (r 259) n0 0),
(266,cd "root_of" "root_of" 539 151 1 0 0 3 261 181 262 (r 263) (r 264) 265 544),
(267,fo (fT 24) "root_of" 3 [] n0 n0 n0 (s "ledgerspeak.items" 343) none (r 266) n0 0),
(271,cd "names_around" "names_around" 547 154 1 0 0 3 268 181 269 n0 n0 270 550),
(272,fo (fT 25) "names_around" 3 [] n0 n0 n0 (s "ledgerspeak.items" 343) none (r 271) n0 0),
(273,⟨(.type "dict"),none,(.dict ⟨[e P "ZERO" 557 (s "ZERO" 558),e P "ZEROS" 559 (s "ZERO" 560),e P "ZEROES" 561 (s "ZERO" 562),e P "SPACE" 563 (s "SPACE" 564),e P "SPACES" 565 (s "SPACE" 566),e P "HIGH-VALUE" 567 (s "HIGH" 568),e P "HIGH-VALUES" 569 (s "HIGH" 570),e P "LOW-VALUE" 571 (s "LOW" 572),e P "LOW-VALUES" 573 (s "LOW" 574),e P "QUOTE" 575 (s "QUOTE" 576),e P "QUOTES" 577 (s "QUOTE" 578)]⟩ 11),#[]⟩),
(279,cd "is_part_next" "is_part_next" 591 159 1 0 0 3 274 181 275 (r 276) (r 277) 278 597),
(280,fo (fT 29) "is_part_next" 3 [] n0 n0 n0 (s "ledgerspeak.references" 553) none (r 279) n0 0),
(293,cd "read_part" "read_part" 609 180 2 0 0 3 288 181 289 (r 290) (r 291) 292 616),
(294,fo (fT 31) "read_part" 3 [] n0 n0 n0 (s "ledgerspeak.references" 553) none (r 293) n0 0),
(300,cd "read_ref" "read_ref" 619 187 2 0 0 3 295 181 296 (r 297) (r 298) 299 628),
(301,fo (fT 32) "read_ref" 3 [] n0 n0 n0 (s "ledgerspeak.references" 553) none (r 300) n0 0),
(307,cd "read_all" "read_all" 631 197 1 0 0 3 302 181 303 (r 304) (r 305) 306 636),
(308,fo (fT 33) "read_all" 3 [] n0 n0 n0 (s "ledgerspeak.references" 553) none (r 307) n0 0),
(314,cd "read_figure" "read_figure" 639 204 1 0 0 3 309 181 310 (r 311) (r 312) 313 643),
(315,fo (fT 34) "read_figure" 3 [] n0 n0 n0 (s "ledgerspeak.references" 553) none (r 314) n0 0),
(321,cd "read_operand" "read_operand" 646 208 2 0 0 3 316 181 317 (r 318) (r 319) 320 652),
(322,fo (fT 35) "read_operand" 3 [] n0 n0 n0 (s "ledgerspeak.references" 553) none (r 321) n0 0),
(326,cd "file_of" "file_of" 655 217 2 0 0 3 323 181 324 n0 n0 325 658),
(327,fo (fT 36) "file_of" 3 [] n0 n0 n0 (s "ledgerspeak.references" 553) none (r 326) n0 0),
(333,cd "leads_through" "leads_through" 661 223 2 0 0 3 328 181 329 (r 330) (r 331) 332 668),
(334,fo (fT 37) "leads_through" 3 [] n0 n0 n0 (s "ledgerspeak.references" 553) none (r 333) n0 0),
(340,cd "read_expression" "read_expression" 675 231 1 0 0 3 335 181 336 (r 337) (r 338) 339 679),
(341,fo (fT 40) "read_expression" 3 [] n0 n0 n0 (s "ledgerspeak.expressions" 671) none (r 340) n0 0),
(347,cd "sign_among" "sign_among" 682 233 2 0 0 3 342 181 343 (r 344) (r 345) 346 688),
(348,fo (fT 41) "sign_among" 3 [] n0 n0 n0 (s "ledgerspeak.expressions" 671) none (r 347) n0 0),
(354,cd "read_sum" "read_sum" 691 238 2 0 0 3 349 181 350 (r 351) (r 352) 353 698),
(355,fo (fT 42) "read_sum" 3 [] n0 n0 n0 (s "ledgerspeak.expressions" 671) none (r 354) n0 0),
(361,cd "read_product" "read_product" 701 246 2 0 0 3 356 181 357 (r 358) (r 359) 360 708),
(362,fo (fT 43) "read_product" 3 [] n0 n0 n0 (s "ledgerspeak.expressions" 671) none (r 361) n0 0),
(368,cd "read_factor" "read_factor" 711 252 2 0 0 3 363 181 364 (r 365) (r 366) 367 719),
(369,fo (fT 44) "read_factor" 3 [] n0 n0 n0 (s "ledgerspeak.expressions" 671) none (r 368) n0 0),
(375,cd "is_lone_number" "is_lone_number" 722 262 1 0 0 3 370 181 371 (r 372) (r 373) 374 728),
(376,fo (fT 45) "is_lone_number" 3 [] n0 n0 n0 (s "ledgerspeak.expressions" 671) none (r 375) n0 0),
(382,cd "read_power" "read_power" 731 267 2 0 0 3 377 181 378 (r 379) (r 380) 381 737),
(383,fo (fT 46) "read_power" 3 [] n0 n0 n0 (s "ledgerspeak.expressions" 671) none (r 382) n0 0),
(389,cd "read_primary" "read_primary" 740 273 2 0 0 3 384 181 385 (r 386) (r 387) 388 747),
(390,fo (fT 47) "read_primary" 3 [] n0 n0 n0 (s "ledgerspeak.expressions" 671) none (r 389) n0 0),
(391,⟨(.type "dict"),none,(.dict ⟨[e P "=" 754 (s "<>" 755),e P "<>" 756 (s "=" 757),e P "<" 758 (s ">=" 759),e P ">=" 760 (s "<" 761),e P ">" 762 (s "<=" 763),e P "<=" 764 (s ">" 765)]⟩ 6),#[]⟩),
(392,⟨(.type "tuple"),none,(.seq #[(s "NUMERIC" 773),(s "ALPHABETIC" 774),(s "ALPHABETIC-LOWER" 775),(s "ALPHABETIC-UPPER" 776)] 0),#[]⟩),
(393,⟨(.type "tuple"),none,(.seq #[(s "ref" 778),(s "number" 779),(s "text" 780)] 0),#[]⟩),
(394,⟨(.type "dict"),none,(.dict ⟨[e P "POSITIVE" 782 (s "POSITIVE" 783),e P "NEGATIVE" 784 (s "NEGATIVE" 785),e P "ZERO" 786 (s "ZERO" 787),e P "ZEROS" 788 (s "ZERO" 789),e P "ZEROES" 790 (s "ZERO" 791)]⟩ 5),#[]⟩),
(395,⟨(.type "dict"),none,(.dict ⟨[e P "GREATER" 798 (s ">" 799),e P "LESS" 800 (s "<" 801),e P "EQUAL" 802 (s "=" 803)]⟩ 3),#[]⟩),
(396,⟨(.type "tuple"),none,(.seq #[(s "=" 808),(s "<" 809),(s ">" 810),(s "<=" 811),(s ">=" 812)] 0),#[]⟩),
(397,⟨(.type "tuple"),none,(.seq #[(.int 0 814)] 0),#[]⟩),
(403,cd "word_here" "word_here" 815 289 2 0 0 3 398 181 399 (r 400) (r 401) 402 821),
(404,fo (fT 56) "word_here" 3 [] (r 397) n0 n0 (s "ledgerspeak.conditions" 750) none (r 403) n0 0),
(410,cd "is_relation_at" "is_relation_at" 824 292 2 0 0 3 405 181 406 (r 407) (r 408) 409 830),
(411,fo (fT 57) "is_relation_at" 3 [] n0 n0 n0 (s "ledgerspeak.conditions" 750) none (r 410) n0 0),
(417,cd "place_of_word" "place_of_word" 833 297 1 0 0 3 412 181 413 (r 414) (r 415) 416 838),
(418,fo (fT 58) "place_of_word" 3 [] n0 n0 n0 (s "ledgerspeak.conditions" 750) none (r 417) n0 0),
(424,cd "is_predicate_here" "is_predicate_here" 841 300 1 0 0 3 419 181 420 (r 421) (r 422) 423 847),
(425,fo (fT 59) "is_predicate_here" 3 [] n0 n0 n0 (s "ledgerspeak.conditions" 750) none (r 424) n0 0),
(431,cd "is_bare_relation_here" "is_bare_relation_here" 850 304 1 0 0 3 426 181 427 (r 428) (r 429) 430 854),
(432,fo (fT 60) "is_bare_relation_here" 3 [] n0 n0 n0 (s "ledgerspeak.conditions" 750) none (r 431) n0 0),
(445,cd "__init__" "ConditionReader.__init__" 869 308 4 0 0 3 440 181 441 (r 442) (r 443) 444 876),
(446,fo (fC 61 0) "ConditionReader.__init__" 3 [] n0 n0 n0 (s "ledgerspeak.conditions" 750) none (r 445) n0 0),
(452,cd "either" "ConditionReader.either" 879 314 1 0 0 3 447 181 448 (r 449) (r 450) 451 884),
(453,fo (fC 61 1) "ConditionReader.either" 3 [] n0 n0 n0 (s "ledgerspeak.conditions" 750) none (r 452) n0 0),
(459,cd "both" "ConditionReader.both" 887 320 1 0 0 3 454 181 455 (r 456) (r 457) 458 892),
(460,fo (fC 61 2) "ConditionReader.both" 3 [] n0 n0 n0 (s "ledgerspeak.conditions" 750) none (r 459) n0 0),
(466,cd "turned" "ConditionReader.turned" 895 326 1 0 0 3 461 181 462 (r 463) (r 464) 465 899),
(467,fo (fC 61 3) "ConditionReader.turned" 3 [] n0 n0 n0 (s "ledgerspeak.conditions" 750) none (r 466) n0 0),
(473,cd "single" "ConditionReader.single" 902 332 1 0 0 3 468 181 469 (r 470) (r 471) 472 910),
(474,fo (fC 61 4) "ConditionReader.single" 3 [] n0 n0 n0 (s "ledgerspeak.conditions" 750) none (r 473) n0 0),
(480,cd "unbracketed" "ConditionReader.unbracketed" 913 346 1 0 0 3 475 181 476 (r 477) (r 478) 479 918),
(481,fo (fC 61 5) "ConditionReader.unbracketed" 3 [] n0 n0 n0 (s "ledgerspeak.conditions" 750) none (r 480) n0 0),
(487,cd "in_brackets" "ConditionReader.in_brackets" 921 359 1 0 0 3 482 181 483 (r 484) (r 485) 486 926),
(488,fo (fC 61 6) "ConditionReader.in_brackets" 3 [] n0 n0 n0 (s "ledgerspeak.conditions" 750) none (r 487) n0 0),
(494,cd "subject_of_last" "ConditionReader.subject_of_last" 929 368 1 0 0 3 489 181 490 (r 491) (r 492) 493 933),
(495,fo (fC 61 7) "ConditionReader.subject_of_last" 3 [] n0 n0 n0 (s "ledgerspeak.conditions" 750) none (r 494) n0 0),
(501,cd "sign_of_last" "ConditionReader.sign_of_last" 936 373 1 0 0 3 496 181 497 (r 498) (r 499) 500 940),
(502,fo (fC 61 8) "ConditionReader.sign_of_last" 3 [] n0 n0 n0 (s "ledgerspeak.conditions" 750) none (r 501) n0 0),
(508,cd "predicate" "ConditionReader.predicate" 943 378 2 0 0 3 503 181 504 (r 505) (r 506) 507 951),
(509,fo (fC 61 9) "ConditionReader.predicate" 3 [] n0 n0 n0 (s "ledgerspeak.conditions" 750) none (r 508) n0 0),
(515,cd "relation" "ConditionReader.relation" 954 394 2 0 0 3 510 181 511 (r 512) (r 513) 514 961),
(516,fo (fC 61 10) "ConditionReader.relation" 3 [] n0 n0 n0 (s "ledgerspeak.conditions" 750) none (r 515) n0 0),
(522,cd "sign_here" "ConditionReader.sign_here" 964 401 1 0 0 3 517 181 518 (r 519) (r 520) 521 970),
(523,fo (fC 61 11) "ConditionReader.sign_here" 3 [] n0 n0 n0 (s "ledgerspeak.conditions" 750) none (r 522) n0 0),
(525,⟨(.type "dict"),none,(.dict ⟨[e P "__module__" 864 (s "ledgerspeak.conditions" 750),e P "__firstlineno__" 868 (.int 306 867),e P "__init__" 878 (r 446),e P "either" 886 (r 453),e P "both" 894 (r 460),e P "turned" 901 (r 467),e P "single" 912 (r 474),e P "unbracketed" 920 (r 481),e P "in_brackets" 928 (r 488),e P "subject_of_last" 935 (r 495),e P "sign_of_last" 942 (r 502),e P "predicate" 953 (r 509),e P "relation" 963 (r 516),e P "sign_here" 972 (r 523),e P "__static_attributes__" 977 (r 524),e P "__dict__" 979 (r 527),e P "__weakref__" 981 (r 528),e P "__doc__" 982 n0]⟩ 4),#[]⟩),
(526,⟨(.type "type"),none,(.cls ⟨"ConditionReader",[(.type "object")],[(r 526),(.type "object")],525,"ConditionReader",true,[],[],false,none,false⟩),#[none,none,(some (s "ConditionReader" 857)),(some (s "ConditionReader" 865)),(some (.builtin "object.__new__")),(some (.bool true))]⟩),
(527,⟨(.type "getset_descriptor"),none,(.fields #[(s "__dict__" 978),(r 526),(.builtin "function.__dict__"),(.builtin "function.__dict__#set")]),#[]⟩),
(528,⟨(.type "getset_descriptor"),none,(.fields #[(s "__weakref__" 980),(r 526),(.builtin "ExceptionGroup.__weakref__"),n0]),#[]⟩),
(534,cd "names_condition" "names_condition" 985 413 3 0 0 3 531 181 532 n0 n0 533 988),
(535,fo (fT 62) "names_condition" 3 [] n0 n0 n0 (s "ledgerspeak.conditions" 750) none (r 534) n0 0),
(536,⟨(.type "tuple"),none,(.seq #[n0] 0),#[]⟩),
(542,cd "read_condition" "read_condition" 991 418 2 0 0 3 537 181 538 (r 539) (r 540) 541 997),
(543,fo (fT 63) "read_condition" 3 [] (r 536) n0 n0 (s "ledgerspeak.conditions" 750) none (r 542) n0 0),
(549,cd "record_roots" "record_roots" 1002 423 1 0 0 3 544 181 545 (r 546) (r 547) 548 1008),
(550,fo (fT 65) "record_roots" 3 [] n0 n0 n0 (s "ledgerspeak.program" 1000) none (r 549) n0 0),
(556,cd "condition_names" "condition_names" 1011 428 1 0 0 3 551 181 552 (r 553) (r 554) 555 1019),
(557,fo (fT 66) "condition_names" 3 [] n0 n0 n0 (s "ledgerspeak.program" 1000) none (r 556) n0 0),
(563,cd "shared_names" "shared_names" 1022 435 1 0 0 3 558 181 559 (r 560) (r 561) 562 1031),
(564,fo (fT 67) "shared_names" 3 [] n0 n0 n0 (s "ledgerspeak.program" 1000) none (r 563) n0 0),
(570,cd "is_reserved" "is_reserved" 1040 448 1 0 0 3 565 181 566 (r 567) (r 568) 569 1044),
(571,fo (fT 71) "is_reserved" 3 [] n0 n0 n0 (s "ledgerspeak.reader" 1034) none (r 570) n0 0),
(575,cd "octets_of_text" "octets_of_text" 1047 450 1 0 0 3 572 181 573 n0 n0 574 1050),
(576,fo (fT 72) "octets_of_text" 3 [] n0 n0 n0 (s "ledgerspeak.reader" 1034) none (r 575) n0 0),
(584,⟨(.type "tuple"),none,(.seq #[(.int 0 1065)] 0),#[]⟩),
(590,cd "__init__" "Reader.__init__" 1066 457 3 0 0 3 585 181 586 (r 587) (r 588) 589 1072),
(591,fo (fC 73 0) "Reader.__init__" 3 [] (r 584) n0 n0 (s "ledgerspeak.reader" 1034) none (r 590) n0 0),
(592,⟨(.type "tuple"),none,(.seq #[(.int 0 1075)] 0),#[]⟩),
(598,cd "peek" "Reader.peek" 1076 463 2 0 0 3 593 181 594 (r 595) (r 596) 597 1081),
(599,fo (fC 73 1) "Reader.peek" 3 [] (r 592) n0 n0 (s "ledgerspeak.reader" 1034) none (r 598) n0 0),
(612,cd "fault" "Reader.fault" 1091 471 2 0 0 3 607 181 608 (r 609) (r 610) 611 1096),
(613,fo (fC 73 3) "Reader.fault" 3 [] n0 n0 n0 (s "ledgerspeak.reader" 1034) none (r 612) n0 0),
(619,cd "take" "Reader.take" 1099 476 1 0 0 3 614 181 615 (r 616) (r 617) 618 1104),
(620,fo (fC 73 4) "Reader.take" 3 [] n0 n0 n0 (s "ledgerspeak.reader" 1034) none (r 619) n0 0),
(621,⟨(.type "tuple"),none,(.seq #[(.int 0 1107)] 0),#[]⟩),
(627,cd "is_kind" "Reader.is_kind" 1108 483 3 0 0 3 622 181 623 (r 624) (r 625) 626 1115),
(628,fo (fC 73 5) "Reader.is_kind" 3 [] (r 621) n0 n0 (s "ledgerspeak.reader" 1034) none (r 627) n0 0),
(634,cd "is_word" "Reader.is_word" 1118 487 2 0 0 3 629 181 630 (r 631) (r 632) 633 1125),
(635,fo (fC 73 6) "Reader.is_word" 3 [] n0 n0 n0 (s "ledgerspeak.reader" 1034) none (r 634) n0 0),
(641,cd "skip" "Reader.skip" 1128 495 2 0 0 3 636 181 637 (r 638) (r 639) 640 1133),
(642,fo (fC 73 7) "Reader.skip" 3 [] n0 n0 n0 (s "ledgerspeak.reader" 1034) none (r 641) n0 0),
(655,cd "one_of" "Reader.one_of" 1144 504 2 0 0 3 650 181 651 (r 652) (r 653) 654 1150),
(656,fo (fC 73 9) "Reader.one_of" 3 [] n0 n0 n0 (s "ledgerspeak.reader" 1034) none (r 655) n0 0),
(664,⟨(.type "tuple"),none,(.seq #[(.int 0 1160)] 0),#[]⟩),
(670,cd "is_name" "Reader.is_name" 1161 515 2 0 0 3 665 181 666 (r 667) (r 668) 669 1166),
(671,fo (fC 73 11) "Reader.is_name" 3 [] (r 664) n0 n0 (s "ledgerspeak.reader" 1034) none (r 670) n0 0),
(677,cd "name" "Reader.name" 1169 518 1 0 0 3 672 181 673 (r 674) (r 675) 676 1173),
(678,fo (fC 73 12) "Reader.name" 3 [] n0 n0 n0 (s "ledgerspeak.reader" 1034) none (r 677) n0 0),
(686,⟨(.type "tuple"),none,(.seq #[(.int 0 1184)] 0),#[]⟩),
(692,cd "is_sign" "Reader.is_sign" 1185 529 3 0 0 3 687 181 688 (r 689) (r 690) 691 1191),
(693,fo (fC 73 14) "Reader.is_sign" 3 [] (r 686) n0 n0 (s "ledgerspeak.reader" 1034) none (r 692) n0 0),
(699,cd "skip_sign" "Reader.skip_sign" 1194 532 2 0 0 3 694 181 695 (r 696) (r 697) 698 1199),
(700,fo (fC 73 15) "Reader.skip_sign" 3 [] n0 n0 n0 (s "ledgerspeak.reader" 1034) none (r 699) n0 0),
(706,cd "need_sign" "Reader.need_sign" 1202 538 2 0 0 3 701 181 702 (r 703) (r 704) 705 1207),
(707,fo (fC 73 16) "Reader.need_sign" 3 [] n0 n0 n0 (s "ledgerspeak.reader" 1034) none (r 706) n0 0),
(713,cd "is_number" "Reader.is_number" 1210 542 1 0 0 3 708 181 709 (r 710) (r 711) 712 1214),
(714,fo (fC 73 17) "Reader.is_number" 3 [] n0 n0 n0 (s "ledgerspeak.reader" 1034) none (r 713) n0 0),
(720,cd "signed" "Reader.signed" 1217 547 1 0 0 3 715 181 716 (r 717) (r 718) 719 1223),
(721,fo (fC 73 18) "Reader.signed" 3 [] n0 n0 n0 (s "ledgerspeak.reader" 1034) none (r 720) n0 0),
(741,cd "octets" "Reader.octets" 1241 570 1 0 0 3 736 181 737 (r 738) (r 739) 740 1246),
(742,fo (fC 73 21) "Reader.octets" 3 [] n0 n0 n0 (s "ledgerspeak.reader" 1034) none (r 741) n0 0),
(744,⟨(.type "dict"),none,(.dict ⟨[e P "__module__" 1060 (s "ledgerspeak.reader" 1034),e P "__firstlineno__" 1064 (.int 455 1063),e P "__init__" 1074 (r 591),e P "peek" 1083 (r 599),e P "is_done" 1090 (r 606),e P "fault" 1098 (r 613),e P "take" 1106 (r 620),e P "is_kind" 1117 (r 628),e P "is_word" 1127 (r 635),e P "skip" 1135 (r 642),e P "need" 1143 (r 649),e P "one_of" 1152 (r 656),e P "word" 1159 (r 663),e P "is_name" 1168 (r 671),e P "name" 1175 (r 678),e P "names" 1183 (r 685),e P "is_sign" 1193 (r 693),e P "skip_sign" 1201 (r 700),e P "need_sign" 1209 (r 707),e P "is_number" 1216 (r 714),e P "signed" 1225 (r 721),e P "whole" 1233 (r 728),e P "literal" 1240 (r 735),e P "octets" 1248 (r 742),e P "__static_attributes__" 1253 (r 743),e P "__dict__" 1255 (r 746),e P "__weakref__" 1257 (r 747),e P "__doc__" 1258 n0]⟩ 4),#[]⟩),
(745,⟨(.type "type"),none,(.cls ⟨"Reader",[(.type "object")],[(r 745),(.type "object")],744,"Reader",true,[],[],false,none,false⟩),#[none,none,(some (s "Reader" 1053)),(some (s "Reader" 1061)),(some (.builtin "object.__new__")),(some (.bool true))]⟩),
(746,⟨(.type "getset_descriptor"),none,(.fields #[(s "__dict__" 1254),(r 745),(.builtin "function.__dict__"),(.builtin "function.__dict__#set")]),#[]⟩),
(747,⟨(.type "getset_descriptor"),none,(.fields #[(s "__weakref__" 1256),(r 745),(.builtin "ExceptionGroup.__weakref__"),n0]),#[]⟩),
(755,cd "worth_here" "worth_here" 1263 579 1 0 0 3 750 181 751 (r 752) (r 753) 754 1270),
(756,fo (fT 75) "worth_here" 3 [] n0 n0 n0 (s "ledgerspeak.readflow" 1261) none (r 755) n0 0),
(764,⟨(.type "tuple"),none,(.seq #[(.int 0 1287),(.int 0 1288)] 0),#[]⟩),
(765,⟨(.type "tuple"),none,(.seq #[(r 764),(.bool false)] 0),#[]⟩),
(771,cd "__init__" "Token.__init__" 1289 595 5 0 0 3 766 181 767 (r 768) (r 769) 770 1297),
(772,fo (fC 77 0) "Token.__init__" 3 [] (r 765) n0 n0 (s "ledgerspeak.tokens" 1273) none (r 771) n0 0),
(781,⟨(.type "dict"),none,(.dict ⟨[e P "__module__" 1282 (s "ledgerspeak.tokens" 1273),e P "__firstlineno__" 1286 (.int 593 1285),e P "__init__" 1299 (r 772),e P "told" 1306 (r 779),e P "__static_attributes__" 1311 (r 780),e P "__dict__" 1313 (r 783),e P "__weakref__" 1315 (r 784),e P "__doc__" 1316 n0]⟩ 4),#[]⟩),
(782,⟨(.type "type"),none,(.cls ⟨"Token",[(.type "object")],[(r 782),(.type "object")],781,"Token",true,[],[],false,none,false⟩),#[none,none,(some (s "Token" 1275)),(some (s "Token" 1283)),(some (.builtin "object.__new__")),(some (.bool true))]⟩),
(783,⟨(.type "getset_descriptor"),none,(.fields #[(s "__dict__" 1312),(r 782),(.builtin "function.__dict__"),(.builtin "function.__dict__#set")]),#[]⟩),
(784,⟨(.type "getset_descriptor"),none,(.fields #[(s "__weakref__" 1314),(r 782),(.builtin "ExceptionGroup.__weakref__"),n0]),#[]⟩),
(787,⟨(.type "tuple"),none,(.seq #[(s "P" 1321),(s "Q" 1322),(s "S" 1323)] 0),#[]⟩),
(788,⟨(.type "tuple"),none,(.seq #[(s "NUMERIC" 1325),(s "ALPHABETIC-UPPER" 1326),(s "ALPHABETIC" 1327),(s "ALPHABETIC-LOWER" 1328)] 0),#[]⟩),
(794,cd "_law_tap" "_law_tap" 1330 606 1 0 0 3 789 181 790 (r 791) (r 792) 793 1336),
(795,fo (fT 81) "_law_tap" 3 [] n0 n0 n0 (s "law_pq0642_01" 1319) none (r 794) n0 0),
(801,cd "_law_sip" "_law_sip" 1339 611 2 0 0 3 796 181 797 (r 798) (r 799) 800 1345),
(802,fo (fT 82) "_law_sip" 3 [] n0 n0 n0 (s "law_pq0642_01" 1319) none (r 801) n0 0),
(806,cd "_law_data" "_law_data" 1348 618 1 0 0 3 803 181 804 n0 n0 805 1351),
(807,fo (fT 83) "_law_data" 3 [] n0 n0 n0 (s "law_pq0642_01" 1319) none (r 806) n0 0),
(813,cd "_law_leads" "_law_leads" 1354 636 2 0 0 3 808 181 809 (r 810) (r 811) 812 1359),
(814,fo (fT 84) "_law_leads" 3 [] n0 n0 n0 (s "law_pq0642_01" 1319) none (r 813) n0 0),
(820,cd "_law_tokens" "_law_tokens" 1362 642 1 0 0 3 815 181 816 (r 817) (r 818) 819 1370),
(821,fo (fT 85) "_law_tokens" 3 [] n0 n0 n0 (s "law_pq0642_01" 1319) none (r 820) n0 0),
(827,cd "_law_heard" "_law_heard" 1373 650 2 0 0 3 822 181 823 (r 824) (r 825) 826 1380),
(828,fo (fT 86) "_law_heard" 3 [] n0 n0 n0 (s "law_pq0642_01" 1319) none (r 827) n0 0),
(832,cd "_law_names_right" "_law_names_right" 1383 657 4 0 0 3 829 181 830 n0 n0 831 1386),
(833,fo (fT 87) "_law_names_right" 3 [] n0 n0 n0 (s "law_pq0642_01" 1319) none (r 832) n0 0),
(839,cd "_law_classes_right" "_law_classes_right" 1389 677 2 0 0 3 834 181 835 (r 836) (r 837) 838 1401),
(840,fo (fT 88) "_law_classes_right" 3 [] n0 n0 n0 (s "law_pq0642_01" 1319) none (r 839) n0 0),
(844,cd "law" "law" 1404 686 1 0 0 3 841 181 842 n0 n0 843 1407),
(845,fo (fT 89) "law" 3 [] n0 n0 n0 (s "law_pq0642_01" 1319) none (r 844) n0 0)]
def gK:List (String×Nat):=[("__name__",165),("__doc__",166),("__package__",167),("__loader__",168),("__spec__",169),("__annotations__",170),("__builtins__",171),("__file__",173),("__cached__",174),("_wall",193),("LedgerError",235),("TokenFault",251),("GrammarFault",267),("FIGURES",271),("cut_quotient",279),("decimal",288),("negated",295),("units_at",306),("is_whole",313),("whole_of",320),("worth_of",329),("read_decimal",342),("FILLER",346),("Named",384),("Item",462),("Data",501),("records",510),("items_under",520),("all_items",529),("items_around",538),("root_of",546),("names_around",552),("MOST_SUBSCRIPTS",556),("FIGURE_NAMES",590),("is_part_next",599),("read_subscripts",608),("read_part",618),("read_ref",630),("read_all",638),("read_figure",645),("read_operand",654),("file_of",660),("leads_through",670),("MOST_DEEP_expressions",674),("read_expression",681),("sign_among",690),("read_sum",700),("read_product",710),("read_factor",721),("is_lone_number",730),("read_power",739),("read_primary",749),("MOST_DEEP_conditions",753),("OPPOSITES",772),("CLASSES",777),("CLASSED",781),("WORDS_OF_SIGNS",797),("WORDS_OF_RELATIONS",807),("RELATIONS",813),("word_here",823),("is_relation_at",832),("place_of_word",840),("is_predicate_here",849),("is_bare_relation_here",856),("ConditionReader",984),("names_condition",990),("read_condition",999),("record_roots",1010),("condition_names",1021),("shared_names",1033),("MOST_OCTET",1037),("RESERVED",1039),("is_reserved",1046),("octets_of_text",1052),("Reader",1260),("worth_here",1272),("Token",1318),("_law_NAMES",1324),("_law_CLASSES",1329),("_law_tap",1338),("_law_sip",1347),("_law_data",1353),("_law_leads",1361),("_law_tokens",1372),("_law_heard",1382),("_law_names_right",1388),("_law_classes_right",1403),("law",1409)]
def gVals:List (Nat×Value):=[(5,r 6),(6,r 4),(9,r 21),(10,r 47),(11,r 60),(12,r 72),(13,s "0123456789" 270),(14,r 81),(15,r 89),(16,r 96),(17,r 103),(18,r 110),(19,r 117),(20,r 124),(21,r 131),(22,s "FILLER" 345),(23,r 155),(24,r 202),(25,r 228),(26,r 239),(27,r 246),(28,r 253),(29,r 260),(30,r 267),(31,r 272),(32,.int 7 555),(33,r 273),(34,r 280),(35,r 287),(36,r 294),(37,r 301),(38,r 308),(39,r 315),(40,r 322),(41,r 327),(42,r 334),(43,.int 20 673),(44,r 341),(45,r 348),(46,r 355),(47,r 362),(48,r 369),(49,r 376),(50,r 383),(51,r 390),(52,.int 20 752),(53,r 391),(54,r 392),(55,r 393),(56,r 394),(57,r 395),(58,r 396),(59,r 404),(60,r 411),(61,r 418),(62,r 425),(63,r 432),(64,r 526),(65,r 535),(66,r 543),(67,r 550),(68,r 557),(69,r 564),(70,.int 255 1036),(72,r 571),(73,r 576),(74,r 745),(75,r 756),(76,r 782),(77,r 787),(78,r 788),(79,r 795),(80,r 802),(81,r 807),(82,r 814),(83,r 821),(84,r 828),(85,r 833),(86,r 840),(87,r 845)]
end
end MineH
namespace Internal
variable {α β γ:Type}
def ob(y:Option α)(k:α->R):R:=Option.rec .no k y
def ifT(b:Bool)(c:R):R:=Bool.rec .no c b
def obO(y:Option α)(k:α->Option β):Option β:=Option.rec none k y
def ifO(b:Bool)(c:Option β):Option β:=Bool.rec none c b
def askQ(q:Qb)(k:Bool->R):R:=Qb.rec (λb=>k b) (λi=>.ask i (k true) (k false)) q
def askN(n:Bool)(q:Qb)(k:Bool->R):R:=askQ q λb=>k (Bool.rec b (Bool.rec true false b) n)
def Ya(o:Out):Option AV:=Out.rec (λa=>some a) (λZ=>none) (λZ=>none) none (λZ=>none) (λZ=>none) o
def selVs(o:Out):Option (List AV):=Out.rec (λZ=>none) (λa=>some a) (λZ=>none) none (λZ=>none) (λZ=>none) o
def selB(o:Out):Option Bool:=Out.rec (λZ=>none) (λZ=>none) (λa=>some a) none (λZ=>none) (λZ=>none) o
def selN(o:Out):Option Unit:=Out.rec (λZ=>none) (λZ=>none) (λZ=>none) (some ()) (λZ=>none) (λZ=>none) o
def excO(o:Out)(S:St):R:=Out.rec (λZ=>.no) (λZ=>.no) (λZ=>.no) .no (λZ=>.no) (λi=>.ok (.exc i) S) o
def on(sel:Out->Option γ)(c:R)(k:γ->St->R):R:=R.rec .no (λo S=>Option.rec (excO o S) (λg=>k g S) (sel o)) (λi Z Z t f=>.ask i t f) c
def onV(c:R)(k:AV->St->R):R:=on Ya c k
def onVs(c:R)(k:List AV->St->R):R:=on selVs c k
def onB(c:R)(k:Bool->St->R):R:=on selB c k
def onN(c:R)(k:Unit->St->R):R:=on selN c k
def xo(sel:Out->Option γ)(c:R)(k:γ->St->R):R:=R.rec .no (λo S=>Option.rec .no (λg=>k g S) (sel o)) (λi Z Z t f=>.ask i t f) c
def thenO(k:St->R)(o:Out)(S:St):R:=Out.rec (λZ=>.no) (λZ=>.no) (λZ=>.no) (k S) (λa=>.ok (.ret a) S) (λi=>.ok (.exc i) S) o
def onF(c:R)(k:St->R):R:=R.rec .no (thenO k) (λi Z Z t f=>.ask i t f) c
def thenX(k:St->R)(o:Out)(S:St):R:=Out.rec (λZ=>.no) (λZ=>.no) (λZ=>.no) (k S) (λa=>.ok (.ret a) S) (λZ=>.no) o
def xF(c:R)(k:St->R):R:=R.rec .no (thenX k) (λi Z Z t f=>.ask i t f) c
def okV(S:St)(o:Option AV):R:=ob o λv=>.ok (.v v) S
def okN(o:Option St):R:=ob o λS=>.ok .next S
def pushV(S:St)(o:AO):R:=ob (S.push o) λS'=>.ok (.v (.loc S.n)) S'
def vNs(o:AO):Option (List (Str×AV)):=AO.rec (λx=>some x) (λZ=>none) (λZ=>none) (λZ=>none) (λZ Z=>none) (λZ=>none) (λZ Z Z Z Z Z=>none) (λZ=>none) (λZ=>none) (λZ Z Z=>none) (λZ=>none) (λZ Z=>none) (λZ Z=>none) (λZ Z=>none) (λZ Z=>none) (λZ Z=>none) (λZ Z=>none) (λZ Z=>none) (λZ Z Z=>none) (λZ=>none) (λZ=>none) none o
def Zi(o:AO):Option (List (Str×AV)):=AO.rec (λZ=>none) (λx=>some x) (λZ=>none) (λZ=>none) (λZ Z=>none) (λZ=>none) (λZ Z Z Z Z Z=>none) (λZ=>none) (λZ=>none) (λZ Z Z=>none) (λZ=>none) (λZ Z=>none) (λZ Z=>none) (λZ Z=>none) (λZ Z=>none) (λZ Z=>none) (λZ Z=>none) (λZ Z=>none) (λZ Z Z=>none) (λZ=>none) (λZ=>none) none o
def Zc(o:AO):Option (List AV):=AO.rec (λZ=>none) (λZ=>none) (λx=>some x) (λZ=>none) (λZ Z=>none) (λZ=>none) (λZ Z Z Z Z Z=>none) (λZ=>none) (λZ=>none) (λZ Z Z=>none) (λZ=>none) (λZ Z=>none) (λZ Z=>none) (λZ Z=>none) (λZ Z=>none) (λZ Z=>none) (λZ Z=>none) (λZ Z=>none) (λZ Z Z=>none) (λZ=>none) (λZ=>none) none o
def vTup(o:AO):Option (List AV):=AO.rec (λZ=>none) (λZ=>none) (λZ=>none) (λx=>some x) (λZ Z=>none) (λZ=>none) (λZ Z Z Z Z Z=>none) (λZ=>none) (λZ=>none) (λZ Z Z=>none) (λZ=>none) (λZ Z=>none) (λZ Z=>none) (λZ Z=>none) (λZ Z=>none) (λZ Z=>none) (λZ Z=>none) (λZ Z=>none) (λZ Z Z=>none) (λZ=>none) (λZ=>none) none o
def vCode(o:AO):Option (Str):=AO.rec (λZ=>none) (λZ=>none) (λZ=>none) (λZ=>none) (λZ Z=>none) (λZ=>none) (λZ Z Z Z Z Z=>none) (λx=>some x) (λZ=>none) (λZ Z Z=>none) (λZ=>none) (λZ Z=>none) (λZ Z=>none) (λZ Z=>none) (λZ Z=>none) (λZ Z=>none) (λZ Z=>none) (λZ Z=>none) (λZ Z Z=>none) (λZ=>none) (λZ=>none) none o
def vTap(o:AO):Option (List Dw):=AO.rec (λZ=>none) (λZ=>none) (λZ=>none) (λZ=>none) (λZ Z=>none) (λZ=>none) (λZ Z Z Z Z Z=>none) (λZ=>none) (λZ=>none) (λZ Z Z=>none) (λZ=>none) (λZ Z=>none) (λZ Z=>none) (λZ Z=>none) (λZ Z=>none) (λZ Z=>none) (λZ Z=>none) (λZ Z=>none) (λZ Z Z=>none) (λx=>some x) (λZ=>none) none o
def vKset(o:AO):Option (List Nat):=AO.rec (λZ=>none) (λZ=>none) (λZ=>none) (λZ=>none) (λZ Z=>none) (λZ=>none) (λZ Z Z Z Z Z=>none) (λZ=>none) (λZ=>none) (λZ Z Z=>none) (λZ=>none) (λZ Z=>none) (λZ Z=>none) (λZ Z=>none) (λZ Z=>none) (λZ Z=>none) (λZ Z=>none) (λZ Z=>none) (λZ Z Z=>none) (λZ=>none) (λx=>some x) none o
def vInst(o:AO):Option (Nat×Nat):=AO.rec (λZ=>none) (λZ=>none) (λZ=>none) (λZ=>none) (λc d=>some (c,d)) (λZ=>none) (λZ Z Z Z Z Z=>none) (λZ=>none) (λZ=>none) (λZ Z Z=>none) (λZ=>none) (λZ Z=>none) (λZ Z=>none) (λZ Z=>none) (λZ Z=>none) (λZ Z=>none) (λZ Z=>none) (λZ Z=>none) (λZ Z Z=>none) (λZ=>none) (λZ=>none) none o
def vCell(o:AO):Option (Option AV):=AO.rec (λZ=>none) (λZ=>none) (λZ=>none) (λZ=>none) (λZ Z=>none) (λv=>some v) (λZ Z Z Z Z Z=>none) (λZ=>none) (λZ=>none) (λZ Z Z=>none) (λZ=>none) (λZ Z=>none) (λZ Z=>none) (λZ Z=>none) (λZ Z=>none) (λZ Z=>none) (λZ Z=>none) (λZ Z=>none) (λZ Z Z=>none) (λZ=>none) (λZ=>none) none o
def vTab(o:AO):Option (Option (Nat×Nat×Nat)):=AO.rec (λZ=>none) (λZ=>none) (λZ=>none) (λZ=>none) (λZ Z=>none) (λZ=>none) (λZ Z Z Z Z Z=>none) (λZ=>none) (λt=>some t) (λZ Z Z=>none) (λZ=>none) (λZ Z=>none) (λZ Z=>none) (λZ Z=>none) (λZ Z=>none) (λZ Z=>none) (λZ Z=>none) (λZ Z=>none) (λZ Z Z=>none) (λZ=>none) (λZ=>none) none o
def vExc(o:AO):Option (Nat×Option Nat×Option Nat):=AO.rec (λZ=>none) (λZ=>none) (λZ=>none) (λZ=>none) (λZ Z=>none) (λZ=>none) (λZ Z Z Z Z Z=>none) (λZ=>none) (λZ=>none) (λc d tb=>some (c,d,tb)) (λZ=>none) (λZ Z=>none) (λZ Z=>none) (λZ Z=>none) (λZ Z=>none) (λZ Z=>none) (λZ Z=>none) (λZ Z=>none) (λZ Z Z=>none) (λZ=>none) (λZ=>none) none o
def vTb(o:AO):Option (Option Nat):=AO.rec (λZ=>none) (λZ=>none) (λZ=>none) (λZ=>none) (λZ Z=>none) (λZ=>none) (λZ Z Z Z Z Z=>none) (λZ=>none) (λZ=>none) (λZ Z Z=>none) (λt=>some t) (λZ Z=>none) (λZ Z=>none) (λZ Z=>none) (λZ Z=>none) (λZ Z=>none) (λZ Z=>none) (λZ Z=>none) (λZ Z Z=>none) (λZ=>none) (λZ=>none) none o
def isEit(o:AO):Bool:=AO.rec (λZ=>false) (λZ=>false) (λZ=>false) (λZ=>false) (λZ Z=>false) (λZ=>false) (λZ Z Z Z Z Z=>false) (λZ=>false) (λZ=>false) (λZ Z Z=>false) (λZ=>false) (λZ Z=>false) (λZ Z=>false) (λZ Z=>false) (λZ Z=>false) (λZ Z=>true) (λZ Z=>false) (λZ Z=>false) (λZ Z Z=>false) (λZ=>false) (λZ=>false) false o
def isIt(o:AO):Bool:=AO.rec (λZ=>false) (λZ=>false) (λZ=>false) (λZ=>false) (λZ Z=>false) (λZ=>false) (λZ Z Z Z Z Z=>false) (λZ=>false) (λZ=>false) (λZ Z Z=>false) (λZ=>false) (λZ Z=>false) (λZ Z=>true) (λZ Z=>true) (λZ Z=>true) (λZ Z=>true) (λZ Z=>true) (λZ Z=>true) (λZ Z Z=>true) (λZ=>false) (λZ=>false) false o
def isSeqIt(o:AO):Bool:=AO.rec (λZ=>false) (λZ=>false) (λZ=>false) (λZ=>false) (λZ Z=>false) (λZ=>false) (λZ Z Z Z Z Z=>false) (λZ=>false) (λZ=>false) (λZ Z Z=>false) (λZ=>false) (λZ Z=>false) (λZ Z=>true) (λZ Z=>false) (λZ Z=>false) (λZ Z=>true) (λZ Z=>true) (λZ Z=>false) (λZ Z Z=>false) (λZ=>false) (λZ=>false) false o
def gv(f:AO->Option α)(S:St)(i:Nat):Option α:=obO (S.get i) f
def Zw(a:AV):Option Int:=AV.rec none (λZ=>none) (λi=>some i) (λZ=>none) (λZ=>none) (λZ=>none) (λZ=>none) (λZ=>none) (λZ=>none) none (λZ Z=>none) (λZ Z=>none) (λZ=>none) (λZ Z=>none) a
def Zz(a:AV):Option Str:=AV.rec none (λZ=>none) (λZ=>none) (λi=>some i) (λZ=>none) (λZ=>none) (λZ=>none) (λZ=>none) (λZ=>none) none (λZ Z=>none) (λZ Z=>none) (λZ=>none) (λZ Z=>none) a
def Zh(a:AV):Option Nat:=AV.rec none (λZ=>none) (λZ=>none) (λZ=>none) (λZ=>none) (λZ=>none) (λZ=>none) (λZ=>none) (λi=>some i) none (λZ Z=>none) (λZ Z=>none) (λZ=>none) (λZ Z=>none) a
def noneB(a:AV):Bool:=AV.rec (true) (λZ=>false) (λZ=>false) (λZ=>false) (λZ=>false) (λZ=>false) (λZ=>false) (λZ=>false) (λZ=>false) false (λZ Z=>false) (λZ Z=>false) (λZ=>false) (λZ Z=>false) a
def ZN(a:AV):Option Bool:=AV.rec none (λb=>some b) (λZ=>none) (λZ=>none) (λZ=>none) (λZ=>none) (λZ=>none) (λZ=>none) (λZ=>none) none (λZ Z=>none) (λZ Z=>none) (λZ=>none) (λZ Z=>none) a
def Zo(a:AV):Option AV:=AV.rec (some a) (λZ=>some a) (λZ=>some a) (λZ=>some a) (λZ=>some a) (λZ=>none) (λZ=>some a) (λZ=>some a) (λZ=>some a) (none) (λZ Z=>some a) (λZ Z=>some a) (λZ=>some a) (λZ Z=>some a) a
def thereV(a:AV):Option AV:=AV.rec (some a) (λZ=>some a) (λZ=>some a) (λZ=>some a) (λZ=>some a) (λZ=>some a) (λZ=>some a) (λZ=>some a) (λZ=>some a) (none) (λZ Z=>some a) (λZ Z=>some a) (λZ=>some a) (λZ Z=>some a) a
def WI(e:Expr):Bool:=Nat.beq e.ctorIdx 22
def noStar(l:List Expr):Bool:=List.rec true (λe Z ih=>Bool.rec ih false (WI e)) l
def neL(l:List α):Bool:=List.rec false (λZ Z Z=>true) l
def JU(x:Str)(l:List Str):Bool:=List.rec false (λy Z ih=>Bool.rec ih true (sEq y x)) l
def Yd(l:List Str):Bool:=List.rec true (λx r ih=>Bool.rec ih false (JU x r)) l
def JN(a:Nat)(l:List Nat):Bool:=List.rec false (λb Z ih=>Bool.rec ih true (Nat.beq a b)) l
def JE(a:Nat)(l:List (Nat×α)):Option α:=List.rec none (λp Z ih=>Bool.rec ih (some p.2) (Nat.beq a p.1)) l
def lookM(c:Nat)(x:Str)(l:List (Nat×Str×α)):Option α:=List.rec none (λp Z ih=>Prod.rec (λd q=>Bool.rec ih (Prod.rec (λy v=>Bool.rec ih (some v) (sEq x y)) q) (Nat.beq c d)) p) l
def WD(a:Nat)(l:Frag):Option Obj:=List.rec none (λp Z ih=>Bool.rec ih (some p.2) (Nat.beq a p.1)) l
def avOf(v:Value):Option AV:=match v with
 |.none=>some .none|.bool b=>some (.bool b)|.int i _=>some (.int i)|.str s _=>some (.str s)|.ref a=>some (.st a)|_=>none
def avsOf(l:List Value):Option (List AV):=List.rec (some []) (λv Z ih=>obO (avOf v) λa=>obO ih λl=>some (a::l)) l
def seqD(d:Data):Option (List Value):=match d with|.seq xs _=>some xs.toList|_=>none
def seqOf(o:Obj):Option (List Value):=seqD o.data
def tupO(o:Obj):Option (List Value):=ifO (o.cls==.type "tuple"&&o.dict.isNone&&o.slots.isEmpty) (obO (seqD o.data) λl=>some l)
def dicD(d:Data):Option (List DictEntry×Nat):=match d with|.dict es n=>some (es.toList,n)|_=>none
def dicO(o:Obj):Option (List DictEntry):=ifO (o.cls==.type "dict"&&o.dict.isNone&&o.slots.isEmpty) (obO (dicD o.data) λl=>some l.1)
def keyS(e:DictEntry):Option Str:=match e.key with|.str s _=>some s|_=>none
def esOf(l:List DictEntry):Option (List (Str×AV)):=List.rec (some []) (λe Z ih=>obO (keyS e) λx=>obO (avOf e.val) λv=>obO ih λl=>some ((x,v)::l)) l
def refOf(v:Value):Option Addr:=match v with|.ref a=>some a|_=>none
def dfOf(K:Frag)(v:Value):Option (List AV):=match v with
 |.none=>some []
 |.ref a=>obO (WD a K) λo=>obO (seqOf o) avsOf
 |_=>none
def funO(o:Obj):Option FuncData:=match o with|⟨_,_,.func fd,_⟩=>some fd|_=>none
def fnOk(fd:FuncData):Bool:=Nat.beq fd.globals mainGlobals&&Nat.beq fd.builtins builtinsNs&&Yd (fd.params.args.map (·.arg))&&decide (fd.scope.kind=.function)&&!fd.scope.isCoroutine&&!fd.scope.isGenerator
def stmtsO(fd:FuncData):Option (List Stmt×List Arg):=match fd.body,fd.params,fd.closure with|.stmts b,⟨[],as,none,[],_,none,_⟩,[]=>some (b,as)|_,_,_=>none
def fnOf(K:Frag)(a:Nat):Option FnI:=obO (WD a K) λo=>obO (funO o) λfd=>obO (stmtsO fd) λb=>obO (refOf fd.code) λc=>obO (dfOf K fd.defaults) λdf=>ifO (fnOk fd) (some ⟨b.2.map (·.arg),df,b.1,fd.scope,c,fd.qualname⟩)
def t_gl:List (Str×AV):=[(("law":Str),AV.st 845),(("len":Str),AV.bi .len),(("min":Str),AV.bi .min),(("Data":Str),AV.st 228),(("Item":Str),AV.st 202),(("Named":Str),AV.st 155),(("Token":Str),AV.st 782),(("_wall":Str),AV.st 21),(("range":Str),AV.ty .range),(("tuple":Str),AV.ty .tuple),(("FILLER":Str),AV.str "FILLER"),(("Reader":Str),AV.st 745),(("CLASSED":Str),AV.st 393),(("CLASSES":Str),AV.st 392),(("FIGURES":Str),AV.str "0123456789"),(("decimal":Str),AV.st 89),(("file_of":Str),AV.st 327),(("negated":Str),AV.st 96),(("records":Str),AV.st 239),(("root_of":Str),AV.st 267),(("_law_sip":Str),AV.st 802),(("_law_tap":Str),AV.st 795),(("is_whole":Str),AV.st 110),(("read_all":Str),AV.st 308),(("read_ref":Str),AV.st 301),(("read_sum":Str),AV.st 355),(("units_at":Str),AV.st 103),(("whole_of":Str),AV.st 117),(("worth_of":Str),AV.st 124),(("Exception":Str),AV.ty .exception),(("OPPOSITES":Str),AV.st 391),(("RELATIONS":Str),AV.st 396),(("_law_data":Str),AV.st 807),(("all_items":Str),AV.st 253),(("enumerate":Str),AV.ty .enumerate),(("read_part":Str),AV.st 294),(("word_here":Str),AV.st 404),(("MOST_OCTET":Str),AV.int 255),(("TokenFault":Str),AV.st 60),(("_law_NAMES":Str),AV.st 787),(("_law_heard":Str),AV.st 828),(("_law_leads":Str),AV.st 814),(("read_power":Str),AV.st 383),(("sign_among":Str),AV.st 348),(("worth_here":Str),AV.st 756),(("LedgerError":Str),AV.st 47),(("_law_tokens":Str),AV.st 821),(("is_reserved":Str),AV.st 571),(("items_under":Str),AV.st 246),(("read_factor":Str),AV.st 369),(("read_figure":Str),AV.st 315),(("FIGURE_NAMES":Str),AV.st 273),(("GrammarFault":Str),AV.st 72),(("_law_CLASSES":Str),AV.st 788),(("cut_quotient":Str),AV.st 81),(("is_part_next":Str),AV.st 280),(("items_around":Str),AV.st 260),(("names_around":Str),AV.st 272),(("read_decimal":Str),AV.st 131),(("read_operand":Str),AV.st 322),(("read_primary":Str),AV.st 390),(("read_product":Str),AV.st 362),(("record_roots":Str),AV.st 550),(("shared_names":Str),AV.st 564),(("leads_through":Str),AV.st 334),(("place_of_word":Str),AV.st 418),(("WORDS_OF_SIGNS":Str),AV.st 394),(("is_lone_number":Str),AV.st 376),(("is_relation_at":Str),AV.st 411),(("octets_of_text":Str),AV.st 576),(("read_condition":Str),AV.st 543),(("ConditionReader":Str),AV.st 526),(("MOST_SUBSCRIPTS":Str),AV.int 7),(("condition_names":Str),AV.st 557),(("names_condition":Str),AV.st 535),(("read_expression":Str),AV.st 341),(("read_subscripts":Str),AV.st 287),(("_law_names_right":Str),AV.st 833),(("is_predicate_here":Str),AV.st 425),(("WORDS_OF_RELATIONS":Str),AV.st 395),(("_law_classes_right":Str),AV.st 840),(("MOST_DEEP_conditions":Str),AV.int 20),(("MOST_DEEP_expressions":Str),AV.int 20),(("is_bare_relation_here":Str),AV.st 432),(("ord":Str),AV.bi .ord),(("bytes":Str),AV.ty .bytes),(("list":Str),AV.ty .list),(("sorted":Str),AV.bi .sorted),(("abs":Str),AV.bi .abs),(("int":Str),AV.ty .int),(("dict":Str),AV.ty .dict)]
def t_me:List (Nat×Str×Nat):=[(202,("add":Str),180),(526,("both":Str),460),(745,("name":Str),678),(745,("peek":Str),599),(745,("skip":Str),642),(745,("take":Str),620),(745,("fault":Str),613),(526,("either":Str),453),(745,("octets":Str),742),(745,("one_of":Str),656),(745,("signed":Str),721),(526,("single":Str),474),(526,("turned":Str),467),(202,("clauses":Str),194),(745,("is_kind":Str),628),(745,("is_name":Str),671),(745,("is_sign":Str),693),(745,("is_word":Str),635),(155,("__init__":Str),145),(202,("__init__":Str),173),(228,("__init__":Str),220),(526,("__init__":Str),446),(745,("__init__":Str),591),(782,("__init__":Str),772),(526,("relation":Str),516),(745,("is_number":Str),714),(745,("need_sign":Str),707),(526,("predicate":Str),509),(526,("sign_here":Str),523),(745,("skip_sign":Str),700),(526,("in_brackets":Str),488),(526,("unbracketed":Str),481),(526,("sign_of_last":Str),502),(526,("subject_of_last":Str),495)]
def t_att:List (Nat×Str):=[(782,("kind":Str)),(782,("worth":Str)),(782,("at":Str)),(782,("is_in_a":Str)),(745,("tokens":Str)),(745,("at":Str)),(745,("named":Str)),(745,("shared":Str)),(526,("reader":Str)),(526,("is_named":Str)),(526,("depth":Str)),(526,("last":Str)),(202,("level":Str)),(202,("name":Str)),(202,("picture_text":Str)),(202,("usage":Str)),(202,("sign":Str)),(202,("is_separate":Str)),(202,("occurs":Str)),(202,("redefines":Str)),(202,("value":Str)),(202,("is_justified":Str)),(202,("is_blank_zero":Str)),(202,("conditions":Str)),(202,("kids":Str)),(202,("parent":Str)),(202,("renames":Str)),(202,("base":Str)),(202,("offset":Str)),(202,("size":Str)),(202,("shape":Str)),(155,("name":Str)),(155,("rows":Str)),(228,("working":Str)),(228,("linkage":Str)),(228,("files":Str)),(228,("sorts":Str)),(228,("size":Str)),(228,("indexes":Str))]
def t_eat:List (Nat×Str):=[(60,("what":Str)),(60,("at":Str)),(72,("what":Str)),(72,("at":Str))]
def t_mkr:List (Nat×Nat):=[(155,145),(202,173),(228,220),(526,446),(745,591),(782,772),(60,37),(72,37)]
def t_fns:List Nat:=[37,89,96,124,131,145,173,180,194,220,239,246,253,260,267,272,280,294,301,308,315,322,327,334,341,348,355,362,369,376,383,390,404,411,418,425,432,446,453,460,467,474,481,488,495,502,509,516,523,535,543,550,557,564,571,576,591,599,613,620,628,635,642,656,671,678,693,700,707,714,721,742,756,772,795,802,807,814,821,828,833,840,845]
def t_tups:List Nat:=[29,30,392,393,396,787,788]
def t_dics:List Nat:=[273,391,394,395]
def t_exs:List Nat:=[60,72]
def t_kps:List Nat:=[37,89,96,124,131,145,173,180,194,220,239,246,253,260,267,272,280,294,301,308,315,322,327,334,341,348,355,362,369,376,383,390,404,411,418,425,432,446,453,460,467,474,481,488,495,502,509,516,523,535,543,550,557,564,571,576,591,599,613,620,628,635,642,656,671,678,693,700,707,714,721,742,756,772,795,802,807,814,821,828,833,840,845,60,72,155,202,228,526,745,782]
def t_tabs:List (Nat×Nat):=[(542,0),(389,1)]
def fnP(P:Params)(a:Nat):Option FnI:=ifO (JN a t_fns) (fnOf (MineH.KR P) a)
def tupP(P:Params)(a:Nat):Option (List AV):=ifO (JN a t_tups) (obO (WD a (MineH.KR P)) λo=>obO (tupO o) avsOf)
def dicP(P:Params)(a:Nat):Option (List (Str×AV)):=ifO (JN a t_dics) (obO (WD a (MineH.KR P)) λo=>obO (dicO o) esOf)
def lookP(c:Nat)(x:Str)(l:List (Nat×Str)):Bool:=List.rec false (λp Z ih=>Prod.rec (λd y=>Bool.rec ih (Bool.rec ih true (sEq x y)) (Nat.beq c d)) p) l
def attP(c:Nat)(x:Str):Bool:=lookP c x t_att
def eatP(c:Nat)(x:Str):Bool:=lookP c x t_eat
def excP(c:Nat):Bool:=JN c t_exs
def glP(cx:Cx)(x:Str):Option AV:=Option.rec (look x t_gl) (λv=>some v) (look x cx.kn.gl)
def ZP(cx:Cx)(S:St)(a:AV):Option (List AV):=AV.rec none (λZ=>none) (λZ=>none) (λZ=>none) (λZ=>none) (λZ=>none) (λZ=>none) (λt=>tupP cx.P t) (λi=>gv vTup S i) none (λZ Z=>none) (λZ Z=>none) (λk=>obO (cx.kn.sob k) vTup) (λZ Z=>none) a
def Wo(cx:Cx)(S:St)(a:AV):Option (List AV):=AV.rec none (λZ=>none) (λZ=>none) (λZ=>none) (λZ=>none) (λZ=>none) (λZ=>none) (λZ=>none) (λi=>gv Zc S i) none (λZ Z=>none) (λZ Z=>none) (λk=>obO (cx.kn.sob k) Zc) (λZ Z=>none) a
def dictV(cx:Cx)(S:St)(a:AV):Option (List (Str×AV)):=AV.rec none (λZ=>none) (λZ=>none) (λZ=>none) (λZ=>none) (λZ=>none) (λZ=>none) (λt=>dicP cx.P t) (λi=>gv Zi S i) none (λZ Z=>none) (λZ Z=>none) (λZ=>none) (λZ Z=>none) a
def JT(l:List α):Bool:=Nat.ble l.length 1000
def shortS(x:Str):Bool:=Nat.ble x.length 100000
def truS(cx:Cx)(S:St)(a:AV):Option Bool:=Option.rec (obO (Wo cx S a) λl=>ifO (JT l) (some (neL l))) (λl=>ifO (JT l) (some (neL l))) (ZP cx S a)
def truF(cx:Cx)(S:St)(a:AV):Option Bool:=AV.rec (some false) (λb=>some b) (λi=>some (i !=0)) (λs=>ifO (shortS s) (some ((s.length:Int) !=0))) (λZ=>none) (λZ=>none) (λZ=>none) (λZ=>none) (λi=>truS cx S (.loc i)) none (λZ Z=>none) (λZ Z=>none) (λk=>truS cx S (.op k)) (λZ Z=>none) a
def smallC(e:Expr):Bool:=match e with|.Constant (.int _) _ _=>true|_=>false
def smallI(x:Int):Bool:=decide (Builtin.Int.intBits x<=64)
def addS(cx:Cx)(S:St)(a b:AV):R:=ob (Wo cx S a) λx=>ob (Wo cx S b) λy=>ifT (JT (x++y)) (pushV S (.list (x++y)))
def intR(S:St)(i:Int):R:=.ok (.v (.int i)) S
def addA(cx:Cx)(S:St)(a b:AV):R:=AV.rec .no (λZ=>.no) (λi=>ob (Zw b) λj=>intR S (i+j)) (λx=>ob (Zz b) λy=>ifT (Nat.ble (x.length+y.length) 100000) (.ok (.v (.str (x++y))) S)) (λZ=>.no) (λZ=>.no) (λZ=>.no) (λZ=>.no) (λi=>addS cx S (.loc i) b) .no (λZ Z=>.no) (λZ Z=>.no) (λi=>addS cx S (.op i) b) (λZ Z=>.no) a
def int2(a b:AV)(k:Int->Int->R):R:=ob (Zw a) λx=>ob (Zw b) λy=>k x y
def powI(S:St)(x y:Int):R:=match y with|.ofNat k=>ifT (decide ((Builtin.Int.intBits x:Int)*k<=2 ^ 27)) (intR S (x ^ k))|_=>.no
def binA(cx:Cx)(l:Expr)(op:Operator)(a b:AV)(S:St):R:=match op with
 |.Add=>addA cx S a b
 |.Sub=>int2 a b λx y=>intR S (x-y)
 |.Mult=>int2 a b λx y=>ifT (Bool.rec (smallI y) (smallI x) (smallC l)) (intR S (x*y))
 |.FloorDiv=>int2 a b λx y=>Bool.rec (Bool.rec (intR S (Int.fdiv x y)) .no (Builtin.divisionGoesByPylong x y)) .no (decide (y=0))
 |.Mod=>int2 a b λx y=>Bool.rec (intR S (Int.fmod x y)) .no (decide (y=0))
 |.Pow=>int2 a b λx y=>powI S x y
 |_=>.no
def unA(cx:Cx)(op:UnaryOp)(a:AV)(S:St):R:=match op with
 |.Not=>ob (truF cx S a) λb=>.ok (.v (.bool (!b))) S
 |.USub=>ob (Zw a) λi=>intR S (-i)
 |_=>.no
def qb(o:Option Bool):Option Qb:=obO o λb=>some (.b b)
def sameRef(a b:AV):Option Bool:=match a,b with
 |.loc i,.loc j=>some (Nat.beq i j)
 |.st a,.st b=>some (Nat.beq a b)
 |.loc _,.st _=>some false
 |.st _,.loc _=>some false
 |.op _,.loc _=>some false
 |.loc _,.op _=>some false
 |_,_=>none
def WG(a:AV):Option Nat:=AV.rec none (λZ=>none) (λZ=>none) (λZ=>none) (λZ=>none) (λZ=>none) (λZ=>none) (λZ=>none) (λZ=>none) none (λc k=>some k) (λZ Z=>none) (λZ=>none) (λZ Z=>none) a
def bytV(a:AV):Option (List Nat):=AV.rec none (λZ=>none) (λZ=>none) (λZ=>none) (λl=>some l) (λZ=>none) (λZ=>none) (λZ=>none) (λZ=>none) none (λZ Z=>none) (λZ Z=>none) (λZ=>none) (λZ Z=>none) a
def known(q:Qb):Option Bool:=Qb.rec (λb=>some b) (λZ=>none) q
def eqSym(cx:Cx)(i j:Nat):Option Qb:=Bool.rec (cx.kn.eqs i j) (some (.b true)) (Nat.beq i j)
def bxor1(x y:Bool):Bool:=Bool.rec (Bool.rec true false y) y x
def leafT(cx:Cx)(a b:AV):Option Bool:=AV.rec (ifO (noneB b) (some true)) (λx=>obO (ZN b) λy=>some (bxor1 x y)) (λx=>obO (Zw b) λy=>some (decide (x=y))) (λx=>obO (Zz b) λy=>some (sEq x y)) (λx=>obO (bytV b) λy=>some (eqL x y)) (λZ=>none) (λZ=>none) (λZ=>none) (λZ=>none) none (λZ i=>obO (WG b) λj=>obO (eqSym cx i j) known) (λZ Z=>none) (λZ=>none) (λZ Z=>none) a
def allI(f:AV->AV->Option Bool)(l:List AV):List AV->Option Bool:=List.rec (motive:=λZ=>List AV->Option Bool) (λr=>List.rec (some true) (λZ Z Z=>some false) r) (λa Z ih r=>List.rec (some false) (λb r Z=>obO (f a b) λc=>Bool.rec none (ih r) c) r) l
def eqI(cx:Cx)(S:St)(n:Nat):AV->AV->Option Bool:=Nat.rec (motive:=λZ=>AV->AV->Option Bool) (λZ Z=>none) (λZ ih a b=>Option.rec (ifO (Option.rec true (λZ=>false) (ZP cx S b)) (leafT cx a b)) (λl=>obO (ZP cx S b) λr=>obO (sameRef a b) λq=>Bool.rec (allI ih l r) (some true) q) (ZP cx S a)) n
def eqTup(cx:Cx)(S:St)(a b:AV)(l:List AV):Option Bool:=obO (ZP cx S b) λr=>obO (sameRef a b) λq=>Bool.rec (allI (eqI cx S 9) l r) none q
def eqList(cx:Cx)(S:St)(a b:AV):Option Bool:=obO (Wo cx S a) λl=>obO (gv Zc S (Option.rec 0 (λi=>i) (Zh b))) λr=>obO (Zh b) λZ=>Bool.rec (some (Bool.rec true false (neL l))) (obO (allI (leafT cx) l r) λq=>ifO q (some true)) (neL r)
def eqLoc(cx:Cx)(S:St)(a b:AV):Option Bool:=Option.rec (eqList cx S a b) (λl=>eqTup cx S a b l) (ZP cx S a)
def eqA(cx:Cx)(S:St)(a b:AV):Option Qb:=AV.rec (ifO (noneB b) (some (.b true))) (λx=>obO (ZN b) λy=>some (.b (bxor1 x y))) (λx=>obO (Zw b) λy=>some (.b (decide (x=y)))) (λx=>obO (Zz b) λy=>some (.b (sEq x y))) (λZ=>none) (λZ=>none) (λZ=>none) (λa=>qb (eqLoc cx S (.st a) b)) (λa=>qb (eqLoc cx S (.loc a) b)) none (λZ i=>obO (WG b) λj=>eqSym cx i j) (λZ Z=>none) (λa=>qb (eqLoc cx S (.op a) b)) (λZ Z=>none) a
def strsA(l:List AV):Option (List Str):=List.rec (some []) (λa Z ih=>obO (Zz a) λx=>obO ih λr=>some (x::r)) l
def memL(x:Str)(l:List AV):Option Bool:=obO (strsA l) λys=>some (JU x ys)
def JH(o:Option α):Bool:=Option.rec false (λZ=>true) o
def inStr(cx:Cx)(S:St)(x:Str)(b:AV):Option Bool:=Option.rec (Option.rec (obO (dictV cx S b) λes=>some (JH (look x es))) (λl=>memL x l) (Wo cx S b)) (λl=>memL x l) (ZP cx S b)
def inA(cx:Cx)(S:St)(x:Str)(b:AV):Option Bool:=AV.rec none (λZ=>none) (λZ=>none) (λy=>some (!(Builtin.Str.occurrences y x 0 y.length 1).isEmpty)) (λZ=>none) (λZ=>none) (λZ=>none) (λt=>inStr cx S x (.st t)) (λt=>inStr cx S x (.loc t)) none (λZ Z=>none) (λZ Z=>none) (λk=>cx.kn.smem k x) (λZ Z=>none) b
def opV(a:AV):Option Nat:=AV.rec none (λZ=>none) (λZ=>none) (λZ=>none) (λZ=>none) (λZ=>none) (λZ=>none) (λZ=>none) (λZ=>none) none (λZ Z=>none) (λZ Z=>none) (λk=>some k) (λZ Z=>none) a
def isA(cx:Cx)(S:St)(a b:AV):Option Bool:=AV.rec (some (noneB a)) (λZ=>none) (λZ=>none) (λZ=>none) (λZ=>none) (λZ=>none) (λZ=>none) (λZ=>none) (λj=>obO (Zh a) λi=>obO (gv vInst S i) λZ=>obO (gv vInst S j) λZ=>some (Nat.beq i j)) none (λZ Z=>none) (λZ Z=>none) (λj=>obO (opV a) λi=>cx.kn.same i j) (λZ Z=>none) b
def leI(a b:AV)(k:Int->Int->Bool):Option Qb:=obO (Zw a) λx=>obO (Zw b) λy=>some (.b (k x y))
def leS(a b:AV):Option Qb:=obO (Zz a) λx=>obO (Zz b) λy=>some (.b (!(decide (y.cps.toList<x.cps.toList))))
def cmp0(cx:Cx)(S:St)(op:CmpOp)(a b:AV):Option Bool:=match op with
 |.Eq=>obO (eqA cx S a b) known
 |.NotEq=>obO (eqA cx S a b) λq=>obO (known q) λb=>some (Bool.rec true false b)
 |.LtE=>obO (leS a b) known
 |.In=>obO (Zz a) λx=>inA cx S x b
 |.NotIn=>obO (Zz a) λx=>obO (inA cx S x b) λr=>some (Bool.rec true false r)
 |_=>none
def sameB(b:Bool)(p:Str->Option Bool)(l:List Str):Bool:=List.rec true (λy Z ih=>Option.rec false (λc=>Bool.rec false ih (bxor1 b c)) (p y)) l
def agree(l:List Str)(p:Str->Option Bool):Option Bool:=List.rec none (λz r Z=>obO (p z) λb=>ifO (sameB b p r) (some b)) l
def symsV(l:List AV):Option (List Nat):=List.rec (some []) (λa Z ih=>obO (WG a) λk=>obO ih λr=>some (k::r)) l
def idxN(cx:Cx)(i:Nat)(l:List Nat):Nat->Option (Option Nat):=List.rec (motive:=λZ=>Nat->Option (Option Nat)) (λZ=>some none) (λj Z ih k=>obO (eqSym cx j i) λq=>obO (known q) λr=>Bool.rec (ih (k+1)) (some (some k)) r) l
def idxX(cx:Cx)(i:Nat)(l:List AV):Option (Option Nat):=obO (symsV l) λks=>idxN cx i ks 0
def inSyms(cx:Cx)(S:St)(i:Nat)(b:AV):Option Bool:=obO (Wo cx S b) λl=>obO (idxX cx i l) λr=>some (JH r)
def inSym(cx:Cx)(S:St)(c i:Nat)(b:AV):Option Qb:=Option.rec (Option.rec (qb (agree (JR c) λz=>inA cx S z b)) (λk=>Option.rec (cx.kn.lmem k i) (λq=>some q) (cx.kn.mem k i)) (opV b)) (λr=>some (.b r)) (inSyms cx S i b)
def cmpSym(cx:Cx)(S:St)(op:CmpOp)(c i:Nat)(b:AV):Option (Bool×Qb):=match op with
 |.Eq=>Option.rec (obO (agree (JR c) λz=>cmp0 cx S .Eq (.str z) b) λr=>some (false,.b r)) (λj=>obO (eqSym cx i j) λq=>some (false,q)) (WG b)
 |.NotEq=>Option.rec (obO (agree (JR c) λz=>cmp0 cx S .NotEq (.str z) b) λr=>some (false,.b r)) (λj=>obO (eqSym cx i j) λq=>some (true,q)) (WG b)
 |.In=>obO (inSym cx S c i b) λq=>some (false,q)
 |.NotIn=>obO (inSym cx S c i b) λq=>some (true,q)
 |op=>obO (agree (JR c) λz=>cmp0 cx S op (.str z) b) λr=>some (false,.b r)
def cmpHd(cx:Cx)(S:St)(op:CmpOp)(c:Nat)(b:AV):Option (Bool×Qb):=obO (agree (JR c) λz=>cmp0 cx S op (.str (headS z)) b) λr=>some (false,.b r)
def Wh(a:AV):Option (Nat×Bool):=AV.rec none (λZ=>none) (λZ=>none) (λZ=>none) (λZ=>none) (λZ=>none) (λZ=>none) (λZ=>none) (λZ=>none) none (λc k=>some (c,false)) (λc k=>some (c,true)) (λZ=>none) (λZ Z=>none) a
def cmpR(cx:Cx)(S:St)(op:CmpOp)(a:AV)(c:Nat)(h:Bool):Option (Bool×Qb):=obO (agree (JR c) λz=>cmp0 cx S op a (.str (Bool.rec z (headS z) h))) λr=>some (false,.b r)
def cmpK(cx:Cx)(S:St)(op:CmpOp)(a b:AV):Option (Bool×Qb):=match op with
 |.Eq=>obO (eqA cx S a b) λq=>some (false,q)
 |.NotEq=>obO (eqA cx S a b) λq=>some (true,q)
 |.Lt=>obO (leI a b λx y=>decide (x<y)) λq=>some (false,q)
 |.Gt=>obO (leI a b λx y=>decide (y<x)) λq=>some (false,q)
 |.GtE=>obO (leI a b λx y=>decide (y<=x)) λq=>some (false,q)
 |.LtE=>Option.rec (obO (leI a b λx y=>decide (x<=y)) λq=>some (false,q)) (λq=>some (false,q)) (leS a b)
 |.Is=>obO (isA cx S a b) λr=>some (false,.b r)
 |.IsNot=>ifO (noneB b) (some (true,.b (noneB a)))
 |.In=>obO (Zz a) λx=>obO (inA cx S x b) λr=>some (false,.b r)
 |.NotIn=>obO (Zz a) λx=>obO (inA cx S x b) λr=>some (true,.b r)
def cmpL(cx:Cx)(S:St)(op:CmpOp)(a b:AV):Option (Bool×Qb):=Option.rec (cmpK cx S op a b) (λp=>cmpR cx S op a p.1 p.2) (Wh b)
def cmpA(cx:Cx)(S:St)(op:CmpOp)(a b:AV):Option (Bool×Qb):=AV.rec (cmpL cx S op a b) (λZ=>cmpL cx S op a b) (λZ=>cmpL cx S op a b) (λZ=>cmpL cx S op a b) (λZ=>cmpL cx S op a b) (λZ=>cmpL cx S op a b) (λZ=>cmpL cx S op a b) (λZ=>cmpL cx S op a b) (λZ=>cmpL cx S op a b) (cmpL cx S op a b) (λc k=>cmpSym cx S op c k b) (λc k=>cmpHd cx S op c b) (λZ=>cmpL cx S op a b) (λZ Z=>cmpL cx S op a b) a
def JM(b:Bool):Bool:=Bool.rec true false b
def cellG(S:St)(x:Str)(cells:List (Str×Nat)):Option AV:=obO (look x cells) λc=>obO (gv vCell S c) λv=>v
def nameK(cx:Cx)(f:FrA)(S:St)(x:Str)(k:NameKind):Option AV:=NameKind.rec (obO (gv vNs S f.l) λes=>obO (look x es) thereV) (cellG S x f.cells) (ifO (JM (sEq x "__classdict__")) (cellG S x f.cells)) none (glP cx x) k
def nameA(cx:Cx)(f:FrA)(S:St)(x:Str):Option AV:=ifO (JM (sEq x "__debug__")) (obO (look x f.sc.names) λk=>nameK cx f S x k)
def storeK(f:FrA)(S:St)(x:Str)(v:AV)(k:NameKind):Option St:=NameKind.rec (obO (gv vNs S f.l) λes=>S.set f.l (.ns (put x v es))) (obO (look x f.cells) λc=>obO (gv vCell S c) λZ=>S.set c (.cell (some v))) none none none k
def Wi(f:FrA)(S:St)(x:Str)(v:AV):Option St:=obO (look x f.sc.names) λk=>storeK f S x v k
def dropA(f:FrA)(S:St)(x:Str):Option St:=obO (look x f.sc.names) λk=>NameKind.rec (obO (gv vNs S f.l) λes=>S.set f.l (.ns (put x .junk es))) none none none none k
def dictAtt(S:St)(x:Str)(d:Nat):Option AV:=obO (gv Zi S d) λes=>obO (look x es) Zo
def objAtt(S:St)(x:Str)(o:AO):Option AV:=AO.rec (λZ=>none) (λZ=>none) (λZ=>none) (λZ=>none) (λc d=>ifO (attP c x) (dictAtt S x d)) (λZ=>none) (λZ Z Z Z Z Z=>none) (λZ=>none) (λZ=>none) (λc d Z=>obO d λd=>ifO (eatP c x) (dictAtt S x d)) (λZ=>none) (λZ Z=>none) (λZ Z=>none) (λZ Z=>none) (λZ Z=>none) (λZ Z=>none) (λZ Z=>none) (λZ Z=>none) (λZ Z Z=>none) (λZ=>none) (λZ=>none) none o
def attrA(cx:Cx)(S:St)(a:AV)(x:Str):Option AV:=AV.rec none (λZ=>none) (λZ=>none) (λZ=>none) (λZ=>none) (λZ=>none) (λZ=>none) (λZ=>none) (λi=>obO (S.get i) λo=>objAtt S x o) none (λZ Z=>none) (λZ Z=>none) (λk=>cx.kn.oatt k x) (λZ Z=>none) a
def dictSet(S:St)(x:Str)(v:AV)(d:Nat):Option St:=obO (gv Zi S d) λes=>ifO (Nat.ble es.length 900) (S.set d (.dict (put x v es)))
def excSet(S:St)(i:Nat)(x:Str)(v:AV)(c:Nat)(tb:Option Nat)(d:Option Nat):Option St:=Option.rec (obO (S.push (.dict [(x,v)])) λS1=>S1.set i (.exc c (some S.n) tb)) (λd=>dictSet S x v d) d
def setO(S:St)(i:Nat)(x:Str)(v:AV)(o:AO):Option St:=AO.rec (λZ=>none) (λZ=>none) (λZ=>none) (λZ=>none) (λc d=>ifO (attP c x) (dictSet S x v d)) (λZ=>none) (λZ Z Z Z Z Z=>none) (λZ=>none) (λZ=>none) (λc d tb=>ifO (eatP c x) (excSet S i x v c tb d)) (λZ=>none) (λZ Z=>none) (λZ Z=>none) (λZ Z=>none) (λZ Z=>none) (λZ Z=>none) (λZ Z=>none) (λZ Z=>none) (λZ Z Z=>none) (λZ=>none) (λZ=>none) none o
def setA(S:St)(a:AV)(x:Str)(v:AV):Option St:=obO (Zh a) λi=>obO (S.get i) λo=>setO S i x v o
def plainBase(e:Expr):Bool:=match e with|.Call (.Name _ _) [] [] _=>false|_=>true
def Zs(e:Expr):Bool:=Bool.rec true false (Nat.beq e.ctorIdx 26)
def ltI(k:Int):Bool:=decide (-(2 ^ 62)<=k)&&decide (k<2 ^ 62)
def isTab(l:List AV):List Str->Bool:=List.rec (motive:=λZ=>List Str->Bool) (λr=>List.rec true (λZ Z Z=>false) r) (λa Z ih r=>List.rec false (λx r Z=>Option.rec false (λy=>Bool.rec false (ih r) (sEq y x)) (Zz a)) r) l
def ixV(a:AV):Option (Nat×Nat):=AV.rec none (λZ=>none) (λZ=>none) (λZ=>none) (λZ=>none) (λZ=>none) (λZ=>none) (λZ=>none) (λZ=>none) none (λZ Z=>none) (λZ Z=>none) (λZ=>none) (λm k=>some (m,k)) a
def itemL(l:List AV)(k:Int):Option AV:=ifO (ltI k) (obO (seqIndex? k l.length) λj=>l[j]?)
def subTup(l:List AV)(i:AV):Option AV:=Option.rec (obO (ixV i) λp=>ifO (isTab l (JG p.1)) (some (.sym (ixCls p.1) p.2))) (λk=>itemL l k) (Zw i)
def subList(l:List AV)(i:AV):Option AV:=obO (Zw i) λk=>ifO (JT l) (itemL l k)
def subDict(cx:Cx)(S:St)(a i:AV):Option AV:=obO (dictV cx S a) λes=>obO (Zz i) λx=>look x es
def subRef(cx:Cx)(S:St)(a i:AV):Option AV:=Option.rec (Option.rec (subDict cx S a i) (λl=>subList l i) (Wo cx S a)) (λl=>subTup l i) (ZP cx S a)
def subOp(cx:Cx)(S:St)(k:Nat)(i:AV):Option AV:=Option.rec (Option.rec (subRef cx S (.op k) i) (λv=>ifO (Option.rec false (λi=>decide (i=0)) (Zw i)) (some v)) (cx.kn.fst k)) (λj=>cx.kn.dget k j) (WG i)
def strAt(x:Str)(k:Int):Option AV:=ifO (ltI k) (obO (seqIndex? k x.length) λj=>obO (x.cps[j]?) λc=>some (.str ⟨#[c]⟩))
def subA(cx:Cx)(S:St)(a i:AV):Option AV:=AV.rec none (λZ=>none) (λZ=>none) (λx=>obO (Zw i) λk=>strAt x k) (λZ=>none) (λZ=>none) (λZ=>none) (λt=>subRef cx S (.st t) i) (λt=>subRef cx S (.loc t) i) none (λc k=>obO (Zw i) λj=>ifO (decide (j=0)) (ifO (Nat.blt c 2) (some (.hd c k)))) (λZ Z=>none) (λk=>subOp cx S k i) (λZ Z=>none) a
def pickA(vs:List AV)(lo hi:Option Int):List AV:=
 (sliceRange (sliceBounds lo hi none vs.length).1 (sliceBounds lo hi none vs.length).2.1 (sliceBounds lo hi none vs.length).2.2).filterMap (vs[·]?)
def boundA(a:AV):Option (Option Int):=AV.rec (some none) (λZ=>none) (λi=>some (some i)) (λZ=>none) (λZ=>none) (λZ=>none) (λZ=>none) (λZ=>none) (λZ=>none) none (λZ Z=>none) (λZ Z=>none) (λZ=>none) (λZ Z=>none) a
def isOne(a:AV):Bool:=Option.rec false (λi=>decide (i=1)) (Zw a)
def tailTup(l:List AV)(lo hi:AV):Option (List AV):=ifO (isOne lo) (ifO (noneB hi) (ifO (JT l) (List.rec none (λZ r Z=>some r) l)))
def cutLoc(cx:Cx)(a:AV)(S:St)(lo hi:AV):R:=Option.rec (ob (Wo cx S a) λl=>ifT (JT l) (ob (boundA lo) λx=>ob (boundA hi) λy=>pushV S (.list (pickA l x y)))) (λl=>ob (tailTup l lo hi) λr=>pushV S (.tup r)) (ZP cx S a)
def cutA(cx:Cx)(a:AV)(S:St)(lo hi:AV):R:=AV.rec .no (λZ=>.no) (λZ=>.no) (λx=>ifT (shortS x) (ob (boundA lo) λp=>ob (boundA hi) λq=>.ok (.v (.str (Txt.slice x p q))) S)) (λZ=>.no) (λZ=>.no) (λZ=>.no) (λZ=>.no) (λi=>cutLoc cx (.loc i) S lo hi) .no (λZ Z=>.no) (λZ Z=>.no) (λi=>cutLoc cx (.op i) S lo hi) (λZ Z=>.no) a
def isNeg1(a:AV):Bool:=Option.rec false (λi=>decide (i=-1)) (Zw a)
def revA(cx:Cx)(a:AV)(S:St)(k:AV):R:=ifT (isNeg1 k) (ob (Wo cx S a) λl=>ifT (JT l) (pushV S (.list l.reverse)))
inductive Cm where
 |ev (f:FrA) (e:Expr)
 |tst (f:FrA) (e:Expr)
 |ex (f:FrA) (s:Stmt)
 |call (hd:Bool) (fv:AV) (args:List AV)
 |asg (f:FrA) (t:Expr) (v:AV)
 |loop (f:FrA) (test:Expr) (body:List Stmt)
 |each (f:FrA) (t:Expr) (i:Nat) (body:List Stmt)
 |comp (f:FrA) (e:Expr) (d i acc:Nat)
def evs(r:Cm->St->R)(f:FrA)(es:List Expr):St->R:=List.rec (motive:=λZ=>St->R) (λS=>.ok (.vs []) S) (λe Z ih S=>ifT (JM (WI e)) (onV (r (.ev f e) S) λv S=>onVs (ih S) λl S=>.ok (.vs (v::l)) S)) es
def tsts(r:Cm->St->R)(f:FrA)(op:BoolOp)(es:List Expr):St->R:=List.rec (motive:=λZ=>St->R) (λS=>.ok (.b (BoolOp.rec true false op)) S) (λe Z ih S=>onB (r (.tst f e) S) λb S=>BoolOp.rec (Bool.rec (.ok (.b false) S) (ih S) b) (Bool.rec (ih S) (.ok (.b true) S) b) op) es
def bops(cx:Cx)(r:Cm->St->R)(f:FrA)(op:BoolOp)(es:List Expr):St->R:=List.rec (motive:=λZ=>St->R) (λZ=>.no) (λe es ih S=>List.rec (r (.ev f e) S) (λZ Z Z=>onV (r (.ev f e) S) λv S=>ob (truF cx S v) λb=>BoolOp.rec (Bool.rec (.ok (.v v) S) (ih S) b) (Bool.rec (ih S) (.ok (.v v) S) b) op) es) es
def ask2(o:Option (Bool×Qb))(k:Bool->R):R:=ob o λp=>askN p.1 p.2 k
def chainL(cx:Cx)(r:Cm->St->R)(f:FrA)(w:Bool->Out)(op:CmpOp)(e:Expr)(l:AV)(S:St):R:=ifT (JM (behindInMarks op e)) (onV (r (.ev f e) S) λv S=>ask2 (cmpA cx S op l v) λb=>.ok (w b) S)
def chainM(cx:Cx)(r:Cm->St->R)(f:FrA)(w:Bool->Out)(op:CmpOp)(e:Expr)(l:AV)(S:St)(k:AV->St->R):R:=onV (r (.ev f e) S) λv S=>ask2 (cmpA cx S op l v) λb=>Bool.rec (.ok (w false) S) (k v S) b
def chain(cx:Cx)(r:Cm->St->R)(f:FrA)(w:Bool->Out)(ops:List CmpOp):List Expr->AV->St->R:=List.rec (motive:=λZ=>List Expr->AV->St->R) (λZ Z Z=>.no) (λop ops ih es l S=>List.rec .no (λe es Z=>List.rec (List.rec (chainL cx r f w op e l S) (λZ Z Z=>.no) ops) (λZ Z Z=>List.rec .no (λZ Z Z=>chainM cx r f w op e l S λv S=>ih es v S) ops) es) es) ops
def setR(S:St)(i:Nat)(o:AO)(k:St->R):R:=ob (S.set i o) k
def pushR(S:St)(o:AO)(k:Nat->St->R):R:=ob (S.push o) λS'=>k S.n S'
def seqN(S:St)(i:Nat)(l:List AV)(k:Nat)(o:AO)(done:St->R)(go:AV->St->R):R:=Option.rec (setR S i .dead done) (λv=>setR S i o λS=>go v S) (l[k]?)
def strN(S:St)(i:Nat)(x:Str)(k:Nat)(done:St->R)(go:AV->St->R):R:=Option.rec (setR S i .dead done) (λc=>setR S i (.sit x (k+1)) λS=>go (.str ⟨#[c]⟩) S) (x.cps[k]?)
def rngN(S:St)(i:Nat)(n:Nat)(a:Int)(done:St->R)(go:AV->St->R):R:=Nat.rec (setR S i .dead done) (λm Z=>setR S i (.rit m (a+1)) λS=>go (.int a) S) n
def vLit(o:AO):Option (Nat×Nat):=AO.rec (λZ=>none) (λZ=>none) (λZ=>none) (λZ=>none) (λZ Z=>none) (λZ=>none) (λZ Z Z Z Z Z=>none) (λZ=>none) (λZ=>none) (λZ Z Z=>none) (λZ=>none) (λZ Z=>none) (λl k=>some (l,k)) (λZ Z=>none) (λZ Z=>none) (λZ Z=>none) (λZ Z=>none) (λZ Z=>none) (λZ Z Z=>none) (λZ=>none) (λZ=>none) none o
def enuN(S:St)(i j k:Nat)(done:St->R)(go:AV->St->R):R:=ob (gv vLit S j) λp=>ifT (Nat.beq k p.2) (ob (gv Zc S p.1) λvs=>Option.rec (setR S j .dead done) (λv=>setR S j (.lit p.1 (k+1)) λS=>setR S i (.eit j (k+1)) λS=>pushR S (.tup [.int (Int.ofNat k),v]) λt S=>go (.loc t) S) (vs[k]?))
def keyN(S:St)(i d k n:Nat)(done:St->R)(go:AV->St->R):R:=ob (gv Zi S d) λes=>ifT (Nat.beq n es.length) (ifT (Yd (es.map (·.1))) (Option.rec (setR S i .dead done) (λp=>setR S i (.dit d (k+1) n) λS=>go (.str p.1) S) (es[k]?)))
def nextO(cx:Cx)(S:St)(i:Nat)(done:St->R)(go:AV->St->R)(o:AO):R:=AO.rec (λZ=>.no) (λZ=>.no) (λZ=>.no) (λZ=>.no) (λZ Z=>.no) (λZ=>.no) (λZ Z Z Z Z Z=>.no) (λZ=>.no) (λZ=>.no) (λZ Z Z=>.no) (λZ=>.no) (λZ Z=>.no) (λl k=>ob (gv Zc S l) λvs=>seqN S i vs k (.lit l (k+1)) done go) (λx k=>strN S i x k done go) (λn a=>rngN S i n a done go) (λj k=>enuN S i j k done go) (λl k=>ob (obO (cx.kn.sob l) Zc) λvs=>seqN S i vs k (.lio l (k+1)) done go) (λl k=>ob (gv vTup S l) λvs=>seqN S i vs k (.tit l (k+1)) done go) (λd k n=>keyN S i d k n done go) (λZ=>.no) (λZ=>.no) .no o
def nextR(cx:Cx)(S:St)(i:Nat)(done:St->R)(go:AV->St->R):R:=ob (S.get i) λo=>nextO cx S i done go o
def isTupE(e:Expr):Bool:=Nat.beq e.ctorIdx 25
def Zk(e:Expr):Bool:=Nat.beq e.ctorIdx 23
def Wy(S:St)(i:Nat)(t:Expr):Bool:=Bool.rec (Bool.rec false (Option.rec false (λo=>isSeqIt o) (S.get i)) (isTupE t)) (JM (Option.rec false (λo=>isEit o) (S.get i))) (Zk t)
def iterO(S:St)(i:Nat)(k:Nat->St->R)(o:AO):R:=AO.rec (λZ=>.no) (λes=>ifT (Yd (es.map (·.1))) (pushR S (.dit i 0 es.length) k)) (λZ=>pushR S (.lit i 0) k) (λZ=>pushR S (.tit i 0) k) (λZ Z=>.no) (λZ=>.no) (λZ Z Z Z Z Z=>.no) (λZ=>.no) (λZ=>.no) (λZ Z Z=>.no) (λZ=>.no) (λa b=>pushR S (.rit (b-a).toNat a) k) (λZ Z=>.no) (λZ Z=>.no) (λZ Z=>.no) (λZ Z=>k i S) (λZ Z=>.no) (λZ Z=>.no) (λZ Z Z=>.no) (λZ=>.no) (λZ=>.no) .no o
def iterR(cx:Cx)(S:St)(v:AV)(k:Nat->St->R):R:=AV.rec .no (λZ=>.no) (λZ=>.no) (λx=>ifT (x.cps.all (· < 128)) (pushR S (.sit x 0) k)) (λZ=>.no) (λZ=>.no) (λZ=>.no) (λZ=>.no) (λi=>ob (S.get i) λo=>iterO S i k o) .no (λZ Z=>.no) (λZ Z=>.no) (λj=>ob (obO (cx.kn.sob j) Zc) λZ=>pushR S (.lio j 0) k) (λZ Z=>.no) v
def notSet(e:Expr):Bool:=Bool.rec true false (Nat.beq e.ctorIdx 7)
def ZY(sc:Scope):Env:={scope:=sc,locals:=0,globals:=0,cells:=[]}
def relA(f:FrA)(sc:Scope):Scope:=relabel sc (ZY f.sc)
def isFree(k:NameKind):Bool:=NameKind.rec false false true false false k
def isCell(k:NameKind):Bool:=NameKind.rec false true false false false k
def freeCells(f:FrA)(l:List (Str×NameKind)):Option (List (Str×Nat)):=List.rec (some []) (λp Z ih=>obO ih λcs=>Bool.rec (some cs) (obO (look p.1 f.cells) λc=>some ((p.1,c)::cs)) (isFree p.2)) l
def genOk(g:Comprehension):Bool:=notSet g.iter&&decide (g.is_async=0)&&Nat.ble g.ifs.length 1
def lcOk(sc:Scope)(gens:List Comprehension):Bool:=Yd (sc.names.map (·.1))&&decide (sc.kind=.function)&&sc.names.all (λp=>JM (isCell p.2))&&gens.all genOk
def lamAs(a:Arguments):Option (List Arg):=match a with|⟨[],as,none,[],[],none,[]⟩=>some as|_=>none
def lamPs(a:Arguments)(sc:Scope):Option (List Str):=obO (lamAs a) λas=>ifO (Yd (as.map (·.arg))&&decide (sc.kind=.function)&&!sc.isCoroutine&&!sc.isGenerator) (some (as.map (·.arg)))
def lamQ(f:FrA):Str:=f.cn++".<locals>."++"<lambda>"
def lamT(f:FrA)(cs:List (Str×Nat))(ps:List Str)(body:Expr)(sc:Scope)(pos:Pos)(t:Nat)(S:St)(h:Option (Nat×Nat×Nat)):R:=Option.rec
 (setR S t (.tab (some (pos.line,pos.col,S.n))) λS1=>pushR S1 (.code (lamQ f)) λj S2=>pushV S2 (.clo cs ps body sc j (lamQ f)))
 (λh=>ifT (Nat.beq h.1 pos.line) (ifT (Nat.beq h.2.1 pos.col) (pushV S (.clo cs ps body sc h.2.2 (lamQ f))))) h
def lamA(f:FrA)(args:Arguments)(body:Expr)(sc:Scope)(pos:Pos)(S:St):R:=ob (lamPs args sc) λps=>ob (freeCells f sc.names) λcs=>ob f.code λc=>ifT (JM f.cp) (ob (JE c t_tabs) λt=>ob (gv vTab S t) λh=>lamT f cs ps body sc pos t S h)
def itOk(S:St)(i:Nat):Bool:=Option.rec false (λo=>isIt o) (S.get i)
def lcA(cx:Cx)(r:Cm->St->R)(f:FrA)(elt:Expr)(gens:List Comprehension)(sc:Scope)(pos:Pos)(S:St)(sel:R->(AV->St->R)->R)(fin:Nat->St->(St->R)->R)(k:Nat->St->R):R:=
 ob gens.head? λg=>ifT (lcOk sc gens) (ob (freeCells f sc.names) λcs=>sel (r (.ev f g.iter) S) λv S=>iterR cx S v λi S=>pushR S (.list []) λa S=>pushR S (.ns []) λl S=>
  ifT (itOk S i) (xo selN (r (.comp ⟨relA f sc,l,cs,f.hd,f.code,f.cn,f.he,true⟩ (.ListComp elt gens sc pos) 0 i a) S) λZ S=>fin a S λS=>setR S l .dead λS=>k a S))
def ifsA(r:Cm->St->R)(f:FrA)(ifs:List Expr)(S:St):R:=List.rec (.ok (.b true) S) (λc cs Z=>List.rec (r (.tst f c) S) (λZ Z Z=>.no) cs) ifs
def compIn(cx:Cx)(r:Cm->St->R)(f:FrA)(e elt:Expr)(d i acc:Nat)(S:St)(g:Option Comprehension):R:=Option.rec
 (xo Ya (r (.ev f elt) S) λx S=>ob (gv Zc S acc) λvs=>ifT (JT vs) (setR S acc (.list (vs++[x])) λS=>r (.comp f e d i acc) S))
 (λg=>xo Ya (r (.ev f g.iter) S) λx S=>iterR cx S x λj S=>ifT (itOk S j) (xo selN (r (.comp f e (d+1) j acc) S) λZ S=>r (.comp f e d i acc) S)) g
def compG(cx:Cx)(r:Cm->St->R)(f:FrA)(e elt:Expr)(gens:List Comprehension)(sc:Scope)(d i acc:Nat)(S:St):R:=ob (gens[d]?) λg=>ifT (JM f.hd) (ifT (Wy S i g.target) (ifT f.cp (ifT (lcOk sc gens) (nextR cx S i (λS=>.ok .next S) λv S=>
 xo selN (r (.asg f g.target v) S) λZ S=>xo selB (ifsA r f g.ifs S) λb S=>Bool.rec (r (.comp f e d i acc) S) (compIn cx r f e elt d i acc S (gens[d+1]?)) b))))
def compX(cx:Cx)(r:Cm->St->R)(f:FrA)(e:Expr)(d i acc:Nat)(S:St):R:=match e with
 |.ListComp elt gens sc _=>compG cx r f e elt gens sc d i acc S
 |_=>.no
def newTb(S:St)(i l c:Nat)(d:Option Nat):Option St:=obO (S.push (.tb (some l))) λS1=>S1.set i (.exc c d (some S.n))
def oldTb(S:St)(i l c:Nat)(d:Option Nat)(t:Nat)(fl:Option Nat):Option St:=Bool.rec (obO (S.set t (.tb none)) λS1=>newTb S1 i l c d) (some S) (Option.rec false (λk=>Nat.beq k l) fl)
def noteA(S:St)(i l:Nat):Option St:=obO (gv vExc S i) λp=>Option.rec (newTb S i l p.1 p.2.1) (λt=>obO (gv vTb S t) λfl=>oldTb S i l p.1 p.2.1 t fl) p.2.2
def WC(S:St)(i:Nat)(fl:Option Nat):Option St:=obO (gv vExc S i) λp=>Option.rec (some S) (λt=>obO (gv vTb S t) λZ=>S.set t (.tb fl)) p.2.2
def leaveA(S:St)(i l:Nat):Option St:=obO (noteA S i l) λS1=>WC S1 i none
def passA(S:St)(i l:Nat):Option St:=obO (gv vExc S i) λp=>obO p.2.2 λZ=>WC S i (some l)
def handOk(f:FrA)(i:Nat):Bool:=Bool.rec true (Option.rec false (λj=>Nat.beq i j) f.he) f.hd
def raiseA(f:FrA)(v:AV)(S:St):R:=ob (Zh v) λi=>ob (gv vExc S i) λp=>ifT (excP p.1) (ifT (handOk f i) (ob (WC S i none) λS'=>.ok (.exc i) S'))
def backA(f:FrA)(j:Nat)(S:St):R:=ob (noteA S j f.l) λS1=>ob (passA S1 j f.l) λS2=>.ok (.exc j) S2
def dropX(f:FrA)(n:Option Str)(S:St):Option St:=Option.rec (some S) (λn=>dropA f S n) n
def excX(f:FrA)(n:Option Str)(j:Nat)(S:St):R:=Option.rec (backA f j S) (λn=>ob (noteA S j f.l) λS1=>ob (dropA f S1 n) λS2=>ob (passA S2 j f.l) λS3=>backA f j S3) n
def afterO(f:FrA)(n:Option Str)(o:Out)(S:St):R:=Out.rec (λZ=>.no) (λZ=>.no) (λZ=>.no) (ob (dropX f n S) λS=>.ok .next S) (λv=>ob (dropX f n S) λS=>.ok (.ret v) S) (λj=>excX f n j S) o
def afterA(f:FrA)(n:Option Str)(c:R):R:=R.rec .no (afterO f n) (λi Z Z t f=>.ask i t f) c
def bindX(f:FrA)(n:Option Str)(i:Nat)(S:St):Option St:=Option.rec (some S) (λn=>Wi f S n (.loc i)) n
def Wc(r:Cm->St->R)(f:FrA)(ss:List Stmt):St->R:=List.rec (motive:=λZ=>St->R) (λS=>.ok .next S) (λs Z ih S=>onF (r (.ex f s) S) ih) ss
def stV(a:AV):Option Nat:=AV.rec none (λZ=>none) (λZ=>none) (λZ=>none) (λZ=>none) (λZ=>none) (λZ=>none) (λk=>some k) (λZ=>none) none (λZ Z=>none) (λZ Z=>none) (λZ=>none) (λZ Z=>none) a
def inHand(f:FrA)(i:Nat):FrA:=⟨f.sc,f.l,f.cells,true,f.code,f.cn,some i,f.cp⟩
def catchA(cx:Cx)(r:Cm->St->R)(f:FrA)(x:Str)(n:Option Str)(hb:List Stmt)(i:Nat)(S:St):R:=ob (noteA S i f.l) λS1=>ob (WC S1 i none) λS2=>ob (nameA cx f S2 x) λv=>ob (stV v) λk=>ob (gv vExc S2 i) λp=>ifT (Nat.beq p.1 k) (ifT (excP k) (ob (WC S2 i none) λS3=>ob (bindX f n i S3) λS4=>afterA f n (Wc r (inHand f i) hb S4)))
def tryO(cx:Cx)(r:Cm->St->R)(f:FrA)(x:Str)(n:Option Str)(hb:List Stmt)(o:Out)(S:St):R:=Out.rec (λZ=>.no) (λZ=>.no) (λZ=>.no) (.ok .next S) (λv=>.ok (.ret v) S) (λi=>catchA cx r f x n hb i S) o
def tryX(cx:Cx)(r:Cm->St->R)(f:FrA)(body:List Stmt)(x:Str)(n:Option Str)(hb:List Stmt)(S:St):R:=ifT (JM (f.hd||f.cp)) (R.rec .no (tryO cx r f x n hb) (λi Z Z t f=>.ask i t f) (Wc r f body S))
def nSplit:Str:="split"
def nIndex:Str:="index"
def nAppend:Str:="append"
def nInit:Str:="__init__"
def nExtend:Str:="extend"
def nPop:Str:="pop"
def nGet:Str:="get"
noncomputable abbrev Mt:=Option (AV×List AV)
def mth(x n:Str)(b:BI)(fst:List AV)(e:Mt):Mt:=Bool.rec e (some (.bi b,fst)) (sEq x n)
def instM(o:AV)(x:Str)(c:Nat)(es:List (Str×AV)):Mt:=Option.rec (obO (look x es) λv=>ifO (attP c x) (obO (Zo v) λv=>some (v,[]))) (λfa=>Option.rec (some (.st fa,[o])) (λZ=>none) (look x es)) (lookM c x t_me)
def objM(S:St)(o:AV)(x:Str)(ao:AO):Mt:=AO.rec (λZ=>none) (λZ=>mth x nGet .dget [o] none) (λZ=>mth x nAppend .append [o] (mth x nExtend .extend [o] (mth x nPop .pop [o] (mth x nIndex .lindex [o] none)))) (λZ=>none) (λc d=>obO (gv Zi S d) λes=>instM o x c es) (λZ=>none) (λZ Z Z Z Z Z=>none) (λZ=>none) (λZ=>none) (λZ Z Z=>none) (λZ=>none) (λZ Z=>none) (λZ Z=>none) (λZ Z=>none) (λZ Z=>none) (λZ Z=>none) (λZ Z=>none) (λZ Z=>none) (λZ Z Z=>none) (λZ=>none) (λZ=>none) none ao
def excT(n:TY):Bool:=TY.rec false false false false true false false false n
def getM(cx:Cx)(S:St)(o:AV)(x:Str):Mt:=AV.rec none (λZ=>none) (λZ=>none) (λZ=>mth x nSplit .split [o] (mth x nIndex .index [o] none)) (λZ=>none) (λZ=>none) (λn=>ifO (excT n) (mth x nInit .excInit [] none)) (λZ=>none) (λi=>obO (S.get i) λao=>objM S o x ao) none (λZ Z=>none) (λZ Z=>none) (λk=>ifO (JH (obO (cx.kn.sob k) Zc)) (mth x nIndex .lindex [o] none)) (λZ Z=>none) o
def isClo(o:AO):Bool:=AO.rec (λZ=>false) (λZ=>false) (λZ=>false) (λZ=>false) (λZ Z=>false) (λZ=>false) (λZ Z Z Z Z Z=>true) (λZ=>false) (λZ=>false) (λZ Z Z=>false) (λZ=>false) (λZ Z=>false) (λZ Z=>false) (λZ Z=>false) (λZ Z=>false) (λZ Z=>false) (λZ Z=>false) (λZ Z=>false) (λZ Z Z=>false) (λZ=>false) (λZ=>false) false o
def calleeOk(S:St)(a:AV):Bool:=AV.rec false (λZ=>false) (λZ=>false) (λZ=>false) (λZ=>false) (λZ=>true) (λZ=>true) (λk=>JN k t_kps) (λi=>Option.rec false (λo=>isClo o) (S.get i)) false (λZ Z=>false) (λZ Z=>false) (λZ=>false) (λZ Z=>false) a
def argsGo(r:Cm->St->R)(f:FrA)(es:List Expr)(fv:AV)(fst:List AV)(S:St):R:=onVs (evs r f es S) λl S=>ifT (calleeOk S fv) (r (.call f.hd fv (fst++l)) S)
def cellsX(l:List (Str×NameKind)):St->List (Str×Nat)->(List (Str×Nat)->St->R)->R:=List.rec (motive:=λZ=>St->List (Str×Nat)->(List (Str×Nat)->St->R)->R) (λS cs k=>k cs S) (λp Z ih S cs k=>Bool.rec (ih S cs k) (pushR S (.cell none) λc S=>ih S ((p.1,c)::cs) k) (isCell p.2)) l
def storesX(f:FrA)(l:List (Str×AV)):St->(St->R)->R:=List.rec (motive:=λZ=>St->(St->R)->R) (λS k=>k S) (λp Z ih S k=>ob (Wi f S p.1 p.2) λS=>ih S k) l
def fits(n g k:Nat):Bool:=Nat.ble k n&&Nat.ble n (g+k)&&Nat.ble g n
def bindG{ν:Type}(ps:List Str)(vs ds:List ν):List (Str×ν):=ps.zip (vs++ds.drop (vs.length-(ps.length-ds.length)))
def retO(l:Nat)(o:Out)(S:St):R:=Out.rec (λv=>.ok (.v v) S) (λZ=>.no) (λZ=>.no) (.ok (.v .none) S) (λv=>.ok (.v v) S) (λi=>ob (leaveA S i l) λS=>.ok (.exc i) S) o
def retX(l:Nat)(c:R):R:=R.rec .no (retO l) (λi Z Z t f=>.ask i t f) c
def frF(hd:Bool)(fi:FnI)(l:Nat)(cs:List (Str×Nat)):FrA:=⟨fi.sc,l,cs,hd,some fi.code,fi.qual,none,false⟩
def enterX(hd:Bool)(fi:FnI)(args:List AV)(S:St)(k:FrA->St->R):R:=ifT (fits fi.ps.length args.length fi.df.length) (pushR S (.ns []) λl S=>cellsX fi.sc.names S [] λcs S=>storesX (frF hd fi l cs) (bindG fi.ps args fi.df) S λS=>k (frF hd fi l cs) S)
def ZF(r:Cm->St->R)(hd:Bool)(fi:FnI)(args:List AV)(S:St):R:=enterX hd fi args S λf S=>retX f.l (Wc r f fi.body S)
def frC(hd:Bool)(sc:Scope)(q:Str)(l:Nat)(cs:List (Str×Nat)):FrA:=⟨sc,l,cs,hd,none,q,none,false⟩
def callC(r:Cm->St->R)(hd:Bool)(args:List AV)(S:St)(cs:List (Str×Nat))(ps:List Str)(body:Expr)(sc:Scope)(j:Nat)(q:Str):R:=ob (gv vCode S j) λq'=>ifT (sEq q q') (ifT (fits ps.length args.length 0) (pushR S (.ns []) λl S=>cellsX sc.names S cs λcs S=>storesX (frC hd sc q l cs) (bindG ps args []) S λS=>retX l (r (.ev (frC hd sc q l cs) body) S)))
def noneR(o:Nat)(c:R):R:=onV c λv S=>ifT (noneB v) (.ok (.v (.loc o)) S)
def makeI(r:Cm->St->R)(hd:Bool)(a:Nat)(fi:FnI)(args:List AV)(S:St):R:=pushR S (.dict []) λd S=>pushR S (.inst a d) λo S=>noneR o (ZF r hd fi (.loc o::args) S)
def makeE(r:Cm->St->R)(hd:Bool)(a:Nat)(fi:FnI)(args:List AV)(S:St):R:=pushR S (.exc a none none) λo S=>ifT (Nat.ble args.length 100) (noneR o (ZF r hd fi (.loc o::args) S))
def callS(cx:Cx)(r:Cm->St->R)(hd:Bool)(a:Nat)(args:List AV)(S:St):R:=Bool.rec
 (Option.rec (ob (JE a t_mkr) λg=>ob (fnP cx.P g) λfi=>Bool.rec (makeI r hd a fi args S) (makeE r hd a fi args S) (excP a)) (λfi=>ZF r hd fi args S) (fnP cx.P a))
 (ifT (JM hd) (cx.ora a args S)) (JN a cx.sp)
def lastA(l:List AV):Option (List AV×AV):=List.rec none (λv Z ih=>some (Option.rec ([],v) (λp=>(v::p.1,p.2)) ih)) l
def natV(a:AV):Option Nat:=obO (Zw a) λi=>Int.rec (λk=>some k) (λZ=>none) i
def natsOf(l:List AV):Option (List Nat):=List.rec (some []) (λa Z ih=>obO (natV a) λk=>obO ih λr=>some (k::r)) l
def one1(l:List AV)(k:AV->R):R:=List.rec .no (λa r Z=>List.rec (k a) (λZ Z Z=>.no) r) l
def two2(l:List AV)(k:AV->AV->R):R:=List.rec .no (λa r Z=>one1 r (k a)) l
def three(l:List AV)(k:AV->AV->AV->R):R:=List.rec .no (λa r Z=>two2 r (k a)) l
def lenS(cx:Cx)(S:St)(a:AV):R:=ob (Option.rec (Wo cx S a) (λl=>some l) (ZP cx S a)) λl=>ifT (JT l) (intR S (Int.ofNat l.length))
def lenA(cx:Cx)(S:St)(a:AV):R:=AV.rec .no (λZ=>.no) (λZ=>.no) (λx=>ifT (shortS x) (intR S (Int.ofNat x.length))) (λZ=>.no) (λZ=>.no) (λZ=>.no) (λZ=>.no) (λi=>lenS cx S (.loc i)) .no (λZ Z=>.no) (λZ Z=>.no) (λi=>lenS cx S (.op i)) (λZ Z=>.no) a
def ordA(S:St)(a:AV):R:=ob (Zz a) λx=>List.rec .no (λc r Z=>List.rec (intR S (Int.ofNat c)) (λZ Z Z=>.no) r) x.cps.toList
def ownL(S:St)(a:AV)(k:Nat->List AV->R):R:=ob (Zh a) λi=>ob (gv Zc S i) λl=>ifT (JT l) (k i l)
def headI(l:List Nat)(S:St):R:=List.rec .no (λi Z Z=>intR S (Int.ofNat i)) l
def kyN(c:Nat):Str:=Bool.rec (Bool.rec "S" "Q" (Nat.beq c 1)) "P" (Nat.beq c 0)
def idxY(y:Str):Option Nat:=Bool.rec (Bool.rec (Bool.rec none (some 2) (sEq y "S")) (some 1) (sEq y "Q")) (some 0) (sEq y "P")
def idxsY(l:List Str):Option (List Nat):=List.rec (some []) (λy Z ih=>obO (idxY y) λx=>obO ih λr=>some (x::r)) l
def ZC:List (List Nat):=[[],[0],[1],[2],[0,1],[0,2],[1,0],[1,2],[2,0],[2,1],[0,1,2],[0,2,1],[1,0,2],[1,2,0],[2,0,1],[2,1,0]]
def memO(o:List Nat)(l:List (List Nat)):Bool:=List.rec false (λr Z ih=>Bool.rec ih true (eqL o r)) l
def Wz(o:List Nat):List Nat:=[0,1,2].filter λx=>JN x o
def callB(cx:Cx)(hd:Bool)(b:BI)(args:List AV)(S:St):R:=match b with
 |.len=>one1 args λa=>lenA cx S a
 |.ord=>one1 args λa=>ordA S a
 |.abs=>one1 args λa=>ob (Zw a) λi=>intR S (if i<0 then -i else i)
 |.min=>two2 args λa b=>ifT (JM hd) (int2 a b λx y=>intR S (if y<x then y else x))
 |.split=>two2 args λa b=>ob (Zz a) λy=>ob (Zz b) λz=>ifT (shortS y) (ifT (JM (z.length==0)) (pushV S (.list ((Txt.split y z).map .str))))
 |.index=>two2 args λa b=>ob (Zz a) λx=>ob (Zz b) λy=>headI (Builtin.Str.occurrences x y 0 x.length 1) S
 |.append=>two2 args λa v=>ownL S a λi l=>setR S i (.list (l++[v])) λS=>.ok (.v .none) S
 |.extend=>two2 args λa b=>ownL S a λi x=>ownL S b λj y=>ifT (JM (Nat.beq i j)) (ifT (JT (x++y)) (setR S i (.list (x++y)) λS=>.ok (.v .none) S))
 |.pop=>one1 args λa=>ownL S a λi l=>ob (lastA l) λp=>setR S i (.list p.1) λS=>.ok (.v p.2) S
 |.excInit=>two2 args λa Z=>ob (Zh a) λi=>ob (gv vExc S i) λp=>ifT (excP p.1) (.ok (.v .none) S)
 |.lindex=>two2 args λa v=>ob (Wo cx S a) λl=>ifT (JT l) (ob (WG v) λk=>ob (idxX cx k l) λr=>ob r λj=>intR S (Int.ofNat j))
 |.dget=>three args λa x v=>ob (Zh a) λi=>ob (gv Zi S i) λes=>ob (Zz x) λy=>.ok (.v (Option.rec v (λu=>u) (look y es))) S
 |.sorted=>one1 args λa=>ifT (JM hd) (ob (Zh a) λi=>Option.rec (ob (gv Zi S i) λes=>List.rec .no (λp r Z=>List.rec (pushV S (.list [.str p.1])) (λZ Z Z=>.no) r) es) (λl=>ob (obO (strsA l) idxsY) λo=>ifT (memO o ZC) (pushV S (.list ((Wz o).map λx=>.str (kyN x))))) (gv Zc S i))
def listD(hd:Bool)(S:St)(es:List (Str×AV)):R:=ifT (JM hd) (ifT (JT es) (ifT (Yd (es.map (·.1))) (pushV S (.list (es.map λp=>.str p.1)))))
def tupT(S:St)(i:Nat)(o:AO):R:=AO.rec (λZ=>.no) (λZ=>.no) (λl=>ifT (JT l) (pushV S (.tup l))) (λZ=>.ok (.v (.loc i)) S) (λZ Z=>.no) (λZ=>.no) (λZ Z Z Z Z Z=>.no) (λZ=>.no) (λZ=>.no) (λZ Z Z=>.no) (λZ=>.no) (λZ Z=>.no) (λZ Z=>.no) (λZ Z=>.no) (λZ Z=>.no) (λZ Z=>.no) (λZ Z=>.no) (λZ Z=>.no) (λZ Z Z=>.no) (λZ=>.no) (λZ=>.no) .no o
def listT(hd:Bool)(S:St)(o:AO):R:=AO.rec (λZ=>.no) (λes=>listD hd S es) (λl=>ifT (JT l) (pushV S (.list l))) (λl=>ifT (JT l) (pushV S (.list l))) (λZ Z=>.no) (λZ=>.no) (λZ Z Z Z Z Z=>.no) (λZ=>.no) (λZ=>.no) (λZ Z Z=>.no) (λZ=>.no) (λZ Z=>.no) (λZ Z=>.no) (λZ Z=>.no) (λZ Z=>.no) (λZ Z=>.no) (λZ Z=>.no) (λZ Z=>.no) (λZ Z Z=>.no) (λZ=>.no) (λZ=>.no) .no o
def intA(S:St)(a:AV):R:=AV.rec .no (λb=>intR S (Bool.rec 0 1 b)) (λi=>intR S i) (λZ=>.no) (λZ=>.no) (λZ=>.no) (λZ=>.no) (λZ=>.no) (λZ=>.no) .no (λZ Z=>.no) (λZ Z=>.no) (λZ=>.no) (λZ Z=>.no) a
def smallA(a b:Int):Bool:=ltI a&&ltI b
def rngT(S:St)(args:List AV):R:=List.rec .no (λa r Z=>List.rec (ob (Zw a) λb=>ifT (smallA 0 b) (pushV S (.rng 0 b))) (λb r Z=>List.rec (int2 a b λx y=>ifT (smallA x y) (pushV S (.rng x y))) (λZ Z Z=>.no) r) r) args
def pairK(S:St)(v:AV):Option Nat:=obO (Zh v) λj=>obO (gv vTup S j) λl=>List.rec none (λa r Z=>List.rec none (λb r Z=>List.rec (obO (WG a) λk=>obO (ZN b) λc=>ifO c (some k)) (λZ Z Z=>none) r) r) l
def pairsK(S:St)(l:List AV):Option (List Nat):=List.rec (some []) (λv Z ih=>obO (pairK S v) λk=>obO ih λr=>some (k::r)) l
def callT(cx:Cx)(hd:Bool)(t:TY)(args:List AV)(S:St):R:=match t with
 |.tuple=>one1 args λa=>ob (Zh a) λi=>ob (S.get i) λo=>tupT S i o
 |.list=>one1 args λa=>Option.rec (ob (Zh a) λi=>ob (S.get i) λo=>listT hd S o) (λk=>ob (obO (cx.kn.sob k) Zi) λes=>listD hd S es) (opV a)
 |.dict=>one1 args λa=>ifT (JM hd) (ownL S a λZ l=>ob (pairsK S l) λks=>ob (cx.kn.dk ks) λys=>pushV S (.dict (ys.map λy=>(y,.bool true))))
 |.int=>one1 args λa=>intA S a
 |.bytes=>one1 args λa=>ifT (JM hd) (ownL S a λZ l=>ob (natsOf l) λks=>ifT (ks.all λk=>Nat.blt k 256) (.ok (.v (.bytes ks)) S))
 |.range=>rngT S args
 |.enumerate=>one1 args λa=>ownL S a λi Z=>pushR S (.lit i 0) λj S=>pushV S (.eit j 0)
 |_=>.no
def cloO(r:Cm->St->R)(hd:Bool)(args:List AV)(S:St)(o:AO):R:=AO.rec (λZ=>.no) (λZ=>.no) (λZ=>.no) (λZ=>.no) (λZ Z=>.no) (λZ=>.no) (λcs ps body sc j q=>callC r hd args S cs ps body sc j q) (λZ=>.no) (λZ=>.no) (λZ Z Z=>.no) (λZ=>.no) (λZ Z=>.no) (λZ Z=>.no) (λZ Z=>.no) (λZ Z=>.no) (λZ Z=>.no) (λZ Z=>.no) (λZ Z=>.no) (λZ Z Z=>.no) (λZ=>.no) (λZ=>.no) .no o
def callX(cx:Cx)(r:Cm->St->R)(hd:Bool)(fv:AV)(args:List AV)(S:St):R:=AV.rec .no (λZ=>.no) (λZ=>.no) (λZ=>.no) (λZ=>.no) (λb=>callB cx hd b args S) (λt=>callT cx hd t args S) (λa=>callS cx r hd a args S) (λi=>ob (S.get i) λo=>cloO r hd args S o) .no (λZ Z=>.no) (λZ Z=>.no) (λZ=>.no) (λZ Z=>.no) fv
def boundE(r:Cm->St->R)(f:FrA)(e:Option Expr)(S:St):R:=Option.rec (.ok (.v .none) S) (λe=>r (.ev f e) S) e
def constA(c:Const)(S:St):R:=match c with
 |.none=>.ok (.v .none) S
 |.bool b=>.ok (.v (.bool b)) S
 |.int i=>.ok (.v (.int i)) S
 |.str x=>.ok (.v (.str x)) S
 |.bytes b=>.ok (.v (.bytes (b.map UInt8.toNat))) S
 |_=>.no
noncomputable abbrev Ev:=Cx->(Cm->St->R)->FrA->St->R
def subE(o i:Expr):Ev:=match i with
 |.Slice lo hi none _=>λcx r f S=>onV (r (.ev f o) S) λov S=>onV (boundE r f lo S) λlv S=>onV (boundE r f hi S) λhv S=>cutA cx ov S lv hv
 |.Slice none none (some k) _=>λcx r f S=>onV (r (.ev f o) S) λov S=>onV (r (.ev f k) S) λkv S=>revA cx ov S kv
 |.Slice _ _ _ _=>λZ Z Z Z=>.no
 |i=>λcx r f S=>onV (r (.ev f o) S) λov S=>onV (r (.ev f i) S) λiv S=>okV S (subA cx S ov iv)
def callE(fe:Expr)(args:List Expr)(pos:Pos):Ev:=match fe with
 |.Attribute o x apos=>λcx r f S=>ifT (plainBase o) (ifT (Nat.beq apos.endLine pos.line) (onV (r (.ev f o) S) λov S=>ob (getM cx S ov x) λp=>argsGo r f args p.1 p.2 S))
 |fe=>λcx r f S=>onV (r (.ev f fe) S) λfv S=>argsGo r f args fv [] S
def dictE(ks:List (Option Expr))(vs:List Expr):Ev:=match ks,vs with|[],[]=>λZ Z Z S=>pushV S (.dict [])|_,_=>λZ Z Z Z=>.no
def evE(e:Expr):Ev:=match e with
 |.Constant c _ _=>λZ Z Z S=>constA c S
 |.Name x _=>λcx Z f S=>okV S (nameA cx f S x)
 |.BoolOp op es _=>λcx r f S=>bops cx r f op es S
 |.BinOp l op rr _=>λcx r f S=>onV (r (.ev f l) S) λa S=>onV (r (.ev f rr) S) λb S=>binA cx l op a b S
 |.UnaryOp op x _=>λcx r f S=>onV (r (.ev f x) S) λa S=>unA cx op a S
 |.IfExp t a b _=>λZ r f S=>onB (r (.tst f t) S) λc S=>Bool.rec (r (.ev f b) S) (r (.ev f a) S) c
 |.List es _=>λZ r f S=>onVs (evs r f es S) λl S=>ifT (JT l) (pushV S (.list l))
 |.Tuple es _ _=>λZ r f S=>onVs (evs r f es S) λl S=>ifT (JT l) (pushV S (.tup l))
 |.Dict ks vs _=>dictE ks vs
 |.Compare l ops es _=>λcx r f S=>onV (r (.ev f l) S) λa S=>chain cx r f (λb=>.v (.bool b)) ops es a S
 |.Call fe args [] pos=>λcx r f S=>ifT (noStar args) (ifT (Nat.ble args.length 20) (callE fe args pos cx r f S))
 |.Attribute o x _=>λcx r f S=>ifT (plainBase o) (onV (r (.ev f o) S) λov S=>okV S (attrA cx S ov x))
 |.Subscript o i _=>subE o i
 |.Lambda args body sc pos=>λcx Z f S=>ifT cx.lam (lamA f args body sc pos S)
 |.ListComp elt gens sc pos=>λcx r f S=>lcA cx r f elt gens sc pos S onV (λZ S k=>k S) λa S=>.ok (.v (.loc a)) S
 |_=>λZ Z Z Z=>.no
def tstP(e:Expr):Ev:=λcx r f S=>onV (r (.ev f e) S) λv S=>ob (truF cx S v) λb=>.ok (.b b) S
def tstE(e:Expr):Ev:=match e with
 |.UnaryOp .Not x _=>λZ r f S=>onB (r (.tst f x) S) λb S=>.ok (.b (!b)) S
 |.BoolOp op es _=>λZ r f S=>tsts r f op es S
 |.Compare l ops es _=>λcx r f S=>onV (r (.ev f l) S) λa S=>chain cx r f .b ops es a S
 |.IfExp _ _ _ _=>λZ Z Z Z=>.no
 |.UnaryOp _ _ _=>λZ Z Z Z=>.no
 |e=>tstP e
def pushK(S:St)(d:Nat)(l:List Nat)(k:Nat)(v:AV):R:=ifT (Option.rec false (λb=>b) (ZN v)) (okN (S.set d (.kset (k::l))))
def kdict(S:St)(d:Nat)(v:AV)(k:Nat)(es:List (Str×AV)):R:=ifT (JM (neL es)) (pushK S d [] k v)
def putO(S:St)(d:Nat)(iv v:AV)(o:AO):R:=AO.rec (λZ=>.no) (λes=>Option.rec (ob (WG iv) λk=>kdict S d v k es) (λx=>ifT (Nat.ble es.length 900) (okN (S.set d (.dict (put x v es))))) (Zz iv)) (λvs=>ob (natV iv) λk=>ifT (Nat.blt k vs.length) (ifT (JT vs) (okN (S.set d (.list (vs.set k v)))))) (λZ=>.no) (λZ Z=>.no) (λZ=>.no) (λZ Z Z Z Z Z=>.no) (λZ=>.no) (λZ=>.no) (λZ Z Z=>.no) (λZ=>.no) (λZ Z=>.no) (λZ Z=>.no) (λZ Z=>.no) (λZ Z=>.no) (λZ Z=>.no) (λZ Z=>.no) (λZ Z=>.no) (λZ Z Z=>.no) (λZ=>.no) (λl=>ob (WG iv) λk=>ifT (Nat.ble l.length 800) (pushK S d l k v)) .no o
def asgs(r:Cm->St->R)(f:FrA)(ts:List Expr):List AV->St->R:=List.rec (motive:=λZ=>List AV->St->R) (λvs S=>List.rec (.ok .next S) (λZ Z Z=>.no) vs) (λt Z ih vs S=>List.rec .no (λv vs Z=>onN (r (.asg f t v) S) λZ S=>ih vs S) vs) ts
noncomputable abbrev As:=Cx->(Cm->St->R)->FrA->AV->St->R
def asgE(t:Expr):As:=match t with
 |.Name x _=>λZ Z f v S=>okN (Wi f S x v)
 |.Attribute o x _=>λZ r f v S=>onV (r (.ev f o) S) λov S=>okN (setA S ov x v)
 |.Subscript o i _=>λZ r f v S=>ifT (Zs i) (onV (r (.ev f o) S) λov S=>onV (r (.ev f i) S) λiv S=>ob (Zh ov) λd=>ob (S.get d) λao=>putO S d iv v ao)
 |.Tuple ts _ _=>λcx r f v S=>ifT (JM f.hd) (ifT (noStar ts) (ob (ZP cx S v) λl=>ifT (Nat.beq l.length ts.length) (asgs r f ts l S)))
 |_=>λZ Z Z Z Z=>.no
def handB(f:FrA)(S:St):Bool:=Bool.rec true (Option.rec false (λj=>JH (gv vExc S j)) f.he) f.hd
def storesR(f:FrA)(ns:List Str):List AV->St->R:=List.rec (motive:=λZ=>List AV->St->R) (λvs S=>List.rec (.ok .next S) (λZ Z Z=>.no) vs) (λx Z ih vs S=>List.rec .no (λv vs Z=>ob (Wi f S x v) λS=>ih vs S) vs) ns
def swapE(e:Expr)(ns:List Str):Ev:=λcx r f S=>onV (r (.ev f e) S) λv S=>ifT (handB f S) (ob (Zh v) λi=>ob (gv vTup S i) λl=>ifT (Nat.beq l.length ns.length) (storesR f ns.reverse l.reverse S))
def oneN(e t:Expr):Ev:=λZ r f S=>ifT (noStar [t]) (onV (r (.ev f e) S) λv S=>r (.asg f t v) S)
def lcN(t e:Expr):Ev:=match t,e with
 |.Name x _,.ListComp elt gens sc cpos=>λcx r f S=>lcA cx r f elt gens sc cpos S (xo Ya) (λa S k=>ob (Wi f S x (.loc a)) k) λZ S=>.ok .next S
 |_,_=>λZ Z Z Z=>.no
def asgS(t e:Expr)(sole:Option Bool)(sw:Option (Option (List Str))):Ev:=Option.rec (λZ Z Z Z=>.no) (λb=>Bool.rec (Option.rec (λZ Z Z Z=>.no) (λsw=>Option.rec (oneN e t) (λns=>swapE e ns) sw) sw) (lcN t e) b) sole
def exprS(e:Expr)(sole:Option Bool):Ev:=Option.rec (λZ Z Z Z=>.no) (λb=>Bool.rec (λZ r f S=>onV (r (.ev f e) S) λZ S=>.ok .next S) (λZ Z Z Z=>.no) b) sole
def tryS(body:List Stmt)(hs:List ExceptHandler):Ev:=match hs with
 |[.ExceptHandler (some (.Name x _)) nm (b0::hb) _]=>λcx r f S=>tryX cx r f body x nm (b0::hb) S
 |_=>λZ Z Z Z=>.no
def exE(s:Stmt)(sc:Scope):Ev:=match s with
 |.Expr e pos=>exprS e (pureOf (swapsWith e none pos.line (ZY sc)))
 |.Return (some e) _=>λZ r f S=>onV (r (.ev f e) S) λv S=>.ok (.ret v) S
 |.Return none _=>λZ Z Z S=>.ok (.ret .none) S
 |.Assign [t] e pos=>asgS t e (pureOf (swapsWithSole [t] e pos.line (ZY sc))) (pureOf (swappedStores [t] e (ZY sc)))
 |.If t a b _=>λZ r f S=>onB (r (.tst f t) S) λc S=>Bool.rec (Wc r f b S) (Wc r f a S) c
 |.While t body [] _=>λZ r f S=>r (.loop f t body) S
 |.For t it body [] _=>λcx r f S=>ifT (notSet it) (onV (r (.ev f it) S) λv S=>iterR cx S v λi S=>r (.each f t i body) S)
 |.Raise (some e) none _=>λZ r f S=>onV (r (.ev f e) S) λv S=>raiseA f v S
 |.Try body hs [] [] _=>tryS body hs
 |_=>λZ Z Z Z=>.no
def loopX(r:Cm->St->R)(f:FrA)(t:Expr)(body:List Stmt)(S:St):R:=xo selB (r (.tst f t) S) λb S=>Bool.rec (.ok .next S) (xF (Wc r f body S) λS=>r (.loop f t body) S) b
def eachX(cx:Cx)(r:Cm->St->R)(f:FrA)(t:Expr)(i:Nat)(body:List Stmt)(S:St):R:=ifT (JM f.hd) (ifT (Wy S i t) (nextR cx S i (λS=>.ok .next S) λv S=>xo selN (r (.asg f t v) S) λZ S=>xF (Wc r f body S) λS=>r (.each f t i body) S))
def step(cx:Cx)(r:Cm->St->R)(c:Cm)(S:St):R:=Cm.rec (λf e=>evE e cx r f S) (λf e=>tstE e cx r f S) (λf s=>exE s f.sc cx r f S) (λhd fv args=>callX cx r hd fv args S) (λf t v=>asgE t cx r f v S) (λf t b=>loopX r f t b S) (λf t i b=>eachX cx r f t i b S) (λf e d i acc=>compX cx r f e d i acc S) c
def run(cx:Cx)(n:Nat):Cm->St->R:=Nat.rec (motive:=λZ=>Cm->St->R) (λZ Z=>.no) (λZ ih c S=>step cx ih c S) n
def Den(nm:Nt)(L:List Addr)(a:AV)(v:Value):Prop:=match a with
 |.none=>v=.none
 |.bool b=>v=.bool b
 |.int i=>∃t,v=.int i t
 |.str s=>∃t,v=.str s t
 |.bytes l=>∃b t,v=.bytes b t/\b.toList.map UInt8.toNat=l
 |.bi b=>v=.builtin b.id
 |.ty n=>v=.type n.name
 |.st a=>v=.ref a
 |.loc i=>∃a,L[i]?=some a/\v=.ref a
 |.junk=>False
 |.sym c k=>∃t,v=.str (nm.f k) t/\nm.f k∈JR c
 |.hd c k=>∃t,v=.str (headS (nm.f k)) t/\nm.f k∈JR c
 |.op k=>v=.ref (nm.op k)
 |.ix m k=>∃t,∃i:Nat,v=.int i t/\(JG m)[i]?=some (nm.f k)/\nm.f k∈JR (ixCls m)
variable {nm:Nt}{L L':List Addr}{P:Params}{a b:AV}{u v:Value}{l r:List AV}{us vs:List Value}{i:Nat}{x:Str}{es:List (Str×AV)}{m:Str->Option Value}
theorem Jp{α:Type}{L L':List α}(h:L<+:L'){i:Nat}{a:α}(e:L[i]?=some a):L'[i]?=some a:=
 h.elim λt q=>q▸(List.getElem?_append_left (lt_ e)).trans e
theorem Den.mono(h:L<+:L')(d:Den nm L a v):Den nm L' a v:=by
 induction a with
 |loc i=>exact d.elim λa e=>⟨a,Jp h e.1,e.2⟩
 |_=>exact d
def Jq(nm:Nt)(L:List Addr)(l:List AV):List Value->Prop:=List.rec (motive:=λZ=>List Value->Prop) (λus=>us=[]) (λa Z ih us=>∃u r,us=u::r/\Den nm L a u/\ih r) l
theorem Jq.mono(h:L<+:L'):∀{l:List AV} {us:List Value},Jq nm L l us->Jq nm L' l us:=by
 intro v0_;induction v0_ with
 |nil=>
  intro Z e;exact e
 |cons _ _ ih=>
  intro Z y2_;obtain ⟨u,r,e,d,ds⟩:=y2_;exact⟨u,r,e,d.mono h,ih ds⟩
theorem Jq.cons(d:Den nm L a u)(ds:Jq nm L l us):Jq nm L (a::l) (u::us):=⟨u,us,rfl,d,ds⟩
theorem Jq.len:∀{l:List AV} {us:List Value},Jq nm L l us->l.length=us.length:=by
 intro v0_;induction v0_ with
 |nil=>
  intro Z e;exact e▸rfl
 |cons _ _ ih=>
  intro Z y2_;obtain ⟨u,r,e,d,ds⟩:=y2_;exact e▸Ja (·+1) (ih ds)
theorem Jq.get:∀{l:List AV} {us:List Value} {i:Nat} {a:AV},Jq nm L l us->l[i]?=some a->∃u,us[i]?=some u/\Den nm L a u:=by
 intro l;induction l with
 |nil=>intro us i a d q;exact nomatch q
 |cons b l ih=>
  intro us i a d q;exact d.elim λu d=>d.elim λr d=>by
   rw[d.1];induction i using Nat.casesAuxOn with
   |zero=>exact⟨u,rfl,oi q▸d.2.1⟩
   |succ i=>exact ih (i:=i) d.2.2 q
theorem Jq.append:∀{l r:List AV} {us vs:List Value},Jq nm L l us->Jq nm L r vs->Jq nm L (l++r) (us++vs):=by
 intro v0_;induction v0_ with
 |nil=>
  intro Z Z Z e d;exact e▸d
 |cons _ _ ih=>
  intro Z Z Z y4_ h;obtain ⟨u,r,e,d,ds⟩:=y4_;exact e▸⟨u,_,rfl,d,ih ds h⟩
theorem Jq.nil:Jq nm L [] []:=rfl
theorem Jq.one(d:Jq nm L [a] us){G:Prop}(k:∀u,us=[u]->Den nm L a u->G):G:=match d with|⟨u,r,e,d,e'⟩=>k u (e.trans (Ja (u::·) e')) d
theorem Jq.two{b:AV}(d:Jq nm L [a,b] us){G:Prop}(k:∀u v,us=[u,v]->Den nm L a u->Den nm L b v->G):G:=match d with|⟨u,r,e,d,ds⟩=>Jq.one ds λv e' d'=>k u v (e.trans (Ja (u::·) e')) d d'
theorem Jq.at_{xs:Array Value}(d:Jq nm L l xs.toList)(h:l[i]?=some a){G:Prop}(k:∀u,xs[i]?=some u->Den nm L a u->G):G:=(d.get h).elim λu h=>k u (Array.getElem?_toList.symm.trans h.1) h.2
theorem Jq.end_{xs:Array Value}(d:Jq nm L l xs.toList)(h:l[i]?=none):xs[i]?=none:=Array.getElem?_eq_none (π▸d.len▸List.getElem?_eq_none_iff.mp h)
structure Ent(P:Params)(nm:Nt)(L:List Addr)(p:Str×AV)(e:DictEntry):Prop where
 key:∃t,e.key=.str p.1 t
 hash:e.hash=PyData.keyHash P p.1
 val:Den nm L p.2 e.val
def Ens(P:Params)(nm:Nt)(L:List Addr)(l:List (Str×AV)):List DictEntry->Prop:=List.rec (motive:=λZ=>List DictEntry->Prop) (λds=>ds=[]) (λp Z ih ds=>∃e r,ds=e::r/\Ent P nm L p e/\ih r) l
theorem Ens.mono(h:L<+:L'):∀{l:List (Str×AV)} {ds:List DictEntry},Ens P nm L l ds->Ens P nm L' l ds
 |[],_,e=>e
 |_::_,_,⟨u,r,e,d,ds⟩=>⟨u,r,e,⟨d.key,d.hash,d.val.mono h⟩,Ens.mono h ds⟩
theorem Ens.len:∀{l:List (Str×AV)} {ds:List DictEntry},Ens P nm L l ds->ds.length=l.length:=by
 intro l;induction l with
 |nil=>exactλe=>e▸rfl
 |cons b l ih=>exactλd=>d.elim λu d=>d.elim λr d=>d.1▸Ja (·+1) (ih d.2.2)
def NsOk(nm:Nt)(L:List Addr)(es:List (Str×AV))(m:Str->Option Value):Prop:=∀x v,look x es=some v->v≠.junk->∃u,m x=some u/\Den nm L v u
theorem NsOk.mono(h:L<+:L')(d:NsOk nm L es m):NsOk nm L' es m:=λx v e j=>(d x v e j).elim λu p=>⟨u,p.1,p.2.mono h⟩
theorem NsOk.put(d:NsOk nm L es m)(hv:Den nm L a u):NsOk nm L (Internal.put x a es) (λy=>if y=x then some u else m y):=λy v e j=>by
 by_cases q:y=x
 ·subst q;rw[look_put_self]at e;rw[<-oi e];exact⟨u,if_pos rfl,hv⟩
 ·rw[look_put_ne q]at e;exact(d y v e j).elim λz r=>⟨z,(if_neg q).trans r.1,r.2⟩
theorem NsOk.drop(d:NsOk nm L es m){m':Str->Option Value}(h:∀y,y≠x->m' y=m y):NsOk nm L (Internal.put x .junk es) m':=λy v e j=>by
 by_cases q:y=x
 ·subst q;rw[look_put_self]at e;exact absurd (oi e).symm j
 ·rw[look_put_ne q]at e;exact(d y v e j).elim λz r=>⟨z,(h y q).trans r.1,r.2⟩
def nsP(m:Str->Option Value)(o:Obj):Prop:=∃es ep,o.data=.dict es ep/\StrKeys es/\∀name,nsFind es name=m name
theorem nsP_at{h:Heap}{a:Addr}{o:Obj}{m:Str->Option Value}(e:h.get? a=some o)(x:nsP m o):h.Ns a m:=x.elim λes r=>r.elim λep r=>⟨o,es,ep,e,r⟩
def SD(P:Params)(es:List (Str×AV))(nm:Nt)(L:List Addr)(o:Obj):Prop:=∃ds n,o=dictOf ds n/\Ens P nm L es ds
structure Om where
 prog:Program
 w:World
 hb:Heap
 p:Program
 loose:List Str
 mg:Str->Option Value
 mb:Str->Option Value
 mean:ExcName->Option Value
 gens:Array GenState
 dr:Drawn
 os:OsState
 X:(MineH.KR w.params).In hb
 T:TopRead p loose mg mb hb
 nolim:sysModules<hb.objs.size
 gl:∀x v,look x t_gl=some v->∃u,(∀nm L,Den nm L v u)/\(mg x=some u\/(mg x=none/\mb x=some u))
 codes:∀p∈t_tabs,∃P,[538,385][p.2]?=some P/\CodeHd hb p.1 P
 tb:hb.get? 538=none/\hb.get? 385=none
 tbl:∀t∈[538,385],t<hb.objs.size
 bat:∀P,hb.get? P=none->hb.BuiltinsAt mg P
 dics:∀t es,dicP w.params t=some es->(t==sysModules)=false/\∃o,hb.get? t=some o/\∀nm L,SD w.params es nm L o
def tbs:List Addr:=[538,385]
structure FnP(L:List Addr)(cs:List (Str×Nat))(pl:List Str)(body:Expr)(sc:Scope)(j:Nat)(q:Str)(o:Obj)(fd:FuncData):Prop where
 o:o=⟨.type "function",none,.func fd,#[]⟩
 body:fd.body=.expr body
 scope:fd.scope=sc
 gl:fd.globals=mainGlobals
 bi:fd.builtins=builtinsNs
 ps:∃as kd dd,fd.params=⟨[],as,none,[],kd,none,dd⟩/\as.map (·.arg)=pl
 nd:pl.Nodup
 df:fd.defaults=.none
 q:fd.qualname=q
 code:∃aj,L[j]?=some aj/\fd.code=.ref aj
 k:sc.kind=.function
 co:sc.isCoroutine=false
 ge:sc.isGenerator=false
 cl:∀x i,look x cs=some i->∃a,L[i]?=some a/\fd.closure.lookup x=some a
def optAt(L:List Addr)(d:Option Nat)(v:Option Addr):Prop:=match d with|none=>v=none|some i=>∃a,L[i]?=some a/\v=some a
def noneOrRef(v:Option Addr):Value:=match v with|none=>.none|some a=>.ref a
def noneOrRaw(v:Option Addr):Value:=match v with|none=>.none|some a=>rawInt a
theorem Wm{L L':List Addr}(h:L<+:L'){d:Option Nat}{v:Option Addr}(x:optAt L d v):optAt L' d v:=match d,x with
 |none,x=>x
 |some _,⟨a,e,r⟩=>⟨a,Jp h e,r⟩
structure ExcP(L:List Addr)(c:Nat)(d t:Option Nat)(o:Obj)(vs:Array Value)(va vd:Option Addr):Prop where
 cls:o.cls=.ref c
 data:o.data=.fields vs
 size:vs.size=6
 f2:vs[2]?=some .none
 slots:o.slots=#[]
 dict:o.dict=vd
 d:optAt L d vd
 f1:vs[1]?=some (noneOrRef va)
 t:optAt L t va
def cellP(nm:Nt)(L:List Addr)(v:Option AV)(u:Option Value):Prop:=match v with|none=>u=none|some a=>∃x,u=some x/\Den nm L a x
def WH(a b:Int):Int:=if a=0 then Int.fdiv (((b+1)*(b+1)-(b+1)+41) ^ 20) 777 else a
def sipB(a b:Int):Int:=if a=0 then b+1 else b
def Draw(f:Nat->Str)(d:Dw)(r:Int):Prop:=match d with
 |.c _ k=>r=k
 |.y m k=>∃i:Nat,r=i/\(JG m)[i]?=some (f k)/\f k∈JR (ixCls m)
def WF(f:Nat->Str)(l:List Dw):Int->Int->Prop:=List.rec (motive:=λZ=>Int->Int->Prop) (λZ Z=>True) (λd Z ih a b=>0<d.m/\Draw f d (Int.fmod (WH a b) d.m)/\ih (Int.fdiv (WH a b) d.m) (sipB a b)) l
structure Tp(N:Nat)(x y:Int):Prop where
 x0:0<=x
 x1:x<2 ^ 700
 y0:0<=y
 y1:y+N<=60
def OkP(om:Om)(nm:Nt)(L:List Addr)(a:Addr)(ao:AO)(o:Obj):Prop:=match ao with
 |.ns es=>om.hb.objs.size<=a/\∃m,nsP m o/\NsOk nm L es m
 |.dict es=>(a==sysModules)=false/\∃ds,o=dictOf ds es.length/\Ens om.w.params nm L es ds
 |.list vs=>∃xs n,o=listOf xs n/\Jq nm L vs xs.toList
 |.tup vs=>∃xs n,o=⟨.type "tuple",none,.seq xs n,#[]⟩/\Jq nm L vs xs.toList
 |.inst c d=>∃ad,L[d]?=some ad/\o=instObj c ad
 |.cell v=>∃u,o.data=.cell u/\cellP nm L v u
 |.clo cs ps body sc j q=>∃fd,FnP L cs ps body sc j q o fd
 |.code q=>∃vs t,o.data=.fields vs/\vs[1]?=some (.str q t)
 |.tab none=>o=PySem.W.tabObj #[]
 |.tab (some h)=>∃aj,L[h.2.2]?=some aj/\o=PySem.W.tabObj #[rawInt h.1,rawInt h.2.1,.ref aj]
 |.exc c d t=>∃vs va vd,ExcP L c d t o vs va vd
 |.tb fl=>∃ts al,o.data=.fields ts/\ts[3]?=some (noneOrRaw al)/\optAt L fl al
 |.rng x y=>(∃t u v,∀h:Heap,h.get? a=some o->IsRange h a x y 1 t u v)/\Builtin.Range.small x y 1=true
 |.lit l k=>∃al,L[l]?=some al/\o.cls=.type "list_iterator"/\o.data=.fields #[.ref al,.int k 0]
 |.sit x k=>∃t,o.cls=.type "str_ascii_iterator"/\o.data=.fields #[.str x t,.int k 0]
 |.rit n x=>∀h:Heap,h.get? a=some o->IsRangeIter h a x n 1
 |.eit j k=>∃aj old,L[j]?=some aj/\∀h:Heap,h.get? a=some o->IsEnum h a aj k old
 |.lio l k=>o.cls=.type "list_iterator"/\o.data=.fields #[.ref (nm.op l),.int k 0]
 |.tit l k=>∃al,L[l]?=some al/\o.cls=.type "tuple_iterator"/\o.data=.fields #[.ref al,.int k 0]
 |.dit d k n=>∃ad,L[d]?=some ad/\o.cls=.type "dict_keyiterator"/\o.data=.fields #[.ref ad,.int k 0,.int n 0,.int n 0]
 |.tap ds=>∃x y t1 t2 n,o=listOf #[.int x t1,.int y t2] n/\Tp ds.length x y/\WF nm.f ds x y
 |.kset l=>(a==sysModules)=false/\∃(ys:List Str),∃ds,o=dictOf ds ys.length/\Ens om.w.params nm L (ys.map λy=>(y,AV.bool true)) ds/\ys.Nodup/\ys.length<=l.length/\∀y,y∈ys↔∃k∈l,nm.f k=y
 |.dead=>True
theorem OkP.mono{om:Om}{nm:Nt}{L L':List Addr}{a:Addr}{ao:AO}{o:Obj}(p:L<+:L')(x:OkP om nm L a ao o):OkP om nm L' a ao o:=by
 cases ao with
 |ns es=>exact⟨x.1,x.2.elim λm r=>⟨m,r.1,r.2.mono p⟩⟩
 |dict es=>exact⟨x.1,x.2.elim λm r=>⟨m,r.1,r.2.mono p⟩⟩
 |list vs=>exact x.elim λxs x=>x.elim λn r=>⟨xs,n,r.1,r.2.mono p⟩
 |tup vs=>exact x.elim λxs x=>x.elim λn r=>⟨xs,n,r.1,r.2.mono p⟩
 |inst c d=>exact x.elim λa r=>⟨a,Jp p r.1,r.2⟩
 |cell v=>exact x.elim λu r=>⟨u,r.1,match v,r.2 with|none,r=>r|some _,⟨y,e,d⟩=>⟨y,e,d.mono p⟩⟩
 |clo cs ps body sc j q=>exact x.elim λfd r=>⟨fd,{r with code:=r.code.elim λa q=>⟨a,Jp p q.1,q.2⟩,cl:=λx i e=>(r.cl x i e).elim λa q=>⟨a,Jp p q.1,q.2⟩}⟩
 |tab t=>induction t with
  |none=>exact x
  |some t=>exact x.elim λa r=>⟨a,Jp p r.1,r.2⟩
 |exc c d tb=>exact x.elim λvs x=>x.elim λva x=>x.elim λvd r=>⟨vs,va,vd,{r with d:=Wm p r.d,t:=Wm p r.t}⟩
 |tb fl=>exact x.elim λvs x=>x.elim λva r=>⟨vs,va,r.1,r.2.1,Wm p r.2.2⟩
 |lit l i=>exact x.elim λa r=>⟨a,Jp p r.1,r.2⟩
 |tit l i=>exact x.elim λa r=>⟨a,Jp p r.1,r.2⟩
 |dit d i n=>exact x.elim λa r=>⟨a,Jp p r.1,r.2⟩
 |eit j i=>exact x.elim λa x=>x.elim λc r=>⟨a,c,Jp p r.1,r.2⟩
 |kset l=>exact⟨x.1,x.2.elim λys x=>x.elim λds r=>⟨ys,ds,r.1,r.2.1.mono p,r.2.2⟩⟩
 |_=>exact x
variable {om:Om}{a:Addr}{o:Obj}{C:Prop}{vs:List AV}{j k c d:Nat}
theorem OkP.ns_(p:OkP om nm L a (.ns es) o)(g:∀m,om.hb.objs.size<=a->nsP m o->NsOk nm L es m->C):C:=p.2.elim λm r=>g m p.1 r.1 r.2
theorem OkP.list_(p:OkP om nm L a (.list vs) o)(g:∀xs n,o=listOf xs n->Jq nm L vs xs.toList->C):C:=p.elim λxs p=>p.elim λn r=>g xs n r.1 r.2
theorem OkP.tup_(p:OkP om nm L a (.tup vs) o)(g:∀xs n,o=⟨.type "tuple",none,.seq xs n,#[]⟩->Jq nm L vs xs.toList->C):C:=p.elim λxs p=>p.elim λn r=>g xs n r.1 r.2
theorem OkP.dict_(p:OkP om nm L a (.dict es) o)(g:∀ds,(a==sysModules)=false->o=dictOf ds es.length->Ens om.w.params nm L es ds->C):C:=p.2.elim λds r=>g ds p.1 r.1 r.2
theorem OkP.inst_(p:OkP om nm L a (.inst c d) o)(g:∀ad,L[d]?=some ad->o=instObj c ad->C):C:=p.elim λad r=>g ad r.1 r.2
theorem OkP.cell_{v:AV}(p:OkP om nm L a (.cell (some v)) o)(g:∀u,o.data=.cell (some u)->Den nm L v u->C):C:=p.elim λu r=>r.2.elim λy q=>g y (q.1▸r.1) q.2
theorem OkP.exc_{t:Option Nat}{d:Option Nat}(p:OkP om nm L a (.exc c d t) o)(g:∀vs va vd,ExcP L c d t o vs va vd->C):C:=p.elim λvs p=>p.elim λva p=>p.elim λvd r=>g vs va vd r
theorem Den.loc_(p:Den nm L (.loc i) u)(g:∀ad,L[i]?=some ad->u=.ref ad->C):C:=p.elim λad r=>g ad r.1 r.2
theorem Den.int_{z:Int}(p:Den nm L (.int z) u)(g:∀t,u=.int z t->C):C:=p.elim g
theorem Den.str_(p:Den nm L (.str x) u)(g:∀t,u=.str x t->C):C:=p.elim g
theorem Den.sym_(p:Den nm L (.sym c k) u)(g:∀t,u=.str (nm.f k) t->nm.f k∈JR c->C):C:=p.elim λt r=>g t r.1 r.2
theorem Den.hd_(p:Den nm L (.hd c k) u)(g:∀t,u=.str (headS (nm.f k)) t->nm.f k∈JR c->C):C:=p.elim λt r=>g t r.1 r.2
theorem Den.bytes_{l:List Nat}(p:Den nm L (.bytes l) u)(g:∀b t,u=.bytes b t->b.toList.map UInt8.toNat=l->C):C:=p.elim λb p=>p.elim λt r=>g b t r.1 r.2
def Qb.val(u:Nat->Bool)(q:Qb):Bool:=Qb.rec (λb=>b) u q
def dedS(l:List Str):List Str->List Str:=List.rec (motive:=λZ=>List Str->List Str) (λys=>ys) (λx Z ih ys=>ih (Bool.rec (ys++[x]) ys (ys.any λy=>sEq y x))) l
structure Zp(om:Om)(hF:Heap)(nm:Nt)(u:Nat->Bool)(own:List Addr)(kn:Kn):Prop where
 sob:∀k ao,kn.sob k=some ao->∃o,hF.get? (nm.op k)=some o/\∀L,own<+:L->OkP om nm L (nm.op k) ao o
 eqs:∀i j q,kn.eqs i j=some q->decide (nm.f i=nm.f j)=q.val u
 mem:∀k i q,kn.mem k i=some q->(nm.op k==sysModules)=false/\∃o es nm0 L0,hF.get? (nm.op k)=some o/\SD om.w.params es nm0 L0 o/\JH (look (nm.f i) es)=q.val u
 lmem:∀k i q,kn.lmem k i=some q->∃xs n ys,hF.get? (nm.op k)=some (listOf xs n)/\StrsAre xs.toList ys/\JU (nm.f i) ys=q.val u
 same:∀i j b,kn.same i j=some b->b=decide (nm.op i=nm.op j)/\∃c d c' d',hF.get? (nm.op i)=some (instObj c d)/\hF.get? (nm.op j)=some (instObj c' d')
 smem:∀k x b,kn.smem k x=some b->(nm.op k==sysModules)=false/\∃o es nm0 L0,hF.get? (nm.op k)=some o/\SD om.w.params es nm0 L0 o/\JH (look x es)=b
 dget:∀k i v,kn.dget k i=some v->∃o es nm0 L0 z,hF.get? (nm.op k)=some o/\SD om.w.params es nm0 L0 o/\look (nm.f i) es=some z/\∀y,Den nm0 L0 z y->∀L,own<+:L->Den nm L v y
 oatt:∀k x v,kn.oatt k x=some v->∃c d o es nm0 L0 z,hF.get? (nm.op k)=some (instObj c d)/\attP c x=true/\hF.get? d=some o/\SD om.w.params es nm0 L0 o/\look x es=some z/\(Zo z).isSome/\∀y,Den nm0 L0 z y->∀L,own<+:L->Den nm L v y
 fst:∀k v,kn.fst k=some v->∃xs n y,hF.get? (nm.op k)=some (listOf xs n)/\xs[0]?=some y/\∀L,own<+:L->Den nm L v y
 gl:∀x v,look x kn.gl=some v->∃u,(∀L,own<+:L->Den nm L v u)/\(om.mg x=some u\/(om.mg x=none/\om.mb x=some u))
 dk:∀ks ys,kn.dk ks=some ys->dedS (ks.map nm.f) []=ys
structure Gd where
 om:Om
 hF:Heap
 nm:Nt
 u:Nat->Bool
 own:List Addr
 out:List Env
 cx:Cx
 k:Nat
 hP:cx.P=om.w.params
 base:∀b o,om.hb.get? b=some o->hF.get? b=some o
 t2:cx.lam=true->tbs<+:own
 tl:∀t∈tbs,t∈own\/∃o,hF.get? t=some o
 outm:List (Addr×(Str->Option Value))
 oute:∀e∈out,e.scope.kind≠.module/\∃p∈outm,e.frame=some p.1
 outn:∀p∈outm,hF.get? p.1=none/\om.hb.objs.size<=p.1
 kn:Zp om hF nm u own cx.kn
variable {G:Gd}{S S':St}{s:Shared}{ao ao':AO}{h h':Heap}
def Obs(G:Gd)(h:Heap)(L:List Addr)(i:Nat)(ao:AO):Prop:=∃a o,L[i]?=some a/\h.get? a=some o/\OkP G.om G.nm L a ao o
structure Rep(G:Gd)(S:St)(L:List Addr)(s:Shared):Prop where
 len:L.length=S.n
 nd:L.Nodup
 keep:∀b o,G.hF.get? b=some o->s.heap.get? b=some o
 new:∀a∈L,G.hF.get? a=none
 all:∀i,i<S.n->∃ao,S.get i=some ao
 objs:∀i ao,S.get i=some ao->Obs G s.heap L i ao
 gens:s.gens=G.om.gens
 dr:s.drawn=G.om.dr
 os:s.os=G.om.os
 own:G.own<+:L
 outs:∀p∈G.outm,p.1∉L/\∃o,s.heap.get? p.1=some o/\nsP p.2 o
structure New(G:Gd)(L:List Addr)(x:Addr):Prop where
 L:x∉L
 F:G.hF.get? x=none
 o:∀p∈G.outm,p.1≠x
theorem Obs.el(x:Obs G h L i ao){C:Prop}(k:∀a o,L[i]?=some a->h.get? a=some o->OkP G.om G.nm L a ao o->C):C:=x.elim λa x=>x.elim λo r=>k a o r.1 r.2.1 r.2.2
theorem Obs.keep(x:Obs G h L i ao)(k:∀a o,L[i]?=some a->h.get? a=some o->h'.get? a=some o)(p:L<+:L'):Obs G h' L' i ao:=x.el λa o e ho r=>⟨a,o,Jp p e,k a o e ho,r.mono p⟩
theorem Rep.get(R:Rep G S L s)(e:S.get i=some ao)(ha:L[i]?=some a){C:Prop}(k:∀o,s.heap.get? a=some o->OkP G.om G.nm L a ao o->C):C:=(R.objs i ao e).el λb o hb ho r=>by cases hb.symm.trans ha;exact k o ho r
theorem Rep.live(R:Rep G S L s)(ha:a∈L){C:Prop}(k:∀i ao o,L[i]?=some a->S.get i=some ao->s.heap.get? a=some o->OkP G.om G.nm L a ao o->C):C:=
 (mi_ ha).elim λi e=>(R.all i (R.len▸(lt_ e))).elim λao q=>R.get q e λo ho r=>k i ao o e q ho r
theorem Rep.lt(R:Rep G S L s)(ha:a∈L):a<s.heap.objs.size:=R.live ha λZ Z Z Z Z e Z=>ϱ e
theorem Rep.new_(R:Rep G S L s)(ha:s.heap.objs.size<=a):New G L a:=by
 refine⟨λh=>Jj _ (Ϛ (R.lt h) ha),?_,λp hp e=>(R.outs p hp).2.elim λo h=>Jj _ (Ϛ (ϱ h.1) (e▸ha))⟩;induction q:G.hF.get? a with
 |none=>rfl
 |some o=>exact absurd (ϱ (R.keep _ o q)) (ϖ ha)
theorem ZE(L:List Addr)(a:Addr):(L++[a])[L.length]?=some a:=by
 rw[ϝ (Ϙ _),Nat.sub_self];rfl
theorem Ju(h:L.Nodup)(hi:L[i]?=some a)(hj:L[j]?=some a):i=j:=(List.getElem?_inj (lt_ hi) h).mp (hi.trans hj.symm)
def Ext(G:Gd)(L L':List Addr):Prop:=L'=L\/∃x,L'=L++[x]/\New G L x
theorem Ext.pre(h:Ext G L L'):L<+:L':=h.elim (λe=>e▸ζ _) λ⟨x,e,_⟩=>e▸θ _ _
theorem Ext.nd(h:Ext G L L')(d:L.Nodup):L'.Nodup:=by
 rcases h with rfl|⟨x,rfl,hx⟩
 ·exact d
 ·exact List.nodup_append.mpr ⟨d,List.nodup_cons.mpr ⟨Ξ,ϑ⟩,λy hy z hz q=>hx.L (ms_ hz▸q▸hy)⟩
theorem Ext.new(h:Ext G L L')(d:∀a∈L,G.hF.get? a=none):∀a∈L',G.hF.get? a=none:=by
 rcases h with rfl|⟨x,rfl,hx⟩
 ·exact d
 ·exactλy hy=>(ma_ hy).elim (d y) λq=>ms_ q▸hx.F
theorem Ext.out(h:Ext G L L'){p:Addr×(Str->Option Value)}(hp:p∈G.outm)(d:p.1∉L):p.1∉L':=by
 rcases h with rfl|⟨x,rfl,hx⟩
 ·exact d
 ·exactλhy=>(ma_ hy).elim d λq=>hx.o p hp (ms_ q)
theorem Rep.multi(R:Rep G S L s)(hL:Ext G L L')(hn:L'.length=S'.n){t:Tok}(kF:∀b o,G.hF.get? b=some o->s.heap.get? b=some o->h'.get? b=some o)(kO:∀p∈G.outm,∀o,p.1∉L->s.heap.get? p.1=some o->nsP p.2 o->∃o,h'.get? p.1=some o/\nsP p.2 o)
  (all:∀j,(S'.get j=S.get j/\∀a o,L[j]?=some a->s.heap.get? a=some o->h'.get? a=some o)\/∃ao,S'.get j=some ao/\Obs G h' L' j ao) (new:∀j,S.n<=j->j<S'.n->∃ao,S'.get j=some ao):Rep G S' L' {s with heap:=h',toks:=t}:=by
 refine⟨hn,hL.nd R.nd,λb o e=>kF b o e (R.keep b o e),hL.new R.new,λj hj=>?_,λj ao e=>?_,R.gens,R.dr,R.os,R.own.trans hL.pre,λp hp=>⟨hL.out hp (R.outs p hp).1,(R.outs p hp).2.elim λo h=>kO p hp o (R.outs p hp).1 h.1 h.2⟩⟩
 ·by_cases q:j<S.n
  ·exact(all j).elim (λh=>(R.all j q).elim λao e=>⟨ao,h.1.trans e⟩) λh=>h.elim λao h=>⟨ao,h.1⟩
  ·exact new j (Jf q) hj
 ·exact(all j).elim (λh=>(R.objs j ao (h.1.symm.trans e)).keep h.2 hL.pre) λh=>h.elim λao' h=>oi (h.1.symm.trans e)▸h.2
theorem Rep.step(R:Rep G S L s)(C:Chg S S' n i ao)(hL:Ext G L L')(hn:L'.length=n){t:Tok}(k:∀b o,L[i]?≠some b->s.heap.get? b=some o->h'.get? b=some o)(ok:Obs G h' L' i ao)(hn2:∀j,S.n<=j->j<n->j=i):
  Rep G S' L' {s with heap:=h',toks:=t}:=
 R.multi hL (hn.trans C.n.symm) (λb o e=>k b o λq=>no ((R.new b (Θ q)).symm.trans e)) (λp hp o hl e q=>⟨o,k _ o (λz=>hl (Θ z)) e,q⟩)
  (λj=>by
   by_cases q:j=i
   ·exact .inr ⟨ao,q▸C.self,q▸ok⟩
   ·exact .inl ⟨C.other j q,λa o ha ho=>k a o (λz=>q (Ju R.nd ha z)) ho⟩) λj h1 h2=>⟨ao,(hn2 j h1 (C.n▸h2))▸C.self⟩
theorem Rep.grow(R:Rep G S L s)(k:∀b o,s.heap.get? b=some o->h'.get? b=some o){t:Tok}:Rep G S L {s with heap:=h',toks:=t}:=
 R.multi (.inl rfl) R.len (λb o Z=>k b o) (λp Z o Z e q=>⟨o,k _ o e,q⟩) (λj=>.inl ⟨rfl,λa o Z e=>k a o e⟩) λj h1 h2=>absurd h2 (ϖ h1)
end Internal
namespace Internal
structure Room(A:Around)(m:Nat):Prop where
 dep:A.depth+m<recursionLimit
 un:A.units+10*m<cLine
theorem Room.le{A:Around}{m n:Nat}(h:Room A m)(l:n<=m):Room A n:=⟨ϛ (Nat.add_le_add_left l _) h.dep,ϛ (Nat.add_le_add_left (Nat.mul_le_mul_left _ l) _) h.un⟩
structure ZA(L:List Addr)(f:FrA)(env:Env):Prop where
 k:f.sc.kind=.function
 sc:env.scope=f.sc
 gl:env.globals=mainGlobals
 bi:env.builtins=builtinsNs
 loc:L[f.l]?=some env.locals
 fr:f.cp=false->env.frame=some env.locals/\∃fa cd,env=envX f.cn f.sc env.locals fa cd env.cells/\∀c,f.code=some c->cd=.ref c
 cl:∀x i,look x f.cells=some i->∃a,L[i]?=some a/\env.cells.lookup x=some a
theorem ZA.mono{L L':List Addr}{f:FrA}{env:Env}(h:ZA L f env)(p:L<+:L'):ZA L' f env:=
 {h with loc:=Jp p h.loc,cl:=λx i e=>(h.cl x i e).elim λa r=>⟨a,Jp p r.1,r.2⟩}
def Jv(l:List (FrA×Env)):List Env:=List.rec [] (λp Z ih=>Bool.rec (p.2::ih) ih p.1.cp) l
structure Bd where
 G:Gd
 A:Around
 f:FrA
 env:Env
 below:List (FrA×Env)
 fr:A.frames=some (Jv ((f,env)::below)++G.out)
 hdl:f.hd=false->A.handled=none
def NsK(S S':St):Prop:=∀i es,S.get i=some (.ns es)->∃es',S'.get i=some (.ns es')
theorem NsK.trans{S S' S'':St}(a:NsK S S')(b:NsK S' S''):NsK S S'':=λi es e=>(a i es e).elim λes' e'=>b i es' e'
theorem Chg.ns{S S':St}{n i:Nat}{ao:AO}(C:Chg S S' n i ao)(h:∀es,S.get i=some (.ns es)->∃es',ao=.ns es'):NsK S S':=λj es e=>by
 by_cases q:j=i
 ·subst q;exact(h es e).elim λes' z=>⟨es',C.self.trans (Ja _ z)⟩
 ·exact⟨es,(C.other j q).trans e⟩
structure Sit(B:Bd)where
 S:St
 L:List Addr
 s:Shared
 r:Rep B.G S L s
 ok:∀p∈(B.f,B.env)::B.below,ZA L p.1 p.2/\∃es,S.get p.1.l=some (.ns es)
 he:∀i,B.f.he=some i->B.f.hd=true->∃a,L[i]?=some a/\B.A.handled=some (.ref a)
variable {B:Bd}{x y x':Sit B}{α β γ:Type}{a b:AV}{u v:Value}{c:R}{C:Prop}{i:Nat}
def Sit.D(x:Sit B)(a:AV)(u:Value):Prop:=Den B.G.nm x.L a u
def Sit.Ds(x:Sit B)(a:List AV)(u:List Value):Prop:=Jq B.G.nm x.L a u
def Sit.le(x x':Sit B):Prop:=x.L<+:x'.L
theorem Sit.le.refl(x:Sit B):x.le x:=ζ _
theorem Sit.D.up(d:x.D a u)(p:x.le x'):x'.D a u:=Den.mono p d
noncomputable abbrev Sit.P(x:Sit B)(ad:Addr)(ao:AO)(o:Obj):Prop:=OkP B.G.om B.G.nm x.L ad ao o
def Sit.to(x:Sit B){S':St}{L':List Addr}{s':Shared}(R':Rep B.G S' L' s')(p:x.L<+:L')(m:NsK x.S S'):Sit B:=
 ⟨S',L',s',R',λq hq=>⟨(x.ok q hq).1.mono p,(x.ok q hq).2.elim λes e=>m _ es e⟩,λi h1 h2=>(x.he i h1 h2).elim λa r=>⟨a,Jp p r.1,r.2⟩⟩
def Sit.toks(x:Sit B)(t:Tok):Sit B:=⟨x.S,x.L,{x.s with toks:=t},⟨x.r.len,x.r.nd,x.r.keep,x.r.new,x.r.all,x.r.objs,x.r.gens,x.r.dr,x.r.os,x.r.own,x.r.outs⟩,x.ok,x.he⟩
def Jn(x:Sit B)(ρ:Sit B->Out->α->Prop)(c:R)(Q:SP α)(E:SP Value):Prop:=
 R.rec (motive:=λZ=>Prop) False (λo S'=>∀x':Sit B,x.le x'->x'.S=S'->(∀u,ρ x' o u->Q u x'.s)/\∀i a,o=.exc i->x'.L[i]?=some a->E (.ref a) x'.s) (λi Z Z a b=>(B.G.u i=true->a)/\(B.G.u i=false->b)) c
def RV(x:Sit B)(o:Out)(u:Value):Prop:=∃a,o=.v a/\x.D a u
def RVs(x:Sit B)(o:Out)(u:List Value):Prop:=∃l,o=.vs l/\x.Ds l u
def RB(_:Sit B)(o:Out)(b:Bool):Prop:=o=.b b
def RU(_:Sit B)(o:Out)(_:Unit):Prop:=o=.next
def RF(x:Sit B)(o:Out)(fl:Flow):Prop:=(o=.next/\fl=.next)\/∃a u,o=.ret a/\fl=.ret u/\x.D a u
variable {ρ:Sit B->Out->α->Prop}{σ:Sit B->Out->β->Prop}{Q:SP α}{Q1:SP β}{E E1:SP Value}{S':St}{o:Out}
theorem Jn.up(P:Jn x ρ c Q E)(p:x.le y):Jn y ρ c Q E:=by
 induction c with
 |no=>exact P
 |ok o S=>exactλx' q=>P x' (τ p q)
 |ask i t f iht ihf=>exact⟨λe=>iht (P.1 e),λe=>ihf (P.2 e)⟩
theorem Jn.leaf(P:Jn x ρ c Q E)(h:∀x' o,x.le x'->(∀u,ρ x' o u->Q u x'.s)->(∀i a,o=.exc i->x'.L[i]?=some a->E (.ref a) x'.s)->(∀u,σ x' o u->Q1 u x'.s)/\∀i a,o=.exc i->x'.L[i]?=some a->E1 (.ref a) x'.s):Jn x σ c Q1 E1:=by
 induction c with
 |no=>exact P
 |ok o S=>exactλx' p e=>h x' o p (P x' p e).1 (P x' p e).2
 |ask i t f iht ihf=>exact⟨λe=>iht (P.1 e),λe=>ihf (P.2 e)⟩
theorem Jn.now{o:Out}{S':St}(P:Jn x ρ (.ok o S') Q E)(e:x.S=S'){r:α}(h:ρ x o r):Q r x.s:=(P x (Sit.le.refl x) e).1 r h
theorem Jn.ob{γ:Type}{y:Option γ}{k:γ->R}(P:Jn x ρ (ob y k) Q E)(h:∀a,y=some a->Jn x ρ (k a) Q E->C):C:=by
 induction y with
 |none=>exact P.elim
 |some a=>exact h a rfl P
theorem Jn.ifT{b:Bool}{k:R}(P:Jn x ρ (ifT b k) Q E)(h:b=true->Jn x ρ k Q E->C):C:=by
 induction b with
 |false=>exact P.elim
 |true=>exact h rfl P
theorem Jn.askQ{q:Qb}{k:Bool->R}(P:Jn x ρ (askQ q k) Q E):Jn x ρ (k (q.val B.G.u)) Q E:=by
 induction q with
 |b b=>exact P
 |u i=>
  show Jn x ρ (k (B.G.u i)) Q E;induction e:B.G.u i with
  |true=>exact P.1 e
  |false=>exact P.2 e
theorem Jn.on{sel:Out->Option γ}{k:γ->St->R}(P:Jn x ρ (on sel c k) Q E)(hs:∀i,sel (.exc i)=none)(hσ:∀x' o u,σ x' o u->∃g,sel o=some g)(h:∀x1 o g u,x.le x1->σ x1 o u->sel o=some g->Jn x1 ρ (k g x1.S) Q E->Q1 u x1.s):Jn x σ c Q1 E:=by
 induction c with
 |no=>exact P
 |ask i t f iht ihf=>exact⟨λe=>iht (P.1 e),λe=>ihf (P.2 e)⟩
 |ok o S=>
  intro x' p e;have P:Jn x ρ (Option.rec (excO o S) (λg=>k g S) (sel o)) Q E:=P;subst e;induction q:sel o with
  |some g=>
   rw[q]at P;exact⟨λu r=>h x' o g u p r q (P.up p),λi a z Z=>by rw[z,hs]at q;exact nomatch q⟩
  |none=>
   rw[q]at P;refine⟨λu r=>(hσ x' o u r).elim λg z=>absurd (q.symm.trans z) nofun,λi a z w=>?_⟩;subst z;exact(P x' p rfl).2 i a rfl w
theorem Jn.xo{sel:Out->Option γ}{k:γ->St->R}(P:Jn x ρ (xo sel c k) Q E)(hs:∀i,sel (.exc i)=none)(hσ:∀x' o u,σ x' o u->∃g,sel o=some g)(h:∀x1 o g u,x.le x1->σ x1 o u->sel o=some g->Jn x1 ρ (k g x1.S) Q E->Q1 u x1.s):Jn x σ c Q1 E1:=by
 induction c with
 |no=>exact P
 |ask i t f iht ihf=>exact⟨λe=>iht (P.1 e),λe=>ihf (P.2 e)⟩
 |ok o S=>
  intro x' p e;have P:Jn x ρ (Option.rec .no (λg=>k g S) (sel o)) Q E:=P;subst e;induction q:sel o with
  |some g=>
   rw[q]at P;exact⟨λu r=>h x' o g u p r q (P.up p),λi a z Z=>by rw[z,hs]at q;exact nomatch q⟩
  |none=>rw[q]at P;exact P.elim
theorem Jn.onV{k:AV->St->R}(P:Jn x ρ (Internal.onV c k) Q E){Q1:SP Value}(h:∀x1 a u,x.le x1->x1.D a u->Jn x1 ρ (k a x1.S) Q E->Q1 u x1.s):Jn x RV c Q1 E:=
 Jn.on (sel:=Ya) P (λZ=>rfl) (λZ Z u r=>by obtain ⟨a,rfl,_⟩:=r;exact⟨_,rfl⟩) λx1 o g u p r e P=>by obtain ⟨a,rfl,d⟩:=r;cases e;exact h x1 _ u p d P
theorem Jn.onVs{k:List AV->St->R}(P:Jn x ρ (Internal.onVs c k) Q E){Q1:SP (List Value)}(h:∀x1 a u,x.le x1->x1.Ds a u->Jn x1 ρ (k a x1.S) Q E->Q1 u x1.s):Jn x RVs c Q1 E:=
 Jn.on (sel:=selVs) P (λZ=>rfl) (λZ Z u r=>by obtain ⟨a,rfl,_⟩:=r;exact⟨_,rfl⟩) λx1 o g u p r e P=>by obtain ⟨a,rfl,d⟩:=r;cases e;exact h x1 _ u p d P
theorem Jn.onB{k:Bool->St->R}(P:Jn x ρ (Internal.onB c k) Q E){Q1:SP Bool}(h:∀x1 b,x.le x1->Jn x1 ρ (k b x1.S) Q E->Q1 b x1.s):Jn x RB c Q1 E:=
 Jn.on (sel:=selB) P (λZ=>rfl) (λZ Z u r=>by cases r;exact⟨_,rfl⟩) λx1 o g u p r e P=>by cases r;cases e;exact h x1 _ p P
theorem Jn.onN{k:Unit->St->R}(P:Jn x ρ (Internal.onN c k) Q E){Q1:SP Unit}(h:∀x1,x.le x1->Jn x1 ρ (k () x1.S) Q E->Q1 () x1.s):Jn x RU c Q1 E:=
 Jn.on (sel:=selN) P (λZ=>rfl) (λZ Z u r=>by cases r;exact⟨_,rfl⟩) λx1 o g u p r e P=>by cases r;cases e;exact h x1 p P
theorem Jn.xV{k:AV->St->R}(P:Jn x ρ (Internal.xo Ya c k) Q E){Q1:SP Value}(h:∀x1 a u,x.le x1->x1.D a u->Jn x1 ρ (k a x1.S) Q E->Q1 u x1.s):Jn x RV c Q1 E1:=
 Jn.xo (sel:=Ya) P (λZ=>rfl) (λZ Z u r=>by obtain ⟨a,rfl,_⟩:=r;exact⟨_,rfl⟩) λx1 o g u p r e P=>by obtain ⟨a,rfl,d⟩:=r;cases e;exact h x1 _ u p d P
theorem Jn.xB{k:Bool->St->R}(P:Jn x ρ (Internal.xo selB c k) Q E){Q1:SP Bool}(h:∀x1 b,x.le x1->Jn x1 ρ (k b x1.S) Q E->Q1 b x1.s):Jn x RB c Q1 E1:=
 Jn.xo (sel:=selB) P (λZ=>rfl) (λZ Z u r=>by cases r;exact⟨_,rfl⟩) λx1 o g u p r e P=>by cases r;cases e;exact h x1 _ p P
theorem Jn.xN{k:Unit->St->R}(P:Jn x ρ (Internal.xo selN c k) Q E){Q1:SP Unit}(h:∀x1,x.le x1->Jn x1 ρ (k () x1.S) Q E->Q1 () x1.s):Jn x RU c Q1 E1:=
 Jn.xo (sel:=selN) P (λZ=>rfl) (λZ Z u r=>by cases r;exact⟨_,rfl⟩) λx1 o g u p r e P=>by cases r;cases e;exact h x1 p P
theorem Jn.val{Q:SP Value}(P:Jn x RV (.ok (.v a) x.S) Q E)(d:x.D a u)(t:Tok:=x.s.toks):Q u {x.s with toks:=t}:=(P (x.toks t) (Sit.le.refl x) rfl).1 u ⟨a,rfl,d⟩
theorem Jn.bo{Q:SP Bool}{b:Bool}(P:Jn x RB (.ok (.b b) x.S) Q E)(t:Tok:=x.s.toks):Q b {x.s with toks:=t}:=(P (x.toks t) (Sit.le.refl x) rfl).1 b rfl
theorem Jn.next{Q:SP Unit}(P:Jn x RU (.ok .next x.S) Q E):Q () x.s:=P.now rfl rfl
theorem Jn.nextF{Q:SP Flow}(P:Jn x RF (.ok .next x.S) Q E):Q .next x.s:=P.now rfl (.inl ⟨rfl,rfl⟩)
theorem Jn.retF{Q:SP Flow}(P:Jn x RF (.ok (.ret a) x.S) Q E)(d:x.D a u):Q (.ret u) x.s:=P.now rfl (.inr ⟨a,u,rfl,rfl,d⟩)
theorem Jn.pushR{ao:AO}{k:Nat->St->R}(P:Jn x ρ (pushR x.S ao k) Q E){o:Obj}(ok:OkP B.G.om B.G.nm (x.L++[x.s.heap.objs.size]) x.s.heap.objs.size ao o)(hf:o.isFreed=false:=by rfl){t:Tok}
  (h:∀x':Sit B,x.le x'->x'.s={x.s with heap:=x.s.heap.push o,toks:=t}->x'.L=x.L++[x.s.heap.objs.size]->x'.L[x.S.n]?=some x.s.heap.objs.size->Jn x' ρ (k x.S.n x'.S) Q E->C):C:=
 P.ob λS' e P=>by
  have Ch:=St.push_get e;have p:x.L<+:x.L++[x.s.heap.objs.size]:=θ _ _;have q:(x.L++[x.s.heap.objs.size])[x.S.n]?=some x.s.heap.objs.size:=x.r.len▸ZE x.L _;have R':=x.r.step (t:=t) Ch (.inr ⟨_,rfl,x.r.new_ (Ϙ _)⟩) ((ς).trans (Ja (·+1) x.r.len)) (λb o' Z e'=>η _ e') ⟨_,o,q,ϟ _ hf,ok⟩ λj h1 h2=>Nat.le_antisymm (Je h2) h1
  exact h (x.to R' p (Ch.ns λes z=>(x.r.objs _ _ z).el λZ Z r Z Z=>absurd (lt_ r) (by rw[x.r.len];exact Jj _))) p rfl rfl q (P.up p)
theorem Jn.pushV{ao:AO}{Q:SP Value}(P:Jn x RV (pushV x.S ao) Q E){o:Obj}(ok:OkP B.G.om B.G.nm (x.L++[x.s.heap.objs.size]) x.s.heap.objs.size ao o)(hf:o.isFreed=false:=by rfl){t:Tok}:Q (.ref x.s.heap.objs.size) {x.s with heap:=x.s.heap.push o,toks:=t}:=
 Jn.pushR (k:=λi S=>.ok (.v (.loc i)) S) P ok hf λx' p e1 Z e2 P=>e1▸P.val (u:=.ref x.s.heap.objs.size) ⟨_,e2,rfl⟩ _
theorem Jn.setR{ao:AO}{k:St->R}(P:Jn x ρ (setR x.S i ao k) Q E){ad:Addr}(ha:x.L[i]?=some ad){h':Heap}(kp:∀b o,b≠ad->x.s.heap.get? b=some o->h'.get? b=some o){o:Obj}(ho:h'.get? ad=some o)(ok:x.P ad ao o)(hn:∀es,x.S.get i=some (.ns es)->∃es',ao=.ns es'){t:Tok}
  (h:∀x':Sit B,x.le x'->x'.s={x.s with heap:=h',toks:=t}->x'.L=x.L->Chg x.S x'.S x.S.n i ao->Jn x' ρ (k x'.S) Q E->C):C:=
 P.ob λS' e P=>by
  have Ch:=St.set_get e;have R':=x.r.step (t:=t) Ch (.inl rfl) x.r.len (λb o' hb=>kp b o' λq=>hb (q▸ha)) ⟨_,o,ha,ho,ok⟩ λj h1 h2=>absurd h2 (ϖ h1);exact h (x.to R' (ζ _) (Ch.ns hn)) (ζ _) rfl rfl Ch (P.up (ζ _))
structure Pt(om:Om)(A:Around)(s:Shared)(k:Nat):Prop where
 base:∀b o,om.hb.get? b=some o->s.heap.get? b=some o
 live:∀t∈tbs,∃o,s.heap.get? t=some o
 big:om.hb.objs.size<=s.heap.objs.size
 gens:s.gens=om.gens
 dr:s.drawn=om.dr
 os:s.os=om.os
 room:Room A k
 hdl:A.handled=none
 fr:∃out,A.frames=some out/\∀e∈out,e.scope.kind≠.module/\∃a m o,e.frame=some a/\s.heap.get? a=some o/\nsP m o/\om.hb.objs.size<=a
noncomputable abbrev Mdl(om:Om):Model:=model om.prog om.w
def WY(L:List Addr)(S:St)(l:List (FrA×Env)):Prop:=∀p∈l,ZA L p.1 p.2/\∃es,S.get p.1.l=some (.ns es)
structure Wt(G:Gd)(fs:List (FrA×Env))where
 S:St
 L:List Addr
 s:Shared
 r:Rep G S L s
 ok:WY L S fs
def PG{G:Gd}{fs:List (FrA×Env)}(x:Wt G fs)(c:R)(Q:SP Value)(E:SP Value):Prop:=
 R.rec (motive:=λZ=>Prop) False (λo S'=>∀x':Wt G fs,x.L<+:x'.L->x'.S=S'->(∀a u,o=.v a->Den G.nm x'.L a u->Q u x'.s)/\∀i a,o=.exc i->x'.L[i]?=some a->E (.ref a) x'.s) (λi Z Z a b=>(G.u i=true->a)/\(G.u i=false->b)) c
def Wv(G:Gd):Prop:=∀a args A fs (x:Wt G fs) us Q E,JN a G.cx.sp=true->Pt G.om A x.s G.k->A.frames=some (Jv fs++G.out)->Jq G.nm x.L args us->PG x (G.cx.ora a args x.S) Q E->wpAny (Mdl G.om) A (call (.ref a) us) Q E x.s
structure Rm(B:Bd)(n:Nat):Prop where
 room:Room B.A (2*n+60+B.G.k)
 ora:Wv B.G
noncomputable abbrev Md(B:Bd):Model:=Mdl B.G.om
theorem Rm.dn{B:Bd}{n:Nat}(m:Rm B (n+1)):Rm B n:=⟨m.room.le (by lia),m.ora⟩
theorem Rm.un{B:Bd}{n:Nat}(m:Rm B n):B.A.units+600<cLine:=ϛ (Nat.add_le_add_left (by lia) _) m.room.un
def Zt(Q:SP Flow)(r:Result)(s':Shared):Prop:=match r with|.ok fl=>Q fl s'|.error _=>False
structure Hr(n:Nat)(r:Cx->Cm->St->R):Prop where
 ev:∀{B:Bd} {x:Sit B} {e:Expr} {Q E},Rm B n->Jn x RV (r B.G.cx (.ev B.f e) x.S) Q E->wpAny (Md B) B.A (eval e B.env) Q E x.s
 tst:∀{B:Bd} {x:Sit B} {e:Expr} {Q E},Rm B n->Jn x RB (r B.G.cx (.tst B.f e) x.S) Q E->wpAny (Md B) B.A (isTrue e B.env (eval e B.env)) Q E x.s
 ex:∀{B:Bd} {x:Sit B} {st:Stmt} {Q E},Rm B n->Jn x RF (r B.G.cx (.ex B.f st) x.S) Q E->wpAny (Md B) B.A (exec st B.env) Q E x.s
 call:∀{B:Bd} {x:Sit B} {fv:AV} {args:List AV} {vf:Value} {vs:List Value} {Q E},Rm B n->x.D fv vf->x.Ds args vs->Jn x RV (r B.G.cx (.call B.f.hd fv args) x.S) Q E->wpAny (Md B) B.A (call vf vs) Q E x.s
 asg:∀{B:Bd} {x:Sit B} {t:Expr} {v:AV} {u:Value} {Q E},Rm B n->x.D v u->Jn x RU (r B.G.cx (.asg B.f t v) x.S) Q E->wpAny (Md B) B.A (assign t B.env u) Q E x.s
 loop:∀{B:Bd} {x:Sit B} {t:Expr} {body:List Stmt} {Q E},Rm B n->Jn x RF (r B.G.cx (.loop B.f t body) x.S) Q E->codeAny (Md B) B.A (.whileLoop t body [] B.env) (Zt Q) x.s
 each:∀{B:Bd} {x:Sit B} {t:Expr} {i:Nat} {a:Addr} {body:List Stmt} {Q E},Rm B n->x.L[i]?=some a->Jn x RF (r B.G.cx (.each B.f t i body) x.S) Q E->codeAny (Md B) B.A (.forLoop t (.ref a) body [] B.env) (Zt Q) x.s
 comp:∀{B:Bd} {x:Sit B} {e:Expr} {d i acc:Nat} {a b:Addr} {Q E},Rm B n->x.L[i]?=some a->x.L[acc]?=some b->Jn x RU (r B.G.cx (.comp B.f e d i acc) x.S) Q E->codeAny (Md B) B.A (.compLoop e d (.ref a) (.ref b) B.env) (Zt λZ=>Q ()) x.s
theorem Jz{α:Type}{f:AO->Option α}{S:St}{i:Nat}{r:α}(h:gv f S i=some r){C:Prop}(k:∀o,S.get i=some o->f o=some r->C):C:=by
 unfold gv obO at h;induction e:S.get i with
 |none=>rw[e]at h;exact no h
 |some o=>rw[e]at h;exact k o e h
theorem Jo{α β:Type}{y:Option α}{k:α->Option β}{r:β}(h:obO y k=some r){C:Prop}(g:∀a,y=some a->k a=some r->C):C:=by
 induction y with
 |none=>exact no h
 |some a=>exact g a rfl h
theorem Jt{β:Type}{b:Bool}{c:Option β}{r:β}(h:ifO b c=some r){C:Prop}(g:b=true->c=some r->C):C:=by
 induction b with
 |false=>exact no h
 |true=>exact g rfl h
theorem JL{b:Bool}(h:JM b=true):b=false:=by revert h;induction b<;>first|exact nb|exactλZ=>rfl
theorem Zf{o:AO}{l:List AV}(h:Zc o=some l):o=.list l:=WS (c:=AO.list) (by clear h;induction o<;>exact rfl) h
theorem Wx{o:AO}{l:List AV}(h:vTup o=some l):o=.tup l:=WS (c:=AO.tup) (by clear h;induction o<;>exact rfl) h
theorem ZB{o:AO}{l:List (Str×AV)}(h:Zi o=some l):o=.dict l:=WS (c:=AO.dict) (by clear h;induction o<;>exact rfl) h
theorem vNs_of{o:AO}{l:List (Str×AV)}(h:vNs o=some l):o=.ns l:=WS (c:=AO.ns) (by clear h;induction o<;>exact rfl) h
theorem vCell_of{o:AO}{l:Option AV}(h:vCell o=some l):o=.cell l:=WS (c:=AO.cell) (by clear h;induction o<;>exact rfl) h
theorem vInst_of{o:AO}{l:Nat×Nat}(h:vInst o=some l):o=.inst l.1 l.2:=WS (c:=λl:Nat×Nat=>AO.inst l.1 l.2) (by clear h;induction o<;>exact rfl) h
theorem vExc_of{o:AO}{l:Nat×Option Nat×Option Nat}(h:vExc o=some l):o=.exc l.1 l.2.1 l.2.2:=WS (c:=λl:Nat×Option Nat×Option Nat=>AO.exc l.1 l.2.1 l.2.2) (by clear h;induction o<;>exact rfl) h
theorem JO{a:AV}{i:Int}(h:Zw a=some i):a=.int i:=WS (c:=AV.int) (by clear h;induction a<;>exact rfl) h
theorem Zb{a:AV}{i:Str}(h:Zz a=some i):a=.str i:=WS (c:=AV.str) (by clear h;induction a<;>exact rfl) h
theorem JQ{a:AV}{i:Nat}(h:Zh a=some i):a=.loc i:=WS (c:=AV.loc) (by clear h;induction a<;>exact rfl) h
theorem WO{a:AV}(h:noneB a=true):a=.none:=by revert h;induction a<;>first|exact nb|exactλZ=>rfl
theorem WZ{a:AV}{k:Nat}(h:WG a=some k):∃c,a=.sym c k:=by revert h;induction a<;>first|exact no|exactλh=>⟨_,Ja _ (oi h)⟩
theorem findA_eq(a:Nat):∀l:Frag,WD a l=l.lookup a:=by
 intro v0_;induction v0_ with
 |nil=>
  exact rfl
 |cons z9 r ih=>
  obtain ⟨b,o⟩:=z9;show (Bool.rec (WD a r) (some o) (Nat.beq a b):Option Obj)=_;rw[Jd];induction h:Nat.beq a b with
  |true=>rw[nq h,Jm]
  |false=>rw[beq_eq_false_iff_ne.mpr (ε h)];exact ih
theorem avOf_den{v:Value}{a:AV}(h:avOf v=some a)(nm:Nt)(L:List Addr):Den nm L a v:=by
 induction v<;>first|(cases h;exact rfl)|(cases h;exact⟨_,rfl⟩)|exact no h
theorem avsOf_den(nm:Nt)(L:List Addr):∀{us:List Value} {l:List AV},avsOf us=some l->Jq nm L l us:=by
 intro v0_;induction v0_ with
 |nil=>
  intro Z h;exact oi h▸Jq.nil
 |cons v r ih=>
  intro l h;exact Jo h λa ha h=>Jo h λl' hl h=>oi h▸Jq.cons (avOf_den ha nm L) (ih hl)
theorem Om.at_(om:Om){a:Nat}{o:Obj}(h:WD a (MineH.KR om.w.params)=some o):om.hb.get? a=some o:=om.X a o (findA_eq a _▸h)
theorem tupO_of{o:Obj}{l:List Value}(h:tupO o=some l){C:Prop}(k:∀xs n,o=⟨.type "tuple",none,.seq xs n,#[]⟩->xs.toList=l->C):C:=by
 obtain ⟨c,d,dt,sl⟩:=o;exact Jt h λh1 h=>Jo h λl' h2 h=>by
  simp only[Bool.and_eq_true,beq_iff_eq]at h1;induction dt with
  |seq xs n=>
   cases h2;cases h;exact k xs n (by rw[show c=_ from h1.1.1,Option.isNone_iff_eq_none.mp h1.1.2,Array.isEmpty_iff.mp h1.2]) rfl
  |_=>exact no h2
theorem Om.tup(om:Om){a:Nat}{l:List AV}(h:tupP om.w.params a=some l):∃xs n,om.hb.get? a=some ⟨.type "tuple",none,.seq xs n,#[]⟩/\∀nm L,Jq nm L l xs.toList:=
 Jt h λZ h=>Jo h λo ho h=>Jo h λus hu h=>tupO_of hu λxs n e e'=>⟨xs,n,e▸om.at_ ho,λnm L=>e'▸avsOf_den nm L h⟩
variable {n:Nat}{l:List AV}{us:List Value}{r:Cx->Cm->St->R}
theorem Sit.base(x:Sit B){b:Addr}{o:Obj}(h:B.G.om.hb.get? b=some o):x.s.heap.get? b=some o:=x.r.keep b o (B.G.base b o h)
theorem Sit.own(x:Sit B){ao:AO}{ad:Addr}(e:x.S.get i=some ao)(ha:x.L[i]?=some ad)(k:∀o,x.s.heap.get? ad=some o->x.P ad ao o->C):C:=x.r.get e ha k
theorem Kn.op_(x:Sit B){ao:AO}(e:B.G.cx.kn.sob i=some ao)(k:∀o,x.s.heap.get? (B.G.nm.op i)=some o->x.P (B.G.nm.op i) ao o->C):C:=(B.G.kn.sob i ao e).elim λo r=>k o (x.r.keep _ _ r.1) (r.2 x.L x.r.own)
theorem Sit.tup(h:ZP B.G.cx x.S a=some l)(d:x.D a u)(k:∀ad xs n,u=.ref ad->x.s.heap.get? ad=some ⟨.type "tuple",none,.seq xs n,#[]⟩->x.Ds l xs.toList->C):C:=by
 induction a with
 |st t=>exact(B.G.om.tup (B.G.hP▸h)).elim λxs r=>r.elim λn r=>k t xs n d (x.base r.1) (r.2 _ _)
 |loc i=>exact Jz h λo e h=>d.loc_ λad ha hu=>x.own (ao:=.tup l) (Wx h▸e) ha λo ho p=>p.tup_ λxs n e d'=>k ad xs n hu (e▸ho) d'
 |op j=>exact Jo h λo e h=>Kn.op_ x (ao:=.tup l) (Wx h▸e) λo ho p=>p.tup_ λxs n e d'=>k _ xs n d (e▸ho) d'
 |_=>exact no h
theorem Sit.list(h:Wo B.G.cx x.S a=some l)(d:x.D a u)(k:∀ad xs n,u=.ref ad->x.s.heap.get? ad=some (listOf xs n)->x.Ds l xs.toList->C):C:=by
 induction a with
 |loc i=>exact Jz h λo e h=>d.loc_ λad ha hu=>x.own (ao:=.list l) (Zf h▸e) ha λo ho p=>p.list_ λxs n e d'=>k ad xs n hu (e▸ho) d'
 |op j=>exact Jo h λo e h=>Kn.op_ x (ao:=.list l) (Zf h▸e) λo ho p=>p.list_ λxs n e d'=>k _ xs n d (e▸ho) d'
 |_=>exact no h
theorem Zg{α:Type}{l:List α}(h:JT l=true):l.length<=1000:=nl h
theorem Jq.ne{nm:Nt}{L:List Addr}:∀{l:List AV} {us:List Value},Jq nm L l us->neL l=!us.isEmpty:=by
 intro v0_;induction v0_ with
 |nil=>
  intro Z e;exact e▸rfl
 |cons _ _ ih=>
  intro Z y2_;obtain ⟨u,r,e,_⟩:=y2_;exact e▸rfl
theorem Jq.short{nm:Nt}{L:List Addr}{xs:Array Value}(d:Jq nm L l xs.toList)(h:JT l=true):xs.size<=1000:=π▸d.len▸Zg h
theorem lt63{n:Nat}(h:n<=100000):(n:Int)<2 ^ 63:=by lia
theorem lt63'{n:Nat}(h:n<=1000):(n:Int)<2 ^ 63:=lt63 (Jk h (by decide))
theorem Sit.seqT{b:Bool}{xs:Array Value}(e:some (neL l)=some b)(dd:x.Ds l xs.toList){Q:SP Bool}{t:Tok}(h:∀t,Q b {x.s with toks:=t}):Q (!xs.isEmpty) {x.s with toks:=t}:=by
 rw[<-Array.isEmpty_toList,<-Jq.ne dd,oi e];exact h t
theorem truS_ok{b:Bool}(e:truS B.G.cx x.S a=some b)(d:x.D a u){Q:SP Bool}(h:∀t,Q b {x.s with toks:=t}):wpAny (Md B) B.A (truthy u) Q E x.s:=by
 unfold truS at e;induction q:ZP B.G.cx x.S a with
 |some l=>
  rw[q]at e;exact Jt e λhs e=>Sit.tup q d λad xs n hu ho dd=>hu▸truthy_tuple (items:=xs) ⟨_,ho,rfl,n,rfl⟩ (lt63' (Jq.short dd hs)) (Sit.seqT e dd h)
 |none=>
  rw[q]at e;exact Jo e λl q e=>Jt e λhs e=>Sit.list q d λad xs n hu ho dd=>hu▸wpAny_truthy_list (items:=xs) ⟨_,ho,rfl,n,rfl⟩ (lt63' (Jq.short dd hs)) (Sit.seqT e dd h)
theorem tru_ok{b:Bool}(e:truF B.G.cx x.S a=some b)(d:x.D a u){Q:SP Bool}(h:∀t,Q b {x.s with toks:=t}):wpAny (Md B) B.A (truthy u) Q E x.s:=by
 induction a with
 |none=>cases e;cases d;exact truthy_none (h x.s.toks)
 |bool b=>cases e;cases d;exact wpAny_truthy_bool (h x.s.toks)
 |int i=>cases e;exact d.elim λt d=>d▸PySem.P.truthy_int (h x.s.toks)
 |str s=>exact Jt e λhs e=>d.elim λt d=>d▸PySem.P.truthy_str (Int.not_le.mpr (lt63 (nl hs))) (oi e▸h _)
 |loc i=>exact truS_ok e d h
 |op i=>exact truS_ok e d h
 |_=>exact no e
theorem okV_ok{y:Option AV}{Q:SP Value}(P:Jn x RV (okV x.S y) Q E)(h:∀a,y=some a->(∀u t,x.D a u->Q u {x.s with toks:=t})->C):C:=P.ob λa e P=>h a e λu t d=>P.val d t
theorem dbg_ne{x:Str}(h:sEq x "__debug__"=false):(x==("__debug__":Str))=false:=beq_eq_false_iff_ne.mpr (Yb h)
theorem ZA.kind{L:List Addr}{f:FrA}{env:Env}(h:ZA L f env){z:Str}{k:NameKind}(e:look z f.sc.names=some k):env.kindOf z=some k:=by
 unfold Env.kindOf;rw[h.sc,<-look_lookup];exact e
theorem Sit.top(x:Sit B):ZA x.L B.f B.env:=(x.ok _ (.head _)).1
theorem Sit.fun_(x:Sit B):B.env.scope.kind=.function:=x.top.sc▸x.top.k
theorem thereV_of{a v:AV}(h:thereV a=some v):a=v/\a≠.junk:=by revert h;induction a<;>first|exact no|exactλh=>⟨oi h,nofun⟩
theorem plainV_of{a v:AV}(h:Zo a=some v):a=v:=by revert h;induction a<;>first|exact no|exactλh=>oi h
theorem cell_ok{z:Str}{v:AV}(e:cellG x.S z B.f.cells=some v)(k:∀b u,B.env.cells.lookup z=some b->x.s.heap.IsCell b (some u)->x.D v u->C):C:=
 Jo e λc hc e=>Jo e λw hg hw=>Jz hg λo ho hv=>(x.top.cl z c hc).elim λb r=>x.own (ao:=.cell (some v)) (by rw[ho,vCell_of hv,show w=some v from hw]) r.1 λo' ho' p=>p.cell_ λu hu d=>k b u r.2 ⟨o',ho',hu⟩ d
theorem gl_ok{z:Str}{v:AV}(e:glP B.G.cx z=some v):∃u,x.D v u/\(B.G.om.mg z=some u\/(B.G.om.mg z=none/\B.G.om.mb z=some u)):=by
 unfold glP at e;induction q:look z B.G.cx.kn.gl with
 |none=>rw[q]at e;exact(B.G.om.gl z v e).elim λu r=>⟨u,r.1 _ _,r.2⟩
 |some v'=>rw[q]at e;exact(B.G.kn.gl z v' q).elim λu r=>⟨u,oi e▸r.1 _ x.r.own,r.2⟩
theorem name_ok{z:Str}{pos:Pos}{v:AV}(e:nameA B.G.cx B.f x.S z=some v){Q:SP Value}(h:∀u,x.D v u->Q u x.s):wpAny (Md B) B.A (eval (.Name z pos) B.env) Q E x.s:=
 Jt e λhd e=>Jo e λk hk e=>by
  have hd:=dbg_ne (JL hd);have kk:=x.top.kind hk;have ks:=x.fun_;induction k with
  |«local»=>exact Jo e λes hes e=>Jo e λv' hl e=>Jz hes λo ho hv=>x.own (ao:=.ns es) (vNs_of hv▸ho) x.top.loc λo' ho' p=>p.ns_ λm Z hm ok=>(ok z v' hl (thereV_of e).2).elim λu r=>wpAny_Name (wpAny_loadName_local ks kk (nsP_at ho' hm) r.1 (h u ((thereV_of e).1▸r.2))) hd
  |cell=>exact cell_ok e λb u hl hc d=>wpAny_Name (wpAny_loadName_cell ks kk hl hc (h u d)) hd
  |free=>exact Jt e λhcd e=>cell_ok e λb u hl hc d=>wpAny_Name (wpAny_loadName_free ks kk hl hc (h u d) (beq_eq_false_iff_ne.mpr (Yb (JL hcd)))) hd
  |globalExplicit=>exact no e
  |globalImplicit=>
   have g1:x.s.heap.Ns B.env.globals B.G.om.mg:=x.top.gl▸B.G.om.T.g.keeps λb o=>x.base;have b1:x.s.heap.Ns B.env.builtins B.G.om.mb:=x.top.bi▸B.G.om.T.b.keeps λb o=>x.base;exact(gl_ok e).elim λu r=>r.2.elim (λhg=>Name_function_global ks kk (loadGlobal_global g1 hg (h u r.1)) hd) λhg=>Name_function_global ks kk (loadGlobal_builtin g1 hg.1 b1 hg.2 (h u r.1)) hd
variable {j:Nat}{r:List AV}{q:Bool}{A:Around}
theorem eqSym_ok{p:Qb}(e:eqSym B.G.cx i j=some p):(B.G.nm.f i==B.G.nm.f j)=p.val B.G.u:=by
 unfold eqSym at e;induction h:Nat.beq i j with
 |true=>rw[h]at e;cases e;rw[nq h];exact Jm _
 |false=>rw[h]at e;exact B.G.kn.eqs i j p e
theorem known_of{p:Qb}(e:known p=some q)(t:Nat->Bool):p.val t=q:=by revert e;induction p<;>first|exact no|exactλe=>oi e
theorem bxor1_eq(a b:Bool):bxor1 a b=(a==b):=by induction a<;>induction b<;>rfl
theorem sEq_beq(a b:Str):(a==b)=sEq a b:=(sEq_dec a b).symm▸rfl
theorem ZM{b:Bool}(h:ZN a=some b):a=.bool b:=WS (c:=AV.bool) (by clear h;induction a<;>exact rfl) h
theorem bytV_of{b:List Nat}(h:bytV a=some b):a=.bytes b:=WS (c:=AV.bytes) (by clear h;induction a<;>exact rfl) h
theorem leaf_ok(e:leafT B.G.cx a b=some q)(da:x.D a u)(db:x.D b v):SeqAt.EqAt A x.s u v q:=by
 induction a with
 |none=>exact Jt e λh e=>by rw[WO h]at db;cases da;cases db;cases e;exact SeqAt.EqAt.same _
 |bool z=>exact Jo e λw h e=>by rw[ZM h]at db;cases da;cases db;cases e;exact bxor1_eq z w▸SeqAt.EqAt.bool_bool z w
 |int z=>exact Jo e λw h e=>by rw[JO h]at db;exact da.int_ λt1 e1=>db.int_ λt2 e2=>e1▸e2▸oi e▸SeqAt.EqAt.int_int _ _ _ _
 |str z=>exact Jo e λw h e=>by rw[Zb h]at db;exact da.str_ λt1 e1=>db.str_ λt2 e2=>e1▸e2▸oi e▸sEq_beq z w▸SeqAt.EqAt.str_str _ _ _ _
 |sym c i=>
  exact Jo e λj h e=>Jo e λp hp e=>(WZ h).elim λc' h'=>by
   rw[h']at db;exact da.sym_ λt1 e1 Z=>db.sym_ λt2 e2 Z=>e1▸e2▸known_of e B.G.u▸eqSym_ok hp▸SeqAt.EqAt.str_str _ _ _ _
 |bytes z=>
  exact Jo e λw h e=>by
   rw[bytV_of h]at db;exact da.bytes_ λb1 t1 e1 h1=>db.bytes_ λb2 t2 e2 h2=>e1▸e2▸λprog w' E Q hq=>W.eqBool_bytes (by
    rw[show decide (b1.toList=b2.toList)=q from ?_];· exact hq
    rw[<-oi e,<-h1,<-h2];induction k:eqL (b1.toList.map UInt8.toNat) (b2.toList.map UInt8.toNat)with
    |true=>exact decide_eq_true ((List.map_inj_right λa b e=>UInt8.toNat_inj.mp e).mp (Ws k))
    |false=>exact ϡ λe=>by rw[e,eqL_self]at k;exact nomatch k)
 |_=>exact no e
theorem allI_of{f:AV->AV->Option Bool}:∀{l m:List AV} {q:Bool},allI f l m=some q->(q=(l.length==m.length))/\∀(j:Nat) a b,l[j]?=some a->m[j]?=some b->f a b=some true:=by
 intro l;induction l with
 |nil=>
  intro m q e;induction m using c_ with
  |nil=>exact⟨(oi e).symm,λj a b h=>nomatch h⟩
  |cons _ _=>exact⟨(oi e).symm,λj a b h=>nomatch h⟩
 |cons z l ih=>
  intro m q e;induction m using c_ with
  |nil=>exact⟨(oi e).symm,λj a b Z h=>nomatch h⟩
  |cons w m=>
   exact Jo e λc hc e=>by
    induction c with
    |false=>exact no e
    |true=>
     have:=ih e;refine⟨this.1.trans ?_,λj a b ha hb=>?_⟩
     ·show (l.length==m.length)=(l.length+1==m.length+1)
      exact(Bool.eq_iff_iff.mpr (by rw[beq_iff_eq,beq_iff_eq,Nat.add_right_cancel_iff]))
     ·induction j using Nat.casesAuxOn with
      |zero=>rw[<-oi ha,<-oi hb];exact hc
      |succ j=>exact this.2 j a b ha hb
structure Items(A:Around)(s:Shared)(xs ys:Array Value)(q:Bool):Prop where
 each:∀j (h1:j<xs.size) (h2:j<ys.size),SeqAt.EqAt A.in1 s xs[j] ys[j] ((λ_:Nat=>true) j)
 all:((List.range (min xs.size ys.size)).all (λ_:Nat=>true)&&xs.size==ys.size)=q
theorem items_of{f:AV->AV->Option Bool}{m:List AV}(e:allI f l m=some q){xs ys:Array Value}(d1:x.Ds l xs.toList)(d2:x.Ds m ys.toList)
  (hf:∀a b u v,f a b=some true->x.D a u->x.D b v->SeqAt.EqAt A.in1 x.s u v true):Items A x.s xs ys q:=by
 have h:=allI_of e
 refine⟨λj j1 j2=>?_,?_⟩
 ·have k1:l[j]?=some _:=Φ (Jq.len d1▸π▸j1)
  have k2:m[j]?=some _:=Φ (Jq.len d2▸π▸j2);exact Jq.at_ d1 k1 λu e1 du=>Jq.at_ d2 k2 λv e2 dv=>by
   rw[Λ j1]at e1;rw[Λ j2]at e2;cases e1;cases e2;exact hf _ _ _ _ (h.2 j _ _ k1 k2) du dv
 ·rw[h.1,Jq.len d1,Jq.len d2,π,π,List.all_eq_true.mpr λZ Z=>rfl,Bool.true_and]
theorem sameRef_ok{m:List AV}{z w:Addr}(ha:ZP B.G.cx x.S a=some l)(hb:ZP B.G.cx x.S b=some m)(e:sameRef a b=some q)(da:x.D a (.ref z))(db:x.D b (.ref w)):q=decide (z=w):=by
 have st:∀{t i:Nat} {a1:Addr} {l:List AV},ZP B.G.cx x.S (.st t)=some l->x.L[i]?=some a1->a1≠t:=fun {t i a1 l} h h1 e=>(B.G.om.tup (show tupP _ t=some l from B.G.hP▸h)).elim λxs r=>r.elim λn r=>by
  have:=x.r.new _ (Θ h1);rw[e,B.G.base _ _ r.1]at this;exact nomatch this
 have opn:∀{t i:Nat} {a1:Addr} {l:List AV},ZP B.G.cx x.S (.op t)=some l->x.L[i]?=some a1->a1≠B.G.nm.op t:=fun {t i a1 l} h h1 e=>Jo h λo ho Z=>(B.G.kn.sob t o ho).elim λo1 r=>no ((x.r.new _ (Θ h1)).symm.trans (e▸r.1));induction a with
 |op t=>induction b with
  |loc j=>exact db.loc_ λa1 h1 e1=>by cases e1;cases da;cases e;exact(ϡ λe=>opn ha h1 e.symm).symm
  |_=>exact no e
 |loc i=>induction b with
  |op t=>exact da.loc_ λa1 h1 e1=>by cases e1;cases db;cases e;exact(ϡ (opn hb h1)).symm
  |loc j=>
   exact da.loc_ λa1 h1 e1=>db.loc_ λa2 h2 e2=>by
    cases e1;cases e2;cases e;induction k:Nat.beq i j with
    |true=>rw[nq k]at h1;exact(decide_eq_true (oi (h1.symm.trans h2))).symm
    |false=>exact(ϡ λ(e:z=w)=>ε k (Ju x.r.nd h1 (e▸h2))).symm
  |st t=>exact da.loc_ λa1 h1 e1=>by cases e1;cases db;cases e;exact(ϡ (st hb h1)).symm
  |_=>exact no e
 |st t=>induction b with
  |loc j=>exact db.loc_ λa1 h1 e1=>by cases e1;cases da;cases e;exact(ϡ λe=>st ha h1 e.symm).symm
  |st t2=>cases da;cases db;cases e;induction k:Nat.beq z w with
   |true=>exact(decide_eq_true (nq k)).symm
   |false=>exact(ϡ (ε k)).symm
  |_=>exact no e
 |_=>exact no e
theorem eqI_ok:∀(n:Nat) (A:Around) (a b:AV) (u v:Value) (q:Bool),eqI B.G.cx x.S n a b=some q->x.D a u->x.D b v->A.units+n<cLine->SeqAt.EqAt A x.s u v q:=by
 intro v0_;induction v0_ with
 |zero=>
  intro Z Z Z Z Z Z e Z Z Z;exact no e
 |succ n ih=>
  intro A a b u v q e da db hu;have e:(Option.rec (ifO (Option.rec true (λZ=>false) (ZP B.G.cx x.S b)) (leafT B.G.cx a b)) (λl=>obO (ZP B.G.cx x.S b) λr=>obO (sameRef a b) λq=>Bool.rec (allI (eqI B.G.cx x.S n) l r) (some true) q) (ZP B.G.cx x.S a):Option Bool)=some q:=e;induction hl:ZP B.G.cx x.S a with
  |none=>rw[hl]at e;exact Jt e λZ e=>leaf_ok e da db
  |some l=>
   rw[hl]at e;exact Jo e λm hm e=>Jo e λs hs e=>Sit.tup hl da λz xs k1 e1 o1 d1=>Sit.tup hm db λw ys k2 e2 o2 d2=>by
    subst e1;subst e2;have hs':=sameRef_ok hl hm hs da db;induction s with
    |true=>cases e;rw[κ hs'.symm];exact SeqAt.EqAt.same _
    |false=>
     have I:=items_of (A:=A) e d1 d2 λa b u v h da db=>ih A.in1 a b u v true h da db (by show A.units+1+n<cLine;lia);exact .of_refs (of_decide_eq_false hs'.symm) (I.all▸SeqAt.RcAt.tuples ⟨_,o1,rfl,k1,rfl⟩ ⟨_,o2,rfl,k2,rfl⟩ (by lia) I.each)
structure Two(x:Sit B)(u v:Value)(q:Bool):Prop where
 eq:SeqAt.RcAt B.A x.s u v q
 ne:SeqAt.RcNeAt B.A x.s u v (!q)
theorem eqList_ok(e:eqList B.G.cx x.S a b=some q)(da:x.D a u)(db:x.D b v)(hu:B.A.units+64<cLine):Two x u v q:=
 Jo e λl hl e=>Jo e λm hm e=>Jo e λi hi e=>by
  rw[hi]at hm;rw[JQ hi]at db;exact Sit.list hl da λz xs k1 e1 o1 d1=>Sit.list (a:=.loc i) hm db λw ys k2 e2 o2 d2=>by
   subst e1;subst e2;have same:xs.size=ys.size->(∀j (h1:j<xs.size) (h2:j<ys.size),SeqAt.EqAt B.A.in1 x.s xs[j] ys[j] ((λ_:Nat=>true) j))->Two x (.ref z) (.ref w) true:=λh0 f=>by
    have hz:(List.range xs.size).all (λ_:Nat=>true)=true:=List.all_eq_true.mpr λZ Z=>rfl;exact⟨hz▸SeqAt.RcAt.lists (s:=x.s) ⟨_,o1,rfl,k1,rfl⟩ ⟨_,o2,rfl,k2,rfl⟩ h0 (by lia) f,(Ja (!·) hz)▸SeqAt.RcNeAt.lists (s:=x.s) ⟨_,o1,rfl,k1,rfl⟩ ⟨_,o2,rfl,k2,rfl⟩ h0 (by lia) f⟩
   have l2:ys.size=m.length:=π▸(Jq.len d2).symm;have l1:xs.size=l.length:=π▸(Jq.len d1).symm;induction m using c_ with
   |cons m0 ms=>
    refine Jo (y:=allI (leafT B.G.cx) l (m0::ms)) (k:=λq=>ifO q (some true)) e λc hc e=>Jt e λhb e=>?_;cases e;subst hb;have q:=allI_of hc;have h0:l.length=(m0::ms).length:=beq_iff_eq.mp q.1.symm;refine same (l1.trans (h0.trans l2.symm)) λj h1 h2=>?_;have e1:l[j]?=some (l[j]'(l1▸h1)):=Φ _;have e2:(m0::ms)[j]?=some ((m0::ms)[j]'(l2▸h2)):=Φ _;exact Jq.at_ d1 e1 λu1 g1 v1=>Jq.at_ d2 e2 λu2 g2 v2=>by
     cases (Λ h1).symm.trans g1;cases (Λ h2).symm.trans g2;exact leaf_ok (q.2 j _ _ e1 e2) v1 v2
   |nil=>
    induction l using c_ with
    |nil=>
     cases e;exact same (l1.trans l2.symm) λj Z h2=>absurd h2 (by rw[l2];exact Nat.not_lt_zero j)
    |cons _ _=>
     cases e;have hz:(xs.size !=ys.size)=true:=by rw[l1,l2];rfl
     exact⟨SeqAt.RcAt.lists_lengths ⟨_,o1,rfl,k1,rfl⟩ ⟨_,o2,rfl,k2,rfl⟩ hz (by lia),SeqAt.RcNeAt.lists_lengths ⟨_,o1,rfl,k1,rfl⟩ ⟨_,o2,rfl,k2,rfl⟩ hz (by lia)⟩
theorem eqLoc_ok(e:eqLoc B.G.cx x.S a b=some q)(da:x.D a u)(db:x.D b v)(hu:B.A.units+64<cLine):Two x u v q:=by
 unfold eqLoc at e;induction hl:ZP B.G.cx x.S a with
 |none=>rw[hl]at e;exact eqList_ok e da db hu
 |some l=>
  rw[hl]at e;exact Jo e λm hm e=>Jo e λs hs e=>Sit.tup hl da λz xs k1 e1 o1 d1=>Sit.tup hm db λw ys k2 e2 o2 d2=>by
   subst e1;subst e2;induction s with
   |true=>exact no e
   |false=>
    have I:=items_of (A:=B.A) e d1 d2 λa b u v h da db=>eqI_ok 9 B.A.in1 a b u v true h da db (by show B.A.units+1+9<cLine;lia);have h1:=SeqAt.RcAt.tuples (s:=x.s) ⟨_,o1,rfl,k1,rfl⟩ ⟨_,o2,rfl,k2,rfl⟩ (by lia) I.each;have h2:=SeqAt.RcNeAt.tuples (s:=x.s) ⟨_,o1,rfl,k1,rfl⟩ ⟨_,o2,rfl,k2,rfl⟩ (by lia) I.each;rw[I.all]at h1 h2;exact⟨h1,h2⟩
theorem qb_of{o:Option Bool}{p:Qb}(e:qb o=some p){C:Prop}(k:∀r,o=some r->p=.b r->C):C:=Jo e λr h e=>k r h (oi e).symm
theorem eqA_ok{p:Qb}(e:eqA B.G.cx x.S a b=some p)(da:x.D a u)(db:x.D b v)(hu:B.A.units+64<cLine):Two x u v (p.val B.G.u):=by
 induction a with
 |none=>exact Jt e λh e=>by rw[WO h]at db;cases da;cases db;cases e;exact⟨SeqAt.RcAt.none_none,SeqAt.RcNeAt.none_none⟩
 |bool z=>exact Jo e λw h e=>by rw[ZM h]at db;cases da;cases db;cases e;exact(bxor1_eq z w).symm▸⟨SeqAt.RcAt.bool_bool z w,SeqAt.RcNeAt.bool_bool z w⟩
 |int z=>exact Jo e λw h e=>by rw[JO h]at db;exact da.int_ λt1 e1=>db.int_ λt2 e2=>e1▸e2▸oi e▸⟨SeqAt.RcAt.int_int _ _ _ _,SeqAt.RcNeAt.int_int _ _ _ _⟩
 |str z=>exact Jo e λw h e=>by rw[Zb h]at db;exact da.str_ λt1 e1=>db.str_ λt2 e2=>e1▸e2▸oi e▸(show Two x _ _ (sEq z w)from sEq_beq z w▸⟨SeqAt.RcAt.str_str _ _ _ _,SeqAt.RcNeAt.str_str _ _ _ _⟩)
 |sym c i=>
  exact Jo e λj h e=>(WZ h).elim λc' h'=>by
   rw[h']at db;exact da.sym_ λt1 e1 Z=>db.sym_ λt2 e2 Z=>e1▸e2▸eqSym_ok e▸⟨SeqAt.RcAt.str_str _ _ _ _,SeqAt.RcNeAt.str_str _ _ _ _⟩
 |st t=>exact qb_of e λr h e=>e▸eqLoc_ok h da db hu
 |loc t=>exact qb_of e λr h e=>e▸eqLoc_ok h da db hu
 |op t=>exact qb_of e λr h e=>e▸eqLoc_ok h da db hu
 |_=>exact no e
variable {nm:Nt}{L:List Addr}{P:Params}{es:List (Str×AV)}{ds:List DictEntry}{z:Str}{s:Shared}
def Cp(x:Sit B)(op:CmpOp)(u v:Value)(q:Bool):Prop:=∀(Q:SP Value) (E:SP Value),(∀t,Q (.bool q) {x.s with toks:=t})->wpAny (Md B) B.A (compareOp op u v) Q E x.s
structure Inn(x:Sit B)(u v:Value)(q:Bool):Prop where
 i:Cp x .In u v q
 n:Cp x .NotIn u v (!q)
theorem Ens.all:∀{es:List (Str×AV)} {ds:List DictEntry},Ens P nm L es ds->∀e∈ds,∃p,Ent P nm L p e:=by
 intro v0_;induction v0_ with
 |nil=>
  intro Z e d h;exact(Ξ (e▸h)).elim
 |cons p es ih=>
  intro Z y2_ d h;obtain ⟨e0,r,e,h0,hr⟩:=y2_;exact(mc_ (e▸h)).elim (λ(q:d=e0)=>⟨p,q.symm▸h0⟩) (ih hr d)
theorem isStrOf_str(x y:Str)(t:Tok):Value.isStrOf x (.str y t)=sEq x y:=by
 rw[<-isStr_of];show (y==x)=sEq x y;rw[sEq_beq];induction h:sEq x y with
 |true=>rw[Jw h];exact Wk y
 |false=>exact sEq_of λq=>Yb h q.symm
theorem Ens.find:∀{es:List (Str×AV)} {ds:List DictEntry},Ens P nm L es ds->(∀v,look z es=some v->∃e,ds.find? (λd=>Value.isStrOf z d.key)=some e/\Den nm L v e.val)/\(look z es=none->ds.find? (λd=>Value.isStrOf z d.key)=none):=by
 intro v0_;induction v0_ with
 |nil=>
  intro Z e;exact e▸⟨λZ h=>no h,λZ=>rfl⟩
 |cons p es ih=>
  intro Z y2_;obtain ⟨e0,r,e,h0,hr⟩:=y2_;exact h0.key.elim λt hk=>by
   subst e;rw[List.find?_cons,hk,isStrOf_str];show (∀v,(Bool.rec (look z es) (some p.2) (sEq z p.1):Option AV)=some v->_)/\((Bool.rec (look z es) (some p.2) (sEq z p.1):Option AV)=none->_);induction h:sEq z p.1 with
   |true=>exact⟨λv q=>oi q▸⟨e0,rfl,h0.val⟩,λq=>nomatch q⟩
   |false=>exact ih hr
theorem mapOf(om:Om){a:Addr}{n:Nat}(ho:s.heap.get? a=some (dictOf ds n))(en:Ens om.w.params nm L es ds):s.heap.MapOf (PySem.strKind om.prog om.w) a (λk=>findBy Value.isStrOf ds.toArray k):=
 ⟨_,ds.toArray,n,ho,⟨rfl,rfl,rfl⟩,rfl,λe he=>(en.all e (Array.mem_toList_iff.mpr he)).elim λp h=>h.key.elim λt hk=>⟨p.1,by rw[hk];exact strKind_is om.prog om.w p.1 t,h.hash⟩,λZ=>rfl⟩
theorem findBy_some(en:Ens P nm L es ds){v:AV}(h:look z es=some v):∃u,findBy Value.isStrOf ds.toArray z=some u/\Den nm L v u:=(en.find.1 v h).elim λe r=>⟨e.val,by unfold findBy;rw[List.find?_toArray,r.1];rfl,r.2⟩
theorem findBy_none(en:Ens P nm L es ds)(h:look z es=none):findBy Value.isStrOf ds.toArray z=none:=by unfold findBy;rw[List.find?_toArray,en.find.2 h];rfl
theorem findBy_is(en:Ens P nm L es ds):(findBy Value.isStrOf ds.toArray z).isSome=JH (look z es):=by
 induction h:look z es with
 |none=>rw[findBy_none en h];rfl
 |some v=>exact(findBy_some en h).elim λu r=>r.1▸rfl
theorem in_dict{ad:Addr}{o:Obj}{nm0:Nt}{L0:List Addr}{t:Tok}(hm:(ad==sysModules)=false)(ho:x.s.heap.get? ad=some o)(sd:SD B.G.om.w.params es nm0 L0 o):Inn x (.str z t) (.ref ad) (JH (look z es)):=
 sd.elim λds sd=>sd.elim λn r=>by
  have ho':=r.1▸ho;exact⟨λQ E h=>wpAny_in_of (strKind_is B.G.om.prog B.G.om.w z t) hm (mapOf B.G.om ho' r.2) (by rw[findBy_is r.2];exact h _),λQ E h=>wpAny_notIn_of (strKind_is B.G.om.prog B.G.om.w z t) hm (mapOf B.G.om ho' r.2) (by rw[findBy_is r.2];exact h _)⟩
theorem Sit.dict(h:dictV B.G.cx x.S a=some es)(d:x.D a u)(k:∀ad o,u=.ref ad->(ad==sysModules)=false->x.s.heap.get? ad=some o->SD B.G.om.w.params es B.G.nm x.L o->C):C:=by
 induction a with
 |st t=>exact(B.G.om.dics t es (B.G.hP▸h)).2.elim λo r=>k t o d (B.G.om.dics t es (B.G.hP▸h)).1 (x.base r.1) (r.2 _ _)
 |loc i=>exact Jz h λo e h=>d.loc_ λad ha hu=>x.own (ao:=.dict es) (ZB h▸e) ha λo ho p=>p.dict_ λds hm e en=>k ad o hu hm ho ⟨ds,_,e,en⟩
 |_=>exact no h
theorem strsA_of:∀{l:List AV} {us:List Value} {ys:List Str},strsA l=some ys->Jq nm L l us->StrsAre us ys:=by
 intro v0_;induction v0_ with
 |nil=>
  intro Z Z e d;exact d▸oi e▸.nil
 |cons a l ih=>
  intro Z Z e y4_;obtain ⟨u,r,hu,d,ds⟩:=y4_;exact Jo e λz hz e=>Jo e λys hy e=>by
   rw[Zb hz]at d;exact d.str_ λt ht=>hu▸ht▸oi e▸.cons _ _ (ih hy ds)
theorem anyS_eq(x:Str):∀l:List Str,l.any (·==x)=JU x l:=by
 intro v0_;induction v0_ with
 |nil=>
  exact rfl
 |cons y r ih=>
  rw[List.any_cons,sEq_beq,ih ];show _=(Bool.rec (JU x r) true (sEq y x):Bool);cases sEq y x<;>rfl
theorem in_tup{ad:Addr}{xs:Array Value}{ys:List Str}{t:Tok}{k:Nat}(ho:x.s.heap.get? ad=some ⟨.type "tuple",none,.seq xs k,#[]⟩)(hs:StrsAre xs.toList ys):Inn x (.str z t) (.ref ad) (JU z ys):=
 ⟨λQ E h=>in_tuple_strs ⟨_,ho,rfl,k,rfl⟩ hs (by rw[anyS_eq];exact h x.s.toks),λQ E h=>notin_tuple_strs ⟨_,ho,rfl,k,rfl⟩ hs (by rw[anyS_eq];exact h x.s.toks)⟩
theorem in_list{ad:Addr}{xs:Array Value}{ys:List Str}{t:Tok}{k:Nat}(ho:x.s.heap.get? ad=some (listOf xs k))(hs:StrsAre xs.toList ys):Inn x (.str z t) (.ref ad) (JU z ys):=by
 have ht:x.s.heap.IsList ad xs.toList.toArray:=by rw[Array.toArray_toList];exact⟨_,ho,rfl,k,rfl⟩
 exact⟨λQ E h=>in_list_strs ht hs (by rw[anyS_eq];exact h x.s.toks),λQ E h=>notin_list_strs ht hs (by rw[anyS_eq];exact h x.s.toks)⟩
theorem inStr_ok{t:Tok}(e:inStr B.G.cx x.S z b=some q)(d:x.D b v):Inn x (.str z t) v q:=by
 unfold inStr at e;induction h1:ZP B.G.cx x.S b with
 |some l=>rw[h1]at e;exact Jo e λys hy e=>Sit.tup h1 d λad xs k e1 ho dd=>e1▸oi e▸in_tup ho (strsA_of hy dd)
 |none=>
  rw[h1]at e;induction h2:Wo B.G.cx x.S b with
  |some l=>rw[h2]at e;exact Jo e λys hy e=>Sit.list h2 d λad xs k e1 ho dd=>e1▸oi e▸in_list ho (strsA_of hy dd)
  |none=>rw[h2]at e;exact Jo e λes h3 e=>Sit.dict h3 d λad o e1 hm ho sd=>e1▸oi e▸in_dict hm ho sd
theorem inA_ok{t:Tok}(e:inA B.G.cx x.S z b=some q)(d:x.D b v):Inn x (.str z t) v q:=by
 induction b with
 |str y=>exact d.str_ λt2 e2=>e2▸oi e▸⟨λQ E h=>PyProof.Rows.in_str (h x.s.toks),λQ E h=>PyProof.Rows.notIn_str (h x.s.toks)⟩
 |st t=>exact inStr_ok (b:=.st t) e d
 |loc t=>exact inStr_ok (b:=.loc t) e d
 |op k=>
  cases d;exact(B.G.kn.smem k z q e).2.elim λo r=>r.elim λes r=>r.elim λnm0 r=>r.elim λL0 r=>r.2.2▸in_dict (B.G.kn.smem k z q e).1 (x.r.keep _ _ r.1) r.2.1
 |_=>exact no e
theorem syms_of{f:Nat->Str}:∀{l:List AV} {us:List Value} {ks:List Nat},symsV l=some ks->Jq nm L l us->StrsAre us (ks.map nm.f):=by
 intro v0_;induction v0_ with
 |nil=>
  intro Z Z e d;exact d▸oi e▸.nil
 |cons a l ih=>
  intro Z Z e y4_;obtain ⟨u,r,hu,d,ds⟩:=y4_;exact Jo e λz hz e=>Jo e λys hy e=>(WZ hz).elim λc hc=>by
   rw[hc]at d;exact d.sym_ λt ht Z=>hu▸ht▸oi e▸.cons _ _ (ih hy ds)
structure Idx(k0:Str)(ys:List Str)(k:Nat)(r:Option Nat):Prop where
 any:JU k0 ys=JH r
 at_:∀j,r=some j->∃m,j=k+m/\ys[m]?=some k0/\∀p,p<m->∀z,ys[p]?=some z->z≠k0
theorem idxN_ok:∀{ks:List Nat} {k:Nat} {r:Option Nat},idxN B.G.cx i ks k=some r->Idx (B.G.nm.f i) (ks.map B.G.nm.f) k r:=by
 intro v0_;induction v0_ with
 |nil=>
  intro Z Z e;exact oi e▸⟨rfl,λj h=>nomatch h⟩
 |cons j ks ih=>
  intro k r e;exact Jo e λp hp e=>Jo e λc hc e=>by
   have hq:=(sEq_beq _ _).symm.trans ((eqSym_ok hp).trans (known_of hc _));have ha:JU (B.G.nm.f i) ((j::ks).map B.G.nm.f)=(Bool.rec (JU (B.G.nm.f i) (ks.map B.G.nm.f)) true (sEq (B.G.nm.f j) (B.G.nm.f i)):Bool):=rfl;induction c with
   |true=>exact oi e▸⟨by rw[ha,hq];rfl,λj h=>⟨0,(oi h).symm,Ja some (Jw hq),λp hp=>absurd hp (Nat.not_lt_zero p)⟩⟩
   |false=>
    have I:=ih e;refine⟨by rw[ha,hq];exact I.any,λj h=>(I.at_ j h).elim λm r=>⟨m+1,r.1.trans (by lia),r.2.1,λp hp z hz=>?_⟩⟩;induction p using Nat.casesAuxOn with
    |zero=>exact oi hz▸Yb hq
    |succ p=>exact r.2.2 p (Nat.lt_of_succ_lt_succ hp) z hz
theorem inSyms_ok{t:Tok}(e:inSyms B.G.cx x.S i b=some q)(d:x.D b v):Inn x (.str (B.G.nm.f i) t) v q:=
 Jo e λl hl e=>Jo e λr hr e=>Jo hr λks hk hr=>Sit.list hl d λad xs k e1 ho dd=>e1▸oi e▸(idxN_ok hr).any▸in_list ho (syms_of (f:=B.G.nm.f) hk dd)
theorem agree_of{l:List Str}{p:Str->Option Bool}(h:agree l p=some q)(hz:z∈l):p z=some q:=by
 have go:∀{r:List Str},sameB q p r=true->z∈r->p z=some q:=fun {r}=>by
  induction r with
  |nil=>exactλZ h=>(Ξ h).elim
  |cons y r ih=>
   intro h hm;change (Option.rec false (λc=>Bool.rec false (sameB q p r) (bxor1 q c)) (p y):Bool)=true at h;induction hp:p y with
   |none=>rw[hp]at h;exact nb h
   |some c=>
    rw[hp]at h;have hc:c=q:=by induction q<;>induction c<;>first|rfl|exact nb h
    subst hc;exact(mc_ hm).elim (λe=>e▸hp) (ih (by induction c<;>exact h))
 induction l using c_ with
 |nil=>exact no h
 |cons y r=>
  exact Jo h λb hb h=>Jt h λhs e=>by
   have e:=oi e;subst e;exact(mc_ hz).elim (λe=>e▸hb) (go hs)
def tr(n b:Bool):Bool:=Bool.rec b (Bool.rec true false b) n
theorem tr_not(b:Bool):tr true b=!b:=by induction b<;>rfl
theorem Cp.of_eq{p:Bool×Qb}{u v:Value}(h:Two x u v (p.2.val B.G.u)){op:CmpOp}(k:(op=.Eq/\p.1=false)\/(op=.NotEq/\p.1=true)):Cp x op u v (tr p.1 (p.2.val B.G.u)):=by
 obtain ⟨n,qq⟩:=p;rcases k with ⟨rfl,k⟩|⟨rfl,k⟩
 ·cases k;exactλQ E g=>EqBoolInt.of_rc h.eq (g x.s.toks)
 ·cases k;exactλQ E g=>EqBoolInt.of_rcne h.ne (tr_not _▸g x.s.toks)
theorem not_rec(b:Bool):(Bool.rec true false b:Bool)=!b:=by induction b<;>rfl
theorem le_str{y:Str}{t t2:Tok}:Cp x .LtE (.str z t) (.str y t2) (!(decide (y.cps.toList<z.cps.toList))):=λQ E h=>PySem.P.le_str (h x.s.toks)
theorem leS_ok{p:Qb}(e:leS a b=some p)(da:x.D a u)(db:x.D b v):Cp x .LtE u v (p.val B.G.u):=
 Jo e λz hz e=>Jo e λw hw e=>by
  rw[Zb hz]at da;rw[Zb hw]at db;exact da.str_ λt e1=>db.str_ λt2 e2=>e1▸e2▸oi e▸le_str
theorem leI_ok{p:Qb}{k:Int->Int->Bool}{op:CmpOp}(e:leI a b k=some p)(da:x.D a u)(db:x.D b v)(h:∀i t j t2,Cp x op (.int i t) (.int j t2) (k i j)):Cp x op u v (p.val B.G.u):=
 Jo e λz hz e=>Jo e λw hw e=>by
  rw[JO hz]at da;rw[JO hw]at db;exact da.int_ λt e1=>db.int_ λt2 e2=>e1▸e2▸oi e▸h _ _ _ _
theorem inV_ok(e:(obO (Zz a) λz=>inA B.G.cx x.S z b)=some q)(da:x.D a u)(db:x.D b v):Inn x u v q:=
 Jo e λz hz e=>by rw[Zb hz]at da;exact da.str_ λt e1=>e1▸inA_ok e db
theorem cmp0_ok{op:CmpOp}(e:cmp0 B.G.cx x.S op a b=some q)(da:x.D a u)(db:x.D b v)(hu:B.A.units+64<cLine):Cp x op u v q:=by
 induction op with
 |Eq=>exact Jo e λp hp e=>known_of e B.G.u▸Cp.of_eq (p:=(false,p)) (eqA_ok hp da db hu) (.inl ⟨rfl,rfl⟩)
 |NotEq=>exact Jo e λp hp e=>Jo e λb hb e=>oi e▸known_of hb B.G.u▸Cp.of_eq (p:=(true,p)) (eqA_ok hp da db hu) (.inr ⟨rfl,rfl⟩)
 |LtE=>exact Jo e λp hp e=>known_of e B.G.u▸leS_ok hp da db
 |In=>exact(inV_ok e da db).i
 |NotIn=>exact Jo e λz hz e=>Jo e λr hr e=>oi e▸not_rec r▸(inV_ok (a:=a) (by rw[hz];exact hr) da db).n
 |_=>exact no e
theorem den_none(d:x.D a u):(u==.none)=noneB a:=by
 induction a with
 |none=>cases d;rfl
 |int i=>exact d.int_ λt e=>e▸rfl
 |str i=>exact d.str_ λt e=>e▸rfl
 |bytes l=>exact d.bytes_ λb t e Z=>e▸rfl
 |loc i=>exact d.loc_ λb Z e=>e▸rfl
 |sym c k=>exact d.sym_ λb e Z=>e▸rfl
 |hd c k=>exact d.hd_ λb e Z=>e▸rfl
 |ix m k=>exact d.elim λt d=>d.elim λi r=>r.1▸rfl
 |junk=>exact d.elim
 |_=>cases d;rfl
theorem Yc{k:Nat}(h:opV a=some k):a=.op k:=WS (c:=AV.op) (by clear h;induction a<;>exact rfl) h
theorem isA_ok(e:isA B.G.cx x.S a b=some q)(da:x.D a u)(db:x.D b v):Cp x .Is u v q:=by
 induction b with
 |none=>cases db;exactλQ E h=>is_none_gen (by rw[den_none da,oi e];exact h x.s.toks)
 |loc j=>
  exact Jo e λi hi e=>Jo e λp1 g1 e=>Jo e λp2 g2 e=>by
   rw[JQ hi]at da;exact Jz g1 λo1 s1 v1=>Jz g2 λo2 s2 v2=>da.loc_ λad ha e1=>db.loc_ λbd hb e2=>x.own (ao:=.inst p1.1 p1.2) (vInst_of v1▸s1) ha λw1 hw1 k1=>x.own (ao:=.inst p2.1 p2.2) (vInst_of v2▸s2) hb λw2 hw2 k2=>k1.inst_ λd1 Z z1=>k2.inst_ λd2 Z z2=>λQ E h=>by
    rw[e1];rw[e2];induction k:Nat.beq i j with
    |true=>rw[k]at e;cases e;have:=nq k;subst this;rw[ha]at hb;rw[<-oi hb];exact wpAny_is_ref_self (h x.s.toks)
    |false=>rw[k]at e;cases e;exact wpAny_is_ref_other (ox:=instObj p1.1 d1) (λ(e:ad=bd)=>ε k (Ju x.r.nd ha (e▸hb))) (z1▸hw1) (z2▸hw2) (λe=>nomatch e) (h x.s.toks)
 |op j=>
  refine Jo e λi hi e=>?_;rw[Yc hi]at da;cases da;cases db;obtain ⟨hq,c,d,c',d',h1,h2⟩:=B.G.kn.same i j q e;have h1:=x.r.keep _ _ h1;have h2:=x.r.keep _ _ h2;intro Q E h;by_cases z:B.G.nm.op i=B.G.nm.op j
  ·rw[decide_eq_true z]at hq;subst hq;rw[z];exact wpAny_is_ref_self (h x.s.toks)
  ·rw[ϡ z]at hq;subst hq;exact wpAny_is_ref_other z h1 h2 (λe=>nomatch e) (h x.s.toks)
 |_=>exact no e
theorem cmpK_ok{op:CmpOp}{p:Bool×Qb}(e:cmpK B.G.cx x.S op a b=some p)(da:x.D a u)(db:x.D b v)(hu:B.A.units+64<cLine):Cp x op u v (tr p.1 (p.2.val B.G.u)):=by
 induction op with
 |Eq=>exact Jo e λp hp e=>oi e▸Cp.of_eq (p:=(false,p)) (eqA_ok hp da db hu) (.inl ⟨rfl,rfl⟩)
 |NotEq=>exact Jo e λp hp e=>oi e▸Cp.of_eq (p:=(true,p)) (eqA_ok hp da db hu) (.inr ⟨rfl,rfl⟩)
 |Lt=>exact Jo e λp hp e=>oi e▸leI_ok hp da db λi t j t2 Q E h=>PySem.P.lt_int (h x.s.toks)
 |Gt=>exact Jo e λp hp e=>oi e▸leI_ok hp da db λi t j t2 Q E h=>PySem.P.gt_int (h x.s.toks)
 |GtE=>exact Jo e λp hp e=>oi e▸leI_ok hp da db λi t j t2 Q E h=>PySem.P.ge_int (h x.s.toks)
 |LtE=>
  change (Option.rec (obO (leI a b λx y=>decide (x<=y)) λq=>some (false,q)) (λq=>some (false,q)) (leS a b):Option (Bool×Qb))=some p at e;induction h:leS a b with
  |none=>rw[h]at e;exact Jo e λp hp e=>oi e▸leI_ok hp da db λi t j t2 Q E h=>PySem.P.le_int (h x.s.toks)
  |some r=>rw[h]at e;exact oi e▸leS_ok h da db
 |Is=>exact Jo e λr hr e=>oi e▸isA_ok hr da db
 |IsNot=>
  exact Jt e λhb e=>by
   rw[WO hb]at db;cases db;cases e;exactλQ E h=>isnot_none_gen (show Q (.bool (!(u==.none))) x.s by rw[den_none da,<-tr_not];exact h x.s.toks)
 |In=>exact Jo e λz hz e=>Jo e λr hr e=>oi e▸(inV_ok (a:=a) (by rw[hz];exact hr) da db).i
 |NotIn=>exact Jo e λz hz e=>Jo e λr hr e=>oi e▸(tr_not r).symm▸(inV_ok (a:=a) (by rw[hz];exact hr) da db).n
theorem sym_str{cl k:Nat}(d:x.D (.sym cl k) u)(g:x.D (.str (B.G.nm.f k)) u->B.G.nm.f k∈JR cl->C):C:=d.sym_ λt e m=>g ⟨t,e⟩ m
theorem hd_str{cl k:Nat}(d:x.D (.hd cl k) u)(g:x.D (.str (headS (B.G.nm.f k))) u->B.G.nm.f k∈JR cl->C):C:=d.hd_ λt e m=>g ⟨t,e⟩ m
theorem agr_ok{cl k:Nat}{op:CmpOp}{p:Bool×Qb}(e:(obO (agree (JR cl) λz=>cmp0 B.G.cx x.S op (.str z) b) λr=>some (false,.b r))=some p)(da:x.D (.sym cl k) u)(db:x.D b v)(hu:B.A.units+64<cLine):Cp x op u v (tr p.1 (p.2.val B.G.u)):=
 Jo e λr hr e=>sym_str da λda m=>oi e▸cmp0_ok (agree_of hr m) da db hu
theorem inSym_ok{cl k:Nat}{p:Qb}(e:inSym B.G.cx x.S cl k b=some p)(da:x.D (.sym cl k) u)(db:x.D b v):Inn x u v (p.val B.G.u):=by
 unfold inSym at e;induction h2:inSyms B.G.cx x.S k b with
 |some r=>rw[h2]at e;exact da.sym_ λt et Z=>et▸oi e▸inSyms_ok h2 db
 |none=>
  rw[h2]at e;induction h1:opV b with
  |some j=>
   rw[h1]at e;rw[Yc h1]at db;cases db;have e:(Option.rec (B.G.cx.kn.lmem j k) (λq=>some q) (B.G.cx.kn.mem j k):Option Qb)=some p:=e;induction hm:B.G.cx.kn.mem j k with
   |some q=>
    rw[hm]at e;cases e;exact da.sym_ λt et Z=>et▸(B.G.kn.mem j k _ hm).2.elim λo r=>r.elim λes r=>r.elim λnm0 r=>r.elim λL0 r=>r.2.2▸in_dict (B.G.kn.mem j k _ hm).1 (x.r.keep _ _ r.1) r.2.1
   |none=>
    rw[hm]at e;exact da.sym_ λt et Z=>et▸(B.G.kn.lmem j k p e).elim λxs r=>r.elim λn r=>r.elim λys r=>r.2.2▸in_list (x.r.keep _ _ r.1) r.2.1
  |none=>rw[h1]at e;exact qb_of e λr hr e=>sym_str da λda m=>da.str_ λt et=>et▸e▸inA_ok (agree_of hr m) db
theorem eqS_ok{cl k:Nat}{n:Bool}{op:CmpOp}(ho:(op=.Eq/\n=false)\/(op=.NotEq/\n=true)){p:Bool×Qb}(e:(Option.rec (obO (agree (JR cl) λz=>cmp0 B.G.cx x.S op (.str z) b) λr=>some (false,.b r)) (λj=>obO (eqSym B.G.cx k j) λq=>some (n,q)) (WG b):Option (Bool×Qb))=some p)(da:x.D (.sym cl k) u)(db:x.D b v)(hu:B.A.units+64<cLine):Cp x op u v (tr p.1 (p.2.val B.G.u)):=by
 induction h:WG b with
 |none=>rw[h]at e;exact agr_ok e da db hu
 |some j=>rw[h]at e;exact Jo e λq hq e=>oi e▸Cp.of_eq (p:=(n,q)) (eqA_ok (a:=.sym cl k) (b:=b) (by show (obO (WG b) λj=>eqSym B.G.cx k j)=_;rw[h];exact hq) da db hu) ho
theorem cmpSym_ok{cl k:Nat}{op:CmpOp}{p:Bool×Qb}(e:cmpSym B.G.cx x.S op cl k b=some p)(da:x.D (.sym cl k) u)(db:x.D b v)(hu:B.A.units+64<cLine):Cp x op u v (tr p.1 (p.2.val B.G.u)):=by
 induction op with
 |Eq=>exact eqS_ok (.inl ⟨rfl,rfl⟩) e da db hu
 |NotEq=>exact eqS_ok (.inr ⟨rfl,rfl⟩) e da db hu
 |In=>exact Jo e λq hq e=>oi e▸(inSym_ok hq da db).i
 |NotIn=>exact Jo e λq hq e=>oi e▸(tr_not (q.val B.G.u)).symm▸(inSym_ok hq da db).n
 |_=>exact agr_ok e da db hu
theorem cmp_ok{op:CmpOp}{p:Bool×Qb}(e:cmpA B.G.cx x.S op a b=some p)(da:x.D a u)(db:x.D b v)(hu:B.A.units+64<cLine):Cp x op u v (tr p.1 (p.2.val B.G.u)):=by
 have rest:cmpL B.G.cx x.S op a b=some p->Cp x op u v (tr p.1 (p.2.val B.G.u)):=λe=>by
  unfold cmpL at e;induction h:Wh b with
  |none=>rw[h]at e;exact cmpK_ok e da db hu
  |some r=>
   rw[h]at e;refine Jo e λz hz e=>oi e▸?_;induction b with
   |sym c k=>cases h;exact sym_str db λdb m=>cmp0_ok (agree_of hz m) da db hu
   |hd c k=>cases h;exact hd_str db λdb m=>cmp0_ok (agree_of hz m) da db hu
   |_=>exact no h
 induction a with
 |sym c k=>exact cmpSym_ok e da db hu
 |hd c k=>exact Jo e λr hr e=>hd_str da λda m=>oi e▸cmp0_ok (agree_of hr m) da db hu
 |_=>exact rest e
theorem Jn.ask2{o:Option (Bool×Qb)}{k:Bool->R}(P:Jn x ρ (ask2 o k) Q E)(h:∀p,o=some p->Jn x ρ (k (tr p.1 (p.2.val B.G.u))) Q E->C):C:=
 P.ob λp e P=>h p e (Jn.askQ P)
theorem Jn.int2{k:Int->Int->R}(P:Jn x ρ (int2 a b k) Q E)(da:x.D a u)(db:x.D b v)(h:∀i t j t2,u=.int i t->v=.int j t2->Jn x ρ (k i j) Q E->C):C:=
 P.ob λi hi P=>P.ob λj hj P=>by
  rw[JO hi]at da;rw[JO hj]at db;exact da.int_ λt e1=>db.int_ λt2 e2=>h i t j t2 e1 e2 P
theorem Jn.int{Q:SP Value}{i:Int}(P:Jn x RV (intR x.S i) Q E){t t2:Tok}:Q (.int i t) {x.s with toks:=t2}:=P.val ⟨t,rfl⟩ t2
theorem ZW{k:Nat}(h:k<=1000):k<=sizeLine:=Jk h (by rw[PySem.sizeLine_eq];lia)
theorem le_lineS{k:Nat}(h:k<=100000):k<=sizeLine:=Jk h (by rw[PySem.sizeLine_eq];lia)
def Gd.kf(G:Gd):List Addr:=(List.range G.hF.objs.size).filter λb=>(G.hF.get? b).isSome&&(G.om.hb.get? b).isNone
def Gd.ka(G:Gd):List Addr:=G.kf++G.outm.map (·.1)
def ZK(L:List Addr)(h:Heap)(a:Addr):List (Addr×Obj):=L.filterMap λb=>if b=a then none else (h.get? b).map λo=>(b,o)
variable {m:Str->Option Value}{N:List (Addr×Obj)}{h h':Heap}{ad la:Addr}{o:Obj}{ao:AO}{t:Tok}
theorem mem_kf{G:Gd}:ad∈G.kf↔(∃o,G.hF.get? ad=some o)/\G.om.hb.get? ad=none:=by
 unfold Gd.kf;rw[List.mem_filter,List.mem_range,Bool.and_eq_true,Option.isSome_iff_exists,Option.isNone_iff_eq_none];exact⟨λh=>h.2,λh=>⟨h.1.elim λo e=>ϱ e,h⟩⟩
theorem ZH:(ad,o)∈ZK L h la↔ad∈L/\ad≠la/\h.get? ad=some o:=by
 unfold ZK;rw[List.mem_filterMap];constructor
 ·rintro ⟨c,hc,e⟩
  by_cases q:c=la
  ·rw[if_pos q]at e;exact nomatch e
  ·rw[if_neg q,Option.map_eq_some_iff]at e
   obtain ⟨o',ho,e⟩:=e;cases e;exact⟨hc,q,ho⟩
 ·rintro ⟨h1,h2,h3⟩
  exact⟨ad,h1,by rw[if_neg h2,h3];rfl⟩
theorem upd_of{ob:Obj}{R:List Addr}(hd:h.get? ad=some ob)(hne:ad≠la)(hR:ad∉R)(ob':Obj):∀{L:List Addr},L.Nodup->ad∈L->∃N',Upd ad ob ob' (ZK (L++R) h la) N'/\(ad,ob')∈N'/\∀b o,(b,o)∈ZK (L++R) h la->b≠ad->(b,o)∈N':=by
 intro v0_;induction v0_ with
 |nil=>
  intro Z hm;exact(Ξ hm).elim
 |cons b L ih=>
  intro nd hm;have nd:=List.nodup_cons.mp nd;by_cases q:b=ad
  ·subst q
   have e:ZK (b::L++R) h la=(b,ob)::ZK (L++R) h la:=by
    show List.filterMap _ _=_;rw[List.cons_append,List.filterMap_cons,if_neg hne,hd];rfl
   rw[e];exact⟨(b,ob')::ZK (L++R) h la,.head (λp hp e=>(ma_ (ZH.mp (show (p.1,p.2)∈ZK (L++R) h la from hp)).1).elim (λz=>nd.1 (e▸z)) λz=>hR (e▸z)),.head _,λc o hc hne=>(mc_ hc).elim (λe=>absurd (Ja (·.1) e) hne) (.tail _)⟩
  ·obtain ⟨N',U,a1,a2⟩:=ih nd.2 ((mc_ hm).resolve_left (Ne.symm q))
   by_cases z:∃p,ZK (b::L++R) h la=p::ZK (L++R) h la/\p.1=b
   ·obtain ⟨p,e,hp⟩:=z
    rw[e];exact⟨p::N',.tail (hp▸q) U,.tail _ a1,λc o hc hne=>(mc_ hc).elim (λe=>e▸.head _) λhc=>.tail _ (a2 c o hc hne)⟩
   ·have e:ZK (b::L++R) h la=ZK (L++R) h la:=by
     show List.filterMap _ _=_;rw[List.cons_append,List.filterMap_cons];by_cases q2:b=la
     ·rw[if_pos q2];rfl
     ·induction w:h.get? b with
      |none=>rw[if_neg q2];rfl
      |some o=>
       refine absurd ⟨(b,o),?_,rfl⟩ z;show List.filterMap _ _=_;rw[List.cons_append,List.filterMap_cons,if_neg q2,w];rfl
    rw[e];exact⟨N',U,a1,a2⟩
structure Opn(x:Sit B)(m:Str->Option Value)(N:List (Addr×Obj)):Prop where
 f:Fr B.G.om.hb B.env.locals x.s.heap m
 n:News B.G.om.hb B.env.locals x.s.heap N
 lt:∀p∈N,p.1<x.s.heap.objs.size
 keepF:∀{h':Heap} (D:Addr->Prop),(∀b,D b->b∈x.L)->Fr B.G.om.hb B.env.locals h' m->(∀b o,(b,o)∈N->¬D b->h'.get? b=some o)->∀b o,B.G.hF.get? b=some o->h'.get? b=some o
 keepO:∀{h':Heap} (D:Addr->Prop),Fr B.G.om.hb B.env.locals h' m->(∀b o,(b,o)∈N->¬D b->h'.get? b=some o)->∀j ao ad,x.S.get j=some ao->x.L[j]?=some ad->¬D ad->Obs B.G h' x.L j ao
 keepP:∀{h':Heap} (D:Addr->Prop),(∀b,D b->b∈x.L)->(∀b o,(b,o)∈N->¬D b->h'.get? b=some o)->∀p∈B.G.outm,∀o,p.1∉x.L->x.s.heap.get? p.1=some o->nsP p.2 o->∃o,h'.get? p.1=some o/\nsP p.2 o
 upd:∀{j:Nat} {ad:Addr} {o:Obj} (o':Obj),x.L[j]?=some ad->ad≠B.env.locals->x.s.heap.get? ad=some o->∃N',Upd ad o o' N N'/\(ad,o')∈N'/\∀b o,(b,o)∈N->b≠ad->(b,o)∈N'
 out:∀z:Addr,(∀p∈N,p.1<z)->z≠B.env.locals->B.G.om.hb.get? z=none->New B.G x.L z/\sysModules<z
theorem Gd.out_hb(G:Gd){p:Addr×(Str->Option Value)}(hp:p∈G.outm):G.om.hb.get? p.1=none:=by
 induction e:G.om.hb.get? p.1 with
 |none=>rfl
 |some w=>exact no ((G.outn p hp).1.symm.trans (G.base _ _ e))
theorem Sit.opens(x:Sit B)(k:∀m,Opn x m (ZK (x.L++B.G.ka) x.s.heap B.env.locals)->C):C:=by
 have hla:=Θ x.top.loc;have kap:∀b,b∈B.G.ka->B.G.om.hb.get? b=none/\b∉x.L:=λb hb=>(ma_ hb).elim (λh=>⟨(mem_kf.mp h).2,λhL=>(mem_kf.mp h).1.elim λo e=>no ((x.r.new b hL).symm.trans e)⟩) λh=>(mm_ h).elim λp r=>⟨r.2▸B.G.out_hb r.1,r.2▸(x.r.outs p r.1).1⟩;refine(x.ok _ (.head _)).2.elim λes hes=>x.own hes x.top.loc λo ho p=>p.ns_ λm hb hm ok=>k m ⟨⟨nsP_at ho hm,λb o=>x.base,hb⟩,λp hp=>?_,λp hp=>?_,fun {h'} D hD F kp b w e=>?_,fun {h'} D F kp i ao ad e ha nd=>?_,fun {h'} D hD kp p hp o hl e q=>⟨o,kp p.1 o (ZH.mpr ⟨ξ _ (ξ _ (ϕ hp)),λz=>hl (z▸hla),e⟩) λz=>hl (hD _ z),q⟩,λo' ha hne e=>upd_of e hne (λhk=>(kap _ hk).2 (Θ ha)) o' x.r.nd (Θ ha),λz hz hne hzb=>?_⟩
 ·have h:=ZH.mp (show (p.1,p.2)∈_ from hp)
  refine⟨h.2.2,h.2.1,(ma_ h.1).elim (λhL=>?_) λhk=>(kap _ hk).1⟩;induction e:B.G.om.hb.get? p.1 with
  |none=>rfl
  |some w=>exact no ((x.r.new _ hL).symm.trans (B.G.base _ _ e))
 ·exact ϱ (ZH.mp (show (p.1,p.2)∈_ from hp)).2.2
 ·induction e2:B.G.om.hb.get? b with
  |some w2=>exact(B.G.base _ _ e2).symm.trans e▸F.keep _ _ e2
  |none=>exact kp b w (ZH.mpr ⟨ξ _ (μ _ (mem_kf.mpr ⟨⟨w,e⟩,e2⟩)),λ(q:b=B.env.locals)=>no ((x.r.new _ hla).symm.trans (q▸e)),x.r.keep _ _ e⟩) λq=>no ((x.r.new _ (hD b q)).symm.trans e)
 ·refine(x.r.objs i ao e).el λad' o' ha' ho' ok'=>?_
  cases ha.symm.trans ha';by_cases q:ad=B.env.locals
  ·subst q
   cases Ju x.r.nd ha x.top.loc;rw[<-oi (hes.symm.trans e)];obtain ⟨o2,es2,ep,h1,h2⟩:=F.ns;exact⟨_,o2,ha,h1,hb,m,⟨es2,ep,h2⟩,ok⟩
  ·exact⟨ad,o',ha,kp ad o' (ZH.mpr ⟨μ _ (Θ ha),q,ho'⟩) nd,ok'⟩
 ·have nin:∀w∈x.L++B.G.ka,w≠B.env.locals->(∃o,x.s.heap.get? w=some o)->w<z:=λw hw hne e=>e.elim λo e=>hz (w,o) (ZH.mpr ⟨hw,hne,e⟩)
  refine⟨⟨λhL=>x.r.live hL λZ Z o Z Z e Z=>Jj _ (nin z (μ _ hL) hne ⟨o,e⟩),?_,λp hp e=>(x.r.outs p hp).2.elim λo h=>Jj _ (e▸nin p.1 (ξ _ (ξ _ (ϕ hp))) (λq=>(x.r.outs p hp).1 (q▸hla)) ⟨o,h.1⟩)⟩,?_⟩
  ·induction e:B.G.hF.get? z with
   |none=>rfl
   |some w=>exact absurd (nin z (ξ _ (μ _ (mem_kf.mpr ⟨⟨w,e⟩,hzb⟩))) hne ⟨w,x.r.keep _ _ e⟩) (Jj _)
  ·have tt:∀t∈tbs,t≠B.env.locals->t<z:=λt ht q=>(B.G.tl t ht).elim (λhm=>have ht:=x.r.own.subset hm;x.r.live ht λZ Z o Z Z e Z=>nin t (μ _ ht) q ⟨o,e⟩) λh=>h.elim λo e=>nin t (ξ _ (μ _ (mem_kf.mpr ⟨h,(mc_ ht).elim (λz=>z▸B.G.om.tb.1) λz=>ms_ z▸B.G.om.tb.2⟩))) q ⟨o,x.r.keep _ _ e⟩
   by_cases q:538=B.env.locals
   ·exact Nat.lt_trans (by decide) (tt 385 (.tail _ (.head _)) λq2=>absurd (q.trans q2.symm) (by decide))
   ·exact Nat.lt_trans (by decide) (tt 538 (.head _) q)
theorem Opn.back(O:Opn x m N)(F:Fr B.G.om.hb B.env.locals h' m)(Nw:News B.G.om.hb B.env.locals h' N){t:Tok}:Rep B.G x.S x.L {x.s with heap:=h',toks:=t}:=
 x.r.multi (.inl rfl) x.r.len (λb o e Z=>O.keepF (λZ=>False) (λZ h=>h.elim) F (λb o hb Z=>(Nw (b,o) hb).1) b o e) (O.keepP (λZ=>False) (λZ h=>h.elim) λb o hb Z=>(Nw (b,o) hb).1)
  (λj=>by
   induction e:x.S.get j with
   |none=>exact .inl ⟨rfl,λa o ha Z=>(x.r.all j (x.r.len▸(lt_ ha))).elim λao h=>no (e.symm.trans h)⟩
   |some ao=>exact .inr ⟨ao,rfl,(x.r.objs j ao e).el λad Z ha Z Z=>O.keepO (λZ=>False) F (λb o hb Z=>(Nw (b,o) hb).1) j ao ad e ha id⟩) λj h1 h2=>absurd h2 (ϖ h1)
theorem Sit.big(x:Sit B):B.G.om.hb.objs.size<x.s.heap.objs.size:=(x.ok _ (.head _)).2.elim λes e=>x.own e x.top.loc λo ho p=>ϛ p.1 (ϱ ho)
theorem Sit.low(x:Sit B):(x.s.heap.objs.size==sysModules)=false:=beq_eq_false_iff_ne.mpr (Nat.ne_of_gt (Nat.lt_trans B.G.om.nolim x.big))
theorem Sit.ne_n(x:Sit B){j:Nat}{ao:AO}(e:x.S.get j=some ao):j≠x.S.n:=(x.r.objs j ao e).el λZ Z h Z Z q=>absurd (lt_ h) (by rw[x.r.len,q];exact Jj _)
theorem Opn.set(O:Opn x m N){k:St->R}(P:Jn x ρ (setR x.S i ao k) Q E)(ha:x.L[i]?=some ad)(F:Fr B.G.om.hb B.env.locals h' m)(kp:∀b o,(b,o)∈N->b≠ad->h'.get? b=some o)(ho:h'.get? ad=some o)(ok:x.P ad ao o)(hn:∀es,x.S.get i=some (.ns es)->∃es',ao=.ns es'){t:Tok}
  (g:∀x':Sit B,x.le x'->x'.s={x.s with heap:=h',toks:=t}->x'.L=x.L->Jn x' ρ (k x'.S) Q E->C):C:=
 P.ob λS' e P=>by
  have Ch:=St.set_get e;have R':Rep B.G S' x.L {x.s with heap:=h',toks:=t}:=x.r.multi (.inl rfl) (x.r.len.trans Ch.n.symm) (λb o e Z=>O.keepF (·=ad) (λb e=>e▸Θ ha) F kp b o e) (O.keepP (·=ad) (λb e=>e▸Θ ha) kp)
   (λj=>by
    by_cases q:j=i
    ·exact .inr ⟨ao,q▸Ch.self,ad,o,q▸ha,ho,ok⟩
    ·induction e:x.S.get j with
     |none=>exact .inl ⟨(Ch.other j q).trans e,λa o ha Z=>(x.r.all j (x.r.len▸(lt_ ha))).elim λao h=>no (e.symm.trans h)⟩
     |some ao'=>exact .inr ⟨ao',(Ch.other j q).trans e,(x.r.objs j ao' e).el λad' Z ha' Z Z=>O.keepO (·=ad) F kp j ao' ad' e ha' λz=>q (Ju x.r.nd ha' (z▸ha))⟩) λj h1 h2=>absurd (Ch.n▸h2) (ϖ h1)
  exact g (x.to R' (ζ _) (Ch.ns hn)) (ζ _) rfl rfl (P.up (ζ _))
theorem Opn.push(O:Opn x m N){k:Nat->St->R}(P:Jn x ρ (pushR x.S ao k) Q E)(F:Fr B.G.om.hb B.env.locals h' m)(Nw:News B.G.om.hb B.env.locals h' ((ad,o)::N))(hlt:∀p∈N,p.1<ad)(ok:OkP B.G.om B.G.nm (x.L++[ad]) ad ao o){t:Tok}
  (g:∀x':Sit B,x.le x'->x'.s={x.s with heap:=h',toks:=t}->x'.L=x.L++[ad]->x'.L[x.S.n]?=some ad->Jn x' ρ (k x.S.n x'.S) Q E->C):C:=
 P.ob λS' e P=>by
  have hN:=Nw _ (.head _);have hz:=O.out ad hlt hN.2.1 hN.2.2;have R':=O.back (t:=t) F λp hp=>Nw p (.tail _ hp);have Ch:=St.push_get e;have p:x.L<+:x.L++[ad]:=θ _ _;have q:(x.L++[ad])[x.S.n]?=some ad:=x.r.len▸ZE x.L _;have R2:=R'.step (h':=h') (t:=t) Ch (.inr ⟨_,rfl,hz.1⟩) ((ς).trans (Ja (·+1) x.r.len)) (λb o' Z e'=>e') ⟨_,o,q,hN.1,ok⟩ λj h1 h2=>Nat.le_antisymm (Je h2) h1
  exact g (x.to R2 p (Ch.ns λes z=>(x.r.objs _ _ z).el λZ Z r Z Z=>absurd (lt_ r) (by rw[x.r.len];exact Jj _))) p rfl rfl q (P.up p)
theorem Opn.pushV(O:Opn x m N){Q:SP Value}(P:Jn x RV (pushV x.S ao) Q E)(F:Fr B.G.om.hb B.env.locals h' m)(Nw:News B.G.om.hb B.env.locals h' ((ad,o)::N))(hlt:∀p∈N,p.1<ad)(ok:OkP B.G.om B.G.nm (x.L++[ad]) ad ao o){t:Tok}:Q (.ref ad) {x.s with heap:=h',toks:=t}:=
 O.push (k:=λi S=>.ok (.v (.loc i)) S) P F Nw hlt ok λx' p e1 Z e2 P=>e1▸P.val (u:=.ref ad) ⟨_,e2,rfl⟩ _
theorem add_lists_ok{Q:SP Value}(P:Jn x RV (addS B.G.cx x.S a b) Q E)(da:x.D a u)(db:x.D b v):wpAny (Md B) B.A (binaryOp .Add u v) Q E x.s:=
 P.ob λl hl P=>P.ob λr hr P=>P.ifT λhs P=>Sit.list hl da λz xs k1 e1 o1 d1=>Sit.list hr db λw ys k2 e2 o2 d2=>x.opens λm O=>by
  subst e1;subst e2;have d:=Jq.append d1 d2;refine add_lists (vs:=xs.toList) (ws:=ys.toList) O.f O.n (by rw[Array.toArray_toList];exact⟨_,o1,rfl,k1,rfl⟩) (by rw[Array.toArray_toList];exact⟨_,o2,rfl,k2,rfl⟩) (λh' F' N'=>O.pushV P F' N' O.lt ⟨_,0,rfl,d.mono (θ _ _)⟩) ?_;rw[<-ς,<-d.len];exact ZW (Zg hs)
theorem add_ok{Q:SP Value}(P:Jn x RV (addA B.G.cx x.S a b) Q E)(da:x.D a u)(db:x.D b v):wpAny (Md B) B.A (binaryOp .Add u v) Q E x.s:=by
 induction a with
 |int i=>exact P.ob λj hj P=>by rw[JO hj]at db;exact da.int_ λt e1=>db.int_ λt2 e2=>e1▸e2▸PySem.P.add_int P.int
 |str i=>
  exact P.ob λj hj P=>P.ifT λhs P=>by
   rw[Zb hj]at db;exact da.str_ λt e1=>db.str_ λt2 e2=>e1▸e2▸PyProof.Rows.add_str (λt' tk=>P.val ⟨_,rfl⟩ _) (le_lineS (nl hs))
 |loc i=>exact add_lists_ok P da db
 |op i=>exact add_lists_ok P da db
 |_=>exact P.elim
theorem bin_ok{e0:Expr}{op:Operator}{Q:SP Value}(P:Jn x RV (binA B.G.cx e0 op a b x.S) Q E)(da:x.D a u)(db:x.D b v):wpAny (Md B) B.A (binaryOp op u v) Q E x.s:=by
 induction op with
 |Add=>exact add_ok P da db
 |Sub=>exact Jn.int2 P da db λi t j t2 e1 e2 P=>e1▸e2▸PySem.P.sub_int P.int
 |Mult=>
  refine Jn.int2 P da db λi t j t2 e1 e2 P=>Jn.ifT P λhs P=>e1▸e2▸PySem.P.mul_int P.int ?_;induction h:smallC e0 with
  |true=>rw[h]at hs;exact IntMulOk.of_left (κ hs)
  |false=>rw[h]at hs;exact IntMulOk.of_right (κ hs)
 |FloorDiv=>
  refine Jn.int2 P da db λi t j t2 e1 e2 P=>?_;induction h1:decide (j=0)with
  |true=>rw[h1]at P;exact P.elim
  |false=>
   rw[h1]at P;induction h2:Builtin.divisionGoesByPylong i j with
   |true=>rw[h2]at P;exact P.elim
   |false=>rw[h2]at P;exact e1▸e2▸PyProof.Rows.floordiv_int (of_decide_eq_false h1) (Jn.int P) (.inl h2)
 |Mod=>
  refine Jn.int2 P da db λi t j t2 e1 e2 P=>?_;induction h1:decide (j=0)with
  |true=>rw[h1]at P;exact P.elim
  |false=>rw[h1]at P;exact e1▸e2▸PyProof.Rows.mod_int' (of_decide_eq_false h1) (Jn.int P)
 |Pow=>
  refine Jn.int2 P da db λi t j t2 e1 e2 P=>?_;induction j with
  |ofNat k=>exact Jn.ifT P λhb P=>e1▸e2▸PyProof.Rows.pow_int (Int.natCast_nonneg _) (κ hb) (Jn.int P)
  |negSucc k=>exact P.elim
 |_=>exact P.elim
theorem un_ok{op:UnaryOp}{Q:SP Value}(P:Jn x RV (unA B.G.cx op a x.S) Q E)(da:x.D a u):wpAny (Md B) B.A (unaryOp op u) Q E x.s:=by
 induction op with
 |Not=>exact P.ob λb hb P=>not_of (tru_ok hb da λt=>P.val rfl t)
 |USub=>exact P.ob λi hi P=>by rw[JO hi]at da;exact da.int_ λt e=>e▸PySem.P.neg_int (Jn.int P)
 |_=>exact P.elim
open PySem PySem.W PySem.Calls PyProof.Rows PySem.Builtin.ObjectAttr
variable {prog:Program}{w:World}{K:Frag}{x C:Addr}{ox:Obj}{od:Option Obj}{name:Str}{expr:Bool}{Q:SP Value}{R:Result->Shared->Prop}
theorem ga_kind:builtinKind "BaseException.__getattribute__"=some .slot:=by decide +kernel
theorem ga_split:splitId "BaseException.__getattribute__"=some ("BaseException","__getattribute__"):=by decide +kernel
def isRefV(v:Value):Bool:=match v with|.ref _=>true|_=>false
def exc3:List Value:=[.type "Exception",.type "BaseException",.type "object"]
def excMro(l:List Value):Bool:=List.rec false (λv r ih=>or (decide (v::r=exc3)) (and (isRefV v) ih)) l
theorem WE{l:List Value}(h:excMro l=true):(∀self,refuseLoop self "__setattr__" l=pure ())/\l.contains (.type "object")=true/\l.contains (.type "BaseException")=true/\l.contains (.type "Exception")=true/\
  l.contains (.type "AttributeError")=false/\l.contains (.type "NameError")=false/\l.contains (.type "tuple")=false:=by
 induction l with
 |nil=>exact nb h
 |cons v r ih=>
  rcases (Bool.or_eq_true _ _).mp h with h|h
  ·rw[κ h]
   exact⟨λself=>F.store_Exception.passes self,by decide +kernel,by decide +kernel,by decide +kernel,by decide +kernel,by decide +kernel,by decide +kernel⟩
  ·have h:=(Bool.and_eq_true _ _).mp h
   induction v with
   |ref c=>
    have ih:=ih h.2;have no_:∀{T:String} {b:Bool},r.contains (.type T)=b->(Value.ref c::r).contains (.type T)=b:=λe=>by rw[List.contains_cons,e];rfl
    exact⟨λself=>by rw[refuseLoop_ref];exact ih.1 self,no_ ih.2.1,no_ ih.2.2.1,no_ ih.2.2.2.1,no_ ih.2.2.2.2.1,no_ ih.2.2.2.2.2.1,no_ ih.2.2.2.2.2.2⟩
   |_=>exact nb h.1
theorem inst_sub{M:Model}{h:Heap}{b:Value}{r:Bool}(X:K.In h)(I:InstAt h x ox C od)(hs:mroIn K C b=some r):Looks M h (isInstance (.ref x) b) r:=
 I.type.andThen (looks_mroIn X hs)
theorem excGet{v:Value}(X:K.In s.heap)(I:InstAt s.heap x ox C od)(hga:findIn K (.ref C) "__getattribute__"=some (some (.builtin "BaseException.__getattribute__")))(hgh:findIn K (.ref C) "__getattr__"=some none)
  (hs:mroIn K C (.type "BaseException")=some true) (hf:findObj K C od name=some (.value v)) (hh:handedIn v=true) (h:Q v {s with toks:=s.toks+1}):wpAny (model prog w) A (getAttr (.ref x) name expr) Q E s:=by
 obtain ⟨hh',g,d,t,os⟩:=s
 have L0:=I.type (M:=model prog w)
 have L1:=looks_findIn (M:=model prog w) X hga
 have L2:=looks_findIn (M:=model prog w) X hgh
 have L3:=looks_find (M:=model prog w) X I hf
 unfold getAttr getAttrBy
 refine Γ (wpAny_mkText (ω (Γ (L0.at (Γ (L1.at ?_))))))
 have hx2:(Value.builtin "BaseException.__getattribute__"==Value.builtin "object.__getattribute__")=false:=by decide +kernel
 show wpAny _ _ (if (onTheHeap (Value.ref C)&&Value.builtin "BaseException.__getattribute__"==Value.builtin "object.__getattribute__")=true then _ else getAttrByItsOwn _ _ _ _ _ _) _ _ _
 rw[hx2,Bool.and_false,if_neg (by decide)]
 unfold getAttrByItsOwn hookBefore
 rw[if_pos (show onTheHeap (Value.ref C)=true from rfl)]
 refine Γ (L2.at ?_)
 refine Γ (wpAny_attempt (ω ?_))
 unfold callGetattribute
 have hx0:(expr&&onTheHeap (Value.builtin "BaseException.__getattribute__"))=false:=by induction expr<;>rfl
 rw[hx0,if_neg (by decide)]
 unfold boundAndCalled
 rw[F.attr_Exception.ga.bind]
 refine Γ (Δ ?_)
 refine wpAny_call (codeAny_call_builtin F.attr_Exception.ga.plain F.entry_bexc_ga (@check_slot (model prog w) _ _ _ "BaseException.__getattribute__" "BaseException" "__getattribute__" (.ref x) [.str name t] [] _ ga_kind ga_split (inst_sub X I hs) (F.args_bexc_ga _ _) ?_))
 show wpAny _ _ (typeOf (.ref x)>>=λtp=>find (.ref x) tp name>>=_) _ _ _
 refine Γ (L0.at (Γ (L3.at ?_)))
 refine Δ ?_
 show wpAny _ _ (handedOut v) _ _ _
 rw[handedOut_of hh];exact Δ h
structure ExcK(K:Frag)(C:Addr):Prop where
 cls:∃cd,clsIn K C=some cd/\excMro cd.mro=true/\cd.hasDict=true
 sub:mroIn K C (.type "BaseException")=some true
 ga:findIn K (.ref C) "__getattribute__"=some (some (.builtin "BaseException.__getattribute__"))
 gh:findIn K (.ref C) "__getattr__"=some none
 sa:findIn K (.ref C) "__setattr__"=some (some (.builtin "object.__setattr__"))
theorem exc_sa_open{tk:Tok}{v:Value}(EK:ExcK K C)(X:K.In s.heap)(I:InstAt s.heap x ox C od)(ht:takerIn K C name=some none)
  (h:∀b,wpAny (model prog w) A.in1 (storeInOwnDict (.ref x) (.ref C) (.str name tk) name v b)
   (λfin s'=>match fin with|.done f=>R (.ok f) s'|.again c'=>c'.quiet=true/\codeAny (model prog w) A c' R s') (λe s'=>R (.error e) s') s) :
  codeAny (model prog w) A (.call (.builtin "object.__setattr__") ⟨[.ref x,.str name tk,v],[]⟩) R s:=by
 have SF:=PySem.F.store_object
 obtain ⟨cd,hc,ho,hdct⟩:=EK.cls
 obtain ⟨m1,m2,m3,m4,m5,m6,m7⟩:=WE ho
 have ne:cd.mro.isEmpty=false:=by cases q:cd.mro with|nil=>rw[q]at ho;cases ho|cons _ _=>rfl
 have sub:Looks (model prog w) s.heap (isInstance (.ref x) (.type "object")) true:=I.type.andThen (looks_mroIn X (by unfold mroIn;rw[hc,Option.bind_some,if_neg (by rw[ne];decide),m2]))
 refine codeAny_call_builtin SF.slot.plain SF.entry (@check_slot (model prog w) _ _ s "object.__setattr__" "object" "__setattr__" (.ref x) [.str name tk,v] [] _ SF.kind SF.split sub (SF.args (.ref x) (.str name tk) v) ?_)
 obtain ⟨attr,ha,hr⟩:=Option.bind_eq_some_iff.mp ht
 have hm:Looks (model prog w) s.heap (mroOf (.ref C)) cd.mro:=(looks_clsIn X hc).andThen .now
 have L3:Looks (model prog w) s.heap (storeTaker? attr) none:=by
  induction attr with
  |none=>exact .now
  |some a=>
   obtain ⟨b,hb,e⟩:=Option.map_eq_some_iff.mp hr;refine(looks_takesIn X hb).andThen ?_;induction b<;>first|exact .now|cases e
 rw[osa_eq,refuse_eq]
 refine Γ (Γ (I.type.here (Γ (hm.here ?_))))
 rw[m1]
 refine Δ (Γ (I.type.here (Γ ((looks_findIn X ha).here (Γ (L3.here ?_))))))
 exact h _
theorem excSet_fresh{v:Value}{vs:Array Value}{Q:SP Unit}(EK:ExcK K C)(X:K.In s.heap)(I:InstAt s.heap x ox C none)(hd:ox.dict=none)(hf:ox.data=.fields vs)(ht:takerIn K C name=some none)
  (h:∀h' tk tk',(∀b o,b≠x->s.heap.get? b=some o->h'.get? b=some o)->h'.get? x=some {ox with dict:=some s.heap.objs.size}->h'.get? s.heap.objs.size=some (dictOf [⟨PyData.keyHash w.params name,.str name tk,v⟩] 1)->
   Q () {s with heap:=h',toks:=tk'}) :
  wpAny (model prog w) A (setAttr (.ref x) name v) Q E s:=by
 refine set_plain X I EK.sa (exc_sa_open (s:={s with toks:=s.toks+1}) EK X I ht λb=>?_)
 obtain ⟨cd,hc,ho,hdct⟩:=EK.cls
 obtain ⟨hx,hcl,hn,-⟩:=I
 have hnf:=(Heap.get?_some_iff.mp hx).2
 obtain ⟨oc,odi,oda,osl⟩:=ox
 dsimp only at hcl hd hf
 subst hcl hd hf
 obtain ⟨hp,g,d,t,os⟩:=s
 have L1:=looks_clsIn (M:=model prog w) X hc
 have hxs:x≠hp.objs.size:=Jl (ϱ hx)
 have hx₁:(hp.push {cls:=.type "dict",data:=.dict #[]}).get? x=some ⟨.ref C,none,.fields vs,osl⟩:=η _ hx
 refine Γ (Δ (Γ (Γ (wpAny_loadPart hx (Γ (L1.at ?_))))))
 rw[hdct]
 have hxf:(⟨.ref C,some hp.objs.size,.fields vs,osl⟩:Obj).isFreed=false:=rfl
 have body:∀(M:Model) (A:Around) (E':SP Value),wpAny M A (do
   let d<-alloc {cls:=.type "dict",data:=.dict #[]}
   update x λo=>{o with dict:=some d}
   dictMade (.ref C) x d) (λa s'=>a=some hp.objs.size/\s'=⟨(hp.push {cls:=.type "dict",data:=.dict #[]}).update x (λo=>{o with dict:=some hp.objs.size}),g,d,t+1,os⟩) E' ⟨hp,g,d,t+1,os⟩:=λM A E'=>
  Γ (wpAny_alloc' (Γ (wpAny_update' hx₁ (Δ ⟨rfl,rfl⟩))))
 have hgx:=υ (λo=>{o with dict:=some hp.objs.size}) hx₁ hxf
 have hgd:((hp.push {cls:=.type "dict",data:=.dict #[]}).update x λo=>{o with dict:=some hp.objs.size}).get? hp.objs.size=some {cls:=.type "dict",data:=.dict #[]}:=
  (Heap.get?_update_ne _ _ _ _ hxs.symm).trans (Heap.get?_push_at rfl rfl)
 have fin:∀E',wpAny (model prog w) A.in1 (storeInDict hp.objs.size (.str name t) name v) (λf s'=>f=Fin.done (.ret .none)/\Q () s') E'
   ⟨(hp.push {cls:=.type "dict",data:=.dict #[]}).update x (λo=>{o with dict:=some hp.objs.size}),g,d,t+1,os⟩:=λE'=>by
  unfold storeInDict newKeyGuard nsSet
  refine Γ (Δ (Γ (Γ (Γ (wpAny_askSetting (Δ (Γ (wpAny_mkText (Γ (wpAny_loadPart hgd ?_))))))))))
  dsimp only
  rw[aRefKeyMayBeTheName_at,if_neg (by simp)]
  refine wpAny_updatePart hgd ?_
  have hd':Obj.putName name (PyData.keyHash w.params name) (.str name (t+1)) v {cls:=.type "dict",data:=.dict #[]}=dictOf [⟨PyData.keyHash w.params name,.str name (t+1),v⟩] 1:=putName_dict name _ _ v [] 0
  have hgd':=υ (Obj.putName name (PyData.keyHash w.params name) (.str name (t+1)) v) hgd (by rw[hd'];rfl)
  rw[hd']at hgd'
  refine Γ (wpAny_lookBehind hgd' (pastItsLine_dict (by rw[sizeLine_eq];simp)) ?_)
  refine Δ ⟨rfl,h _ (t+1) _ (λb o hb e=>?_) ?_ hgd'⟩
  ·exact(χ _ _ (Nat.ne_of_gt (ϱ e))).trans ((χ _ _ (Ne.symm hb)).trans (η _ e))
  ·exact(χ _ _ hxs.symm).trans hgx
 refine ι (body _ _ _) (λa s' e=>?_) λZ Z z=>z
 have z9:=e;rw[z9.1,z9.2]
 refine ι (fin _) (λf s' z=>?_) λZ Z z=>z
 obtain ⟨rfl,z⟩:=z
 exact z
set_option tactic.hygienic true in
theorem excSet_dict{v:Value}{dx:Addr}{es:List DictEntry}{n:Nat}{Q:SP Unit}(EK:ExcK K C)(X:K.In s.heap)(I:InstAt s.heap x ox C (some (dictOf es n)))(hd:ox.dict=some dx)(ht:takerIn K C name=some none)
  (hl:(getL name es).isSome=true) (hz:es.length<=999)
  (h:∀h' tk tk',Heap.SameBut dx s.heap h'->h'.get? dx=some (dictOf (putL name (PyData.keyHash w.params name) (.str name tk) v es) (putN name es n))->Q () {s with heap:=h',toks:=tk'}) :
  wpAny (model prog w) A (setAttr (.ref x) name v) Q E s:=by
 refine set_plain X I EK.sa (exc_sa_open (s:={s with toks:=s.toks+1}) EK X I ht λb=>?_)
 obtain ⟨cd,hc,ho,hdct⟩:=EK.cls
 obtain ⟨hx,hcl,hn,hdd⟩:=I
 rw[hd]at hdd
 obtain ⟨oc,odi,oda,osl⟩:=ox
 dsimp only at hcl hd
 subst hcl hd
 obtain ⟨hp,g,d,t,os⟩:=s
 have L1:=looks_clsIn (M:=model prog w) X hc
 refine Γ (Δ (Γ (Γ (wpAny_loadPart hx (Γ (L1.at ?_))))))
 rw[hdct]
 refine Δ (a:=some dx) ?_
 show wpAny _ _ (storeInDict dx (.str name t) name v) _ _ _
 unfold storeInDict newKeyGuard nsSet
 refine Γ (Δ (Γ (Γ (Γ (wpAny_askSetting (Δ (Γ (wpAny_mkText (Γ (wpAny_loadPart hdd ?_))))))))))
 have c:(!es.any (·.key.isStr name)&&es.any (·.refKey))=false:=by
  unfold getL at hl;split at hl
  ·rename_i en he
   rw[List.any_eq_true.mpr ⟨en,List.mem_of_find?_eq_some he,List.find?_some he⟩];rfl
  ·split at hl
   ·cases hl
   ·rename_i z;rw[Bool.not_eq_true]at z;rw[z,Bool.and_false]
 show wpAny _ _ (if aRefKeyMayBeTheName name es.toArray=true then _ else _) _ _ _
 rw[aRefKeyMayBeTheName_at,List.any_toArray,List.any_toArray,c,if_neg (by decide)]
 refine wpAny_updatePart hdd ?_
 have hd':=putName_dict name (PyData.keyHash w.params name) (.str name (t+1)) v es n
 have hgd':=υ (Obj.putName name (PyData.keyHash w.params name) (.str name (t+1)) v) hdd (by rw[hd'];rfl)
 rw[hd']at hgd'
 have hlen:∀(hh:Int) (k v:Value) (ds:List DictEntry),(putL name hh k v ds).length<=ds.length+1:=λhh k v ds=>by
  induction ds with
  |nil=>exact Ϙ _
  |cons e r ih=>unfold putL;split<;>simp only[Υ]<;>lia
 refine Γ (wpAny_lookBehind hgd' (pastItsLine_dict (by have:=hlen (PyData.keyHash w.params name) (.str name (t+1)) v es;rw[sizeLine_eq,List.size_toArray];lia)) ?_)
 exact Δ (h _ (t+1) _ (Ϡ ..) hgd')
theorem entry_unchain:entryFor table "proto.unchain"=some Builtin.«proto.unchain»:=entryFor_of_tree (by rfl')
theorem raiseNew_handled{α:Type}{n e:Addr}{on oe:Obj}{vn ve:Array Value}{Q:SP α}(hh:A.handled=some (.ref e))(hne:e≠n)(hn:s.heap.get? n=some on)(hnd:on.data=.fields vn)(hns:2<vn.size)(he:s.heap.get? e=some oe)(hed:oe.data=.fields ve)(h2:ve[2]?=some .none)
  (h:E (.ref n) {s with heap:=s.heap.update n (Obj.mapFields (·.setIfInBounds 2 (.ref e)))}):wpAny (model prog w) A (raiseNew (.ref n):Sem α) Q E s:=by
 unfold raiseNew
 refine Γ (wpAny_handled ?_)
 rw[hh]
 dsimp only
 rw[if_pos (by simp[hne])]
 refine Γ (ω (wpAny_runValue (codeAny_builtin entry_unchain ?_)))
 unfold Builtin.«proto.unchain»
 refine Γ (wpAny_field he hed h2 ?_)
 rw[if_pos (by rfl)]
 refine Γ (Δ (Δ ?_))
 refine Γ ?_
 have:=@wpAny_setField (model prog w) A E s n on vn 2 (.ref e) (λZ s'=>wpAny (model prog w) A (throw (.ref n):Sem α) Q E s') hn hnd hns (wpAny_throw h)
 exact this
theorem next_tuple_end_h{it t e:Addr}{i:Nat}{items}{oe:Obj}{ve:Array Value}{Q:SP (Option Value)}(hh:A.handled=some (.ref e))(he:s.heap.get? e=some oe)(hed:oe.data=.fields ve)(h2:ve[2]?=some .none)(hei:e≠it)
  (hit:IsTupIter s.heap it t i) (ht:IsTup s.heap t items) (hx:items[i]?=none)
  (hQ:∀h',Heap.ExtBut it s.heap h'->Q none {s with heap:=h'}):wpAny (model prog w) A (pyNext (.ref it)) Q E s:=by
 obtain ⟨o,ho,hc,hd⟩:=id hit
 obtain ⟨ol,hol,_,nl,hdl⟩:=ht
 unfold pyNext
 refine Γ (wpAny_attempt (wpAny_callSpecial?_slot (name:=Str.ofString "__next__") hit.typeIs slot_tupleiter_next
  (wpAny_call_entry slot_tupleiter_next hit.typeIs entry_tupleiter_next ?_ (args_tupleiter_next _))))
 show wpAny _ _ (field (.ref it) 0>>=_) _ _ s
 refine Γ (wpAny_field ho hd (x:=.ref t) rfl ?_)
 rw[if_neg (show ¬((Value.ref t==Value.none)=true)from Ϝ)]
 show wpAny _ _ (field (.ref it) 1>>=_) _ _ s
 refine Γ (wpAny_field ho hd (x:=.int i 0) rfl ?_)
 refine Γ (wpAny_seqItems hol hdl ?_)
 simp only[Int.toNat_natCast,hx]
 refine Γ (wpAny_rule (Γ (wpAny_setField ho hd (by simp) ?_)))
 refine Γ ?_
 simp only[newExc,newTuple]
 refine Γ (wpAny_newObj_type ?_ (by size_fits))
 refine Γ (m:=firstArgMember _ _) (wpAny_of_eq (a:=Value.none) (by first|rfl|(simp only[firstArgMember];rfl)) ?_)
 refine wpAny_newObj_type ?_ (by size_fits)
 have hes:e≠s.heap.objs.size:=Jl (ϱ he)
 have he':=(χ s.heap (Obj.mapFields λx=>x.setIfInBounds 0 Value.none) (Ne.symm hei)).trans he
 refine raiseNew_handled (A:=A.in1) (e:=e) (oe:=oe) (ve:=ve) hh ?_ (ϟ _ rfl) rfl (by simp;lia) ?_ hed h2 ?_
 ·rw[Heap.size_push,Heap.size_after_update];exact Jl (Nat.lt_succ_of_lt (ϱ he))
 ·exact η _ (η _ he')
 dsimp only
 have hn:=υ (Obj.mapFields (·.setIfInBounds 2 (.ref e))) (ϟ (h:=(s.heap.update it (Obj.mapFields λx=>x.setIfInBounds 0 Value.none)).push {cls:=Value.type "tuple",data:=Data.seq [].toArray}) (o:={cls:=Value.type "StopIteration",data:=Data.fields (#[Value.ref (s.heap.update it (Obj.mapFields λx=>x.setIfInBounds 0 Value.none)).objs.size,Value.none,Value.none,Value.none,Value.bool false,Value.none]++ownMembersOf (Value.type "StopIteration") [])} ) rfl) rfl
 refine Γ (wpAny_isInstance (T:="StopIteration") (b:=true) ⟨_,hn,Obj.cls_mapFields ..⟩ isSubtype_stop ?_)
 refine Δ (hQ _ λb o' hb e'=>?_)
 have l1:=ϱ e'
 refine(χ _ _ ?_).trans (η _ (η _ ((χ _ _ (Ne.symm hb)).trans e')))
 rw[Heap.size_push,Heap.size_after_update]
 exact Nat.ne_of_gt (Nat.lt_succ_of_lt l1)
theorem unpackItems_tuple_h{t e:Addr}{items:Array Value}{oe:Obj}{ve:Array Value}{Q:SP (List Value)}(hh:A.handled=some (.ref e))(he:s.heap.get? e=some oe)(hed:oe.data=.fields ve)(h2:ve[2]?=some .none)(ht:IsTup s.heap t items)
  (hQ:∀h',Heap.ExtBut s.heap.objs.size s.heap h'->Q items.toList {s with heap:=h'}):wpAny (model prog w) A (unpackItems (.ref t) items.size none) Q E s:=by
 have hlt:t≠s.heap.objs.size:=by obtain ⟨o,ho,_⟩:=ht;exact Jl (ϱ ho)
 have hle:e≠s.heap.objs.size:=Jl (ϱ he)
 unfold unpackItems
 refine Γ ?_
 unfold notIterableAtAll
 refine Γ (wpAny_specialOf ht.typeIs slot_tuple_iter.lookup ?_)
 refine Δ ?_
 simp only[Bool.false_eq_true,if_false]
 refine Γ (ω (iter_tuple ht ?_))
 refine Γ (ω (draw_tuple hlt items.size 0 _ _ ⟨_,ϟ _ rfl,rfl,rfl⟩ (ht.push _) (by lia) λh₁ hit₁ hs₁=>?_))
 have hall:List.take items.size (List.drop 0 items.toList)=items.toList:=by
  rw[List.drop_zero];exact List.take_of_length_le (by simp)
 rw[hall,if_neg (by simp)]
 have ht₁:IsTup h₁ t items:=(ht.push _).extBut hs₁.extBut hlt
 have he₁:h₁.get? e=some oe:=hs₁.extBut e oe hle (η _ he)
 refine Γ (ω (next_tuple_end_h hh he₁ hed h2 hle hit₁ ht₁ (by simp) λh₂ he₂=>?_))
 simp only[Option.isSome_none,Bool.false_eq_true,if_false]
 exact Δ (hQ h₂ λb o hb e=>he₂ b o hb (hs₁.extBut b o hb (η _ e)))
end Internal
namespace Internal
variable {prog:Program}{w:World}{A:Around}{E:SP Value}{R:Result->Shared->Prop}{K:Frag}{h:Heap}{g:Array GenState}{d:Drawn}{t:Nat}{os:OsState}
variable {nm q:Str}{C N:Addr}{bs bm:List Value}{hdct:Bool}{sn:List Str}{sub:List Value}{ab:Bool}{col:Option Bool}{dd:Option Addr}{k0 k1 k2 k3 k5:Option Value}
theorem ref_has{T:String}(hb:bm.contains (.type T)=true):(Value.ref C::bm).contains (.type T)=true:=by rw[List.contains_cons,hb,Bool.or_true]
theorem ref_hasnt{T:String}(hb:bm.contains (.type T)=false):(Value.ref C::bm).contains (.type T)=false:=by rw[List.contains_cons,hb];rfl
theorem exc_new{rest:List Value}(b1:bm.contains (.type "BaseException")=true)(b0:bm.contains (.type "Exception")=true)(b2:bm.contains (.type "AttributeError")=false)(b3:bm.contains (.type "NameError")=false)
  (hC:h.get? C=some (excClassObj nm q C N bs bm hdct sn sub ab col dd k0 k1 k2 k3 k5 "Exception.__new__"))
  (hq:R (.ok (.ret (.ref (h.objs.size+1)))) ⟨(h.push {cls:=.type "tuple",data:=.seq rest.toArray}).push
   {cls:=.ref C,data:=.fields #[.ref h.objs.size,.none,.none,.none,.bool false,.none]},g,d,t,os⟩) (hrest:rest.length<=sizeLine) :
  codeAny (model prog w) A (.builtin "Exception.__new__" ⟨.ref C::rest,[]⟩) R ⟨h,g,d,t,os⟩:=by
 have F:=PySem.F.excBase_Exception
 have hends:=F.ends
 have hcB:=ref_has (C:=C) b0
 have hcA:=ref_hasnt (C:=C) b2
 have hcN:=ref_hasnt (C:=C) b3
 refine PySem.codeAny_builtinAt F.entry ?_
 unfold Builtin.«BaseException.__new__»
 refine PySem.wpAt_bind ?_
 show PySem.wpAt _ _ _ (stack>>=_) _ _ _
 refine PySem.wpAt_bind (PySem.wpAt_stack λp below=>PySem.wpAt_of_wpAny ?_)
 wp_walk
 refine PySem.wpAt_of_wpAny ?_
 rw[F.owner]
 repeat (first|with_reducible refine wpAny_madeHere_exc F.canon hC ?_|with_reducible refine wpAny_loadPart_at hC ?_|(with_reducible refine wpAny_isSubtype_exc hC ?_;first|rw[hcB]|rw[hcA]|rw[hcN])|wp_step)
 show R _ _
 rw[Heap.size_push]
 exact hq
theorem exc_type_call{rest:List Value}{fI:Addr}{Q:Fin->Shared->Prop}(b1:bm.contains (.type "BaseException")=true)(b0:bm.contains (.type "Exception")=true)(b2:bm.contains (.type "AttributeError")=false)(b3:bm.contains (.type "NameError")=false)
  (hC:h.get? C=some (excClassObj nm q C N bs bm hdct sn sub ab col dd k0 k1 k2 k3 k5 "Exception.__new__")) (X:K.In h) (hi:findIn K (.ref C) "__init__"=some (some (.ref fI))) (hf:typeIn K (.ref fI)=some (.type "function"))
  (hq:∀h' e,Heap.MadeExcOf h h' e (.ref C) rest->
   wpAny (model prog w) A (call (.ref fI) (.ref e::rest)) (λr s'=>r=.none/\Q (.done (.ret (.ref e))) s') E ⟨h',g,d,t,os⟩) (hrest:rest.length<=sizeLine) :
  wpAny (model prog w) A (Builtin.«type.__call__» ⟨.ref C::rest,[]⟩) Q E ⟨h,g,d,t,os⟩:=by
 have F:=PySem.F.excBase_Exception
 repeat (first|with_reducible refine wpAny_loadPart_at hC ?_|with_reducible refine wpAny_madeBy_exc hC ?_|wp_step)
 refine codeAny_call_builtin_code (Code.quiet_builtin _ F.quiet) (wpAny_check_new_subU F b0 .base hC ?_)
 refine exc_new b1 b0 b2 b3 hC ?_ hrest
 show wpAny _ _ _ _ _ _
 have kp:∀b o,h.get? b=some o->((h.push {cls:=.type "tuple",data:=.seq rest.toArray}).push {cls:=.ref C,data:=.fields #[.ref h.objs.size,.none,.none,.none,.bool false,.none]}).get? b=some o:=λb o e=>
  η _ (η _ e)
 have hC₁:=kp _ _ hC
 have X₁:=X.keeps kp
 have hget:((h.push {cls:=.type "tuple",data:=.seq rest.toArray}).push
   {cls:=.ref C,data:=.fields #[.ref h.objs.size,.none,.none,.none,.bool false,.none]}).get? (h.objs.size+1)=some
   {cls:=.ref C,data:=.fields #[.ref h.objs.size,.none,.none,.none,.bool false,.none]}:=by heap_get
 have hcC:(Value.ref C::bm).contains (.ref C)=true:=by simp
 unfold isInstance
 repeat (first|with_reducible refine wpAny_loadPart_at hget ?_|(with_reducible refine wpAny_isSubtype_exc hC₁ ?_;rw[hcC])|wp_step)
 show wpAny _ _ (typeLookup (.ref C) _) _ _ _
 refine(looks_findIn (M:=model prog w) X₁ hi).at ?_
 refine ω (Γ ((bind_fn (M:=model prog w) X₁ _ hf).at ?_))
 refine Γ (ι (hq _ (h.objs.size+1) ⟨kp,Heap.get?_none_of_le (Nat.le_succ _),h.objs.size,hget,Heap.get?_none_of_le (Ϙ _),η _ (Heap.get?_push_at rfl rfl)⟩) (λr s' hr=>?_) λZ Z x=>x)
 obtain ⟨rfl,hQ⟩:=hr
 refine Δ ?_
 show wpAny _ _ (ret (Value.ref (h.objs.size+1))) _ _ _
 exact Δ hQ
theorem exc_call{rest:List Value}{fI:Addr}{Q:SP Value}(b1:bm.contains (.type "BaseException")=true)(b0:bm.contains (.type "Exception")=true)(b2:bm.contains (.type "AttributeError")=false)(b3:bm.contains (.type "NameError")=false)
  (hC:h.get? C=some (excClassObj nm q C N bs bm hdct sn sub ab col dd k0 k1 k2 k3 k5 "Exception.__new__")) (X:K.In h) (hi:findIn K (.ref C) "__init__"=some (some (.ref fI))) (hf:typeIn K (.ref fI)=some (.type "function"))
  (hq:∀h' e,Heap.MadeExcOf h h' e (.ref C) rest->
   wpAny (model prog w) (A.under (.builtin "type.__call__" ⟨.ref C::rest,[]⟩)) (call (.ref fI) (.ref e::rest)) (λr s'=>r=.none/\Q (.ref e) s') E ⟨h',g,d,t,os⟩) (hrest:rest.length<=sizeLine) :
  wpAny (model prog w) A (call (.ref C) rest) Q E ⟨h,g,d,t,os⟩:=by
 have f1:=tc_lookup
 have f2:=tc_bind (.ref C)
 have hT:(⟨h,g,d,t,os⟩:Shared).TypeIs (.ref C) "type":=⟨_,hC,rfl⟩
 refine wpAny_call (codeAny_of_tree ?_)
 show wpAny _ _ (callAny (.ref C) _) _ _ _
 repeat (any_goals (first|assumption|with_reducible refine wpAny_loadPart_at hC ?_|wp_step))
 refine⟨rfl,?_⟩
 refine codeAny_call_builtin_at (Code.quiet_builtin _ (by decide +kernel)) entry_typeCall (wpAny_check_type_call_sub hC (exc_type_call b1 b0 b2 b3 hC X hi hf (λh' e hm=>?_) hrest))
 exact hq h' e hm
theorem exc_check_init{M:Model}{e:Addr}{oe:Obj}{rest:List Value}{Q:SP Unit}(b0:bm.contains (.type "Exception")=true)
  (hC:h.get? C=some (excClassObj nm q C N bs bm hdct sn sub ab col dd k0 k1 k2 k3 k5 "Exception.__new__")) (he:h.get? e=some oe) (hcls:oe.cls=.ref C) (hq:Q () ⟨h,g,d,t,os⟩) :
  wpAny M A (checkBuiltinCall "Exception.__init__" ⟨.ref e::rest,[]⟩) Q E ⟨h,g,d,t,os⟩:=by
 have F:=PySem.F.excBase_Exception
 have hcB:=ref_has (C:=C) b0
 have hshort:=F.noStar
 simp only[checkBuiltinCall,F.initKind,F.initSplit,F.initRow]
 repeat (first|(with_reducible refine wpAny_loadPart_at he ?_;rw[hcls])|with_reducible refine wpAny_loadPart_at hC ?_|(with_reducible refine wpAny_isSubtype_exc hC ?_;rw[hcB])|wp_step)
 refine wpAny_onRaise ?_
 rw[show ∀(a b:String) (n:Nat),Bind.check ⟨.positional,"*","Exception",.self,[⟨"args",.varPos,false⟩]⟩ a b n (List.map (λx=>x.fst) ({pos:=Value.ref e::rest}:Args).kw)=pure ()from
  λa b n=>check_star_args _ _ _ _ _ _]
 exact Δ hq
theorem exc_init{x:Addr}{ox:Obj}{v:Value}{vs:Array Value}{Q:SP Value}(b0:bm.contains (.type "Exception")=true)
  (hC:h.get? C=some (excClassObj nm q C N bs bm hdct sn sub ab col dd k0 k1 k2 k3 k5 "Exception.__new__")) (hx:h.get? x=some ox) (hcls:ox.cls=.ref C) (hd:ox.data=.fields vs) (h6:vs.size=6)
  (hq:∀h',(∀b o,b≠x->h.get? b=some o->h'.get? b=some o)->(∃v0,h'.get? x=some (ox.mapFields (·.setIfInBounds 0 v0)))->Q .none ⟨h',g,d,t,os⟩) :
  wpAny (model prog w) A (call (.builtin "Exception.__init__") [.ref x,v]) Q E ⟨h,g,d,t,os⟩:=by
 have F:=PySem.F.excCall_Exception
 have lt:=ϱ hx
 refine wpAny_call (codeAny_call_builtin F.init.plain F.initEntry (exc_check_init b0 hC hx hcls ?_))
 unfold Builtin.«BaseException.__init__»
 dsimp only
 rw[if_neg (by simp)]
 unfold Builtin.BaseException.bexcPut newTuple
 refine Γ (wpAny_newObj_type ?_ (by size_fits))
 have hx₁:=η (h:=h) {cls:=.type "tuple",data:=.seq [v].toArray} hx
 have h0:0<vs.size:=by lia
 refine Γ (Γ (wpAny_field hx₁ hd (Λ h0) (Γ (wpAny_setField hx₁ hd h0 ?_))))
 have fin:=hq ((h.push {cls:=.type "tuple",data:=.seq [v].toArray}).update x (Obj.mapFields (·.setIfInBounds 0 (.ref h.objs.size)))) (λb o hb e=>(χ _ _ (Ne.symm hb)).trans (η _ e)) ⟨_,υ _ hx₁ (Obj.isFreed_of_fields (Obj.data_mapFields hd _))⟩
 split
 ·exact wpAny_letGo (Δ fin)
 ·exact Δ (Δ fin)
end Internal
namespace Internal
variable {K:Frag}{C:Nat}{x:Str}{α:Type}{a:Nat}{P:Params}{D:Prop}
def attChk(K:Frag)(p:Nat×Str):Bool:=plainGet K p.1 p.2&&hasDictIn K p.1&&decide (findIn K (.ref p.1) p.2=some none)&&decide (findIn K (.ref p.1) "__setattr__"=some (some (.builtin "object.__setattr__")))&&plainOver K p.1
def eatChk(K:Frag)(p:Nat×Str):Bool:=JN p.1 t_exs&&decide (findIn K (.ref p.1) p.2=some none)&&hasDictIn K p.1
def mkChk(K:Frag)(p:Nat×Nat):Bool:=decide (findIn K (.ref p.1) "__init__"=some (some (.ref p.2)))&&decide (typeIn K (.ref p.2)=some (.type "function"))&&(JN p.1 t_exs||makesIn K p.1)
def meChk(K:Frag)(p:Nat×Str×Nat):Bool:=decide (findIn K (.ref p.1) "__getattribute__"=some (some (.builtin "object.__getattribute__")))&&decide (findIn K (.ref p.1) "__getattr__"=some none)&&decide (findIn K (.ref p.1) p.2.1=some (some (.ref p.2.2)))&&decide (typeIn K (.ref p.2.2)=some (.type "function"))
def codeQ(o:Obj):Option Str:=match o.data with|.fields vs=>(match (vs[1]?:Option Value)with|some (.str q _)=>some q|_=>none)|_=>none
def codeOk(P:Params)(a:Nat):Bool:=Option.rec false (λfi=>Option.rec false (λo=>Option.rec false (λq=>sEq q fi.qual) (codeQ o)) (WD fi.code (MineH.KR P))) (fnP P a)
def slotsOk(l:List (Option Value)):Bool:=Nat.beq l.length 6&&decide (l[4]?=some (some (.builtin "Exception.__new__")))
theorem WR{β:Type}{l:List β}{n:Nat}(h:l.length=n+1)(k:∀a r,l=a::r->r.length=n->D):D:=by
 induction l using c_ with
 |nil=>exact Nat.noConfusion h
 |cons a r=>exact k a r rfl (Nat.succ.inj h)
theorem slots_of{l:List (Option Value)}(h:slotsOk l=true)(k:∀k0 k1 k2 k3 k5,l=[k0,k1,k2,k3,some (.builtin "Exception.__new__"),k5]->D):D:=
 WR (nq ((Bool.and_eq_true _ _).mp h).1) λk0 r e0 h0=>WR h0 λk1 r1 e1 h1=>WR h1 λk2 r2 e2 h2=>WR h2 λk3 r3 e3 h3=>WR h3 λk4 r4 e4 h4=>WR h4 λk5 r5 e5 h5=>by
  cases List.length_eq_zero_iff.mp h5;subst e5;subst e4;subst e3;subst e2;subst e1;subst e0;exact k k0 k1 k2 k3 k5 (by rw[oi (κ ((Bool.and_eq_true _ _).mp h).2)])
def exCd(C:Nat)(cd:ClassData):Bool:=match cd.mro with|.ref c::bm=>Nat.beq c C&&excMro bm&&!cd.hasDel|_=>false
def clsO(o:Obj):Option ClassData:=match o.data with|.cls cd=>some cd|_=>none
def exObj(K:Frag)(C:Nat):Bool:=Option.rec false (λo=>o.cls==.type "type"&&slotsOk o.slots.toList&&Option.rec false (exCd C) (clsO o)) (WD C K)
def exChk(K:Frag)(C:Nat):Bool:=exObj K C&&(clsIn K C).any (λcd=>excMro cd.mro&&cd.hasDict)&&decide (mroIn K C (.type "BaseException")=some true)&&decide (findIn K (.ref C) "__getattribute__"=some (some (.builtin "BaseException.__getattribute__")))&&
 decide (findIn K (.ref C) "__getattr__"=some none)&&decide (findIn K (.ref C) "__setattr__"=some (some (.builtin "object.__setattr__")))
def valB(f:CFound):Option String:=match f with|.val (.builtin n)=>some n|_=>none
def exIB(K:Frag):Bool:=Option.rec false (λf=>Option.rec false (λn=>decide (n="Exception.__init__")) (valB f)) (findCls K (.type "Exception") (.type "type") "__init__")
theorem c_att(P:Params):t_att.all (attChk (MineH.KR P))=true:=by rfl'
theorem c_eat(P:Params):t_eat.all (eatChk (MineH.KR P))=true:=by rfl'
theorem c_mk(P:Params):t_mkr.all (mkChk (MineH.KR P))=true:=by rfl'
theorem c_me(P:Params):t_me.all (meChk (MineH.KR P))=true:=by rfl'
theorem c_fn(P:Params):t_fns.all (codeOk P)=true:=by rfl'
theorem c_kp(P:Params):(t_kps.all λa=>keepIn (MineH.KR P) (.ref a))=true:=by rfl'
theorem c_ex(P:Params):t_exs.all (exChk (MineH.KR P))=true:=by rfl'
theorem c_exI(P:Params):exIB (MineH.KR P)=true:=by rfl'
theorem memN_of:∀{l:List Nat},JN a l=true->a∈l:=by
 intro v0_;induction v0_ with
 |nil=>
  intro h;exact nb h
 |cons b r ih=>
  intro h;change (Bool.rec (JN a r) true (Nat.beq a b):Bool)=true at h;induction q:Nat.beq a b with
  |true=>rw[nq q];exact .head _
  |false=>rw[q]at h;exact .tail _ (ih h)
theorem lookN_of{v:α}:∀{l:List (Nat×α)},JE a l=some v->(a,v)∈l:=by
 intro v0_;induction v0_ with
 |nil=>
  intro h;exact no h
 |cons z9 r ih=>
  intro h;obtain ⟨b,w⟩:=z9;change (Bool.rec (JE a r) (some w) (Nat.beq a b):Option α)=some v at h;induction q:Nat.beq a b with
  |true=>rw[q]at h;rw[nq q,oi h];exact .head _
  |false=>rw[q]at h;exact .tail _ (ih h)
theorem lookM_of{v:α}:∀{l:List (Nat×Str×α)},lookM C x l=some v->(C,x,v)∈l:=by
 intro v0_;induction v0_ with
 |nil=>
  intro h;exact no h
 |cons z9 r ih=>
  intro h;obtain ⟨b,y,w⟩:=z9;change (Bool.rec (lookM C x r) (Bool.rec (lookM C x r) (some w) (sEq x y)) (Nat.beq C b):Option α)=some v at h;induction q:Nat.beq C b with
  |false=>rw[q]at h;exact .tail _ (ih h)
  |true=>
   rw[q]at h;induction q2:sEq x y with
   |false=>rw[q2]at h;exact .tail _ (ih h)
   |true=>rw[q2]at h;rw[nq q,Jw q2,oi h];exact .head _
theorem lookP_of:∀{l:List (Nat×Str)},lookP C x l=true->(C,x)∈l:=by
 intro v0_;induction v0_ with
 |nil=>
  intro h;exact nb h
 |cons z9 r ih=>
  intro h;obtain ⟨b,y⟩:=z9;change (Bool.rec (lookP C x r) (Bool.rec (lookP C x r) true (sEq x y)) (Nat.beq C b):Bool)=true at h;induction q:Nat.beq C b with
  |false=>rw[q]at h;exact .tail _ (ih h)
  |true=>
   rw[q]at h;induction q2:sEq x y with
   |false=>rw[q2]at h;exact .tail _ (ih h)
   |true=>rw[nq q,Jw q2];exact .head _
theorem all_of{p:α->Bool}{l:List α}(h:l.all p=true){a:α}(m:a∈l):p a=true:=al_ h a m
theorem and_of{a b:Bool}(h:(a&&b)=true):a=true/\b=true:=(Bool.and_eq_true a b).mp h
theorem Jr{a b:Bool}(h:(a&&b)=true)(k:a=true->b=true->D):D:=k (and_of h).1 (and_of h).2
structure AttF(K:Frag)(C:Nat)(x:Str):Prop where
 plain:plainGet K C x=true
 dict:hasDictIn K C=true
 none:findIn K (.ref C) x=some none
 set:findIn K (.ref C) "__setattr__"=some (some (.builtin "object.__setattr__"))
 over:plainOver K C=true
 take:takerIn K C x=some Option.none
theorem att_of(h:attP C x=true):AttF (MineH.KR P) C x:=
 Jr (all_of (c_att P) (lookP_of h)) λh h5=>Jr h λh h4=>Jr h λh h3=>Jr h λh1 h2=>⟨h1,h2,κ h3,κ h4,h5,by unfold takerIn;rw[κ h3];rfl⟩
structure ExcF(K:Frag)(C:Nat):Prop where
 k:ExcK K C
 obj:∀{D:Prop},(∀nm q N bs bm hdct sn sub ab col dd k0 k1 k2 k3 k5,K.lookup C=some (excClassObj nm q C N bs bm hdct sn sub ab col dd k0 k1 k2 k3 k5 "Exception.__new__")->excMro bm=true->D)->D
theorem exCd_of{C:Nat}{cd:ClassData}(h:exCd C cd=true):∃bm,cd.mro=.ref C::bm/\excMro bm=true/\cd.hasDel=false:=by
 unfold exCd at h;induction hm:cd.mro using c_ with
 |nil=>rw[hm]at h;exact nb h
 |cons v bm=>
  rw[hm]at h;clear hm;revert h;induction v<;>first|exact nb|exactλh=>Jr h λh h3=>Jr h λh1 h2=>⟨bm,by rw[nq h1],h2,by
   induction q:cd.hasDel with
   |false=>rfl
   |true=>rw[q]at h3;exact nb h3⟩
theorem exc_of(h:excP C=true):ExcF (MineH.KR P) C:=
 Jr (all_of (c_ex P) (memN_of h)) λh h6=>Jr h λh h5=>Jr h λh h4=>Jr h λh h3=>Jr h λh1 h2=>by
  refine⟨⟨?_,κ h3,κ h4,κ h5,κ h6⟩,@λD=>?_⟩
  ·induction q:clsIn (MineH.KR P) C with
   |none=>rw[q]at h2;exact nb h2
   |some cd=>rw[q]at h2;exact⟨cd,rfl,and_of h2⟩
  ·unfold exObj at h1
   rw[findA_eq]at h1;induction q:(MineH.KR P).lookup C with
   |none=>rw[q]at h1;exact nb h1
   |some o=>
    rw[q]at h1;obtain ⟨c,dd,data,sl⟩:=o;refine Jr h1 λh1 r3=>Jr h1 λr1 r2=>?_;induction data with
    |cls cd=>
     obtain ⟨nm,bs,mro,N,qn,hdct,sn,sub,ab,col,hdel⟩:=cd;obtain ⟨bm,hm,r4,r5⟩:=exCd_of r3;refine slots_of r2 λk0 k1 k2 k3 k5 hs=>?_;refineλg=>g nm qn N bs bm hdct sn sub ab col dd k0 k1 k2 k3 k5 ?_ r4;rw[show c=_ from beq_iff_eq.mp r1,show sl=#[k0,k1,k2,k3,some (.builtin "Exception.__new__"),k5]from Array.toList_inj.mp hs,show mro=_ from hm,show hdel=_ from r5]
    |_=>exact nb r3
structure EatF(K:Frag)(C:Nat)(x:Str):Prop where
 e:ExcF K C
 none:findIn K (.ref C) x=some none
 dict:hasDictIn K C=true
theorem eat_of(h:eatP C x=true):EatF (MineH.KR P) C x:=Jr (all_of (c_eat P) (lookP_of h)) λh h3=>Jr h λh1 h2=>⟨exc_of h1,κ h2,h3⟩
structure MkF(K:Frag)(C f:Nat):Prop where
 init:findIn K (.ref C) "__init__"=some (some (.ref f))
 fn:typeIn K (.ref f)=some (.type "function")
 mks:excP C=false->makesIn K C=true
theorem mk_of{f:Nat}(h:JE C t_mkr=some f):MkF (MineH.KR P) C f:=Jr (all_of (c_mk P) (lookN_of h)) λh h3=>Jr h λh1 h2=>⟨κ h1,κ h2,λe=>by
 have e:JN C t_exs=false:=e;rw[e]at h3;exact h3⟩
structure MeF(K:Frag)(C:Nat)(x:Str)(f:Nat):Prop where
 ga:findIn K (.ref C) "__getattribute__"=some (some (.builtin "object.__getattribute__"))
 gh:findIn K (.ref C) "__getattr__"=some none
 at_:findIn K (.ref C) x=some (some (.ref f))
 fn:typeIn K (.ref f)=some (.type "function")
theorem me_of{f:Nat}(h:lookM C x t_me=some f):MeF (MineH.KR P) C x f:=Jr (all_of (c_me P) (lookM_of h)) λh h4=>Jr h λh h3=>Jr h λh1 h2=>⟨κ h1,κ h2,κ h3,κ h4⟩
theorem kp_of(h:JN a t_kps=true):keepIn (MineH.KR P) (.ref a)=true:=all_of (c_kp P) (memN_of h)
theorem valB_of{f:CFound}{n:String}(h:valB f=some n):f=.val (.builtin n):=WS (c:=λn=>CFound.val (.builtin n)) (by
 clear h;induction f with
 |val v=>induction v<;>exact rfl
 |_=>exact rfl) h
theorem exI_of:findCls (MineH.KR P) (.type "Exception") (.type "type") "__init__"=some (.val (.builtin "Exception.__init__")):=by
 have h:=c_exI P;unfold exIB at h;induction q:findCls (MineH.KR P) (.type "Exception") (.type "type") "__init__" with
 |none=>rw[q]at h;exact nb h
 |some f=>
  rw[q]at h;change (Option.rec false (λn=>decide (n="Exception.__init__")) (valB f):Bool)=true at h;induction hv:valB f with
  |none=>rw[hv]at h;exact nb h
  |some n=>rw[hv]at h;rw[valB_of hv,κ h]
theorem WX{x:Str}:∀{l:List Str},x∈l->JU x l=true
 |y::r,h=>by
  show (Bool.rec (JU x r) true (sEq y x):Bool)=true;induction q:sEq y x with
  |true=>rfl
  |false=>exact(mc_ h).elim (λe=>absurd e.symm (Yb q)) WX
theorem Zn:∀{l:List Str},Yd l=true->l.Nodup:=by
 intro v0_;induction v0_ with
 |nil=>
  intro Z;exact ϑ
 |cons x r ih=>
  intro h;change (Bool.rec (Yd r) false (JU x r):Bool)=true at h;induction q:JU x r with
  |true=>rw[q]at h;exact nb h
  |false=>rw[q]at h;exact List.nodup_cons.mpr ⟨λm=>Bool.noConfusion (q.symm.trans (WX m)),ih h⟩
structure FnF(om:Om)(fi:FnI)(ob:Obj)(fd:FuncData):Prop where
 data:ob.data=.func fd
 body:fd.body=.stmts fi.body
 sc:fd.scope=fi.sc
 kind:fi.sc.kind=.function
 co:fi.sc.isCoroutine=false
 ge:fi.sc.isGenerator=false
 gl:fd.globals=mainGlobals
 bi:fd.builtins=builtinsNs
 cl:fd.closure=[]
 q:fd.qualname=fi.qual
 code:fd.code=.ref fi.code
 ps:∃as kd dd,fd.params=⟨[],as,none,[],kd,none,dd⟩/\as.map (·.arg)=fi.ps
 nd:fi.ps.Nodup
 df:∃es:List Value,(∀nm L,Jq nm L fi.df es)/\((fd.defaults=.none/\es=[])\/∃T o n,fd.defaults=.ref T/\om.hb.get? T=some o/\o.data=.seq es.toArray n)
 rec_:om.hb.CodeRec fd.code fd.qualname
theorem seqD_of{d:Data}{l:List Value}(h:seqD d=some l):∃n,d=.seq l.toArray n:=by
 revert h;induction d<;>first|exact no|exactλh=>⟨_,by rw[<-oi h,Array.toArray_toList]⟩
theorem funO_of{o:Obj}{fd:FuncData}(h:funO o=some fd):o.data=.func fd:=by
 induction o with
 |mk c di da sl=>exact WS (c:=Data.func) (v:=funO ⟨c,di,da,sl⟩) (by clear h;induction da<;>exact rfl) h
theorem refOf_of{v:Value}{a:Addr}(h:refOf v=some a):v=.ref a:=WS (c:=Value.ref) (by clear h;induction v<;>exact rfl) h
theorem strs_of_{v:Option Value}{q:Str}(h:(match v with|some (.str q _)=>some q|_=>none)=some q):∃t,v=some (.str q t):=by
 revert h;induction v with
 |none=>exact no
 |some v=>induction v<;>first|exact no|exactλh=>⟨_,by rw[<-oi h]⟩
theorem codeQ_of{o:Obj}{q:Str}(h:codeQ o=some q):∃vs t,o.data=.fields vs/\vs[1]?=some (.str q t):=by
 induction o with
 |mk c di da sl=>
  revert h;induction da<;>first|exact no|exactλh=>(strs_of_ h).elim λt e=>⟨_,t,rfl,e⟩
theorem stmtsO_of{fd:FuncData}{b:List Stmt×List Arg}(h:stmtsO fd=some b):fd.closure=[]/\(∃kd dd,fd.params=⟨[],b.2,none,[],kd,none,dd⟩)/\fd.body=.stmts b.1:=by
 induction fd with
 |mk nm q ps bd sc gl cl=>
  cases ps with
  |mk po as va ko kd kw dd=>
   revert h;induction bd with
   |stmts ss=>induction po using c_ with
    |cons _ _=>exact no
    |nil=>induction va with
     |some _=>exact no
     |none=>induction ko using c_ with
      |cons _ _=>exact no
      |nil=>induction kw with
       |some _=>exact no
       |none=>induction cl using c_ with
        |cons _ _=>exact no
        |nil=>exactλh=>(oi h)▸⟨rfl,⟨_,_,rfl⟩,rfl⟩
   |_=>exact no
theorem dfOf_of{K:Frag}{v:Value}{df:List AV}(h:dfOf K v=some df):(v=.none/\df=[])\/∃T,v=.ref T/\obO (WD T K) (λo=>obO (seqOf o) avsOf)=some df:=by
 revert h;induction v<;>first|exact no|exactλh=>.inl ⟨rfl,(oi h).symm⟩|exactλh=>.inr ⟨_,rfl,h⟩
theorem fn_of(om:Om){fi:FnI}(h:fnP om.w.params a=some fi)(k:∀ob fd,om.hb.get? a=some ob->FnF om fi ob fd->D):D:=
 Jt h λhm h'=>Jo h' λo ho h'=>Jo h' λfd hf h'=>Jo h' λb hb h'=>Jo h' λc hc h'=>Jo h' λdf hd h'=>Jt h' λhk h'=>by
  have hco:=all_of (c_fn om.w.params) (memN_of hm);unfold codeOk at hco;rw[h]at hco;cases h';refine Jr hk λhk k6=>Jr hk λhk k5=>Jr hk λhk k4=>Jr hk λhk k3=>Jr hk λk1 k2=>?_;have hdat:=funO_of hf;obtain ⟨cl,pr,bo⟩:=stmtsO_of hb;have hcd:=refOf_of hc;obtain ⟨kd,dd,pr⟩:=pr;refine k o fd (om.at_ ho) ⟨hdat,bo,rfl,κ k4,by cases q:fd.scope.isCoroutine<;>first|rfl|(rw[q]at k5;exact nb k5),by cases q:fd.scope.isGenerator<;>first|rfl|(rw[q]at k6;exact nb k6),nq k1,nq k2,cl,rfl,hcd,⟨b.2,kd,dd,pr,rfl⟩,by rw[pr]at k3;exact Zn k3,?_,?_⟩
  ·exact(dfOf_of hd).elim (λq=>⟨[],λZ Z=>q.2▸Jq.nil,.inl ⟨q.1,rfl⟩⟩) λq=>q.elim λT q=>Jo q.2 λo' ho' hd=>Jo hd λus hu hd=>(seqD_of hu).elim λn hn=>⟨us,λnm L=>avsOf_den nm L hd,.inr ⟨T,o',n,q.1,om.at_ ho',hn⟩⟩
  ·change (Option.rec false (λo=>Option.rec false (λq=>sEq q fd.qualname) (codeQ o)) (WD c (MineH.KR om.w.params)):Bool)=true at hco
   induction q:WD c (MineH.KR om.w.params)with
   |none=>rw[q]at hco;exact nb hco
   |some o2=>
    rw[q]at hco;change (Option.rec false (λq=>sEq q fd.qualname) (codeQ o2):Bool)=true at hco;induction hq:codeQ o2 with
    |none=>rw[hq]at hco;exact nb hco
    |some q2=>
     rw[hq]at hco;exact(codeQ_of hq).elim λvs r=>r.elim λt r=>⟨c,o2,vs,t,hcd,om.at_ q,r.1,Jw hco▸r.2⟩
variable {ν:Type}
def addIf(sl:List (Str×ν))(p:Str×ν):List (Str×ν):=if (sl.lookup p.1).isNone then sl++[p]else sl
theorem addIf_look(sl:List (Str×ν))(p:Str×ν)(n:Str):(addIf sl p).lookup n=(sl.lookup n).or (if n=p.1 then some p.2 else none):=by
 unfold addIf;split
 ·rename_i h
  rw[List.lookup_append,Jd];by_cases e:n=p.1
  ·subst e;simp
  ·rw[show (n==p.1)=false from beq_eq_false_iff_ne.mpr e,if_neg e];rfl
 ·rename_i h
  by_cases e:n=p.1
  ·subst e
   induction q:sl.lookup p.1 with
   |none=>rw[q]at h;exact absurd rfl h
   |some v=>rfl
  ·rw[if_neg e,Option.or_none]
theorem fold_look:∀(l sl:List (Str×ν)) (n:Str),(l.foldl addIf sl).lookup n=(sl.lookup n).or (l.lookup n):=by
 intro v0_;induction v0_ with
 |nil=>
  intro sl n;simp
 |cons p l ih=>
  intro sl n;rw[List.foldl_cons,ih ,addIf_look,Option.or_assoc,Jd];by_cases e:n=p.1
  ·subst e;simp
  ·rw[if_neg e,show (n==p.1)=false from beq_eq_false_iff_ne.mpr e,Option.none_or]
theorem filt_eq(f g:Str->Option ν):∀(ps:List Str),(∀n∈ps,f n=g n)->(ps.filterMap λn=>(f n).map (n,·))=ps.filterMap λn=>(g n).map (n,·):=by
 intro v0_;induction v0_ with
 |nil=>
  intro Z;exact rfl
 |cons p ps ih=>
  intro h;rw[List.filterMap_cons,List.filterMap_cons,h p List.mem_cons_self,ih λn hn=>h n (Ji _ hn)]
theorem zip_filt:∀(ps:List Str) (ds:List ν),ps.Nodup->ds.length=ps.length->(ps.filterMap λn=>((ps.zip ds).lookup n).map (n,·))=ps.zip ds:=by
 intro ps;induction ps with
 |nil=>exactλZ Z Z=>rfl
 |cons p ps ih=>
  intro ds nd h;induction ds using c_ with
  |nil=>exact nomatch h
  |cons d ds=>
   have q:=List.nodup_cons.mp nd;rw[List.zip_cons_cons,List.filterMap_cons];simp only[Jd,Jm,Option.map_some];rw[filt_eq (g:=λn=>(ps.zip ds).lookup n) _ ps λn hn=>by
    rw[show (n==p)=false from beq_eq_false_iff_ne.mpr λe=>q.1 (e▸hn)]]
   rw[ih ds q.2 (Nat.succ.inj h)]
theorem bind_list:∀(ps:List Str) (vs ds:List ν) (f:Nat),ps.Nodup->f+ds.length=ps.length->f<=vs.length->vs.length<=ps.length->
  (ps.filterMap λn=>(((ps.zip vs).lookup n).or (((ps.drop f).zip ds).lookup n)).map (n,·))=ps.zip (vs++ds.drop (vs.length-f)):=by
 intro ps
 induction ps with
 |nil=>exactλZ Z Z Z Z Z Z=>rfl
 |cons p ps ih=>
  intro vs ds f nd h1 h2 h3
  induction vs using c_ with
  |nil=>
   rw[Nat.le_zero.mp h2]at h1 ⊢
   exact zip_filt _ _ nd ((Nat.zero_add _).symm.trans h1)
  |cons v vs=>
   have q:=List.nodup_cons.mp nd
   have ne:∀n∈ps,(n==p)=false:=λn hn=>beq_eq_false_iff_ne.mpr λe=>q.1 (e▸hn)
   rw[List.zip_cons_cons,List.filterMap_cons]
   simp only[Jd,Jm,Option.some_or,Option.map_some,List.cons_append,List.zip_cons_cons]
   congr 1
   induction f using Nat.casesAuxOn with
   |zero=>
    induction ds using c_ with
    |nil=>exact nomatch h1
    |cons d ds=>
     refine Eq.trans ?_ (ih vs ds 0 q.2 (by rw[Nat.zero_add];exact Nat.succ.inj ((Nat.zero_add _).symm.trans h1)) (Nat.zero_le _) (Nat.le_of_succ_le_succ h3))
     exact filt_eq _ _ ps λn hn=>by rw[ne n hn,List.drop_zero,List.drop_zero,List.zip_cons_cons,Jd,ne n hn]
   |succ f=>
    have ih:=ih vs ds f q.2 (Nat.succ.inj ((Nat.succ_add f ds.length).symm.trans h1)) (Nat.le_of_succ_le_succ h2) (Nat.le_of_succ_le_succ h3)
    rw[Υ,Nat.add_sub_add_right,<-ih]
    exact filt_eq _ _ ps λn hn=>by rw[ne n hn];rfl
theorem look_zip_none{ν:Type}:∀(ps:List Str) (vs:List ν) (f:Nat),f<=vs.length->((ps.take f).filter λn=>((ps.zip vs).lookup n).isNone)=[]:=by
 intro ps;induction ps with
 |nil=>intro vs f Z;rw[List.take_nil];rfl
 |cons p ps ih=>
  intro vs f h;induction f using Nat.casesAuxOn with
  |zero=>rfl
  |succ f=>
   induction vs using c_ with
   |nil=>exact absurd h (Nat.not_succ_le_zero f)
   |cons v vs=>
    rw[List.take_succ_cons,List.zip_cons_cons,List.filter_eq_nil_iff];intro n hn;rw[Jd];induction e:n==p with
    |true=>exact nofun
    |false=>exact List.filter_eq_nil_iff.mp (ih vs f (Nat.le_of_succ_le_succ h)) n ((mc_ hn).elim (λz=>absurd (beq_iff_eq.mpr z) (by rw[e];exact nofun)) id)
theorem forIn_fold{α β:Type}(l:List α)(g:β->α->β)(f:α->β->Sem (ForInStep β))(hf:∀x b,f x b=pure (.yield (g b x)))(b:β):forIn l b f=pure (l.foldl g b):=by
 induction l generalizing b with
 |nil=>rfl
 |cons x l ih=>rw[List.forIn_cons,hf,pure_bind];exact ih _
theorem bind_eq{as:List Arg}{fd:FuncData}{kd:List (Option Expr)}{dd:List Expr}(hp:fd.params=⟨[],as,none,[],kd,none,dd⟩)(vs:List Value):
  ∃X1 X2:Option (Array Value)->Sem (List (Str×Value)),bindArgs fd ⟨vs,[]⟩=(seqItems? fd.defaults>>=λx=>
   if (decide (vs.length>(as.map Arg.arg).length)&&true)=true then X1 x else
   if (!((((as.map Arg.arg).take ((as.map Arg.arg).length-((x.getD #[]).toList.drop ((x.getD #[]).toList.length-(as.map Arg.arg).length)).length)).filter λn=>(((as.map Arg.arg).zip vs).lookup n).isNone)).isEmpty)=true then X2 x else
   (forIn (((as.map Arg.arg).drop ((as.map Arg.arg).length-((x.getD #[]).toList.drop ((x.getD #[]).toList.length-(as.map Arg.arg).length)).length)).zip ((x.getD #[]).toList.drop ((x.getD #[]).toList.length-(as.map Arg.arg).length))) ((as.map Arg.arg).zip vs) (λp sl=>if (sl.lookup p.1).isNone=true then pure (.yield (sl++[p]))else pure (.yield sl))>>=λsl=>pure ((as.map Arg.arg++[]).filterMap λn=>(sl.lookup n).map (n,·)))):=by
 cases fd
 cases hp
 exact⟨λx=>_,λx=>_,rfl⟩
theorem bind_run{M:Model}{A:Around}{Q:List (Str×Value)->Shared->Prop}{E:SP Value}{s:Shared}{ps:List Str}{vs ds:List Value}{X1 X2:Sem (List (Str×Value))}(nd:ps.Nodup)(h1:ds.length<=ps.length)(h2:ps.length-ds.length<=vs.length)(h3:vs.length<=ps.length)(h:Q (bindG ps vs ds) s):
  wpAny M A (if (decide (vs.length>ps.length)&&true)=true then X1 else
   if (!((ps.take (ps.length-(ds.drop (ds.length-ps.length)).length)).filter λn=>((ps.zip vs).lookup n).isNone).isEmpty)=true then X2 else
   (forIn ((ps.drop (ps.length-(ds.drop (ds.length-ps.length)).length)).zip (ds.drop (ds.length-ps.length))) (ps.zip vs) (λp sl=>if (sl.lookup p.1).isNone=true then pure (.yield (sl++[p]))else pure (.yield sl))>>=λsl=>pure ((ps++[]).filterMap λn=>(sl.lookup n).map (n,·)))) Q E s:=by
 rw[show ds.drop (ds.length-ps.length)=ds by rw[Nat.sub_eq_zero_of_le h1];rfl,if_neg (by rw[ϡ (ϖ h3)];exact Ϝ),look_zip_none ps vs _ h2,if_neg (by decide)]
 rw[forIn_fold _ addIf _ λx b=>by unfold addIf;cases (b.lookup x.1).isNone<;>rfl]
 refine Γ (Δ (Δ ?_))
 rw[List.append_nil,filt_eq _ (λn=>((ps.zip vs).lookup n).or (((ps.drop (ps.length-ds.length)).zip ds).lookup n)) _ λn Z=>fold_look _ _ n,bind_list ps vs ds _ nd (Nat.sub_add_cancel h1) h2 h3]
 exact h
theorem bind_plain{as:List Arg}{vs ds:List Value}{fd:FuncData}{kd:List (Option Expr)}{dd:List Expr}(hp:fd.params=⟨[],as,none,[],kd,none,dd⟩){s:Shared}
  (nd:(as.map (·.arg)).Nodup) (h1:ds.length<=as.length) (h2:as.length-ds.length<=vs.length) (h3:vs.length<=as.length)
  (hd:(fd.defaults=.none/\ds=[])\/∃T o n,fd.defaults=.ref T/\s.heap.get? T=some o/\o.data=.seq ds.toArray n) :
  BindsTo s fd ⟨vs,[]⟩ (bindG (as.map (·.arg)) vs ds):=by
 intro M A E Q h
 refine Classical.byContradiction λhN=>?_
 obtain ⟨X1,X2,e⟩:=bind_eq hp vs
 rw[e]at hN
 have hl:(as.map Arg.arg).length=as.length:=Ω _
 have hs:∀Q:Option (Array Value)->Shared->Prop,(∀x:Option (Array Value),(x.getD #[]).toList=ds->Q x s)->wpAny M A (seqItems? fd.defaults) Q E s:=by
  intro Q h;rcases hd with ⟨e,e'⟩|⟨T,o,n,e,ho,hod⟩
  ·rw[e];exact Δ (h _ e'.symm)
  ·rw[e];exact wpAny_seqItems ho hod (h _ rfl)
 refine hN (Γ (hs _ λx hx=>?_))
 rw[hx]
 exact bind_run nd (hl.symm▸h1) (hl.symm▸h2) (hl.symm▸h3) h
end Internal
namespace Internal
variable {B:Bd}{x y:Sit B}{α:Type}{a b:AV}{u v:Value}{c:R}{C:Prop}{i j n:Nat}{l:List AV}{Q:SP α}{E:SP Value}{q:Bool}{A:Around}{nm:Nt}{L:List Addr}{z:Str}{s:Shared}{P:Params}{es:List (Str×AV)}{ds:List DictEntry}{r:Cx->Cm->St->R}
theorem Sit.K(x:Sit B):(MineH.KR B.G.om.w.params).In x.s.heap:=λa o e=>x.base (B.G.om.X a o e)
theorem Ens.noRef:∀{es:List (Str×AV)} {ds:List DictEntry},Ens P nm L es ds->ds.any (·.refKey)=false
 |[],_,e=>e▸rfl
 |p::es,_,⟨e0,r,e,h0,hr⟩=>h0.key.elim λt hk=>by
  subst e;rw[List.any_cons,Ens.noRef hr,Bool.or_false];unfold DictEntry.refKey;rw[hk]
theorem isStr_fun(z:Str):(λd:DictEntry=>Value.isStrOf z d.key)=λd=>d.key.isStr z:=funext λd=>(isStr_of z d.key).symm
theorem Ens.getL(h:Ens P nm L es ds){v:AV}(e:look z es=some v)(k:∀u,PySem.W.getL z ds=some (some u)->Den nm L v u->C):C:=
 (h.find.1 v e).elim λd r=>k d.val (by
  have:=r.1;rw[isStr_fun]at this;unfold PySem.W.getL;rw[this]) r.2
theorem Ens.getLn(h:Ens P nm L es ds)(e:look z es=none):PySem.W.getL z ds=some none:=by
 have:=h.find.2 e;rw[isStr_fun]at this;unfold PySem.W.getL;rw[this,h.noRef];rfl
theorem handed_of(d:Den nm L a u)(h:Zo a=some b):handedIn u=true:=by
 induction a with
 |int i=>exact d.int_ λt e=>e▸rfl
 |str i=>exact d.str_ λt e=>e▸rfl
 |bytes l=>exact d.bytes_ λb t e Z=>e▸rfl
 |loc i=>exact d.loc_ λb Z e=>e▸rfl
 |sym c k=>exact d.sym_ λb e Z=>e▸rfl
 |hd c k=>exact d.hd_ λb e Z=>e▸rfl
 |ix m k=>exact d.elim λt d=>d.elim λi r=>r.1▸rfl
 |bi b=>exact no h
 |junk=>exact no h
 |_=>cases d;rfl
theorem get_inst{ad dx:Addr}{cl k:Nat}{ex:Bool}{v0:AV}{nm0:Nt}{L0:List Addr}(F:AttF (MineH.KR B.G.om.w.params) cl z)(ho:x.s.heap.get? ad=some (instObj cl dx))(hd:x.s.heap.get? dx=some (dictOf ds k))(en:Ens P nm0 L0 es ds)(hl:look z es=some v0)(hp:Zo v0=some a){Q:SP Value}
  (h:∀y t,Den nm0 L0 a y->Q y {x.s with toks:=t}):wpAny (Md B) B.A (getAttr (.ref ad) z ex) Q E x.s:=
 en.getL hl λy gl dy=>get_value x.K (show InstAt x.s.heap ad (instObj cl dx) cl (some (dictOf ds k))from ⟨ho,rfl,rfl,hd⟩) (plainGet_of F.plain).1 (findObj_own F.dict F.none rfl gl) (handed_of dy hp) (h y _ (plainV_of hp▸dy))
theorem get_exc{ad dx:Addr}{cl k:Nat}{ex:Bool}{v0:AV}{t:Option Nat}{i:Nat}{o:Obj}{vs:Array Value}{va vd:Option Addr}(F:EatF (MineH.KR B.G.om.w.params) cl z)(ho:x.s.heap.get? ad=some o)(o1:ExcP x.L cl (some i) t o vs va vd)(hdx:x.L[i]?=some dx)(hd:x.s.heap.get? dx=some (dictOf ds k))(en:Ens P B.G.nm x.L es ds)(hl:look z es=some v0)(hp:Zo v0=some a){Q:SP Value}
  (h:∀y t,x.D a y->Q y {x.s with toks:=t}):wpAny (Md B) B.A (getAttr (.ref ad) z ex) Q E x.s:=
 en.getL hl λy gl dy=>by
  have od:o.dict=some dx:=o1.d.elim λa r=>by rw[o1.dict,r.2,oi (r.1.symm.trans hdx)]
  exact excGet x.K (show InstAt x.s.heap ad o cl (some (dictOf ds k))from ⟨ho,o1.cls,by unfold notCls;rw[o1.data],by rw[od];exact hd⟩) F.e.k.ga F.e.k.gh F.e.k.sub (findObj_own F.dict F.none rfl gl) (handed_of dy hp) (h y _ (plainV_of hp▸dy))
theorem dictAtt_of{d:Nat}(e:dictAtt x.S z d=some a)(k:∀es v0,x.S.get d=some (.dict es)->look z es=some v0->Zo v0=some a->C):C:=
 Jo e λes hes e=>Jo e λv0 hl e=>Jz hes λo ho hv=>k es v0 (ZB hv▸ho) hl e
theorem attr_ok{ex:Bool}(e:attrA B.G.cx x.S a z=some b)(d:x.D a u){Q:SP Value}(h:∀y t,x.D b y->Q y {x.s with toks:=t}):wpAny (Md B) B.A (getAttr u z ex) Q E x.s:=by
 induction a with
 |loc i=>
  exact Jo e λo hg e=>d.loc_ λad ha hu=>x.own hg ha λo' ho p=>by
   subst hu;induction o with
   |inst c d=>exact Jt e λhat e=>dictAtt_of e λes v0 hd hl hp=>p.inst_ λdx hdx ho'=>x.own hd hdx λo2 ho2 p2=>p2.dict_ λds Z e2 en=>get_inst (att_of hat) (ho'▸ho) (e2▸ho2) en hl hp h
   |exc c d t=>
    exact Jo e λi2 hi e=>Jt e λhat e=>dictAtt_of e λes v0 hd hl hp=>by
     subst hi;exact p.exc_ λvs va vd ep=>ep.d.elim λdx r=>x.own hd r.1 λo2 ho2 p2=>p2.dict_ λds Z e2 en=>get_exc (eat_of hat) ho ep r.1 (e2▸ho2) en hl hp h
   |_=>exact no e
 |op k=>
  cases d;obtain ⟨c,d,o,es,nm0,L0,z0,h1,h2,h3,sd,h4,h5,h6⟩:=B.G.kn.oatt k z b e;obtain ⟨ds,n,rfl,en⟩:=sd;obtain ⟨w,hw⟩:=Option.isSome_iff_exists.mp h5;exact get_inst (att_of h2) (x.r.keep _ _ h1) (x.r.keep _ _ h3) en h4 hw λy t dy=>h y t (h6 y (plainV_of hw▸dy) x.L x.r.own)
 |_=>exact no e
theorem base_plain{o':Expr}{x:Str}{env:Env}{m:Sem Value}(h:plainBase o'=true):attributeBase o' x env m=m:=by
 revert h;induction o' using Expr.casesOn with
 |Call f args kws p=>induction f using Expr.casesOn with
  |Name z q=>induction args using c_ with
   |cons _ _=>exactλZ=>rfl
   |nil=>induction kws using c_ with
    |cons _ _=>exactλZ=>rfl
    |nil=>exact nb
  |_=>exactλZ=>rfl
 |_=>exactλZ=>rfl
theorem attr_eval{o':Expr}{pos:Pos}{env:Env}{om:Om}{Q:SP Value}(hb:plainBase o'=true)(h:wpAny (Mdl om) A (eval o' env) (λov s1=>wpAny (Mdl om) A (getAttr ov z true) Q E s1) E s):wpAny (Mdl om) A (eval (.Attribute o' z pos) env) Q E s:=
 Attribute_any_ h (by
  show (do
   let o<-attributeBase o' z env (eval o' env)
   standAt pos.atName
   let r<-holding [o] (getAttr o z true)
   letTemporaryGo o' o r
   pure r)=_
  rw[base_plain hb])
theorem ltI_of{k:Int}(h:ltI k=true):-(2 ^ 62)<=k/\k<2 ^ 62:=⟨κ (and_of h).1,κ (and_of h).2⟩
theorem ZQ{i:Expr}(h:Zs i=true)(a b:Value):subscripted i false a b=operate [a,b] (getItem a b):=by
 revert h;cases i<;>first|exactλZ=>rfl|exact nb
theorem seqIdx_nat{i n:Nat}(h:i<n):seqIndex? (i:Int) n=some i:=by
 unfold seqIndex?;have h1:¬((i:Int)<0):=Int.not_lt.mpr (Int.natCast_nonneg _);simp[h1,h]
theorem isTab_get:∀{l:List AV} {xs:List Str},isTab l xs=true->l.length=xs.length/\∀{i:Nat} {y:Str},xs[i]?=some y->l[i]?=some (.str y):=by
 intro l;induction l with
 |nil=>
  intro xs h;induction xs using c_ with
  |nil=>exact⟨rfl,λh=>nomatch h⟩
  |cons _ _=>exact nb h
 |cons a l ih=>
  intro xs h;induction xs using c_ with
  |nil=>exact nb h
  |cons y r=>
   change (Option.rec false (λw=>Bool.rec false (isTab l r) (sEq w y)) (Zz a):Bool)=true at h;induction q:Zz a with
   |none=>rw[q]at h;exact nb h
   |some w=>
    rw[q]at h;change (Bool.rec false (isTab l r) (sEq w y):Bool)=true at h;induction q2:sEq w y with
    |false=>rw[q2]at h;exact nb h
    |true=>
     rw[q2]at h;have ih:=ih h;refine⟨Ja (·+1) ih.1,fun {i z} hz=>?_⟩
     induction i using Nat.casesAuxOn with
     |zero=>rw[<-oi hz,Zb q,Jw q2];rfl
     |succ i=>exact ih.2 hz
theorem ixTab_len(m:Nat):(JG m).length<=5:=by
 unfold JG;cases Nat.beq m 3<;>cases Nat.beq m 5<;>decide
theorem poss_head{cl:Nat}{w:Str}(hc:Nat.blt cl 2=true)(h:w∈JR cl):∃c,w.cps[0]?=some c/\headS w=⟨#[c]⟩:=by
 have key:∀w:Str,w.cps.toList≠[]->∃c,w.cps[0]?=some c/\headS w=⟨#[c]⟩:=λw hn=>by
  induction q:w.cps.toList using c_ with
  |nil=>exact absurd q hn
  |cons c r=>exact⟨c,by rw[<-Array.getElem?_toList,q];rfl,by unfold headS;rw[q]⟩
 refine key w ?_;match cl,hc with
 |0,_=>revert w;decide
 |1,_=>revert w;decide
variable {e1 e2:Expr}
theorem item_tup(hs:Zs e2=true){ad:Addr}{xs:Array Value}{k:Nat}{j:Int}{t:Tok}{d:Nat}(ho:x.s.heap.get? ad=some ⟨.type "tuple",none,.seq xs k,#[]⟩)(dd:x.Ds l xs.toList)(hj:-(2 ^ 62)<=j/\j<2 ^ 62)(hd:seqIndex? j l.length=some d)(hv:l[d]?=some a){Q:SP Value}(h:∀y,x.D a y->Q y x.s):wpAny (Md B) B.A (subscriptTail e1 e2 (.ref ad) (.int j t)) Q E x.s:=
 (Jq.get dd hv).elim λy r=>item_tupleT (l:=xs.toList) (by rw[Array.toArray_toList];exact⟨_,ho,rfl,k,rfl⟩) (by lia) (by lia) (by rw[<-Jq.len dd];exact hd) r.1 (h y r.2) (ZQ hs _ _)
theorem subTup_ok(hs:Zs e2=true){ad:Addr}{xs:Array Value}{k:Nat}(ho:x.s.heap.get? ad=some ⟨.type "tuple",none,.seq xs k,#[]⟩)(dd:x.Ds l xs.toList)(e:subTup l a=some b)(d:x.D a v){Q:SP Value}(h:∀y t,x.D b y->Q y {x.s with toks:=t}):wpAny (Md B) B.A (subscriptTail e1 e2 (.ref ad) v) Q E x.s:=by
 unfold subTup at e;induction q:Zw a with
 |some j=>rw[q]at e;rw[JO q]at d;exact Jt e λhj e=>Jo e λm hm e=>d.int_ λt et=>et▸item_tup hs ho dd (ltI_of hj) hm e λy dy=>h y x.s.toks dy
 |none=>
  rw[q]at e;refine Jo e λp hp e=>Jt e λht e=>?_;have T:=isTab_get ht;induction a with
  |ix m k=>
   cases hp;cases e;obtain ⟨t,i,rfl,hi,hm⟩:=d;have he:=T.2 hi;have hl:=(lt_ he);have:=ixTab_len m;exact item_tup hs ho dd (by have:=T.1;dsimp only at this;lia) (seqIdx_nat hl) he λy dy=>dy.str_ λt2 e2=>h y x.s.toks ⟨t2,e2,hm⟩
  |_=>exact no hp
theorem seqIdx_of{k:Int}{n j:Nat}(h:seqIndex? k n=some j):(0<=k/\j=k.toNat)\/(k<0/\j=(k+(n:Int)).toNat/\-(n:Int)<=k):=by
 unfold seqIndex? at h;by_cases hk:k<0
 ·rw[if_pos hk]at h
  dsimp only at h;split at h
  ·rename_i q
   simp only[Bool.and_eq_true,decide_eq_true_eq]at q;cases h;exact .inr ⟨hk,rfl,by lia⟩
  ·cases h
 ·rw[if_neg hk]at h
  dsimp only at h;split at h
  ·cases h;exact .inl ⟨by lia,rfl⟩
  ·cases h
theorem subList_ok(hs:Zs e2=true){ad:Addr}{xs:Array Value}{k:Nat}(ho:x.s.heap.get? ad=some (listOf xs k))(dd:x.Ds l xs.toList)(e:subList l a=some b)(d:x.D a v){Q:SP Value}(h:∀y t,x.D b y->Q y {x.s with toks:=t}):wpAny (Md B) B.A (subscriptTail e1 e2 (.ref ad) v) Q E x.s:=
 Jo e λj hj e=>Jt e λhsh e=>Jt e λhlt e=>Jo e λm hm e=>by
  rw[JO hj]at d;have ht:x.s.heap.IsList ad xs:=⟨_,ho,rfl,k,rfl⟩;have hsz:xs.size=l.length:=by rw[<-π,<-Jq.len dd]
  have hl:=Zg hsh;obtain ⟨k1,k2⟩:=ltI_of hlt;refine d.int_ λt et=>Jq.at_ dd e λy hy dy=>et▸?_;rcases seqIdx_of hm with ⟨h0,rfl⟩|⟨h0,rfl,hlo⟩
  ·exact tail_any ht.typeIs slot_list_getitem.lookup (wpAny_getItem_list ht h0 (by lia) hy (h y x.s.toks dy)) (ZQ hs _ _)
  ·exact tail_any ht.typeIs slot_list_getitem.lookup (wpAny_getItem_list_neg ht (by lia) (by rw[hsz];exact hlo) (by lia) (by rw[hsz];exact hy) (h y x.s.toks dy)) (ZQ hs _ _)
theorem item_dict(hs:Zs e2=true){ad:Addr}{o:Obj}{nm0:Nt}{L0:List Addr}{t:Tok}{w:Str}{a0:AV}(ho:x.s.heap.get? ad=some o)(sd:SD B.G.om.w.params es nm0 L0 o)(hl:look w es=some a0){Q:SP Value}(h:∀y t,Den nm0 L0 a0 y->Q y {x.s with toks:=t}):wpAny (Md B) B.A (subscriptTail e1 e2 (.ref ad) (.str w t)) Q E x.s:=
 sd.elim λds sd=>sd.elim λn r=>by
  have hm:=mapOf B.G.om (r.1▸ho) r.2;exact(findBy_some r.2 hl).elim λy g=>tail_any hm.typeIs slot_dict_getitem.lookup (wpAny_getItem_of (strKind_is B.G.om.prog B.G.om.w w t) hm g.1 (h y _ g.2)) (ZQ hs _ _)
theorem subRef_ok(hs:Zs e2=true){q':AV}(e:subRef B.G.cx x.S a b=some q')(da:x.D a u)(db:x.D b v){Q:SP Value}(h:∀y t,x.D q' y->Q y {x.s with toks:=t}):wpAny (Md B) B.A (subscriptTail e1 e2 u v) Q E x.s:=by
 unfold subRef at e;induction h1:ZP B.G.cx x.S a with
 |some l=>rw[h1]at e;exact Sit.tup h1 da λad xs n hu ho dd=>hu▸subTup_ok hs ho dd e db h
 |none=>
  rw[h1]at e;induction h2:Wo B.G.cx x.S a with
  |some l=>rw[h2]at e;exact Sit.list h2 da λad xs n hu ho dd=>hu▸subList_ok hs ho dd e db h
  |none=>
   rw[h2]at e;exact Jo e λes he e=>Jo e λw hw e=>by
    rw[Zb hw]at db;exact Sit.dict he da λad o hu Z ho sd=>db.str_ λt et=>hu▸et▸item_dict hs ho sd e h
theorem sub_ok(hs:Zs e2=true){q':AV}(e:subA B.G.cx x.S a b=some q')(da:x.D a u)(db:x.D b v){Q:SP Value}(h:∀y t,x.D q' y->Q y {x.s with toks:=t}):wpAny (Md B) B.A (subscriptTail e1 e2 u v) Q E x.s:=by
 induction a with
 |str w=>
  exact Jo e λj hj e=>Jt e λhlt e=>Jo e λm hm e=>Jo e λc hc e=>by
   rw[JO hj]at db;have:=ltI_of hlt;cases e;exact da.str_ λt et=>db.int_ λt2 et2=>et▸et2▸tail_any (typeIs_str _ _ _) PySem.F.slot_str_getitem.lookup (PySem.P.getItem_str (by simp;lia) (by rw[hm];exact hc) (h _ _ ⟨_,rfl⟩)) (ZQ hs _ _)
 |st t=>exact subRef_ok (a:=.st t) hs e da db h
 |loc t=>exact subRef_ok (a:=.loc t) hs e da db h
 |op k=>
  change (Option.rec (Option.rec (subRef B.G.cx x.S (.op k) b) (λv=>ifO (Option.rec false (λi=>decide (i=0)) (Zw b)) (some v)) (B.G.cx.kn.fst k)) (λj=>B.G.cx.kn.dget k j) (WG b):Option AV)=some q' at e;induction h1:WG b with
  |some j=>
   rw[h1]at e;obtain ⟨c,rfl⟩:=WZ h1;obtain ⟨o,es,nm0,L0,z,ho,sd,hl,hd⟩:=B.G.kn.dget k j q' e;cases da;exact db.sym_ λt et Z=>et▸item_dict hs (x.r.keep _ _ ho) sd hl λy t dy=>h y t (hd y dy x.L x.r.own)
  |none=>
   rw[h1]at e;induction h2:B.G.cx.kn.fst k with
   |none=>rw[h2]at e;exact subRef_ok (a:=.op k) hs e da db h
   |some w=>
    rw[h2]at e;refine Jt e λh0 e=>?_;induction h3:Zw b with
    |none=>rw[h3]at h0;exact nb h0
    |some i=>
     rw[h3]at h0;rw[JO h3,κ h0]at db;obtain ⟨xs,n,y,ho,hy,dy⟩:=B.G.kn.fst k w h2;cases da;cases e;have ht:x.s.heap.IsList (B.G.nm.op k) xs:=⟨_,x.r.keep _ _ ho,rfl,n,rfl⟩;exact db.int_ λt et=>et▸tail_any ht.typeIs slot_list_getitem.lookup (wpAny_getItem_list ht (Int.le_refl 0) (by decide) hy (h y x.s.toks (dy x.L x.r.own))) (ZQ hs _ _)
 |sym c k=>
  exact Jo e λj hj e=>Jt e λh0 e=>Jt e λhc e=>by
   rw[JO hj,κ h0]at db;cases e;exact da.sym_ λt et hm=>db.int_ λt2 et2=>(poss_head hc hm).elim λch r=>et▸et2▸tail_any (typeIs_str _ _ _) PySem.F.slot_str_getitem.lookup (PySem.P.getItem_str (c:=ch) (by simp) (by rw[show seqIndex? 0 (B.G.nm.f k).length=some 0 from PyProof.Rows.seqIndex?_zero (Array.getElem?_eq_some_iff.mp r.1).1];exact r.1) (h _ _ ⟨x.s.toks,by rw[r.2],hm⟩)) (ZQ hs _ _)
 |_=>exact no e
variable {us:List Value}{o1 o2:Option Expr}{p:Pos}
def Bnd(u:Value)(b:Option Int):Prop:=(u=.none/\b=none)\/∃i t,u=.int i t/\b=some i
theorem bound_den{b:Option Int}(e:boundA a=some b)(d:x.D a u):Bnd u b:=by
 induction a with
 |none=>cases e;cases d;exact .inl ⟨rfl,rfl⟩
 |int i=>cases e;exact d.int_ λt et=>.inr ⟨i,t,et,rfl⟩
 |_=>exact no e
theorem Bnd.part{b:Option Int}(h:Bnd u b):IsPart u b:=by
 rcases h with ⟨rfl,rfl⟩|⟨i,t,rfl,rfl⟩
 ·exact .none
 ·exact .int _ _
theorem Jq.pick{xs:Array Value}(d:Jq nm L l xs.toList):∀is:List Nat,Jq nm L (is.filterMap (l[·]?)) (is.filterMap (xs[·]?)):=by
 intro v0_;induction v0_ with
 |nil=>
  exact Jq.nil
 |cons i is ih=>
  have ih:=ih;rw[List.filterMap_cons,List.filterMap_cons];induction q:l[i]? with
  |none=>rw[d.end_ q];exact ih
  |some a=>exact d.at_ q λu h1 h2=>by rw[h1];exact Jq.cons h2 ih
theorem Jq.rev:∀{l:List AV} {us:List Value},Jq nm L l us->Jq nm L l.reverse us.reverse:=by
 intro v0_;induction v0_ with
 |nil=>
  intro Z e;exact e▸Jq.nil
 |cons a l ih=>
  intro Z y2_;obtain ⟨u,r,e,d,ds⟩:=y2_;rw[e,List.reverse_cons,List.reverse_cons];exact(ih ds).append (Jq.cons d Jq.nil)
def slcO(l u k:Value):Obj:={cls:=.type "slice",data:=.fields #[l,u,k]}
def Sit.grow(x:Sit B){h':Heap}(k:∀b o,x.s.heap.get? b=some o->h'.get? b=some o)(t:Tok):Sit B:=x.to (x.r.grow (t:=t) k) (ζ _) λi es e=>⟨es,e⟩
theorem tmp_str{e1:Expr}{w:Str}{t:Tok}:∀r,letTemporaryGo e1 (.str w t) r=pure ():=by cases e1<;>exactλZ=>rfl
theorem cut_str{lo hi:Value}{b1 b2:Option Int}{w:Str}{t:Tok}(hl:Bnd lo b1)(hu:Bnd hi b2)(hz:shortS w=true){Q:SP Value}(P:Jn x RV (.ok (.v (.str (Txt.slice w b1 b2))) x.S) Q E):
  wpAny (Md B) B.A (subscriptTail e1 (.Slice o1 o2 none p) (.str w t) (.ref x.s.heap.objs.size)) Q E {x.s with heap:=x.s.heap.push (slcO lo hi .none)}:=
 x.opens λm O=>by
  have lt:∀r,letTemporaryGo e1 (.str w t) r=pure ():=tmp_str;have hz:=le_lineS (nl hz);have fin:∀(h':Heap) (t':Tok) (k:Tok),Fr B.G.om.hb B.env.locals h' m->News B.G.om.hb B.env.locals h' (ZK (x.L++B.G.ka) x.s.heap B.env.locals)->Q (.str (Txt.slice w b1 b2) t') {x.s with heap:=h',toks:=k}:=λh' t' k F N=>
   (P (x.to (O.back (t:=k) F N) (ζ _) λi es e=>⟨es,e⟩) (ζ _) rfl).1 _ ⟨_,rfl,t',rfl⟩
  rcases hl with ⟨rfl,rfl⟩|⟨i,ti,rfl,rfl⟩<;>rcases hu with ⟨rfl,rfl⟩|⟨j,tj,rfl,rfl⟩
  ·exact slice_strN_nn O.f O.n (λh' t' k=>fin h' t' k) (by rfl) lt hz
  ·exact slice_strN_ns O.f O.n (λh' t' k=>fin h' t' k) (by rfl) lt hz
  ·exact slice_strN_sn O.f O.n (λh' t' k=>fin h' t' k) (by rfl) lt hz
  ·exact slice_strN_ss O.f O.n (λh' t' k=>fin h' t' k) (by rfl) lt hz
theorem cut_list{lo hi:Value}{b1 b2:Option Int}{ad:Addr}{xs:Array Value}{k:Nat}(hl:Bnd lo b1)(hu:Bnd hi b2)(hz:JT l=true)(ho:x.s.heap.get? ad=some (listOf xs k))(dd:x.Ds l xs.toList){Q:SP Value}(P:Jn x RV (pushV x.S (.list (pickA l b1 b2))) Q E):
  wpAny (Md B) B.A (subscriptTail e1 (.Slice o1 o2 none p) (.ref ad) (.ref x.s.heap.objs.size)) Q E {x.s with heap:=x.s.heap.push (slcO lo hi .none)}:=by
 have hl':x.s.heap.IsList ad xs:=⟨_,ho,rfl,k,rfl⟩
 have hsz:xs.size=l.length:=by rw[<-π];exact(Jq.len dd).symm
 have hx:=Zg hz
 refine tail_any (s:={x.s with heap:=x.s.heap.push (slcO lo hi .none)}) (hl'.push _).typeIs slot_list_getitem.lookup (wpAny_getItem_list_slice (hl'.push _) (Heap.IsSliceOf.new ..) hl.part hu.part .none (by simp) ?_ (by rw[PySem.sizeLine_eq];lia)) (by with_unfolding_all rfl)
 refine Jn.pushV (x:=x.grow (h':=x.s.heap.push (slcO lo hi .none)) (λb o e=>η _ e) x.s.toks) (P.up (ζ _)) ⟨_,0,rfl,?_⟩
 have:=(dd.mono (θ x.L [(x.s.heap.push (slcO lo hi .none)).objs.size])).pick (sliceRange (sliceBounds b1 b2 none l.length).1 (sliceBounds b1 b2 none l.length).2.1 (sliceBounds b1 b2 none l.length).2.2)
 unfold pickA slicePick
 rw[hsz,List.toList_toArray]
 exact this
theorem isOne_of(h:isOne a=true)(d:x.D a u):∃t,u=.int (1:Nat) t:=by
 unfold isOne at h;induction q:Zw a with
 |none=>rw[q]at h;exact nb h
 |some i=>rw[q]at h;rw[JO q,show i=1 from κ h]at d;exact d
theorem cut_tup{lo hi:Value}{ad:Addr}{xs:Array Value}{k:Nat}{rs:List AV}(e:tailTup l a b=some rs)(da:x.D a lo)(db:x.D b hi)(ho:x.s.heap.get? ad=some ⟨.type "tuple",none,.seq xs k,#[]⟩)(dd:x.Ds l xs.toList){Q:SP Value}(P:Jn x RV (pushV x.S (.tup rs)) Q E):
  wpAny (Md B) B.A (subscriptTail e1 (.Slice o1 o2 none p) (.ref ad) (.ref x.s.heap.objs.size)) Q E {x.s with heap:=x.s.heap.push (slcO lo hi .none)}:=
 Jt e λh1 e=>Jt e λh2 e=>Jt e λh3 e=>by
  rw[WO h2]at db;cases db;obtain ⟨t,rfl⟩:=isOne_of h1 da;induction l using c_ with
  |nil=>exact no e
  |cons v0 l=>
   cases e;have hz:=Zg h3;have hsz:xs.size=l.length+1:=by rw[<-π];exact(Jq.len dd).symm
   have ht:IsTup (x.s.heap.push (slcO (.int (1:Nat) t) .none .none)) ad xs:=⟨_,η _ ho,rfl,k,rfl⟩;refine tail_any (s:={x.s with heap:=x.s.heap.push (slcO (.int (1:Nat) t) .none .none)}) ht.typeIs slot_tuple_getitem.lookup (getItem_tuple_from ht (Heap.IsSliceOf.new ..) (Ϙ 1) (by lia) ?_ (by rw[PySem.sizeLine_eq,hsz];simp only[Υ]at hz;lia)) (by with_unfolding_all rfl);refine Jn.pushV (x:=x.grow (h':=x.s.heap.push (slcO (.int (1:Nat) t) .none .none)) (λb o e=>η _ e) x.s.toks) (P.up (ζ _)) ⟨_,0,rfl,?_⟩;obtain ⟨w,r,h,_,dr⟩:=dd;rw[h];show Jq B.G.nm (x.L++[_]) l _;simpa using Jq.mono (θ _ _) dr
theorem cut_loc{lo hi:Value}{a0:AV}{u0:Value}{Q:SP Value}(P:Jn x RV (cutLoc B.G.cx a0 x.S a b) Q E)(d0:x.D a0 u0)(da:x.D a lo)(db:x.D b hi):
  wpAny (Md B) B.A (subscriptTail e1 (.Slice o1 o2 none p) u0 (.ref x.s.heap.objs.size)) Q E {x.s with heap:=x.s.heap.push (slcO lo hi .none)}:=by
 unfold cutLoc at P
 induction h1:ZP B.G.cx x.S a0 with
 |some l=>rw[h1]at P;exact Jn.ob P λrs hr P=>Sit.tup h1 d0 λad xs n hu ho dd=>hu▸cut_tup hr da db ho dd P
 |none=>rw[h1]at P;exact Jn.ob P λl hl P=>Jn.ifT P λhs P=>Jn.ob P λb1 h1 P=>Jn.ob P λb2 h2 P=>Sit.list hl d0 λad xs n hu ho dd=>hu▸cut_list (bound_den h1 da) (bound_den h2 db) hs ho dd P
theorem cut_ok{lo hi:Value}{a0:AV}{u0:Value}{Q:SP Value}(P:Jn x RV (cutA B.G.cx a0 x.S a b) Q E)(d0:x.D a0 u0)(da:x.D a lo)(db:x.D b hi):
  wpAny (Md B) B.A (subscriptTail e1 (.Slice o1 o2 none p) u0 (.ref x.s.heap.objs.size)) Q E {x.s with heap:=x.s.heap.push (slcO lo hi .none)}:=by
 induction a0 with
 |str w=>exact P.ifT λhs P=>P.ob λb1 h1 P=>P.ob λb2 h2 P=>d0.str_ λt et=>et▸cut_str (bound_den h1 da) (bound_den h2 db) hs P
 |loc i=>exact cut_loc P d0 da db
 |op i=>exact cut_loc P d0 da db
 |_=>exact P.elim
theorem isNeg1_of(h:isNeg1 a=true)(d:x.D a u):∃t,u=.int (-1) t:=by
 unfold isNeg1 at h;induction q:Zw a with
 |none=>rw[q]at h;exact nb h
 |some i=>rw[q]at h;rw[JO q,show i=-1 from κ h]at d;exact d
theorem rev_ok{k:Value}{a0:AV}{u0:Value}{e2:Expr}{Q:SP Value}(P:Jn x RV (revA B.G.cx a0 x.S a) Q E)(d0:x.D a0 u0)(da:x.D a k):
  wpAny (Md B) B.A (subscriptTail e1 (.Slice none none (some e2) p) u0 (.ref x.s.heap.objs.size)) Q E {x.s with heap:=x.s.heap.push (slcO .none .none k)}:=
 P.ifT λh1 P=>P.ob λl hl P=>P.ifT λhs P=>Sit.list hl d0 λad xs n hu ho dd=>(isNeg1_of h1 da).elim λt ht=>by
  subst hu;subst ht;have hl':x.s.heap.IsList ad xs:=⟨_,ho,rfl,n,rfl⟩;have hsz:xs.size=l.length:=by rw[<-π];exact(Jq.len dd).symm
  have hx:=Zg hs;refine tail_any (s:={x.s with heap:=x.s.heap.push (slcO .none .none (.int (-1) t))}) (ops:=[.ref ad,.ref x.s.heap.objs.size]) (hl'.push _).typeIs slot_list_getitem.lookup (wpAny_getItem_list_slice (hl'.push _) (Heap.IsSliceOf.new ..) .none .none (.int (-1) t) (by simp) ?_ (by rw[PySem.sizeLine_eq];lia)) (by with_unfolding_all rfl);refine Jn.pushV (x:=x.grow (h':=x.s.heap.push (slcO .none .none (.int (-1) t))) (λb o e=>η _ e) x.s.toks) (P.up (ζ _)) ⟨_,0,rfl,?_⟩;rw[krv_pick,List.toList_toArray];exact(dd.mono (θ x.L _)).rev
variable {es:List Expr}{op:BoolOp}{ops:List CmpOp}
theorem star_cons{e:Expr}{env:Env}(h:WI e=false):backTo p (starEach (e::es) env)=(false,eval e env)::backTo p (starEach es env):=by
 revert h;cases e<;>first|exactλZ=>rfl|exact tf
theorem evs_ok(hr:Hr n r)(m:Rm B n):∀{es:List Expr} {x:Sit B} {Q:SP (List Value)},Jn x RVs (evs (r B.G.cx) B.f es x.S) Q E->wpAny (Md B) B.A (spliced (backTo p (starEach es B.env))) Q E x.s:=by
 intro v0_;induction v0_ with
 |nil=>
  intro x Q P;exact spliced_nil (P.now rfl ⟨[],rfl,Jq.nil⟩)
 |cons e es ih=>
  intro x Q P;exact P.ifT λhs P=>by
   rw[star_cons (JL hs)];exact spliced_cons (hr.ev m (P.onV λx1 a u p1 d1 P=>ih (P.onVs λx2 l us p2 d2 P=>P.now rfl ⟨_,rfl,Jq.cons (d1.up p2) d2⟩)))
theorem tsts_ok(hr:Hr n r)(m:Rm B n):∀{es:List Expr} {x:Sit B} {Q:SP Bool},Jn x RB (tsts (r B.G.cx) B.f op es x.S) Q E->wpAny (Md B) B.A (allTrue op es B.env) Q E x.s:=by
 intro v0_;induction v0_ with
 |nil=>
  intro x Q P;exact Δ (by have:=P.bo;induction op<;>exact this)
 |cons e es ih=>
  intro x Q P;show wpAny _ _ (do
   match op,<-isTrue e B.env (eval e B.env)with
   |.And,false=>pure false
   |.Or,true=>pure true
   |_,_=>allTrue op es B.env) _ _ _
  have ih:=λx Q=>ih (x:=x) (Q:=Q);refine Γ (hr.tst m (Jn.onB P λx1 b p1 P=>?_));induction op<;>cases b
  ·exact Δ P.bo
  ·exact ih _ _ P
  ·exact ih _ _ P
  ·exact Δ P.bo
theorem bops_ok(hr:Hr n r)(m:Rm B n):∀{es:List Expr} {x:Sit B} {Q:SP Value},Jn x RV (bops B.G.cx (r B.G.cx) B.f op es x.S) Q E->wpAny (Md B) B.A (boolOp p op (evalEach es B.env)) Q E x.s:=by
 intro es;induction es with
 |nil=>exactλP=>P.elim
 |cons e es ih=>
  intro x Q P;induction es using c_ with
  |nil=>exact hr.ev m P
  |cons e' es=>
   show wpAny _ _ (do
    let v<-eval e B.env
    standAt p
    let t<-holding [v] (truthy v)
    match op,t with
    |.And,false|.Or,true=>pure v
    |_,_=>boolOp p op (evalEach (e'::es) B.env)) _ _ _
   refine Γ (hr.ev m (Jn.onV P λx1 a u p1 d1 P=>P.ob λb hb P=>Γ (ϙ (Γ (ω (tru_ok hb d1 λt=>?_))))));have P:=P.up (y:=x1.toks t) (Sit.le.refl x1);induction op<;>induction b
   ·exact Δ (P.now rfl ⟨_,rfl,d1⟩)
   ·exact ih P
   ·exact ih P
   ·exact Δ (P.now rfl ⟨_,rfl,d1⟩)
theorem rel_{M:Model}{vs keep:List Value}{Q:SP Unit}(h:Q () s):wpAny M A (release vs keep) Q E s:=λΓ p Z=>by rw[Sem.wp_release];exact h
theorem opd_{M:Model}{vs:List Value}{m:Sem Value}{Q:SP Value}(h:wpAny M A m Q E s):wpAny M A (operate vs m) Q E s:=λΓ p hΓ=>by rw[Sem.wp_operate];exact h Γ p hΓ
theorem Rm.cmp(m:Rm B n):B.A.units+64<cLine:=ϛ (Nat.add_le_add_left (by decide) _) m.un
theorem wp_eq{M:Model}{A:Around}{α:Type}{c c2:Sem α}{Q:SP α}{E:SP Value}{s:Shared}(e:c=c2)(h:wpAny M A c2 Q E s):wpAny M A c Q E s:=e▸h
theorem cmpArm(p:Pos)(u:Value)(op op2:CmpOp)(ops:List CmpOp)(r:Sem Value)(rs:List (Sem Value)):compareChain p u (op::op2::ops) (r::rs)=(do
  let rv<-holding [u] r
  standAt p
  let c<-holding [u,rv] (compareOp op u rv)
  release [u,rv] [c]
  if<-holding [c,rv] (truthy c)then compareChain p rv (op2::ops) rs else pure c):=by induction rs<;>rfl
theorem tstArm(p:Pos)(u:Value)(op op2:CmpOp)(ops:List CmpOp)(r:Sem Value)(rs:List (Sem Value)):testChain p u (op::op2::ops) (r::rs)=(do
  let rv<-holding [u] r
  standAt p
  let c<-holding [u,rv] (compareOp op u rv)
  release [u,rv] [c]
  if<-holding [c,rv] (truthy c)then testChain p rv (op2::ops) rs else pure false):=by induction rs<;>rfl
theorem chain_ok(hr:Hr n r)(m:Rm B n):∀{ops:List CmpOp} {es:List Expr} {x:Sit B} {a:AV} {u:Value} {Q:SP Value},Jn x RV (chain B.G.cx (r B.G.cx) B.f (λb=>.v (.bool b)) ops es a x.S) Q E->x.D a u->wpAny (Md B) B.A (compareChain p u ops (markedEach ops es (evalEach es B.env))) Q E x.s:=by
 intro ops;induction ops with
 |nil=>intro Z Z Z Z Z P Z;exact P.elim
 |cons op ops ih=>
  intro es x a u Q P d;induction es using c_ with
  |nil=>exact P.elim
  |cons e es=>
   induction ops using c_ with
   |nil=>induction es using c_ with
    |cons _ _=>exact P.elim
    |nil=>
     refine Jn.ifT P λhm P=>?_;show wpAny _ _ (compareChain p u [op] [markedBehindIn op e (eval e B.env)]) _ _ _;rw[markedBehindIn_of_false (JL hm)];exact Γ (ω (hr.ev m (P.onV λx1 b v p1 d1 P=>P.ask2 λw hw P=>Γ (ϙ (opd_ (cmp_ok hw (d.up p1) d1 m.cmp Q E λt=>P.val rfl t))))))
   |cons op2 ops=>induction es using c_ with
    |nil=>exact P.elim
    |cons e2 es=>
     refine wp_eq (cmpArm p u op op2 ops (eval e B.env) (markedEach (op2::ops) (e2::es) (evalEach (e2::es) B.env))) (Γ (ω (hr.ev m (Jn.onV P λx1 b v p1 d1 P=>P.ask2 λw hw P=>Γ (ϙ (Γ (ω (cmp_ok hw (d.up p1) d1 m.cmp _ E λt=>Γ (rel_ (Γ (ω (wpAny_truthy_bool ?_))))))))))));have P:=P.up (y:=x1.toks t) (Sit.le.refl x1);induction hq:tr w.1 (w.2.val B.G.u)with
     |true=>rw[hq]at P;exact ih (x:=x1.toks t) P d1
     |false=>rw[hq]at P;exact Δ (P.now rfl ⟨_,rfl,rfl⟩)
theorem tchain_ok(hr:Hr n r)(m:Rm B n):∀{ops:List CmpOp} {es:List Expr} {x:Sit B} {a:AV} {u:Value} {Q:SP Bool},Jn x RB (chain B.G.cx (r B.G.cx) B.f .b ops es a x.S) Q E->x.D a u->wpAny (Md B) B.A (testChain p u ops (markedEach ops es (evalEach es B.env))) Q E x.s:=by
 intro ops;induction ops with
 |nil=>intro Z Z Z Z Z P Z;exact P.elim
 |cons op ops ih=>
  intro es x a u Q P d;induction es using c_ with
  |nil=>exact P.elim
  |cons e es=>
   induction ops using c_ with
   |nil=>induction es using c_ with
    |cons _ _=>exact P.elim
    |nil=>
     refine Jn.ifT P λhm P=>?_;show wpAny _ _ (testChain p u [op] [markedBehindIn op e (eval e B.env)]) _ _ _;rw[markedBehindIn_of_false (JL hm)];exact Γ (ω (hr.ev m (P.onV λx1 b v p1 d1 P=>P.ask2 λw hw P=>Γ (ϙ (Γ (opd_ (cmp_ok hw (d.up p1) d1 m.cmp _ E λt=>ω (wpAny_truthy_bool (P.bo t)))))))))
   |cons op2 ops=>induction es using c_ with
    |nil=>exact P.elim
    |cons e2 es=>
     refine wp_eq (tstArm p u op op2 ops (eval e B.env) (markedEach (op2::ops) (e2::es) (evalEach (e2::es) B.env))) (Γ (ω (hr.ev m (Jn.onV P λx1 b v p1 d1 P=>P.ask2 λw hw P=>Γ (ϙ (Γ (ω (cmp_ok hw (d.up p1) d1 m.cmp _ E λt=>Γ (rel_ (Γ (ω (wpAny_truthy_bool ?_))))))))))));have P:=P.up (y:=x1.toks t) (Sit.le.refl x1);induction hq:tr w.1 (w.2.val B.G.u)with
     |true=>rw[hq]at P;exact ih (x:=x1.toks t) P d1
     |false=>rw[hq]at P;exact Δ (P.now rfl rfl)
variable {x':Sit B}{β:Type}{ρ:Sit B->Out->α->Prop}{es:List (Str×AV)}{ad:Addr}{h':Heap}{ao:AO}{o:Obj}
theorem Jn.setS{k:St->R}(P:Jn x ρ (Internal.setR x.S i ao k) Q E)(ha:x.L[i]?=some ad)(sb:Heap.SameBut ad x.s.heap h')(ho:h'.get? ad=some o)(ok:x.P ad ao o)(hn:∀es,x.S.get i=some (.ns es)->∃es',ao=.ns es'){t:Tok}
  (h:∀x':Sit B,x.le x'->x'.s={x.s with heap:=h',toks:=t}->x'.L=x.L->Jn x' ρ (k x'.S) Q E->C):C:=
 P.setR ha (λb o hb e=>(sb.2 b hb).trans e) ho ok hn λx' p e1 e2 Z P=>h x' p e1 e2 P
theorem gv_ns{f:AO->Option β}{w:β}{es:List (Str×AV)}(h:gv f x.S i=some w)(hf:f (.ns es)=none):x.S.get i≠some (.ns es):=λe=>Jz h λo ho hv=>by rw[e]at ho;cases ho;exact no (hf.symm.trans hv)
theorem store_ok{k:St->R}(P:Jn x ρ (ob (Wi B.f x.S z a) k) Q E)(d:x.D a u){M:Model}{Q1:SP Unit}(h:∀x',x.le x'->x'.L=x.L->Jn x' ρ (k x'.S) Q E->Q1 () x'.s){E1:SP Value}:wpAny M A (storeName B.env z u) Q1 E1 x.s:=by
 unfold Wi at P;induction hk:look z B.f.sc.names with
 |none=>rw[hk]at P;exact P.elim
 |some kd=>
  rw[hk]at P;have kk:=x.top.kind hk;have ks:=x.fun_;induction kd with
  |«local»=>
   change Jn x ρ (ob (obO (gv vNs x.S B.f.l) λes=>x.S.set B.f.l (.ns (put z a es))) k) Q E at P;induction hg:gv vNs x.S B.f.l with
   |none=>rw[hg]at P;exact P.elim
   |some es=>
    rw[hg]at P;refine Jz hg λo ho hv=>x.own (ao:=.ns es) (vNs_of hv▸ho) x.top.loc λo' ho' p=>p.ns_ λm hb hm ok=>?_;refine wpAny_storeName_local (m:=m) kk (nsP_at ho' hm) (λh' hn hs=>?_) (by rw[ks];rfl);obtain ⟨o2,es2,ep,g1,g2⟩:=hn;exact Jn.setS (k:=k) (ao:=.ns (put z a es)) P x.top.loc hs g1 ⟨hb,_,⟨es2,ep,g2⟩,ok.put d⟩ (λZ Z=>⟨_,rfl⟩) λx' p e1 e2 P=>e1▸h x' p e2 P
  |cell=>
   change Jn x ρ (ob (obO (look z B.f.cells) λc=>obO (gv vCell x.S c) λZ=>x.S.set c (.cell (some a))) k) Q E at P;induction hc:look z B.f.cells with
   |none=>rw[hc]at P;exact P.elim
   |some c=>
    rw[hc]at P;change Jn x ρ (ob (obO (gv vCell x.S c) λZ=>x.S.set c (.cell (some a))) k) Q E at P;induction hg:gv vCell x.S c with
    |none=>rw[hg]at P;exact P.elim
    |some w=>
     rw[hg]at P;exact(x.top.cl z c hc).elim λb r=>Jz hg λo ho hv=>x.own (ao:=.cell w) (vCell_of hv▸ho) r.1 λo' ho' p=>p.elim λu0 g=>wpAny_storeName_cell ks kk r.2 ⟨o',ho',g.1⟩ λh' hn hs=>hn.elim λo2 g2=>Jn.setS (k:=k) (ao:=.cell (some a)) P r.1 hs g2.1 ⟨_,g2.2,_,rfl,d⟩ (λes e=>absurd e (gv_ns hg rfl)) λx' p e1 e2 P=>e1▸h x' p e2 P
  |_=>exact P.elim
theorem bind_ok{Q:SP Unit}(P:Jn x RU (okN (Wi B.f x.S z a)) Q E)(d:x.D a u){M:Model}{E1:SP Value}:wpAny M A (bindName B.env z u) Q E1 x.s:=wpAny_bindName (store_ok (k:=λS=>.ok .next S) P d λx' p Z P=>P.next)
theorem isStrOf_is(z:Str)(e:DictEntry){t:Tok}{w:Str}(h:e.key=.str w t):e.key.isStr z=sEq z w:=by rw[isStr_of,h,isStrOf_str]
theorem Ens.put(dv:Den nm L a u){t:Tok}:∀{es:List (Str×AV)} {ds:List DictEntry},Ens P nm L es ds->Ens P nm L (Internal.put z a es) (putL z (PyData.keyHash P z) (.str z t) u ds):=by
 intro es;induction es with
 |nil=>exactλe=>e▸⟨_,_,rfl,⟨⟨t,rfl⟩,rfl,dv⟩,rfl⟩
 |cons p r ih=>
  intro ds e;exact e.elim λe0 e=>e.elim λrs e=>e.2.1.key.elim λt' hk=>by
   rw[e.1];show Ens P nm L (Bool.rec (p::Internal.put z a r) ((z,a)::r) (sEq z p.1)) _;unfold putL;rw[isStrOf_is z e0 hk];induction h:sEq z p.1 with
   |true=>exact⟨_,_,rfl,⟨⟨t',by rw[Jw h];exact hk⟩,by rw[Jw h];exact e.2.1.hash,dv⟩,e.2.2⟩
   |false=>exact⟨_,_,rfl,e.2.1,ih e.2.2⟩
theorem Ens.putN:∀{es:List (Str×AV)} {ds:List DictEntry},Ens P nm L es ds->PySem.W.putN z ds es.length=(Internal.put z a es).length:=by
 intro es;induction es with
 |nil=>exactλe=>e▸rfl
 |cons p r ih=>
  intro ds e;exact e.elim λe0 e=>e.elim λrs e=>e.2.1.key.elim λt' hk=>by
   rw[e.1];have ih:=ih e.2.2;unfold PySem.W.putN at ih ⊢;show _=(Bool.rec (p::Internal.put z a r) ((z,a)::r) (sEq z p.1):List (Str×AV)).length;rw[List.any_cons,isStrOf_is z e0 hk];induction sEq z p.1 with
   |true=>rfl
   |false=>
    rw[Bool.false_or];show _=(Internal.put z a r).length+1;rw[<-ih];induction rs.any λe=>e.key.isStr z<;>rfl
theorem putL_len(w:Str)(hh:Int)(k v:Value):∀ds:List DictEntry,(putL w hh k v ds).length<=ds.length+1:=by
 intro v0_;induction v0_ with
 |nil=>
  exact Ϙ _
 |cons e ds ih=>
  unfold putL;induction e.key.isStr w with
  |true=>exact Nat.le_succ _
  |false=>exact Nat.succ_le_succ (ih )
theorem dictSet_E{t:Tok}{Q:SP Unit}(om:Om){n:Nat}(ho:s.heap.get? ad=some (dictOf ds n))(en:Ens om.w.params nm L es ds)(hz:ds.length<=1000)
  (h:∀h' tk,Heap.SameBut ad s.heap h'->h'.get? ad=some (dictOf (putL z (PyData.keyHash om.w.params z) (.str z t) u ds) (PySem.W.putN z ds n))->Q () {s with heap:=h',toks:=tk}) :
  wpAny (Mdl om) A (PySem.dictSet ad (.str z t) u) Q E s:=by
 have hkey:(PySem.strKind om.prog om.w).is z (.str z t)=true:=strKind_is om.prog om.w z t
 unfold PySem.dictSet
 try with_reducible refine ω ?_
 refine Γ ((PySem.strKind om.prog om.w).pyHash hkey ?_)
 unfold dictSetHashed
 try with_reducible refine ω ?_
 have hes:ds.toArray.size<=sizeLine:=ZW hz
 have hk:PySem.KeysOf (PySem.strKind om.prog om.w) ds.toArray:=λe he=>(en.all e (Array.mem_toList_iff.mpr he)).elim λp h=>h.key.elim λt hk=>⟨p.1,by rw[hk];exact strKind_is om.prog om.w p.1 t,h.hash⟩
 refine Γ (wpAny_dictFind_of (s:={s with toks:=s.toks+1}) hkey ho rfl hk ?_)
 have h1:=putL_find z (PyData.keyHash om.w.params z) (.str z t) u ds
 have h2:=any_of_findIdx z ds
 have hi:(ds.toArray.findIdx? λe=>(PySem.strKind om.prog om.w).is z e.key)=ds.findIdx? (λe=>e.key.isStr z):=by
  rw[List.findIdx?_toArray];exact Ja (λp=>List.findIdx? p ds) (isStr_fun z)
 rw[hi]
 induction hq:List.findIdx? (λe=>e.key.isStr z) ds with
 |some i=>
  rw[hq]at h1 h2
  refine Γ (wpAny_rule (Γ (wpAny_updateDict (s:={s with toks:=s.toks+1}) ho rfl (wpAny_point (h _ _ (Ϡ ..) ?_)))))
  rw[υ _ ho (Obj.isFreed_of_dict (Obj.data_mapDict rfl _))]
  unfold dictOf PySem.W.putN
  rw[<-h2,<-h1]
  simp[Obj.mapDict]
 |none=>
  rw[hq]at h1 h2
  refine Γ (wpAny_rule (wpAny_updateDictKeys (hz:=hes) (s:={s with toks:=s.toks+1}) ho rfl (h _ _ (Ϡ ..) ?_)))
  rw[υ _ ho (Obj.isFreed_of_dict (Obj.data_mapDictKeys rfl _))]
  unfold dictOf PySem.W.putN
  rw[<-h2,<-h1]
  simp[Obj.mapDictKeys]
  rfl
theorem setItem_E{t:Tok}{Q:SP Unit}(om:Om){n:Nat}(ho:s.heap.get? ad=some (dictOf ds n))(en:Ens om.w.params nm L es ds)(hz:ds.length<=1000)
  (h:∀h' tk,Heap.SameBut ad s.heap h'->h'.get? ad=some (dictOf (putL z (PyData.keyHash om.w.params z) (.str z t) u ds) (PySem.W.putN z ds n))->Q () {s with heap:=h',toks:=tk}) :
  wpAny (Mdl om) A (setItem (.ref ad) (.str z t) u) Q E s:=by
 have hT:s.TypeIs (.ref ad) "dict":=⟨_,ho,rfl⟩
 unfold setItem
 try with_reducible refine ω ?_
 refine Γ (wpAny_sequenceKey hT (by decide) ?_)
 refine Γ (wpAny_callSpecial?_slot (name:=Str.ofString "__setitem__") hT slot_dict_setitem
  (wpAny_call_entry slot_dict_setitem hT entry_dict_setitem ?_ (args_dict_setitem _ _ _)))
 show wpAny _ _ (Builtin.Dict.notOrdered "__setitem__" ⟨[.ref ad,.str z t,u],[]⟩>>=_) _ _ s
 refine Γ (wpAny_notOrdered_dict hT ?_)
 show wpAny _ _ (PySem.dictSet ad (.str z t) u>>=_) _ _ s
 exact Γ (dictSet_E om ho en hz λh' tk sb g=>Δ ⟨.none,rfl,Δ (h h' tk sb g)⟩)
theorem Jq.setAt{w:AV}(da:Den nm L w u):∀{l:List AV} {us:List Value} (k:Nat),Jq nm L l us->Jq nm L (l.set k w) (us.set k u)
 |[],_,_,e=>e▸rfl
 |_::_,_,0,⟨_,rs,e,_,ds⟩=>e▸⟨u,rs,rfl,da,ds⟩
 |_::_,_,k+1,⟨v,rs,e,d,ds⟩=>e▸⟨v,_,rfl,d,Jq.setAt da k ds⟩
theorem setItem_L0{l:Addr}{xs:Array Value}{n:Nat}{i:Int}{t:Tok}{Q:SP Unit}(om:Om)(ho:s.heap.get? l=some (listOf xs n))(h0:0<=i)(hfit:i<2 ^ 63)(hk:i<xs.size)
  (h:∀h',Heap.SameBut l s.heap h'->∀n',h'.get? l=some (listOf (xs.setIfInBounds i.toNat u) n')->Q () {s with heap:=h'}) :
  wpAny (Mdl om) A (setItem (.ref l) (.int i t) u) Q E s:=by
 have hl:s.heap.IsList l xs:=⟨_,ho,rfl,n,rfl⟩
 unfold setItem
 try with_reducible refine ω ?_
 first|refine Γ (Δ ?_)|skip
 refine Γ (wpAny_sequenceKey hl.typeIs (by decide) ?_)
 refine Γ (wpAny_callSpecial?_slot (name:=Str.ofString "__setitem__") hl.typeIs slot_list_setitem
  (wpAny_call_entry slot_list_setitem hl.typeIs entry_list_setitem ?_ (args_list_setitem _ _ _)))
 show wpAny _ _ (Builtin.List.listSubscript? (.int i t)>>=_) _ _ s
 refine Γ (wpAny_listSubscript_int (fitsIndex_of h0 hfit) ?_)
 clear hfit
 obtain ⟨k,rfl⟩:=Int.eq_ofNat_of_zero_le h0
 have hk:k<xs.size:=by lia
 have hx':xs[k]?=some xs[k]:=Λ hk
 show wpAny _ _ ((seqItemAt l k>>=λr=>pure (r.map (k,·)))>>=_) _ _ s
 refine Γ (Γ (wpAny_seqItemAt ho rfl (Δ ?_)))
 rw[hx']
 show wpAny _ _ (setSeqItemAt l k u>>=_) _ _ s
 obtain ⟨n',hd'⟩:=Obj.data_mapSeq (o:=listOf xs n) rfl (·.setIfInBounds k u)
 have e:=υ (Obj.mapSeq (·.setIfInBounds k u)) ho (Obj.isFreed_of_seq hd')
 have e2:Obj.mapSeq (·.setIfInBounds k u) (listOf xs n)=listOf (xs.setIfInBounds k u) n':=by
  unfold Obj.mapSeq at hd' ⊢;dsimp only[PySem.W.listOf]at hd' ⊢;rw[hd']
 rw[e2]at e
 refine Γ (wpAny_setSeqItemAt ho rfl ?_)
 first
  |exact Γ (Δ (Δ ⟨.none,rfl,Δ (h _ (Ϡ ..) n' e)⟩))
  |exact Δ ⟨.none,rfl,Δ (h _ (Ϡ ..) n' e)⟩
theorem setItem_L{xs:Array Value}{n k:Nat}{t:Tok}{Q:SP Unit}(om:Om)(ho:s.heap.get? ad=some (listOf xs n))(hk:k<xs.size)(hz:xs.size<=1000)
  (h:∀h',Heap.SameBut ad s.heap h'->∀n',h'.get? ad=some (listOf (xs.setIfInBounds k u) n')->Q () {s with heap:=h'}):wpAny (Mdl om) A (setItem (.ref ad) (.int (k:Int) t) u) Q E s:=
 setItem_L0 om ho (Int.natCast_nonneg k) (lt63' (Jk (Nat.le_of_lt hk) hz)) (Int.ofNat_lt.mpr hk) h
variable {o':AO}{k:Nat}
theorem nns{S:St}(h:S.get i=some o')(hv:vNs o'=none){ao:AO}:∀es,S.get i=some (.ns es)->∃es',ao=.ns es':=λes e=>by rw[h]at e;cases e;exact no hv.symm
theorem getL_is(en:Ens P nm L es ds):(PySem.W.getL z ds).isSome=true:=by
 induction e:look z es with
 |none=>rw[en.getLn e];rfl
 |some v=>exact en.getL e λu h Z=>h▸rfl
theorem dictSet_P{d:Nat}{k:St->R}(P:Jn x ρ (ob (dictSet x.S z a d) k) Q E)(h:∀es,x.S.get d=some (.dict es)->es.length<=900->Jn x ρ (setR x.S d (.dict (put z a es)) k) Q E->C):C:=by
 induction hg:gv Zi x.S d with
 |none=>unfold dictSet at P;rw[hg]at P;exact P.elim
 |some es=>
  refine Jz hg λo ho hv=>?_;unfold dictSet at P;rw[hg]at P;change Jn x ρ (ob (ifO (Nat.ble es.length 900) (x.S.set d (.dict (put z a es)))) k) Q E at P;induction hb:Nat.ble es.length 900 with
  |false=>rw[hb]at P;exact P.elim
  |true=>rw[hb]at P;exact h es (ZB hv▸ho) (nl hb) P
theorem dsOk(dv:x.D a u){t:Tok}(hm:(ad==sysModules)=false)(en:Ens B.G.om.w.params B.G.nm x.L es ds):x.P ad (.dict (put z a es)) (dictOf (putL z (PyData.keyHash B.G.om.w.params z) (.str z t) u ds) (PySem.W.putN z ds es.length)):=⟨hm,_,by rw[en.putN],en.put dv⟩
theorem put_long(en:Ens P nm L es ds)(hb:es.length<=900):ds.length<=999:=by rw[en.len];lia
theorem Sit.setpush(x:Sit B){S2:St}{i:Nat}{ad c:Addr}{ai an:AO}{h':Heap}{t:Tok}(ha:x.L[i]?=some ad)(n2:S2.n=x.S.n+1)(gi:S2.get i=some ai)(gn:S2.get x.S.n=some an)(go:∀j,j≠i->j≠x.S.n->S2.get j=x.S.get j)(hc:Ext B.G x.L (x.L++[c]))(kp:∀b o,b≠ad->x.s.heap.get? b=some o->h'.get? b=some o)
  (oi:∃o,h'.get? ad=some o/\OkP B.G.om B.G.nm (x.L++[c]) ad ai o) (on:∃o,h'.get? c=some o/\OkP B.G.om B.G.nm (x.L++[c]) c an o):Rep B.G S2 (x.L++[c]) {x.s with heap:=h',toks:=t}:=
 x.r.multi hc (by rw[ς,n2,x.r.len];rfl) (λb o e=>kp b o λq=>no ((x.r.new _ (Θ ha)).symm.trans (q▸e))) (λp hp o hl e q=>⟨o,kp _ o (λz=>hl (z▸Θ ha)) e,q⟩) (λj=>by
  by_cases h1:j=i
  ·rw[h1];exact .inr ⟨_,gi,oi.elim λo q=>⟨ad,o,Jp (θ _ _) ha,q.1,q.2⟩⟩
  ·by_cases h2:j=x.S.n
   ·rw[h2];exact .inr ⟨_,gn,on.elim λo q=>⟨c,o,x.r.len▸ZE x.L _,q.1,q.2⟩⟩
   ·exact .inl ⟨go j h1 h2,λa o ha' e=>kp a o (λq=>h1 (Ju x.r.nd (q▸ha') ha)) e⟩) λj h1 h2=>(show x.S.n=j by lia)▸⟨_,gn⟩
theorem Sit.spns(x:Sit B){S2:St}{i:Nat}{a0:AO}(hg:x.S.get i=some a0)(h0:∀es,a0≠.ns es)(go:∀j,j≠i->j≠x.S.n->S2.get j=x.S.get j):NsK x.S S2:=λj es e=>⟨es,(go j (λq=>h0 es (oi (hg.symm.trans (q▸e)))) (x.ne_n e)).trans e⟩
theorem setA_ok{k:St->R}(P:Jn x ρ (ob (setA x.S a z b) k) Q E)(da:x.D a u)(db:x.D b v){Q1:SP Unit}(h:∀x',x.le x'->Jn x' ρ (k x'.S) Q E->Q1 () x'.s){E1:SP Value}:wpAny (Md B) B.A (setAttr u z v) Q1 E1 x.s:=by
 unfold setA at P;induction hi:Zh a with
 |none=>rw[hi]at P;exact P.elim
 |some i=>
  rw[hi]at P;rw[JQ hi]at da;change Jn x ρ (ob (obO (x.S.get i) λo=>setO x.S i z b o) k) Q E at P;induction hg:x.S.get i with
  |none=>rw[hg]at P;exact P.elim
  |some o=>
   rw[hg]at P;refine da.loc_ λad ha hu=>x.own hg ha λo' ho p=>?_;subst hu;induction o with
   |inst c d=>
    change Jn x ρ (ob (ifO (attP c z) (dictSet x.S z b d)) k) Q E at P;induction hat:attP c z with
    |false=>rw[hat]at P;exact P.elim
    |true=>
     rw[hat]at P;have F:=att_of (P:=B.G.om.w.params) hat;refine dictSet_P P λes hd hb P=>p.inst_ λdx hdx ho'=>x.own hd hdx λo2 ho2 p2=>p2.dict_ λds hm e2 en=>x.opens λm O=>?_;have ho2:=e2▸ho2;have hne:dx≠B.env.locals:=λq=>(x.ok _ (.head _)).2.elim λes0 h0=>by
      cases Ju x.r.nd hdx (q▸x.top.loc);exact absurd (hd.symm.trans h0) (by simp)
     obtain ⟨N',U,u1,u2⟩:=O.upd (dictOf (putL z (PyData.keyHash B.G.om.w.params z) (.str z (x.s.toks+1)) v ds) (PySem.W.putN z ds es.length)) hdx hne ho2;refine set_dict O.f B.G.om.X O.n (⟨ho'▸ho,rfl,rfl,ho2⟩:InstAt x.s.heap ad (instObj c dx) c (some (dictOf ds es.length))) rfl F.set F.over F.take F.dict (getL_is en) rfl U ?_ λh' F' N'=>?_
     ·have:=putL_len z (PyData.keyHash B.G.om.w.params z) (.str z (x.s.toks+1)) v ds
      have:=en.len;lia
     ·exact O.set (t:=_) P hdx F' (λb o hb hne=>(N' _ (u2 b o hb hne)).1) (N' _ u1).1 (dsOk db hm en) (nns hd rfl) λx' p e1 Z P=>e1▸h x' p P
   |exc c d t=>
    change Jn x ρ (ob (ifO (eatP c z) (excSet x.S i z b c t d)) k) Q E at P;induction hat:eatP c z with
    |false=>rw[hat]at P;exact P.elim
    |true=>
     rw[hat]at P;have F:=eat_of (P:=B.G.om.w.params) hat;have tk:takerIn (MineH.KR B.G.om.w.params) c z=some none:=by unfold takerIn;rw[F.none];rfl
     refine p.exc_ λvs va vd ep=>?_;induction d with
     |some d=>
      refine dictSet_P P λes hd hb P=>ep.d.elim λdx r=>x.own hd r.1 λo2 ho2 p2=>p2.dict_ λds hm e2 en=>?_;have I:InstAt x.s.heap ad o' c (some (dictOf ds es.length)):=⟨ho,ep.cls,by unfold notCls;rw[ep.data],by rw[ep.dict,r.2];exact e2▸ho2⟩;exact excSet_dict F.e.k x.K I (ep.dict.trans r.2) tk (getL_is en) (put_long en hb) λh' t t' sb hd'=>Jn.setS (t:=t') P r.1 sb hd' (dsOk db hm en) (nns hd rfl) λx' p e1 Z P=>e1▸h x' p P
     |none=>
      change Jn x ρ (ob (obO (x.S.push (.dict [(z,b)])) λS1=>S1.set i (.exc c (some x.S.n) t)) k) Q E at P;have I:InstAt x.s.heap ad o' c none:=⟨ho,ep.cls,by unfold notCls;rw[ep.data],by rw[ep.dict,show vd=none from ep.d];trivial⟩;refine excSet_fresh F.e.k x.K I (ep.dict.trans ep.d) ep.data tk λh' t1 t2 kp hx' hd'=>?_;refine Jn.ob P λS2 e2 P=>Jo e2 λS1 e1 e2=>?_;have C1:=St.push_get e1;have C2:=St.set_get e2;have pp:x.L<+:x.L++[x.s.heap.objs.size]:=θ _ _;have go:∀j,j≠i->j≠x.S.n->S2.get j=x.S.get j:=λj h1 h2=>(C2.other j h1).trans (C1.other j h2);have R':=x.setpush (t:=t2) ha (C2.n.trans C1.n) C2.self ((C2.other _ (Ne.symm (x.ne_n hg))).trans C1.self) go (.inr ⟨_,rfl,x.r.new_ (Ϙ _)⟩) kp ⟨_,hx',vs,va,_,{ep with dict:=rfl,d:=⟨_,x.r.len▸ZE x.L _,rfl⟩,t:=Wm pp ep.t}⟩ ⟨_,hd',x.low,_,rfl,_,_,rfl,⟨⟨t1,rfl⟩,rfl,db.mono pp⟩,rfl⟩;exact h (x.to R' pp (x.spns hg (λZ=>nofun) go)) pp (P.up pp)
   |_=>exact P.elim
def insY(x:Str)(ys:List Str):List Str:=if x∈ys then ys else ys++[x]
theorem put_insY(z:Str):∀ys:List Str,put z (.bool true) (ys.map λy=>(y,AV.bool true))=(insY z ys).map λy=>(y,AV.bool true):=by
 intro v0_;induction v0_ with
 |nil=>
  exact rfl
 |cons y ys ih=>
  show (Bool.rec ((y,AV.bool true)::put z (.bool true) (ys.map λy=>(y,AV.bool true))) ((z,.bool true)::ys.map λy=>(y,AV.bool true)) (sEq z y):List (Str×AV))=_;unfold insY;induction q:sEq z y with
  |true=>rw[Jw q,if_pos (.head _)];rfl
  |false=>
   have ih:=ih;unfold insY at ih;show (y,AV.bool true)::put z (.bool true) (ys.map λy=>(y,AV.bool true))=_;rw[ih];by_cases hm:z∈ys
   ·rw[if_pos hm,if_pos (.tail _ hm)];rfl
   ·rw[if_neg hm,if_neg λh=>(mc_ h).elim (Yb q) hm];rfl
theorem mem_insY{z y:Str}{ys:List Str}:y∈insY z ys↔y=z\/y∈ys:=by
 unfold insY;by_cases q:z∈ys
 ·rw[if_pos q];exact⟨.inr,λh=>h.elim (λe=>e▸q) id⟩
 ·rw[if_neg q,List.mem_append,List.mem_singleton];exact or_comm
theorem kset_ok{ks:List Nat}{ys:List Str}{t:Tok}{Q:SP Unit}(P:Jn x RU (okN (x.S.set i (.kset (k::ks)))) Q E)(ha:x.L[i]?=some ad)(hn:∀es,x.S.get i≠some (.ns es))(ho:x.s.heap.get? ad=some (dictOf ds ys.length))(en:Ens B.G.om.w.params B.G.nm x.L (ys.map λy=>(y,AV.bool true)) ds)(hsm:(ad==sysModules)=false)
  (hd:ys.Nodup) (hl:ys.length<=ks.length) (hm:∀y,y∈ys↔∃k∈ks,B.G.nm.f k=y) (hb:ks.length<=800):wpAny (Md B) B.A (setItem (.ref ad) (.str (B.G.nm.f k) t) (.bool true)) Q E x.s:=by
 have hlen:=en.len
 rw[Ω]at hlen
 refine setItem_E B.G.om ho en (by lia) λh' tk sb hd'=>Jn.setS (k:=λS=>.ok .next S) P ha sb hd' ⟨hsm,insY (B.G.nm.f k) ys,putL (B.G.nm.f k) (PyData.keyHash B.G.om.w.params (B.G.nm.f k)) (.str (B.G.nm.f k) t) (.bool true) ds,?_,?_,?_,?_,λy=>?_⟩ (λes e=>absurd e (hn es)) λx' p e1 Z P=>e1▸P.next
 ·have:=en.putN (z:=B.G.nm.f k) (a:=.bool true)
  rw[put_insY,Ω,Ω]at this;rw[this]
 ·have:=en.put (z:=B.G.nm.f k) (a:=.bool true) (u:=.bool true) (t:=t) rfl
  rw[put_insY]at this;exact this
 ·unfold insY
  by_cases q:B.G.nm.f k∈ys
  ·rw[if_pos q];exact hd
  ·rw[if_neg q];exact List.nodup_append.mpr ⟨hd,List.nodup_cons.mpr ⟨Ξ,ϑ⟩,λa ha b hb e=>q (ms_ hb▸e▸ha)⟩
 ·unfold insY
  by_cases q:B.G.nm.f k∈ys
  ·rw[if_pos q];exact Nat.le_succ_of_le hl
  ·rw[if_neg q,ς];exact Nat.succ_le_succ hl
 ·rw[mem_insY,hm]
  exact⟨λh=>h.elim (λe=>⟨k,.head _,e.symm⟩) λh=>h.elim λk' r=>⟨k',.tail _ r.1,r.2⟩,λh=>h.elim λk' r=>(mc_ r.1).elim (λe=>.inl (e▸r.2.symm)) λm=>.inr ⟨k',m,r.2⟩⟩
theorem pushK_P{ks:List Nat}{w:AV}{Q:SP Unit}(P:Jn x RU (pushK x.S i ks k w) Q E)(h:w=.bool true->Jn x RU (okN (x.S.set i (.kset (k::ks)))) Q E->C):C:=
 P.ifT λhb P=>by
  induction hw:ZN w with
  |none=>rw[hw]at hb;exact nb hb
  |some t=>rw[hw]at hb;exact h (by rw[ZM hw,show t=true from hb]) P
theorem natV_of{k:Nat}(h:natV a=some k):a=.int (k:Int):=Jo h λi hi h=>by
 induction i with
 |ofNat m=>rw[<-oi h];exact JO hi
 |negSucc m=>exact no h
theorem putO_ok{w:AV}{o:AO}{Q:SP Unit}{y:Value}(P:Jn x RU (putO x.S i b w o) Q E)(hg:x.S.get i=some o)(ha:x.L[i]?=some ad)(db:x.D b v)(dw:x.D w y):wpAny (Md B) B.A (setItem (.ref ad) v y) Q E x.s:=
 x.own hg ha λo' ho p=>by
  cases o with
  |dict es=>
   refine p.dict_ λds hm e en=>?_;have ho:=e▸ho;change Jn x RU (Option.rec (ob (WG b) λk=>kdict x.S i w k es) (λx_1=>ifT (Nat.ble es.length 900) (okN (x.S.set i (.dict (put x_1 w es))))) (Zz b)) Q E at P;induction hs:Zz b with
   |some z=>
    rw[hs]at P;rw[Zb hs]at db;exact Jn.ifT P λhb P=>db.str_ λt et=>et▸setItem_E B.G.om ho en (Jk (put_long en (nl hb)) (by decide)) λh' tk sb hd'=>Jn.setS (k:=λS=>.ok .next S) P ha sb hd' (dsOk dw hm en) (nns hg rfl) λx' p e1 Z P=>e1▸P.next
   |none=>
    rw[hs]at P;exact Jn.ob P λk hk P=>Jn.ifT P λhe P=>pushK_P P λhw P9=>(WZ hk).elim λc hc=>by
     rw[hc]at db;rw[hw]at dw;cases dw;have he:es=[]:=by induction es using c_ with
      |nil=>rfl
      |cons _ _=>exact nb he
     subst he;exact db.sym_ λt et Z=>et▸kset_ok (ks:=[]) (ys:=[]) P9 ha (λes e=>(nns (ao:=.dead) hg rfl es e).elim λZ h=>nomatch h) ho en hm ϑ (Ϙ _) (λy=>⟨λh=>absurd h Ξ,λh=>h.elim λZ r=>absurd r.1 Ξ⟩) (Nat.zero_le _)
  |kset ks=>
   refine Jn.ob P λk hk P=>Jn.ifT P λhb P=>pushK_P P λhw P=>(WZ hk).elim λc hc=>p.2.elim λys g=>g.elim λds g=>?_;rw[hc]at db;rw[hw]at dw;cases dw;exact db.sym_ λt et Z=>et▸kset_ok P ha (λes e=>(nns (ao:=.dead) hg rfl es e).elim λZ h=>nomatch h) (g.1▸ho) g.2.1 p.1 g.2.2.1 g.2.2.2.1 g.2.2.2.2 (nl hb)
  |list vs=>
   exact Jn.ob P λk hk P=>Jn.ifT P λhlt P=>Jn.ifT P λhb P=>p.list_ λxs n e dd=>by
    rw[natV_of hk]at db;have hsz:xs.size=vs.length:=π▸(Jq.len dd).symm;exact db.int_ λt et=>et▸setItem_L B.G.om (e▸ho) (hsz▸nl hlt) (hsz▸Zg hb) λh' sb n' hd'=>Jn.setS (k:=λS=>.ok .next S) (t:=x.s.toks) P ha sb hd' ⟨_,n',rfl,by rw[Array.toList_setIfInBounds];exact Jq.setAt dw k dd⟩ (nns hg rfl) λx' p e1 Z P=>e1▸P.next
  |_=>exact P.elim
theorem asg_cons{env:Env}{t:Expr}{ts:List Expr}(q:WI t=false):assignEach (t::ts) env=(false,assign t env)::assignEach ts env:=by
 revert q;cases t<;>first|exactλZ=>rfl|exact tf
theorem each_eq{env:Env}:∀{ts:List Expr},noStar ts=true->assignEach ts env=ts.map λt=>(false,assign t env):=by
 intro v0_;induction v0_ with
 |nil=>
  intro Z;exact rfl
 |cons t ts ih=>
  intro h;change (Bool.rec (noStar ts) false (WI t):Bool)=true at h;induction q:WI t with
  |true=>rw[q]at h;exact nb h
  |false=>
   rw[q]at h;have:assignEach (t::ts) env=(false,assign t env)::assignEach ts env:=asg_cons q;rw[this,ih h];rfl
theorem asgs_ok(hr:Hr n r)(m:Rm B n):∀{ts:List Expr} {vs:List AV} {us:List Value} {x:Sit B} {Q:SP Unit},Jn x RU (asgs (r B.G.cx) B.f ts vs x.S) Q E->x.Ds vs us->wpAny (Md B) B.A (assignInOrder (ts.map λt=>assign t B.env) us) Q E x.s:=by
 intro ts;induction ts with
 |nil=>
  intro vs us x Q P d;induction vs using c_ with
  |nil=>rw[show us=[]from d];exact Δ P.next
  |cons _ _=>exact P.elim
 |cons t ts ih=>
  intro vs us x Q P d;induction vs using c_ with
  |nil=>exact P.elim
  |cons v vs=>
   exact d.elim λw d=>d.elim λws d=>by
    rw[d.1];show wpAny _ _ (do holding ws (assign t B.env w);assignInOrder (ts.map λt=>assign t B.env) ws) _ _ _;exact Γ (ω (hr.asg m d.2.1 (Jn.onN P λx1 p1 P=>ih P (Jq.mono p1 d.2.2))))
theorem asg_ok{e:Expr}(hr:Hr n r)(m:Rm B n){Q:SP Unit}(P:Jn x RU (asgE e B.G.cx (r B.G.cx) B.f a x.S) Q E)(d:x.D a u):wpAny (Md B) B.A (assign e B.env u) Q E x.s:=by
 revert P;induction e using Expr.casesOn with
 |Name z pos=>
  intro P;show wpAny _ _ (do standAt pos;bindName B.env z u) _ _ _;exact Γ (ϙ (bind_ok P d))
 |Attribute o' z pos=>
  intro P;show wpAny _ _ (do
   let ov<-holding [u] (eval o' B.env)
   standAt pos.atName
   holding [u,ov] (setAttr ov z u)
   release [u,ov] []) _ _ _
  exact Γ (ω (hr.ev m (Jn.onV P λx1 a1 u1 p1 d1 P=>Γ (ϙ (Γ (ω (setA_ok (k:=λS=>.ok .next S) P d1 (d.up p1) λx2 p2 P=>rel_ P.next)))))))
 |Subscript o' i pos=>
  rw[assign_Subscript];exactλP=>Jn.ifT P λhp P=>Γ (ω (hr.ev m (Jn.onV P λx1 a1 u1 p1 d1 P=>Γ (ω (hr.ev m (Jn.onV P λx2 a2 u2 p2 d2 P=>Γ (ϙ (Γ (ω (P.ob λj hj P=>P.ob λo hg P=>by
   have d1:=d1.up p2;rw[JQ hj]at d1;exact d1.loc_ λad ha e=>e▸putO_ok (Q:=λZ s'=>wpAny (Md B) B.A _ Q E s') (P.leaf λx' o p h1 h2=>⟨λu r=>rel_ (h1 u r),h2⟩) hg ha d2 ((d.up p1).up p2)))))))))))
 |Tuple ts k pos=>
  exactλP=>Jn.ifT P λhh P=>Jn.ifT P λhs P=>Jn.ob P λl hl P=>Jn.ifT P λhn P=>Sit.tup hl d λad xs n1 hu ho dd=>by
   subst hu;have hq:=each_eq (env:=B.env) hs;refine assign_Tuple_tuple (B.hdl (JL hh)) ⟨_,ho,rfl,n1,rfl⟩ ?_ ?_ λh' he=>?_
   ·rw[hq,Ω,<-π,<-Jq.len dd,nq hn]
   ·rw[hq,List.findIdx?_map]
    exact List.findIdx?_eq_none_iff.mpr λx hx=>rfl
   ·rw[hq,Jb]
    exact asgs_ok hr m (x:=x.grow (h':=h') (λb o e=>he b o (Jl (ϱ e)) e) x.s.toks) (P.up (ζ _)) dd
 |_=>exact False.elim
variable {γ:Type}{t:Nat}{Q1:SP Unit}{E1:SP Value}{T:Addr}{h:Heap}{k:St->R}{d tb fl:Option Nat}
theorem Jn.oo{y:Option β}{f:β->Option γ}{k:γ->R}(P:Jn x ρ (Internal.ob (obO y f) k) Q E)(h:∀a,y=some a->Jn x ρ (Internal.ob (f a) k) Q E->C):C:=by
 induction y with
 |none=>exact P.elim
 |some a=>exact h a rfl P
theorem Jn.assoc{y:Option β}{f:β->Option γ}{k:γ->R}(P:Jn x ρ (Internal.ob (obO y f) k) Q E):Jn x ρ (Internal.ob y λa=>Internal.ob (f a) k) Q E:=by induction y<;>exact P
theorem reals_cons{f:FrA}{env:Env}{l:List (FrA×Env)}(h:f.cp=false):Jv ((f,env)::l)=env::Jv l:=by
 show (Bool.rec (env::Jv l) (Jv l) f.cp:List Env)=_;rw[h]
theorem reals_mem{e:Env}:∀{l:List (FrA×Env)},e∈Jv l->∃p∈l,p.1.cp=false/\p.2=e:=by
 intro v0_;induction v0_ with
 |nil=>
  intro h;exact(Ξ h).elim
 |cons z9 l ih=>
  intro h;obtain ⟨f,env⟩:=z9;induction q:f.cp with
  |true=>
   have h:e∈(Bool.rec (env::Jv l) (Jv l) f.cp:List Env):=h;rw[q]at h;exact(ih h).elim λp r=>⟨p,.tail _ r.1,r.2⟩
  |false=>
   rw[reals_cons q]at h;exact(mc_ h).elim (λe=>⟨_,.head _,q,e.symm⟩) λh=>(ih h).elim λp r=>⟨p,.tail _ r.1,r.2⟩
structure FrB(x:Sit B)(e:Env)(ad:Addr)(o:Obj):Prop where
 fr:e.frame=some ad
 k:e.scope.kind≠.module
 hF:B.G.hF.get? ad=none
 sz:B.G.om.hb.objs.size<=ad
 h:x.s.heap.get? ad=some o
 ns:∃m,nsP m o
 id:∀j ao,x.L[j]?=some ad->x.S.get j=some ao->∃es,ao=.ns es
theorem Sit.frb(x:Sit B){e:Env}(he:e∈Jv ((B.f,B.env)::B.below)++B.G.out):∃ad o,FrB x e ad o:=
 (ma_ he).elim (λhe=>(reals_mem he).elim λp r=>by
  obtain ⟨hp,hc,rfl⟩:=r;have F:=x.ok p hp;exact F.2.elim λes g=>x.own g F.1.loc λo ho q=>q.ns_ λm Z hm Z=>⟨_,o,(F.1.fr hc).1,by rw[F.1.sc,F.1.k];decide,x.r.new _ (Θ F.1.loc),q.1,ho,⟨m,hm⟩,λj ao hj hg=>⟨es,by cases Ju x.r.nd hj F.1.loc;exact oi (hg.symm.trans g)⟩⟩)
  λhe=>(B.G.oute e he).2.elim λp r=>(x.r.outs p r.1).2.elim λo g=>⟨_,o,r.2,(B.G.oute e he).1,(B.G.outn p r.1).1,(B.G.outn p r.1).2,g.1,⟨_,g.2⟩,λj ao hj Z=>absurd (Θ hj) (x.r.outs p r.1).1⟩
theorem funAll{base:Heap}:∀{l:List Env},(∀e∈l,e.scope.kind≠.module/\∃L o,e.frame=some L/\base.get? L=none/\h.get? L=some o/\∀vs,o.data≠.fields vs)->h.FunFrames base l:=by
 intro v0_;induction v0_ with
 |nil=>
  intro Z;exact trivial
 |cons e l ih=>
  intro H;exact⟨(H e (.head _)).1,(H e (.head _)).2,ih λe' q=>H e' (.tail _ q)⟩
theorem nsP.fields(h:∃m,nsP m o)(vs:Array Value):o.data≠.fields vs:=λe=>h.elim λm r=>r.elim λes r=>r.elim λep r=>nomatch e.symm.trans r.1
theorem Sit.funs(x:Sit B){l:List Env}(hl:Jv ((B.f,B.env)::B.below)++B.G.out=l):x.s.heap.FunFrames B.G.hF l:=
 funAll λe he=>(x.frb (hl▸he)).elim λad r=>r.elim λo F=>⟨F.k,ad,o,F.fr,F.hF,F.h,nsP.fields F.ns⟩
theorem Sit.slots(x:Sit B){l:List Env}(hl:Jv ((B.f,B.env)::B.below)++B.G.out=l)(hs:Heap.SlotsOnly (l.filterMap (·.frame)) x.s.heap h'):Rep B.G x.S x.L {x.s with heap:=h'}:=by
 have mem:∀b,b∈l.filterMap (·.frame)->∃e o,FrB x e b o:=λb hb=>(List.mem_filterMap.mp hb).elim λe r=>(x.frb (hl▸r.1)).elim λad q=>q.elim λo F=>⟨e,o,oi (F.fr.symm.trans r.2)▸F⟩
 refine x.r.multi (.inl rfl) x.r.len (t:=x.s.toks) (λb o e1 e2=>(hs.2.1 b λhm=>(mem b hm).elim λe r=>r.elim λo F=>no (F.hF.symm.trans e1)).trans e2) (λp hp o hl e q=>(hs.2.2 _ o e).elim λsl h2=>⟨_,h2,q⟩)
  (λj=>?_) λj h1 h2=>absurd h2 (ϖ h1)
 induction e:x.S.get j with
 |none=>exact .inl ⟨rfl,λa o ha Z=>(x.r.all j (x.r.len▸(lt_ ha))).elim λao h=>no (e.symm.trans h)⟩
 |some ao=>
  refine .inr ⟨ao,rfl,(x.r.objs j ao e).el λad o ha ho ok=>?_⟩;by_cases q:ad∈l.filterMap (·.frame)
  ·refine(mem ad q).elim λe' r=>r.elim λo' F=>(F.id j ao ha e).elim λes z=>?_
   subst z;exact(hs.2.2 _ o ho).elim λsl h2=>⟨ad,_,ha,h2,ok⟩
  ·exact⟨ad,o,ha,(hs.2.1 ad q).trans ho,ok⟩
theorem map_fields{f:Array Value->Array Value}{vs:Array Value}(h:o.data=.fields vs):Obj.mapFields f o={o with data:=.fields (f vs)}:=by cases o;cases h;rfl
theorem Jn.setF(P:Jn x ρ (Internal.ob (x.S.set i ao) k) Q E)(ha:x.L[i]?=some ad)(ho:x.s.heap.get? ad=some o){vs:Array Value}(hd:o.data=.fields vs){m:Nat}{w:Value}(hm:m<vs.size)(ok:x.P ad ao {o with data:=.fields (vs.setIfInBounds m w)}){M:Model}(h:∀x',x.le x'->Chg x.S x'.S x.S.n i ao->x'.L=x.L->Jn x' ρ (k x'.S) Q E->Q1 () x'.s):wpAny M A (setField (.ref ad) m w) Q1 E1 x.s:=
 wpAny_setField ho hd hm (P.setR (t:=x.s.toks) ha (λb o' hb e=>(χ _ _ (Ne.symm hb)).trans e) (υ _ ho (Obj.isFreed_of_fields (Obj.data_mapFields hd _))) (map_fields hd▸ok) (λes e=>x.own e ha λo3 h3 p3=>p3.ns_ λm' Z hm' Z=>by
  cases ho.symm.trans h3;exact absurd hd (nsP.fields ⟨m',hm'⟩ vs)) λx' p e1 eL C P=>e1▸h x' p C eL P)
theorem newTb_push{l:Nat}{la:Addr}(P:Jn x ρ (ob (newTb x.S i l j d) k) Q E)(hg:x.S.get i=some (.exc j d tb))(ha:x.L[i]?=some ad)(hla:x.L[l]?=some la){ts:Array Value}(hf:o.data=.fields ts)(h3:ts[3]?=some (rawInt la)){M:Model}(h:∀x',x.le x'->Jn x' ρ (k x'.S) Q E->Q1 () x'.s):
  wpAny M A (setField (.ref ad) 1 (.ref x.s.heap.objs.size)) Q1 E1 {x.s with heap:=x.s.heap.push o}:=
 Jn.oo P λS1 e1 P=>by
  have P:Jn x ρ (pushR x.S (.tb (some l)) λZ S1=>ob (S1.set i (.exc j d (some x.S.n))) k) Q E:=by unfold pushR;rw[e1];exact P
  refine P.pushR (t:=x.s.toks) (o:=o) ⟨ts,some la,hf,h3,la,Jp (θ _ _) hla,rfl⟩ (Obj.isFreed_of_fields hf) λx2 p e2 eL e3 P=>?_;refine x.own hg ha λo' ho' q=>q.exc_ λvs va vd ep=>?_;refine e2▸P.setF (Jp p ha) (by rw[e2];exact η _ ho') ep.data (ep.size▸by decide) ⟨_,some _,vd,{cls:=ep.cls,data:=rfl,size:=(Array.size_setIfInBounds ..).trans ep.size,f2:=(Array.getElem?_setIfInBounds_ne (by decide)).trans ep.f2,slots:=ep.slots,dict:=ep.dict,d:=Wm p ep.d,f1:=Array.getElem?_setIfInBounds_self_of_lt (ep.size▸by decide),t:=⟨_,e3,rfl⟩}⟩ λx' p' Z Z P=>h x' (p.trans p') P
theorem newTb_ok(hcp:B.f.cp=false)(P:Jn x ρ (ob (newTb x.S i B.f.l j d) k) Q E)(hg:x.S.get i=some (.exc j d tb))(ha:x.L[i]?=some ad)(hA:A.frames=B.A.frames){head:Value}{hadNext:Bool}(h:∀x',x.le x'->Jn x' ρ (k x'.S) Q E->Q1 () x'.s):
  wpAny (Md B) A (do let fr<-frameOf B.env;let pl<-entryPlaceOf B.env.locals hadNext;let b<-EntryCells.newEntry head fr .none (rawInt B.env.locals) .none pl;setField (.ref ad) 1 b) Q1 E1 x.s:=by
 have hl:Jv ((B.f,B.env)::B.below)++B.G.out=B.env::(Jv B.below++B.G.out):=by rw[reals_cons hcp];rfl
 refine Γ (wpAny_frameOf_fun (hA.trans (hl▸B.fr)) (x.funs hl) (x.top.fr hcp).1 λh₁ hs₁=>?_)
 refine Γ (wpAny_entryPlaceOf λpl hpl=>?_)
 unfold EntryCells.newEntry newFields
 refine Γ (wpAny_newObj_type ?_ (hpl.sizeOk5 _ _ _ _ _))
 exact newTb_push (x:=x.to (x.slots hl hs₁) (ζ _) λZ es e=>⟨es,e⟩) (P.up (ζ _)) hg ha x.top.loc rfl (by rcases hpl with rfl|⟨_,_,_,_,_,_,_,rfl⟩<;>rfl) λx' p=>h x' p
theorem vTb_of{w:Option Nat}(h:vTb ao=some w):ao=.tb w:=WS (c:=AO.tb) (by clear h;induction ao<;>exact rfl) h
structure TbP(o:Obj)(al:Option Addr)(ts:Array Value):Prop where
 d:o.data=.fields ts
 f:ts[3]?=some (noneOrRaw al)
theorem TbP.lt{al:Option Addr}{ts:Array Value}(p:TbP o al ts):3<ts.size:=(Array.getElem?_eq_some_iff.mp p.f).1
theorem Sit.trb(x:Sit B)(hg:gv vTb x.S t=some fl)(hT:x.L[t]?=some T)(k:∀oT al ts,x.s.heap.get? T=some oT->TbP oT al ts->optAt x.L fl al->C):C:=
 Jz hg λo' ho hv=>x.own (ao:=.tb fl) (vTb_of hv▸ho) hT λoT hoT p=>p.elim λts p=>p.elim λal p=>k oT al ts hoT ⟨p.1,p.2.1⟩ p.2.2
theorem setTb_ok{M:Model}{fl':Option Nat}{al:Option Addr}(P:Jn x ρ (ob (x.S.set t (.tb fl')) k) Q E)(hg:gv vTb x.S t=some fl)(hT:x.L[t]?=some T)(hal:optAt x.L fl' al)(h:∀x',x.le x'->Chg x.S x'.S x.S.n t (.tb fl')->x'.L=x.L->Jn x' ρ (k x'.S) Q E->Q1 () x'.s):wpAny M A (setField (.ref T) 3 (noneOrRaw al)) Q1 E1 x.s:=
 x.trb hg hT λoT al0 ts hoT q Z=>P.setF hT hoT q.d q.lt ⟨_,al,rfl,Array.getElem?_setIfInBounds_self_of_lt q.lt,hal⟩ h
structure Ec(x:Sit B)(ad:Addr)(c:Nat)(d t:Option Nat)(oe:Obj)(vs:Array Value)(va vd:Option Addr):Prop where
 h:x.s.heap.get? ad=some oe
 p:ExcP x.L c d t oe vs va vd
theorem Sit.exc(x:Sit B){p:Nat×Option Nat×Option Nat}(hg:gv vExc x.S i=some p)(ha:x.L[i]?=some ad)(k:∀oe vs va vd,x.S.get i=some (.exc p.1 p.2.1 p.2.2)->Ec x ad p.1 p.2.1 p.2.2 oe vs va vd->C):C:=
 Jz hg λo' ho hv=>x.own (vExc_of hv▸ho) ha λoe hoe q=>q.exc_ λvs va vd ep=>k oe vs va vd (vExc_of hv▸ho) ⟨hoe,ep⟩
theorem raw_beq(a b:Addr):(rawInt a==rawInt b)=decide (a=b):=by
 by_cases q:a=b
 ·subst q;rw[decide_eq_true rfl];exact Jm _
 ·rw[ϡ q];exact beq_eq_false_iff_ne.mpr λe=>q (by injection e with e;exact Int.ofNat.inj e)
theorem raw_none(a:Addr):(Value.none==rawInt a)=false:=beq_eq_false_iff_ne.mpr λe=>by cases e
theorem note_ok(hcp:B.f.cp=false)(P:Jn x ρ (ob (noteA x.S i B.f.l) k) Q E)(ha:x.L[i]?=some ad)(hA:A.frames=B.A.frames)(h:∀x',x.le x'->Jn x' ρ (k x'.S) Q E->Q1 () x'.s):wpAny (Md B) A (noteFrame (.ref ad) B.env) Q1 E1 x.s:=
 Jn.oo P λp hp P=>x.exc hp ha λoe vs va vd hg q=>by
  obtain ⟨c,d,t⟩:=p;unfold noteFrame;rw[(x.top.fr hcp).1];refine Γ (wpAny_field q.h q.p.data q.p.f1 ?_);induction t with
  |none=>
   rw[show va=none from q.p.t,if_neg (by decide)];exact newTb_ok hcp P hg ha hA h
  |some t=>
   refine Jn.oo P λfl hf P=>q.p.t.elim λT r=>x.trb hf r.1 λoT al ts hoT qT hal=>?_;rw[r.2];refine Γ (wpAny_field hoT qT.d qT.f ?_);have P:Jn x ρ (ob (Bool.rec (obO (x.S.set t (.tb none)) λS1=>newTb S1 i B.f.l c d) (some x.S) (Option.rec false (λk=>Nat.beq k B.f.l) fl)) k) Q E:=P;have go:Jn x ρ (ob (obO (x.S.set t (.tb none)) λS1=>newTb S1 i B.f.l c d) k) Q E->wpAny (Md B) A (do setField (.ref T) 3 .none;setField (.ref ad) 1 (<-EntryCells.newEntry (.ref T) (<-frameOf B.env) .none (rawInt B.env.locals) .none (<-entryPlaceOf B.env.locals (Value.ref T !=.none)))) Q1 E1 x.s:=λP=>by
    refine Γ (setTb_ok (al:=none) P.assoc hf r.1 rfl λx1 p1 C eL P=>?_);refine newTb_ok hcp P ((C.other i λz=>?_).trans hg) (Jp p1 ha) hA λx' p'=>h x' (p1.trans p');subst z;exact Jz hf λo' ho hv=>nomatch (vTb_of hv▸ho).symm.trans hg
   induction fl with
   |none=>
    rw[show al=none from hal];show wpAny _ _ (if (Value.none==rawInt B.env.locals)=true then _ else _) _ _ _;rw[raw_none,if_neg Ϝ];exact go P
   |some f0=>
    refine hal.elim λa0 g=>?_;rw[g.2];show wpAny _ _ (if (rawInt a0==rawInt B.env.locals)=true then _ else _) _ _ _;rw[raw_beq];have P2:Jn x ρ (ob (Bool.rec (obO (x.S.set t (.tb none)) λS1=>newTb S1 i B.f.l c d) (some x.S) (Nat.beq f0 B.f.l)) k) Q E:=P;induction e:Nat.beq f0 B.f.l with
    |true=>
     rw[e]at P2;rw[decide_eq_true (oi ((nq e▸g.1).symm.trans x.top.loc)),if_pos rfl];exact Δ (h x (Sit.le.refl x) P2)
    |false=>
     rw[e]at P2;rw[ϡ λz:a0=B.env.locals=>ε e (Ju x.r.nd g.1 (z▸x.top.loc)),if_neg Ϝ];exact go P2
theorem ref_none(a:Addr):(Value.ref a==Value.none)=false:=beq_eq_false_iff_ne.mpr λe=>by cases e
theorem Wf{M:Model}{al:Option Addr}(P:Jn x ρ (ob (WC x.S i fl) k) Q E)(ha:x.L[i]?=some ad)(hal:optAt x.L fl al){w:Option Addr}(hw:w=al)(h:∀x',x.le x'->x'.L=x.L->Jn x' ρ (k x'.S) Q E->Q1 () x'.s):wpAny M A (setFlight (.ref ad) w) Q1 E1 x.s:=
 Jn.oo P λp hp P=>x.exc hp ha λoe vs va vd hg q=>by
  obtain ⟨c,d,t⟩:=p;subst hw;unfold setFlight;refine Γ (wpAny_field q.h q.p.data q.p.f1 ?_);induction t with
  |none=>
   rw[show va=none from q.p.t,if_neg (by decide)];exact Δ (h x (Sit.le.refl x) rfl P)
  |some t=>
   refine Jn.oo P λfl0 hf P=>q.p.t.elim λT r=>?_;rw[r.2];show wpAny _ _ (if (Value.ref T !=Value.none)=true then _ else _) _ _ _;rw[bne,ref_none,if_pos (show (!false)=true from rfl)];have g:=setTb_ok (M:=M) (A:=A) (E1:=E1) P hf r.1 hal λx' p Z eL P=>h x' p eL P;induction w with
   |none=>exact g
   |some w=>exact g
theorem pass_ok{M:Model}(hcp:B.f.cp=false)(P:Jn x ρ (ob (passA x.S i B.f.l) k) Q E)(ha:x.L[i]?=some ad){e1:SP Value}(h:∀x',x.le x'->x'.L=x.L->Jn x' ρ (k x'.S) Q E->e1 (.ref ad) x'.s):cameBackBy M A B.env e1 (.ref ad) x.s/\∀w (α:Type) (Q2:SP α),wpAny M A (PySem.passOn w (.ref ad) B.env) Q2 e1 x.s:=
 Jn.oo P λp hp P=>x.exc hp ha λoe vs va vd hg q=>Jn.oo P λt ht P=>by
  obtain ⟨c,d,t'⟩:=p;cases show t'=some t from ht
  refine q.p.t.elim λT r=>?_;have fl:∀{Q1:SP Unit} {E1},(∀x',x.le x'->x'.L=x.L->Jn x' ρ (k x'.S) Q E->Q1 () x'.s)->wpAny M A (setFlight (.ref ad) B.env.frame) Q1 E1 x.s:=λh=>Wf (al:=some B.env.locals) P ha ⟨_,x.top.loc,rfl⟩ (x.top.fr hcp).1 h;have f1:vs[1]?=some (.ref T):=q.p.f1.trans (by rw[r.2];rfl);have ne:¬((Value.ref T==Value.none)=true):=by rw[ref_none];exact Ϝ
  exact⟨Γ (wpAny_field q.h q.p.data f1 (by rw[if_neg ne];exact fl h)),λw α Q2=>Γ (wpAny_field q.h q.p.data f1 (by rw[if_neg ne];exact Γ (fl λx' p e P=>wpAny_throw (h x' p e P))))⟩
theorem leave_ok(hcp:B.f.cp=false)(P:Jn x ρ (ob (leaveA x.S i B.f.l) k) Q E)(ha:x.L[i]?=some ad)(hA:A.frames=B.A.frames)(h:∀x',x.le x'->Jn x' ρ (k x'.S) Q E->Q1 () x'.s):wpAny (Md B) A (leaving B.env (.ref ad)) Q1 E1 x.s:=
 Γ (note_ok (k:=λS1=>ob (WC S1 i none) k) hcp (Jn.assoc (y:=noteA x.S i B.f.l) P) ha hA λx1 p1 P=>Wf (al:=none) P (Jp p1 ha) rfl rfl λx' p Z P=>h x' (p1.trans p) P)
theorem drop_ok{M:Model}(P:Jn x ρ (ob (dropA B.f x.S z) k) Q E){pos:Pos}(h:∀x',x.le x'->x'.L=x.L->Jn x' ρ (k x'.S) Q E->Q1 () x'.s):wpAny M A (do bindName B.env z .none;unbindBehindTheSuite B.env z pos) Q1 E1 x.s:=
 Jn.oo P λkd hk P=>by
  have kk:=x.top.kind hk;have ks:=x.fun_;induction kd with
  |«local»=>
   refine Jn.oo P λes hg P=>Jz hg λo ho hv=>x.own (ao:=.ns es) (vNs_of hv▸ho) x.top.loc λo' ho' p=>p.ns_ λm hb hm ok=>?_;refine wpAny_nameGoes_keeps (m:=m) kk (nsP_at ho' hm) (by rw[ks];rfl) λh' v hn hs=>hn.elim λo2 g=>?_;exact g.elim λes2 g=>g.elim λep g=>Jn.setS (k:=k) (ao:=.ns (put z .junk es)) P x.top.loc hs g.1 ⟨hb,_,⟨es2,ep,g.2⟩,ok.drop λy hy=>if_neg hy⟩ (λZ Z=>⟨_,rfl⟩) λx' p e1 e2 P=>e1▸h x' p e2 P
  |_=>exact P.elim
variable {Q1:SP β}{K:Out->St->R}{pos:Pos}
variable {f':FrA}{env':Env}{bl:List (FrA×Env)}{fr':A.frames=some (Jv ((f',env')::bl)++B.G.out)}{hd':f'.hd=false->A.handled=none}
def Sit.out(x:Sit B)(y:Sit ⟨B.G,A,f',env',bl,fr',hd'⟩)(p:x.L<+:y.L)(sub:WY y.L y.S ((f',env')::bl)->WY y.L y.S ((B.f,B.env)::B.below)):Sit B:=⟨y.S,y.L,y.s,y.r,sub y.ok,λi h1 h2=>(x.he i h1 h2).elim λa r=>⟨a,Jp p r.1,r.2⟩⟩
theorem Jn.enter{y:Sit ⟨B.G,A,f',env',bl,fr',hd'⟩}{σ:Sit ⟨B.G,A,f',env',bl,fr',hd'⟩->Out->β->Prop}(P:Jn x ρ (R.rec .no K (λi Z Z t f=>.ask i t f) c) Q E)(p:x.L<+:y.L)(sub:∀L S,WY L S ((f',env')::bl)->WY L S ((B.f,B.env)::B.below))
  (h:∀y' o (q:y.le y'),Jn (x.out y' (p.trans q) (sub _ _)) ρ (K o y'.S) Q E->(∀u,σ y' o u->Q1 u y'.s)/\∀i a,o=.exc i->y'.L[i]?=some a->E1 (.ref a) y'.s):Jn y σ c Q1 E1:=by
 induction c with
 |no=>exact P
 |ask i t f iht ihf=>exact⟨λe=>iht (P.1 e),λe=>ihf (P.2 e)⟩
 |ok o S=>exactλy' q e=>h y' o q (by subst e;exact Jn.up P (p.trans q))
theorem Jn.seq{y:Sit B}{σ:Sit B->Out->β->Prop}(P:Jn y ρ (R.rec .no K (λi Z Z t f=>.ask i t f) c) Q E)
  (h:∀y' o (q:y.le y'),Jn y' ρ (K o y'.S) Q E->(∀u,σ y' o u->Q1 u y'.s)/\∀i a,o=.exc i->y'.L[i]?=some a->E1 (.ref a) y'.s):Jn y σ c Q1 E1:=Jn.enter P (ζ _) (λZ Z=>id) h
theorem Jn.exc(P:Jn x ρ (.ok (.exc i) x.S) Q E)(ha:x.L[i]?=some ad):E (.ref ad) x.s:=(P x (Sit.le.refl x) rfl).2 i ad rfl ha
theorem RF.el{o:Out}{w:Flow}(h:RF x o w)(h1:o=.next->w=.next->C)(h2:∀a u,o=.ret a->w=.ret u->x.D a u->C):C:=h.elim (λe=>h1 e.1 e.2) λe=>e.elim λa e=>e.elim λu e=>h2 a u e.1 e.2.1 e.2.2
theorem exs_ok(hr:Hr n r)(m:Rm B n){Q:SP Flow}:∀{ss:List Stmt} {x:Sit B},Jn x RF (Wc (r B.G.cx) B.f ss x.S) Q E->wpAny (Md B) B.A (execs ss B.env) Q E x.s:=by
 intro v0_;induction v0_ with
 |nil=>
  intro x P;exact wpAny_execs_nil P.nextF
 |cons st ss ih=>
  intro x P;exact wpAny_execs_cons (hr.ex m (Jn.seq (K:=thenO (Wc (r B.G.cx) B.f ss)) P λy o p P=>⟨λu ru=>ru.el (λe1 e2=>by subst e1;subst e2;exact ih P) λa v e1 e2 d=>by subst e1;subst e2;exact P.retF d,λi ad e ha=>by subst e;exact P.exc ha⟩))
inductive ExcCl (h:Heap) (C:Addr):Prop where
 |mk {nm q N bs bm hdct sn sub ab col dd k0 k1 k2 k3 k5} (hC:h.get? C=some (excClassObj nm q C N bs bm hdct sn sub ab col dd k0 k1 k2 k3 k5 "Exception.__new__")) (hb:bm.contains (.type "BaseException")=true):ExcCl h C
theorem Sit.excCl(x:Sit B){k:Nat}(h:excP k=true):ExcCl x.s.heap k:=(exc_of (P:=B.G.om.w.params) h).obj λnm q N bs bm hdct sn sub ab col dd k0 k1 k2 k3 k5 hC hm=>⟨x.K _ _ hC,(WE hm).2.2.1⟩
theorem raise_tail{M:Model}{env:Env}{m:Sem Value}{Q:SP Flow}
  (h:wpAny M A m (λv s₁=>∃e k od vs osl,v=.ref e/\ExcCl s₁.heap k/\
   s₁.heap.get? e=some ⟨.ref k,od,.fields vs,osl⟩/\wpAny M A (do setFlight (.ref e) none;raiseNew (.ref e)) Q E s₁) E s) :
  wpAny M A (raiseStmt env (some m) none) Q E s:=by
 unfold raiseStmt
 refine Γ (ι h (λv s₁ h₁=>?_) λZ Z x=>x)
 obtain ⟨e,k,od,vs,osl,rfl,⟨hC,hbase⟩,he,hE⟩:=h₁
 have hcB:=ref_has (C:=k) hbase
 obtain ⟨hp,g,d,tk,os⟩:=s₁
 refine Γ (Δ (Γ (ω ?_)))
 unfold excFromValue isExcClass raisedInstance
 repeat (first|with_reducible refine wpAny_loadPart_at he ?_|with_reducible refine wpAny_loadPart_at hC ?_|(with_reducible refine wpAny_isSubtype_exc hC ?_;rw[hcB])|(with_reducible exact hE)|wp_step)
theorem raise_ok(hr:Hr n r)(m:Rm B n){e:Expr}{Q:SP Flow}(P:Jn x RF (Internal.onV (r B.G.cx (.ev B.f e) x.S) λv S=>raiseA B.f v S) Q E):wpAny (Md B) B.A (exec (.Raise (some e) none pos) B.env) Q E x.s:=by
 rw[arm_exec_Raise];refine Γ (ϙ (raise_tail (Γ (hr.ev m (P.onV λx1 a u p1 d P=>Γ (ϙ (Δ ?_)))))));refine P.ob λi hi P=>P.ob λp hp P=>P.ifT λhe P=>P.ifT λhh P=>?_;rw[JQ hi]at d;refine d.loc_ λad ha hu=>x1.exc hp ha λoe vs va vd hg q=>?_;have ho:=q.h;obtain ⟨oc,od,oda,osl⟩:=oe;cases show oc=.ref p.1 from q.p.cls
 cases show oda=.fields vs from q.p.data
 refine⟨ad,p.1,od,vs,osl,hu,x1.excCl he,ho,Γ (Wf (al:=none) P ha rfl rfl λx2 p2 eL P=>?_)⟩;have ha2:=Jp p2 ha;unfold raiseNew;refine Γ (wpAny_handled ?_);unfold handOk at hh;induction hd:B.f.hd with
 |false=>
  rw[B.hdl hd];exact Γ (Δ (wpAny_throw (P.exc ha2)))
 |true=>
  rw[hd]at hh;induction hj:B.f.he with
  |none=>rw[hj]at hh;exact nb hh
  |some j=>
   rw[hj]at hh;cases nq hh;refine(x2.he i hj hd).elim λae r=>?_;cases r.1.symm.trans ha2;rw[r.2];dsimp only;rw[if_neg (by rw[bne_self_eq_false];exact Ϝ)];exact Γ (Δ (wpAny_throw (P.exc ha2)))
theorem handle_own{pr:Program}{w:World}{M:Model}(hM:M=model pr w){env:Env}{e k:Addr}{t:Expr}{b₀:Stmt}{suite:List Stmt}{rest:List ExceptHandler}{Q:SP Flow}
  (h:wpAny M (A.mark (some (.ref e))) (eval t env) (λc s₁=>c=.ref k/\ExcCl s₁.heap k/\(∃oe,s₁.heap.get? e=some oe/\oe.cls=.ref k)/\
   wpAny M (A.mark (some (.ref e))) (setFlight (.ref e) none) (λZ s₂=>wpAny M (A.mark (some (.ref e))) (execs (b₀::suite) env) Q (notedBy M (A.mark (some (.ref e))) env (cameBackBy M A env E)) s₂) (notedBy M (A.mark (some (.ref e))) env (cameBackBy M A env E)) s₁) (notedBy M (A.mark (some (.ref e))) env (cameBackBy M A env E)) s) :
  wpAny M A (handleBy (.ref e) env (.ExceptHandler (some t) none (b₀::suite) pos::rest)) Q E s:=by
 subst hM
 refine wpAny_handleBy_cons (codeAny_handlers_test (ι h (λc s₁ h₁=>?_) λZ Z y=>y)) (by intro q;cases q)
 obtain ⟨rfl,⟨hC,hbase⟩,⟨oe,he,hcls⟩,hk⟩:=h₁
 obtain ⟨hh,g,d,tk,os⟩:=s₁
 exact wpAny_excMatches_sub_self hC he hcls hbase (codeAny_handlers_suite hk)
theorem handle_own_as{pr:Program}{w:World}{M:Model}(hM:M=model pr w){env:Env}{e k:Addr}{t:Expr}{n:Str}{b₀:Stmt}{suite:List Stmt}{rest:List ExceptHandler}{Q:SP Flow}
  (h:wpAny M (A.mark (some (.ref e))) (eval t env) (λc s₁=>c=.ref k/\ExcCl s₁.heap k/\(∃oe,s₁.heap.get? e=some oe/\oe.cls=.ref k)/\
   wpAny M (A.mark (some (.ref e))) (setFlight (.ref e) none) (λZ s₂=>
     wpAny M (A.mark (some (.ref e))) (storeName env n (.ref e)) (λZ s₃=>
      wpAny M (A.mark (some (.ref e))) (execs (b₀::suite) env)
       (λf s₄=>wpAny M A (do bindName env n .none;unbindBehindTheSuite env n pos) (λZ s₅=>Q f s₅) E s₄)
       (AsSuiteRaised M (A.mark (some (.ref e))) env n pos (notedBy M (A.mark (some (.ref e))) env (cameBackBy M A env E))) s₃) (notedBy M (A.mark (some (.ref e))) env (cameBackBy M A env E)) s₂) (notedBy M (A.mark (some (.ref e))) env (cameBackBy M A env E)) s₁) (notedBy M (A.mark (some (.ref e))) env (cameBackBy M A env E)) s) :
  wpAny M A (handleBy (.ref e) env (.ExceptHandler (some t) (some n) (b₀::suite) pos::rest)) Q E s:=by
 subst hM
 refine wpAny_handleBy_cons (codeAny_handlers_test (ι h (λc s₁ h₁=>?_) λZ Z y=>y)) (by intro q;cases q)
 obtain ⟨rfl,⟨hC,hbase⟩,⟨oe,he,hcls⟩,hk⟩:=h₁
 obtain ⟨hh,g,d,tk,os⟩:=s₁
 exact wpAny_excMatches_sub_self hC he hcls hbase (codeAny_handlers_suite_as hk)
noncomputable abbrev Bd.hand(B:Bd)(ad:Addr)(i:Nat):Bd:=⟨B.G,B.A.mark (some (.ref ad)),inHand B.f i,B.env,B.below,B.fr,λq=>nomatch q⟩
def Sit.hand(x:Sit B)(ha:x.L[i]?=some ad):Sit (B.hand ad i):=
 ⟨x.S,x.L,x.s,x.r,λp hp=>(mc_ hp).elim (λe=>e▸⟨{x.top with},(x.ok _ (.head _)).2⟩) λh=>x.ok p (.tail _ h),λj h Z=>⟨ad,by cases h;exact ha,rfl⟩⟩
theorem hand_sub{L:List Addr}{S:St}(h:WY L S ((inHand B.f i,B.env)::B.below)):WY L S ((B.f,B.env)::B.below):=λp hp=>(mc_ hp).elim (λe=>e▸⟨{(h _ (.head _)).1 with},(h _ (.head _)).2⟩) λq=>h p (.tail _ q)
theorem back_ok(hcp:B.f.cp=false)(P:Jn x ρ (backA B.f i x.S) Q E)(ha:x.L[i]?=some ad)(hA:A.frames=B.A.frames):notedBy (Md B) A B.env (cameBackBy (Md B) B.A B.env E) (.ref ad) x.s:=
 note_ok (k:=λS1=>ob (passA S1 i B.f.l) λS2=>.ok (.exc i) S2) hcp P ha hA λx1 p1 P=>(pass_ok (k:=λS2=>.ok (.exc i) S2) hcp P (Jp p1 ha) λx2 p2 eL P=>P.exc (Jp p2 (Jp p1 ha))).1
theorem stV_of{k:Nat}(h:stV a=some k):a=.st k:=WS (c:=AV.st) (by clear h;induction a<;>exact rfl) h
theorem catch_ok(hr:Hr n r)(m:Rm B n)(hcp:B.f.cp=false){b₀:Stmt}{hb:List Stmt}{nm:Option Str}{np:Pos}{Q:SP Flow}(P:Jn x RF (catchA B.G.cx (r B.G.cx) B.f z nm (b₀::hb) i x.S) Q E)(ha:x.L[i]?=some ad):
  wpAny (Md B) B.A (noteFrame (.ref ad) B.env) (λZ s₂=>wpAny (Md B) B.A (setFlight (.ref ad) none) (λZ s₃=>wpAny (Md B) B.A (handleBy (.ref ad) B.env [.ExceptHandler (some (.Name z np)) nm (b₀::hb) pos]) Q E s₃) E s₂) E x.s:=by
 refine note_ok (k:=λS1=>ob (WC S1 i none) _) hcp P ha rfl λx1 p1 P=>Wf (al:=none) P (Jp p1 ha) rfl rfl λx2 p2 eL P=>?_
 have ha2:=Jp p2 (Jp p1 ha)
 refine P.ob λv hv P=>P.ob λk hk P=>P.ob λp hp P=>P.ifT λhck P=>P.ifT λhe P9=>x2.exc hp ha2 λoe vs va vd hg q=>?_
 cases stV_of hk
 have m':Rm (B.hand ad i) n:=⟨⟨m.room.dep,m.room.un⟩,m.ora⟩
 have hM:Md B=model B.G.om.prog B.G.om.w:=rfl
 have cl:∃oe,x2.s.heap.get? ad=some oe/\oe.cls=.ref k:=⟨oe,q.h,q.p.cls.trans (Ja _ (nq hck))⟩
 induction nm with
 |none=>
  refine handle_own hM (name_ok (x:=x2.hand ha2) hv λu du=>⟨du,x2.excCl he,cl,Wf (al:=none) P9 ha2 rfl rfl λx3 p3 eL P=>?_⟩)
  have ha3:=Jp p3 ha2
  refine exs_ok (x:=x3.hand ha3) hr m' (Jn.enter (K:=afterO B.f none) P (ζ _) (λZ Z=>hand_sub) λy o p P=>⟨λu ru=>ru.el (λe1 e2=>by subst e1;subst e2;exact P.nextF) λa v e1 e2 d=>by subst e1;subst e2;exact P.retF d,λj b e hb=>by subst e;exact back_ok hcp P hb rfl⟩)
 |some nn=>
  refine handle_own_as hM (name_ok (x:=x2.hand ha2) hv λu du=>⟨du,x2.excCl he,cl,Wf (al:=none) P9 ha2 rfl rfl λx3 p3 eL P=>?_⟩)
  have ha3:=Jp p3 ha2
  refine store_ok (k:=λS4=>afterA B.f (some nn) (Wc (r B.G.cx) (inHand B.f i) (b₀::hb) S4)) (a:=.loc i) P ⟨ad,ha3,rfl⟩ λx4 p4 eL P=>?_
  have ha4:=Jp p4 ha3
  refine exs_ok (x:=x4.hand ha4) hr m' (Jn.enter (K:=afterO B.f (some nn)) P (ζ _) (λZ Z=>hand_sub) λy o p P=>⟨λu ru=>ru.el (λe1 e2=>by subst e1;rw[e2];exact drop_ok (k:=λS=>.ok .next S) P λx' p e P=>P.nextF) λa v e1 e2 d=>by subst e1;subst e2;exact drop_ok (k:=λS=>.ok (.ret a) S) P λx' p e P=>P.retF (Den.mono p d),λj b e hb=>by subst e;exact note_ok (k:=λS1=>ob (dropA B.f S1 nn) λS2=>ob (passA S2 j B.f.l) λS3=>backA B.f j S3) hcp P hb rfl λx5 p5 P=>drop_ok (k:=λS2=>ob (passA S2 j B.f.l) λS3=>backA B.f j S3) P λx6 p6 eL P=>(pass_ok (k:=λS3=>backA B.f j S3) hcp P (Jp p6 (Jp p5 hb)) λx7 p7 eL P=>back_ok (A:=B.A.mark (some (.ref ad))) hcp P (Jp p7 (Jp p6 (Jp p5 hb))) rfl).2 _ _ _⟩)
theorem or_false{a b:Bool}(h:JM (a||b)=true)(k:a=false->b=false->C):C:=by induction a<;>induction b<;>first|exact k rfl rfl|exact nb h
theorem isName_el{t:Expr}{C:Expr->Prop}(h:Zk t=true)(k:∀z p,C (.Name z p)):C t:=by
 revert h;induction t using Expr.casesOn with
 |Name z p=>exactλZ=>k z p
 |_=>exact nb
theorem tryS_no{body bd:List Stmt}{hs:List ExceptHandler}{t:Expr}{nm:Option Str}{hp:Pos}(h:Zk t=false):tryS body (.ExceptHandler (some t) nm bd hp::hs)=λZ Z Z Z=>.no:=by
 revert h;induction t using Expr.casesOn with
 |Name z p=>exact tf
 |_=>exactλZ=>rfl
theorem tryS_el{body:List Stmt}{hs:List ExceptHandler}{C:List ExceptHandler->Prop}{cx:Cx}{r:Cm->St->R}{f:FrA}{S:St}{Q:SP Flow}(P:Jn x RF (tryS body hs cx r f S) Q E)(k:∀z np nm b0 hb hp,C [.ExceptHandler (some (.Name z np)) nm (b0::hb) hp]):C hs:=by
 induction hs using c_ with
 |nil=>exact P.elim
 |cons h hs=>
  obtain ⟨ty,nm,bd,hp⟩:=h;induction ty with
  |none=>induction hs<;>exact P.elim
  |some ty=>
   induction q:Zk ty with
   |false=>rw[tryS_no q]at P;exact P.elim
   |true=>
    refine isName_el (C:=λty=>Jn x RF (tryS body (.ExceptHandler (some ty) nm bd hp::hs) cx r f S) Q E->C (.ExceptHandler (some ty) nm bd hp::hs)) q (λz np P=>?_) P;induction bd using c_ with
    |nil=>induction hs<;>exact P.elim
    |cons b0 hb=>induction hs using c_ with
     |cons _ _=>exact P.elim
     |nil=>exact k _ _ _ _ _ _
theorem try_ok(hr:Hr n r)(m:Rm B n){body:List Stmt}{hs:List ExceptHandler}{Q:SP Flow}(P:Jn x RF (tryS body hs B.G.cx (r B.G.cx) B.f x.S) Q E):wpAny (Md B) B.A (exec (.Try body hs [] [] pos) B.env) Q E x.s:=by
 refine tryS_el (C:=λhs=>Jn x RF (tryS body hs B.G.cx (r B.G.cx) B.f x.S) Q E->wpAny (Md B) B.A (exec (.Try body hs [] [] pos) B.env) Q E x.s) P (λz np nm b0 hb hp P=>?_) P;refine Jn.ifT P λhh P=>or_false hh λhd hcp=>wpAny_Try_except (exs_ok hr m (Jn.seq (K:=tryO B.G.cx (r B.G.cx) B.f z nm (b0::hb)) P λy o p P=>⟨λu ru=>ru.el (λe1 e2=>?_) λa v e1 e2 d=>?_,λj b e hb=>?_⟩))
 ·subst e1;subst e2;exact wpAny_execs_nil P.nextF
 ·subst e1;subst e2;exact P.retF d
 ·subst e;exact catch_ok hr m hcp P hb
variable {G:Gd}{fs:List (FrA×Env)}{x y:Wt G fs}{Q:SP Value}{L':List Addr}{cs:List (Str×Nat)}{acc:List (Str×Addr)}
theorem PG.up(P:PG x c Q E)(p:x.L<+:y.L):PG y c Q E:=by
 induction c with
 |no=>exact P
 |ok o S=>exactλx' q=>P x' (p.trans q)
 |ask i t f iht ihf=>exact⟨λe=>iht (P.1 e),λe=>ihf (P.2 e)⟩
theorem PG.ob{y:Option γ}{k:γ->R}(P:PG x (ob y k) Q E)(h:∀a,y=some a->PG x (k a) Q E->C):C:=by
 induction y with
 |none=>exact P.elim
 |some a=>exact h a rfl P
theorem PG.ifT{b:Bool}{k:R}(P:PG x (ifT b k) Q E)(h:b=true->PG x k Q E->C):C:=by
 induction b with
 |false=>exact P.elim
 |true=>exact h rfl P
theorem PG.pushR{k:Nat->St->R}(P:PG x (pushR x.S ao k) Q E){o:Obj}(ok:OkP G.om G.nm (x.L++[x.s.heap.objs.size]) x.s.heap.objs.size ao o)(hf:o.isFreed=false){t:Tok}
  (h:∀x':Wt G fs,x.L<+:x'.L->x'.s={x.s with heap:=x.s.heap.push o,toks:=t}->NsK x.S x'.S->x'.L[x.S.n]?=some x.s.heap.objs.size->x'.S.get x.S.n=some ao->PG x' (k x.S.n x'.S) Q E->C):C:=
 P.ob λS' e P=>by
  have Ch:=St.push_get e;have p:x.L<+:x.L++[x.s.heap.objs.size]:=θ _ _;have q:(x.L++[x.s.heap.objs.size])[x.S.n]?=some x.s.heap.objs.size:=x.r.len▸ZE x.L _;have R':=x.r.step (t:=t) Ch (.inr ⟨_,rfl,x.r.new_ (Ϙ _)⟩) ((ς).trans (Ja (·+1) x.r.len)) (λb o' Z e'=>η _ e') ⟨_,o,q,ϟ _ hf,ok⟩ λj h1 h2=>Nat.le_antisymm (Je h2) h1
  have N:NsK x.S S':=Ch.ns λes z=>(x.r.objs _ _ z).el λZ Z r Z Z=>absurd (lt_ r) (by rw[x.r.len];exact Jj _);exact h ⟨S',_,_,R',λw hw=>⟨(x.ok w hw).1.mono p,(x.ok w hw).2.elim λes e=>N _ es e⟩⟩ p rfl N q Ch.self (P.up p)
def Sit.wt{B:Bd}(x:Sit B):Wt B.G ((B.f,B.env)::B.below):=⟨x.S,x.L,x.s,x.r,x.ok⟩
def Sit.dn{B:Bd}(x:Sit B):Wt B.G B.below:=⟨x.S,x.L,x.s,x.r,λp h=>x.ok p (.tail _ h)⟩
theorem Jn.pg{B:Bd}{x:Sit B}(P:Jn x RV c Q E):PG x.wt c Q E:=by
 induction c with
 |no=>exact P
 |ok o S=>exactλx' p e=>(P ⟨x'.S,x'.L,x'.s,x'.r,x'.ok,λi h1 h2=>(x.he i h1 h2).elim λa r=>⟨a,Jp p r.1,r.2⟩⟩ p e).imp (λh a u e d=>h u ⟨a,e,d⟩) id
 |ask i t f iht ihf=>exact⟨λe=>iht (P.1 e),λe=>ihf (P.2 e)⟩
theorem PG.post{B:Bd}{x:Sit B}(P:PG x.dn c Q E):Jn x RV c Q E:=by
 induction c with
 |no=>exact P
 |ok o S=>exactλx' p e=>(P x'.dn p e).imp (λh u r=>r.elim λa r=>h a u r.1 r.2) id
 |ask i t f iht ihf=>exact⟨λe=>iht (P.1 e),λe=>ihf (P.2 e)⟩
def Binds(nm:Nt)(L:List Addr)(l:List (Str×AV)):List (Str×Value)->Prop:=List.rec (motive:=λZ=>List (Str×Value)->Prop) (λr=>r=[]) (λp Z ih r=>∃u r',r=(p.1,u)::r'/\Den nm L p.2 u/\ih r') l
theorem Binds.mono(p:L<+:L'):∀{l:List (Str×AV)} {r:List (Str×Value)},Binds nm L l r->Binds nm L' l r:=by
 intro v0_;induction v0_ with
 |nil=>
  intro Z h;exact h
 |cons _ _ ih=>
  intro Z y2_;obtain ⟨u,r',e,d,h⟩:=y2_;exact⟨u,r',e,d.mono p,ih h⟩
theorem binds_zip:∀{ps:List Str} {vs:List AV} {us:List Value},Jq nm L vs us->Binds nm L (ps.zip vs) (ps.zip us)
 |[],_,_,_=>rfl
 |_::_,[],_,d=>by cases (show _=[]from d);rfl
 |p::ps,v::vs,_,⟨u,r,e,d,ds⟩=>e▸⟨u,_,rfl,d,binds_zip ds⟩
theorem Jq.drop:∀{vs:List AV} {us:List Value} (k:Nat),Jq nm L vs us->Jq nm L (vs.drop k) (us.drop k)
 |_,_,0,d=>d
 |[],_,k+1,d=>by cases (show _=[]from d);exact rfl
 |_::_,_,k+1,⟨u,r,e,_,ds⟩=>e▸Jq.drop k ds
theorem binds_G{ps:List Str}{vs ds:List AV}{us es:List Value}(d:Jq nm L vs us)(e:Jq nm L ds es):Binds nm L (bindG ps vs ds) (bindG ps us es):=by
 unfold bindG;rw[d.len,e.len];exact binds_zip (d.append (e.drop _))
theorem stores_ok{B:Bd}{M:Model}{E1:SP Value}{Q1:PUnit->Shared->Prop}{g:Str×Value->PUnit->Sem (ForInStep PUnit)}(hg:∀n v u,g (n,v) u=(do storeName B.env n v;pure (.yield ⟨⟩))){k:St->R}:∀{l:List (Str×AV)} {l':List (Str×Value)} {x:Sit B},Jn x RV (storesX B.f l x.S k) Q E->Binds B.G.nm x.L l l'->
  (∀x':Sit B,x.le x'->Jn x' RV (k x'.S) Q E->Q1 ⟨⟩ x'.s)->wpAny M A (forIn l' ⟨⟩ g) Q1 E1 x.s:=by
 intro v0_
 induction v0_ with
 |nil=>
  intro Z x P d h
  rw[show _=[]from d,List.forIn_nil];exact Δ (h x (Sit.le.refl x) P)
 |cons p l ih=>
  intro Z x P y4_ h
  obtain ⟨u,r,e,d,ds⟩:=y4_
  rw[e,List.forIn_cons,hg]
  refine Γ (Γ (store_ok (k:=λS=>storesX B.f l S k) P d λx1 p1 Z P=>Δ ?_))
  exact ih P (Binds.mono p1 ds) λx' p'=>h x' (τ p1 p')
def CellRel(L:List Addr)(cs:List (Str×Nat))(acc:List (Str×Addr)):Prop:=∀x i,look x cs=some i->∃a,L[i]?=some a/\acc.lookup x=some a
theorem CellRel.mono(p:L<+:L')(h:CellRel L cs acc):CellRel L' cs acc:=λx i e=>(h x i e).elim λa r=>⟨a,Jp p r.1,r.2⟩
theorem isCell_eq(k:NameKind):isCell k=(k==.cell):=by induction k<;>rfl
theorem cells_ok{M:Model}{Q1:List (Str×Addr)->Shared->Prop}{g:Str×NameKind->List (Str×Addr)->Sem (ForInStep (List (Str×Addr)))}
  (hg:∀name kind cells,g (name,kind) cells=if (kind==.cell)=true then (do let a<-alloc {cls:=.type "cell",data:=.cell none};pure (.yield ((name,a)::cells)))else pure (.yield cells)) {k:List (Str×Nat)->St->R} :
  ∀{names:List (Str×NameKind)} {x:Wt G fs} {cs:List (Str×Nat)} {acc:List (Str×Addr)},PG x (cellsX names x.S cs k) Q E->CellRel x.L cs acc->
   (∀(x':Wt G fs) cs' acc',x.L<+:x'.L->NsK x.S x'.S->CellRel x'.L cs' acc'->PG x' (k cs' x'.S) Q E->Q1 acc' x'.s)->wpAny M A (forIn names acc g) Q1 E1 x.s:=by
 intro v0_
 induction v0_ with
 |nil=>
  intro x cs acc P c h
  rw[List.forIn_nil];exact Δ (h x cs acc (ζ _) (λZ es e=>⟨es,e⟩) c P)
 |cons z9 names ih=>
  intro x cs acc P c h
  obtain ⟨z,kd⟩:=z9
  rw[List.forIn_cons,hg,<-isCell_eq]
  have P:PG x (Bool.rec (cellsX names x.S cs k) (pushR x.S (.cell none) λc S=>cellsX names S ((z,c)::cs) k) (isCell kd)) Q E:=P
  induction q:isCell kd with
  |false=>
   rw[q]at P
   rw[if_neg Ϝ]
   exact Γ (Δ (ih P c h))
  |true=>
   rw[q]at P
   rw[if_pos rfl]
   refine Γ (Γ (wpAny_alloc (Δ (P.pushR (t:=x.s.toks) (o:={cls:=.type "cell",data:=.cell none}) ⟨none,rfl,rfl⟩ rfl λx1 p1 e1 N1 q1 Z P=>?_))))
   refine e1▸ih P (λy i e=>?_) λx' cs' acc' p N=>h x' cs' acc' (p1.trans p) (N1.trans N)
   by_cases w:y=z
   ·subst w
    rw[ZR]at e;cases e;exact⟨_,q1,List.lookup_cons_self⟩
   ·rw[ZV w]at e
    exact(c y i e).elim λa r=>⟨a,Jp p1 r.1,by rw[Jd,show (y==z)=false from beq_eq_false_iff_ne.mpr w];exact r.2⟩
theorem env_ok{sc:Scope}{cs0:List (Str×Nat)}{acc0:List (Str×Addr)}{hd:Bool}{code:Option Nat}{cn:Str}{l:List (Str×AV)}{l':List (Str×Value)}{k:FrA->St->R}
  (P:PG x (pushR x.S (.ns []) λm S=>cellsX sc.names S cs0 λcs S=>storesX ⟨sc,m,cs,hd,code,cn,none,false⟩ l S λS=>k ⟨sc,m,cs,hd,code,cn,none,false⟩ S) Q E) (hk:sc.kind=.function) (hb:G.om.hb.objs.size<=x.s.heap.objs.size) (hc:CellRel x.L cs0 acc0) (hl:Binds G.nm x.L l l')
  {fa:Addr} {cd:Value} (hcd:∀c,code=some c->cd=.ref c) {M:Model} {A':Env->Around} (fr:∀env,(A' env).frames=some (env::(Jv fs++G.out))) (hdl:hd=false->∀env,(A' env).handled=none) {Q1:Env->Shared->Prop}
  (h:∀env m cs fr' hd' (y:Sit ⟨G,A' env,⟨sc,m,cs,hd,code,cn,none,false⟩,env,fs,fr',hd'⟩),Jn y RV (k ⟨sc,m,cs,hd,code,cn,none,false⟩ y.S) Q E->Q1 env y.s):wpAny M A (newFunctionEnv sc mainGlobals acc0 l' (cn++".<locals>.") (some fa) cd none builtinsNs) Q1 E1 x.s:=by
 simp only[newFunctionEnv,Option.isSome_none,Bool.false_eq_true,if_false]
 refine Γ (wpAny_alloc (P.pushR (t:=x.s.toks) (o:={cls:=.type "frame",data:=.dict #[]}) ⟨hb,λZ=>none,⟨#[],0,rfl,λZ he=>by simp at he,λZ=>rfl⟩,λZ Z e=>no e⟩ rfl λx1 p1 e1 N1 q1 g1 P=>?_))
 refine e1▸Γ (cells_ok (λname kind cells=>by cases kind==NameKind.cell<;>simp) P (hc.mono p1) λx2 cs acc p2 N2 c2 P=>?_)
 have F:ZA x2.L ⟨sc,x.S.n,cs,hd,code,cn,none,false⟩ (envX cn sc x.s.heap.objs.size fa cd acc):=⟨hk,rfl,rfl,rfl,Jp p2 q1,λZ=>⟨rfl,fa,cd,rfl,hcd⟩,c2⟩
 let B':Bd:=⟨G,A' (envX cn sc x.s.heap.objs.size fa cd acc),⟨sc,x.S.n,cs,hd,code,cn,none,false⟩,envX cn sc x.s.heap.objs.size fa cd acc,fs,fr _,λq=>hdl q _⟩
 let y:Sit B':=⟨x2.S,x2.L,x2.s,x2.r,λp hp=>(mc_ hp).elim (λe=>e▸⟨F,N2 _ _ g1⟩) λhp=>x2.ok p hp,λi q=>nomatch q⟩
 exact Γ (stores_ok (B:=B') (x:=y) (λZ Z Z=>rfl) (PG.post (x:=y) P) (hl.mono (p1.trans p2)) λy' p' P=>Δ (h _ _ _ _ _ y' P))
theorem fits_of{p g k:Nat}(h:fits p g k=true):k<=p/\p<=g+k/\g<=p:=Jr h λh h3=>Jr h λh1 h2=>⟨nl h1,nl h2,nl h3⟩
theorem Wt.noLimit(x:Wt G fs):x.s.heap.NoLimit:=G.om.T.nolimit.keeps λb o e=>x.r.keep b o (G.base b o e)
def CallR(Q:SP Value)(E:SP Value)(r:Result)(s':Shared):Prop:=match r with|.ok (.ret v)=>Q v s'|.ok _=>False|.error e=>E e s'
structure ZU(G:Gd)(fs:List (FrA×Env))(A:Around)(hd:Bool)(n:Nat):Prop where
 fr:A.frames=some (Jv fs++G.out)
 hdl:hd=false->A.handled=none
 room:Room A (2*n+1+60+G.k)
 ora:Wv G
theorem ZU.rm{hd:Bool}(K:ZU G fs A hd n){env:Env}{f:FrA}{fr:(A.deeper env).frames=some (Jv ((f,env)::fs)++G.out)}{hdl:f.hd=false->(A.deeper env).handled=none}:Rm ⟨G,A.deeper env,f,env,fs,fr,hdl⟩ n:=
 ⟨⟨ϛ (by show A.depth+1+(2*n+60+G.k)<=A.depth+(2*n+1+60+G.k);lia) K.room.dep,ϛ (by show A.units+3+10*(2*n+60+G.k)<=A.units+10*(2*n+1+60+G.k);lia) K.room.un⟩,K.ora⟩
theorem ret_ok{B:Bd}{x:Sit B}{σ:Sit B->Out->α->Prop}{Q1:SP α}{M:Model}(hM:M=Md B)(hcp:B.f.cp=false)(P:Jn x RV (retX B.f.l c) Q E)
  (h:∀(y:Sit B) o (u:α),σ y o u->∃w,((o=.next/\w=.none)\/∃a,(o=.v a\/o=.ret a)/\y.D a w)/\(Q w y.s->Q1 u y.s)):Jn x σ c Q1 (λe s'=>wpAny M B.A (leaving B.env e) (λZ s''=>E e s'') (λe' s''=>E e' s'') s'):=
 Jn.seq (K:=retO B.f.l) P λy o p P=>⟨λu ru=>(h y o u ru).elim λw g=>g.2 (g.1.elim (λe=>by
  obtain ⟨rfl,rfl⟩:=e;exact P.now rfl ⟨_,rfl,rfl⟩) λe=>e.elim λa e=>e.1.elim (λz=>by subst z;exact P.now rfl ⟨a,rfl,e.2⟩) λz=>by subst z;exact P.now rfl ⟨a,rfl,e.2⟩),λj b e hb=>by
  subst e;subst hM;exact leave_ok (k:=λS=>.ok (.exc j) S) hcp P hb rfl λx' p' P=>P.exc (Jp p' hb)⟩
theorem callF_gen{hd:Bool}(hdep:A.depth<recursionLimit)(hfr:A.frames=some (Jv fs++G.out))(hdl:hd=false->A.handled=none){k:FrA->St->R}{fi:FnI}{args:List AV}{Q0 E0:SP Value}(P:PG x (enterX hd fi args x.S k) Q0 E0)(hb:G.om.hb.objs.size<=x.s.heap.objs.size)(d:Jq G.nm x.L args us){ob:Obj}{fd:FuncData}(ho:x.s.heap.get? ad=some ob)(F:FnF G.om fi ob fd)
  (H:∀env m cs fr' hd' (y:Sit ⟨G,A.deeper env,⟨fi.sc,m,cs,hd,some fi.code,fi.qual,none,false⟩,env,fs,fr',hd'⟩),Jn y RV (k ⟨fi.sc,m,cs,hd,some fi.code,fi.qual,none,false⟩ y.S) Q0 E0->wpAny (Mdl G.om) (A.deeper env) (execs fi.body env) (λ(fl:Flow) s'=>Q (match fl with|.ret v=>v|_=>.none) s') (λe s'=>wpAny (Mdl G.om) (A.deeper env) (leaving env e) (λZ s''=>E e s'') (λe' s''=>E e' s'') s') y.s) :
  codeAny (Mdl G.om) A (.call (.ref ad) ⟨us,[]⟩) (CallR Q E) x.s:=
 P.ifT λhf P=>by
  obtain ⟨f1,f2,f3⟩:=fits_of hf;obtain ⟨as,kd,dd,hp,hpn⟩:=F.ps;obtain ⟨es,de,hdf⟩:=F.df;have base:∀{b o},G.om.hb.get? b=some o->x.s.heap.get? b=some o:=λe=>x.r.keep _ _ (G.base _ _ e);have lu:=d.len;have le:=(de G.nm x.L).len;have lp:as.length=fi.ps.length:=by rw[<-hpn,Ω]
  refine codeAny_call_function hdep ho F.data (by rw[F.sc];exact F.co) (by rw[F.sc];exact F.ge) F.body (F.rec_.keeps λb o=>base) ?_;refine bind_plain hp (by rw[hpn];exact F.nd) (by lia) (by lia) (by lia) (hdf.imp id λh=>h.elim λT h=>h.elim λo h=>h.elim λn h=>⟨T,o,n,h.1,base h.2.1,h.2.2⟩) _ _ _ _ ?_;rw[hpn,F.sc,F.gl,F.cl,F.q,F.bi];refine env_ok (k:=k) P F.kind hb (λx i e=>no e) (binds_G d (de _ _)) (λc e=>by cases e;exact F.code) (A':=A.deeper) (λenv=>Around.frames_deeper hfr) (λh env=>hdl h) λenv m cs fr' hd' y P=>⟨y.dn.noLimit,codeAny_func ?_⟩;refine ι (H env m cs fr' hd' y P) (λfl s' h=>?_) λe s' h=>h;induction fl<;>exact h
theorem callF_ok(hr:Hr n r){hd:Bool}(K:ZU G fs A hd n){fi:FnI}{args:List AV}(P:PG x (ZF (r G.cx) hd fi args x.S) Q E)(hb:G.om.hb.objs.size<=x.s.heap.objs.size)(d:Jq G.nm x.L args us){ob:Obj}{fd:FuncData}(ho:x.s.heap.get? ad=some ob)(F:FnF G.om fi ob fd):
  codeAny (Mdl G.om) A (.call (.ref ad) ⟨us,[]⟩) (CallR Q E) x.s:=
 callF_gen (k:=λf S=>retX f.l (Wc (r G.cx) f fi.body S)) (ϛ (Nat.le_add_right _ _) K.room.dep) K.fr K.hdl P hb d ho F λenv m cs fr' hd' y P=>
  exs_ok hr K.rm (ret_ok (Q1:=λ(fl:Flow) s'=>Q (match fl with|.ret v=>v|_=>.none) s') rfl rfl P λy o u ru=>ru.el (λe1 e2=>⟨.none,.inl ⟨e1,rfl⟩,by subst e2;exact id⟩) λa w e1 e2 d=>⟨w,.inr ⟨a,.inr e1,d⟩,by subst e2;exact id⟩)
theorem callC_ok(hr:Hr n r){hd:Bool}(K:ZU G fs A hd n){args:List AV}{cs:List (Str×Nat)}{ps:List Str}{body:Expr}{sc:Scope}{q:Str}(P:PG x (callC (r G.cx) hd args x.S cs ps body sc j q) Q E)(hb:G.om.hb.objs.size<=x.s.heap.objs.size)(d:Jq G.nm x.L args us)(hg:x.S.get i=some (.clo cs ps body sc j q))(ha:x.L[i]?=some ad):
  codeAny (Mdl G.om) A (.call (.ref ad) ⟨us,[]⟩) (CallR Q E) x.s:=
 P.ob λq' hq P=>P.ifT λhe P=>P.ifT λhf P9=>x.r.get hg ha λo ho p=>p.elim λfd F=>Jz hq λoc hc hv=>F.code.elim λaj hj=>x.r.get hc hj.1 λoj hoj pj=>by
  cases Jw he;obtain ⟨f1,f2,f3⟩:=fits_of hf;obtain ⟨as,kd,dd,hp,hpn⟩:=F.ps;have lu:=d.len;have lp:as.length=ps.length:=by rw[<-hpn,Ω]
  have hcr:x.s.heap.CodeRec fd.code fd.qualname:=by
   induction oc with
   |code q2=>
    cases hv;exact pj.elim λvs pj=>pj.elim λt pj=>⟨aj,oj,vs,t,hj.2,hoj,pj.1,F.q▸pj.2⟩
   |_=>exact no hv
  refine kla_callFunE (ϛ (Nat.le_add_right _ _) K.room.dep) ho (by rw[F.o]) (by rw[F.scope];exact F.co) (by rw[F.scope];exact F.ge) F.body hcr ?_;refine bind_plain (ds:=[]) hp (by rw[hpn];exact F.nd) (Nat.zero_le _) (by simp only[List.length_nil];lia) (by lia) (.inl ⟨F.df,rfl⟩) _ _ _ _ ?_;rw[hpn,F.scope,F.gl,F.q,F.bi];exact env_ok (code:=none) (k:=λf S=>retX f.l (r G.cx (.ev f body) S)) P9 F.k hb F.cl (binds_G d Jq.nil) (λc e=>no e) (A':=A.deeper) (λenv=>Around.frames_deeper K.fr) (λh env=>K.hdl h) λenv m cs fr' hd' y P=>⟨y.dn.noLimit,kla_codeExpr (hr.ev K.rm (ret_ok (Q1:=Q) rfl rfl P λy o u ru=>ru.elim λa e=>⟨u,.inr ⟨a,.inl e.1,e.2⟩,id⟩))⟩
end Internal
namespace Internal
variable {B:Bd}{x x':Sit B}{α:Type}{a b:AV}{u v:Value}{c:R}{C:Prop}{i j n t:Nat}{l:List AV}{us:List Value}{ρ:Sit B->Out->α->Prop}{Q:SP Value}{E:SP Value}{A:Around}{nm:Nt}{z:Str}{s:Shared}{r:Cx->Cm->St->R}{ad:Addr}{h h':Heap}{ao:AO}{o:Obj}
theorem ZU.of(m:Rm B (n+1)):ZU B.G ((B.f,B.env)::B.below) B.A B.f.hd n:=⟨B.fr,B.hdl,m.room.le (by lia),m.ora⟩
theorem ZU.cls(m:Rm B (n+1)){k:Nat}:ZU B.G ((B.f,B.env)::B.below) (B.A.under (.builtin "type.__call__" ⟨.ref k::us,[]⟩)) B.f.hd n:=⟨B.fr,B.hdl,⟨ϛ (by show B.A.depth+1+(2*n+1+60+B.G.k)<=B.A.depth+(2*(n+1)+60+B.G.k);lia) m.room.dep,ϛ (by
 have:(Code.builtin "type.__call__" ⟨.ref k::us,[]⟩).frames<=3:=nl (by rfl');show B.A.units+(1+3*(Code.builtin "type.__call__" ⟨.ref k::us,[]⟩).frames)+10*(2*n+1+60+B.G.k)<=B.A.units+10*(2*(n+1)+60+B.G.k);lia) m.room.un⟩,m.ora⟩
theorem callFn_ok{G:Gd}{fs:List (FrA×Env)}{x:Wt G fs}(hr:Hr n r){hd:Bool}(K:ZU G fs A hd n){fi:FnI}{args:List AV}(hf:fnP G.om.w.params ad=some fi)(P:PG x (ZF (r G.cx) hd fi args x.S) Q E)(hb:G.om.hb.objs.size<=x.s.heap.objs.size)(d:Jq G.nm x.L args us):
  codeAny (Mdl G.om) A (.call (.ref ad) ⟨us,[]⟩) (CallR Q E) x.s:=fn_of G.om hf λob fd ho F=>callF_ok hr K P hb d (x.r.keep _ _ (G.base _ _ ho)) F
theorem Jn.pushAtG{k:Nat->St->R}(P:Jn x ρ (Internal.pushR x.S ao k) Q1 E)(hn:New B.G x.L ad)(kp:∀b o,x.s.heap.get? b=some o->h'.get? b=some o)(ho:h'.get? ad=some o)(ok:OkP B.G.om B.G.nm (x.L++[ad]) ad ao o){t:Tok}
  (g:∀x':Sit B,x.le x'->x'.s={x.s with heap:=h',toks:=t}->x'.L=x.L++[ad]->x'.L[x.S.n]?=some ad->x'.S.get x.S.n=some ao->Jn x' ρ (k x.S.n x'.S) Q1 E->C):C:=
 P.ob λS' e P=>by
  have Ch:=St.push_get e;have p:x.L<+:x.L++[ad]:=θ _ _;have q:(x.L++[ad])[x.S.n]?=some ad:=x.r.len▸ZE x.L _;have R':=x.r.step (t:=t) Ch (.inr ⟨_,rfl,hn⟩) ((ς).trans (Ja (·+1) x.r.len)) (λb o' Z=>kp b o') ⟨_,o,q,ho,ok⟩ λj h1 h2=>Nat.le_antisymm (Je h2) h1
  exact g (x.to R' p (Ch.ns λes z=>(x.r.objs _ _ z).el λZ Z r Z Z=>absurd (lt_ r) (by rw[x.r.len];exact Jj _))) p rfl rfl q Ch.self (P.up p)
theorem Jn.pushAt{k:Nat->St->R}(P:Jn x ρ (Internal.pushR x.S ao k) Q1 E)(hn:New B.G x.L ad)(kp:∀b o,x.s.heap.get? b=some o->h'.get? b=some o)(ho:h'.get? ad=some o)(ok:OkP B.G.om B.G.nm (x.L++[ad]) ad ao o){t:Tok}
  (g:∀x':Sit B,x.le x'->x'.s={x.s with heap:=h',toks:=t}->x'.L=x.L++[ad]->x'.L[x.S.n]?=some ad->Jn x' ρ (k x.S.n x'.S) Q1 E->C):C:=Jn.pushAtG (t:=t) P hn kp ho ok λx' p e1 eL q Z P=>g x' p e1 eL q P
theorem Sit.newOf(x:Sit B)(h:x.s.heap.get? ad=none):New B.G x.L ad:=by
 refine⟨λhL=>x.r.live hL λZ Z o Z Z e Z=>no (h.symm.trans e),?_,λp hp e=>(x.r.outs p hp).2.elim λo q=>no (h.symm.trans (e▸q.1))⟩;induction e:B.G.hF.get? ad with
 |none=>rfl
 |some o=>exact no (h.symm.trans (x.r.keep _ o e))
theorem noneR_ok(P:Jn x RV (noneR i c) Q E)(ha:x.L[i]?=some ad):Jn x RV c (λv s'=>v=.none/\Q (.ref ad) s') E:=
 Jn.onV P λx1 a u p d P=>P.ifT λhn P=>⟨by rw[WO hn]at d;exact d,P.val ⟨ad,Jp p ha,rfl⟩⟩
theorem makeI_ok(hr:Hr n r)(m:Rm B (n+1)){g k:Nat}(hm:JE k t_mkr=some g)(he:excP k=false){fi:FnI}(hf:fnP B.G.om.w.params g=some fi)(P:Jn x RV (makeI (r B.G.cx) B.f.hd k fi l x.S) Q E)(d:x.Ds l us):wpAny (Md B) B.A (call (.ref k) us) Q E x.s:=
 x.opens λm' O=>by
  have F:=mk_of (P:=B.G.om.w.params) hm;refine call_cls O.f B.G.om.X O.n (F.mks he) F.init (beq_iff_eq.mpr F.fn) λy dx h' F' N' lt1 lt2=>?_;refine O.push (t:=x.s.toks) P F' (λp hp=>N' p (.tail _ hp)) lt1 ⟨(O.out dx lt1 (N' _ (.tail _ (.head _))).2.1 (N' _ (.tail _ (.head _))).2.2).2 |> λh=>beq_eq_false_iff_ne.mpr (Nat.ne_of_gt h),[],rfl,rfl⟩ λx1 p1 e1 eL q1 P=>?_;have ny:=(O.out y (λp hp=>Nat.lt_trans (lt1 p hp) lt2) (N' _ (.head _)).2.1 (N' _ (.head _)).2.2).1;have ny1:New B.G x1.L y:=⟨λhy=>by
   rw[eL]at hy;exact(ma_ hy).elim ny.L λhy=>Jj _ (ms_ hy▸lt2),ny.F,ny.o⟩
  refine P.pushAt (t:=x.s.toks) ny1 (λZ Z e=>e) (by rw[e1];exact(N' _ (.head _)).1) ⟨dx,Jp (θ _ _) q1,rfl⟩ λx2 p2 e2 eL2 q2 P=>?_;refine codeAny_mono ((by rw[show ({x.s with heap:=h'}:Shared)=x2.s by rw[e2,e1]];exact callFn_ok (x:=x2.wt) hr (ZU.cls m) hf (noneR_ok P q2).pg (Nat.le_of_lt x2.big) (Jq.cons ⟨y,q2,rfl⟩ (d.mono (p1.trans p2))))) λr s' z=>?_;rcases r with e|(v|_|_|_)<;>exact z
theorem makeE_ok(hr:Hr n r)(m:Rm B (n+1)){g k:Nat}(hm:JE k t_mkr=some g)(he:excP k=true){fi:FnI}(hf:fnP B.G.om.w.params g=some fi)(P:Jn x RV (makeE (r B.G.cx) B.f.hd k fi l x.S) Q E)(d:x.Ds l us):wpAny (Md B) B.A (call (.ref k) us) Q E x.s:=by
 have F:=mk_of (P:=B.G.om.w.params) hm;refine(exc_of (P:=B.G.om.w.params) he).obj λnm q N bs bm hdct sn sub ab col dd k0 k1 k2 k3 k5 hC hmro=>?_;obtain ⟨b1,b2,b3,b4,b5,b6,b7⟩:=WE hmro;have big:l.length<=100:=by
  unfold makeE at P;refine Jn.ob P λS1 e P=>P.ifT λhl Z=>nl hl
 refine exc_call b3 b4 b5 b6 (x.K _ _ hC) x.K F.init F.fn (λh' y hme=>?_) (by rw[<-d.len,sizeLine_eq];lia);refine hme.there.elim λt0 ht=>?_;refine Jn.pushAt P (t:=x.s.toks) (x.newOf hme.new) hme.keeps ht.1 (ao:=.exc k none none) ⟨_,none,none,{cls:=rfl,data:=rfl,size:=rfl,f2:=rfl,slots:=rfl,dict:=rfl,d:=rfl,f1:=rfl,t:=rfl}⟩ λx1 p1 e1 eL q1 P=>P.ifT λZ P=>?_;refine wpAny_call (codeAny_mono ((by rw[show (⟨h',x.s.gens,x.s.drawn,x.s.toks,x.s.os⟩:Shared)=x1.s from e1.symm];exact callFn_ok (x:=x1.wt) hr (ZU.cls m) hf (noneR_ok P q1).pg (Nat.le_of_lt x1.big) (Jq.cons ⟨y,q1,rfl⟩ (d.mono p1)))) λr s' z=>?_);rcases r with e|(v|_|_|_)<;>exact z
variable {vf:Value}{first:List Value}{T:Addr}{es:List Expr}{env:Env}{pos:Pos}
theorem back_eq:∀{es:List Expr},noStar es=true->backTo pos (starEach es env)=es.map λe=>(false,eval e env):=by
 intro v0_;induction v0_ with
 |nil=>
  intro Z;exact rfl
 |cons e es ih=>
  intro h;change (Bool.rec (noStar es) false (WI e):Bool)=true at h;induction q:WI e with
  |true=>rw[q]at h;exact nb h
  |false=>rw[q]at h;rw[star_cons q,ih h];rfl
theorem args_ok{M:Model}{Q:SP Args}(hn:noStar es=true)(h:wpAny M A (spliced (backTo pos (starEach es env))) (λvs s'=>Q ⟨vs,[]⟩ s') E s):
  wpAny M A (evalArgs vf true (backTo pos (starEach es env)) []) Q E s:=by
 rw[back_eq hn]at h ⊢
 induction es using c_ with
 |nil=>
  unfold evalArgs
  show wpAny M A (spliced []>>=_) Q E s
  refine Γ (ι h (λvs s' h'=>?_) λZ Z x=>x)
  refine Γ (Δ (ω ?_))
  exact Γ (Δ (Γ (Δ (Δ h'))))
 |cons e es=>exact evalArgs_plain h
def Then(x:Sit B)(fv:AV)(K:SP (List Value))(vs:List Value)(s1:Shared):Prop:=(∃y:Sit B,x.le y/\y.s=s1/\calleeOk y.S fv=true)/\K vs s1
theorem no_star(h:noStar es=true):(backTo pos (starEach es env)).any (·.1)=false:=by rw[back_eq h,List.any_map];exact List.any_eq_false.mpr λZ Z=>Ϝ
theorem callW_of{P:Heap->Prop}(hn:noStar es=true)(hp:∀y:Sit B,x.le y->calleeOk y.S a=true->P y.s.heap)(hl:∀h,P h->∃k,(k=Keeper.frame\/k=Keeper.machine\/k=Keeper.boundFrame)/\Looks (Md B) h (keeperOf vf) k)
  (h:wpAny (Md B) A (spliced (backTo pos (starEach es env))) (Then x a λvs s1=>wpAny (Md B) A (call vf (first++vs)) Q E s1) E x.s):wpAny (Md B) A (callWith pos vf first (backTo pos (starEach es env)) []) Q E x.s:=
 callWith_of (P:=P) (by rw[no_star hn];rfl) hl (ι (args_ok (Q:=λas s1=>P s1.heap/\wpAny (Md B) A (call vf (first++as.pos) as.kw) Q E s1) hn (ι h (λvs s1 g=>⟨g.1.elim λy q=>q.2.1▸hp y q.1 q.2.2,g.2⟩) λZ Z e=>e)) (λZ Z g=>g) λZ Z e=>e)
theorem callW_no(hn:noStar es=true)(hf:∀S,calleeOk S a=false)(h:wpAny (Md B) A (spliced (backTo pos (starEach es env))) (Then x a λvs s1=>wpAny (Md B) A (call vf (first++vs)) Q E s1) E x.s):
  wpAny (Md B) A (callWith pos vf first (backTo pos (starEach es env)) []) Q E x.s:=callW_of (P:=λZ=>False) hn (λy Z q=>Bool.noConfusion ((hf y.S).symm.trans q)) (λZ q=>q.elim) h
theorem isClo_of(h:isClo ao=true)(k:∀cs ps body sc j q,ao=.clo cs ps body sc j q->C):C:=by induction ao<;>first|exact k _ _ _ _ _ _ rfl|exact nb h
theorem callW_ok(hn:noStar es=true)(d:x.D a vf)(h:wpAny (Md B) A (spliced (backTo pos (starEach es env))) (Then x a λvs s1=>wpAny (Md B) A (call vf (first++vs)) Q E s1) E x.s):
  wpAny (Md B) A (callWith pos vf first (backTo pos (starEach es env)) []) Q E x.s:=by
 induction a with
 |st k=>
  cases d
  by_cases q:JN k t_kps=true
  ·exact callW_of (P:=(MineH.KR B.G.om.w.params).In) hn (λy Z Z=>y.K) (keeps_K (kp_of (P:=B.G.om.w.params) q)) h
  ·exact callW_no hn (λS=>by show JN k t_kps=false;cases w:JN k t_kps<;>first|rfl|exact absurd w q) h
 |loc i=>
  refine d.loc_ λad ha hu=>?_
  subst hu
  refine callW_of (P:=λhp=>∃ob fd,hp.get? ad=some ob/\ob.data=.func fd) hn (λy p q=>?_) (λhh q=>q.elim λob q=>q.elim λfd q=>⟨.frame,.inl rfl,?_⟩) h
  ·have q:(Option.rec false (λo=>isClo o) (y.S.get i):Bool)=true:=q
   induction e:y.S.get i with
   |none=>rw[e]at q;exact nb q
   |some ao=>rw[e]at q;exact isClo_of q λcs ps body sc j q z=>y.own (ao:=.clo cs ps body sc j q) (z▸e) (Jp p ha) λo ho p=>p.elim λfd F=>⟨o,fd,ho,by rw[F.o]⟩
  ·unfold keeperOf
   refine(Looks.ld q.1).andThen ?_;rw[q.2];exact .now
 |bi id=>cases d;exact callWith_builtin (no_star hn) (args_ok hn (ι h (λZ Z g=>g.2) λZ Z e=>e))
 |ty id=>cases d;exact PyProof.Rows.callWith_type (no_star hn) (args_ok hn (ι h (λZ Z g=>g.2) λZ Z e=>e))
 |junk=>exact d.elim
 |_=>exact callW_no hn (λZ=>rfl) h
theorem Ye{y w:Str}{bi:BI}{fst:List AV}{e:Mt}{p:AV×List AV}(h:mth y w bi fst e=some p)(k1:y=w->p=(.bi bi,fst)->C)(k2:e=some p->C):C:=by
 have h:(Bool.rec e (some (.bi bi,fst)) (sEq y w):Option (AV×List AV))=some p:=h;induction q:sEq y w with
 |true=>rw[q]at h;exact k1 (Jw q) (oi h).symm
 |false=>rw[q]at h;exact k2 h
theorem gm_str{w:Str}{t:Tok}{nm:Str}{pl:Sem Bool}(id:String)(sl:Slot "str" nm id)(hty:typeOf (.builtin id)=pure (.type "method_descriptor")){M:Model}{Q:SP (Value×List Value)}(h:Q (.builtin id,[.str w t]) s):wpAny M A (getMethod (.str w t) nm pl) Q E s:=
 getMethod_builtin (T:="str") (typeIs_str _ _ _) PySem.F.plainAttrs_str sl hty (λa e=>nomatch e) h
theorem gm_list{xs:Array Value}{k:Nat}(ho:s.heap.get? ad=some (listOf xs k)){nm:Str}{pl:Sem Bool}(id:String)(sl:Slot "list" nm id)(hty:typeOf (.builtin id)=pure (.type "method_descriptor")){M:Model}{Q:SP (Value×List Value)}(h:Q (.builtin id,[.ref ad]) s):wpAny M A (getMethod (.ref ad) nm pl) Q E s:=
 getMethod_builtin (T:="list") ⟨_,ho,rfl⟩ PySem.F.plainAttrs_list sl hty (λb e=>by cases e;exact⟨_,ho,rfl⟩) h
theorem objM_ok{p:AV×List AV}{pl:Sem Bool}{Q:SP (Value×List Value)}(hg:x.S.get i=some ao)(ha:x.L[i]?=some ad)(e:objM x.S (.loc i) z ao=some p)(h:∀vf us t,x.D p.1 vf->x.Ds p.2 us->Q (vf,us) {x.s with toks:=t}):wpAny (Md B) B.A (getMethod (.ref ad) z pl) Q E x.s:=
 x.own hg ha λo ho q=>by
  have me:∀{b:BI},p=(.bi b,[.loc i])->Q (.builtin b.id,[.ref ad]) x.s:=λe=>h _ _ x.s.toks (e▸(rfl:Value.builtin _=_)) (e▸Jq.cons ⟨ad,ha,rfl⟩ Jq.nil);cases ao with
  |dict es=>
   refine q.dict_ λds hm eo en=>Ye e (λhz hp=>?_) no;subst hz;exact getMethod_builtin (T:="dict") ⟨_,ho,by rw[eo]⟩ PySem.F.plainAttrs_dict PySem.F.slot_dict_get PySem.F.type_dict_get (λb e=>by cases e;exact⟨_,ho,by rw[eo]⟩) (me hp)
  |list vs=>
   refine q.list_ λxs n eo dd=>Ye e (λhz hp=>?_) λe=>Ye e (λhz hp=>?_) λe=>Ye e (λhz hp=>?_) λe=>Ye e (λhz hp=>?_) no
   ·subst hz;exact gm_list (eo▸ho) "list.append" PySem.F.slot_list_append PySem.F.type_list_append (me hp)
   ·subst hz;exact gm_list (eo▸ho) "list.extend" PySem.F.slot_list_extend PySem.F.type_list_extend (me hp)
   ·subst hz;exact gm_list (eo▸ho) "list.pop" PySem.F.slot_list_pop PySem.F.type_list_pop (me hp)
   ·subst hz;exact gm_list (eo▸ho) "list.index" PySem.F.slot_list_index PySem.F.type_list_index (me hp)
  |inst c d=>
   refine Jo e λes hd e=>q.inst_ λdx hdx eo=>Jz hd λo1 ho1 hv=>x.own (ao:=.dict es) (ZB hv▸ho1) hdx λo2 ho2 q2=>q2.dict_ λds hm e2 en=>?_;have I:InstAt x.s.heap ad (instObj c dx) c (some (dictOf ds es.length)):=⟨eo▸ho,rfl,rfl,e2▸ho2⟩;have e:(Option.rec (obO (look z es) λv=>ifO (attP c z) (obO (Zo v) λv=>some (v,[]))) (λfa=>Option.rec (some (.st fa,[.loc i])) (λZ=>none) (look z es)) (lookM c z t_me):Mt)=some p:=e;induction hm2:lookM c z t_me with
   |some fa=>
    rw[hm2]at e;induction hl:look z es with
    |some v=>rw[hl]at e;exact no e
    |none=>
     rw[hl]at e;have F:=me_of (P:=B.G.om.w.params) hm2;exact method_fn x.K I F.ga F.gh F.at_ F.fn (by show Option.map _ (lookIn z (dictOf ds es.length))=_;rw[lookIn_dict,en.getLn hl];rfl) (h _ _ x.s.toks (by rw[<-oi e];exact rfl) (by rw[<-oi e];exact Jq.cons ⟨ad,ha,rfl⟩ Jq.nil))
   |none=>
    rw[hm2]at e;refine Jo e λv hl e=>Jt e λhat e=>Jo e λw hw e=>?_;have F:=att_of (P:=B.G.om.w.params) hat;exact method_usual x.K I (plainGet_of F.plain).1 (plainGet_of F.plain).2 F.none rfl (get_inst F (eo▸ho) (e2▸ho2) en hl hw λy t dy=>h _ _ t (by rw[<-oi e];exact dy) (by rw[<-oi e];exact Jq.nil))
  |_=>exact no e
theorem getM_ok{p:AV×List AV}{pl:Sem Bool}{Q:SP (Value×List Value)}(e:getM B.G.cx x.S a z=some p)(d:x.D a u)(h:∀vf us t,x.D p.1 vf->x.Ds p.2 us->Q (vf,us) {x.s with toks:=t}):wpAny (Md B) B.A (getMethod u z pl) Q E x.s:=by
 induction a with
 |str w=>
  refine d.str_ λt hu=>?_;subst hu;have me:∀{b:BI},p=(.bi b,[.str w])->Q (.builtin b.id,[.str w t]) x.s:=λe=>h _ _ x.s.toks (e▸(rfl:Value.builtin _=_)) (e▸Jq.cons ⟨t,rfl⟩ Jq.nil);refine Ye e (λhz hp=>?_) λe=>Ye e (λhz hp=>?_) no
  ·subst hz;exact gm_str "str.split" PySem.F.slot_str_split PySem.F.type_str_split (me hp)
  ·subst hz;exact gm_str "str.index" PySem.F.slot_str_index PySem.F.type_str_index (me hp)
 |ty n=>
  refine Jt e λht e=>Ye e (λhz hp=>?_) no;subst hz;cases d;induction n<;>first|exact nb ht|skip
  exact x.opens λm O=>method_type (T:="Exception") O.f B.G.om.X (by rfl') (by decide +kernel) exI_of rfl (h _ _ _ (hp▸(rfl:Value.builtin _=_)) (hp▸Jq.nil))
 |loc i=>exact Jo e λao hg e=>d.loc_ λad ha hu=>hu▸objM_ok hg ha e h
 |op k=>
  refine Jt e λhs e=>Ye e (λhz hp=>?_) no;induction hl:(obO (B.G.cx.kn.sob k) Zc)with
  |none=>rw[hl]at hs;exact nb hs
  |some l=>
   subst hz;exact Sit.list (a:=.op k) hl d λad xs n hu ho Z=>hu▸gm_list ho "list.index" PySem.F.slot_list_index PySem.F.type_list_index (h _ _ x.s.toks (hp▸(rfl:Value.builtin _=_)) (hp▸Jq.cons (hu▸d) Jq.nil))
 |_=>exact no e
theorem argsGo_ok(hr:Hr n r)(m:Rm B n)(hn:noStar es=true)(P:Jn x RV (argsGo (r B.G.cx) B.f es a l x.S) Q E)(da:x.D a vf)(dl:x.Ds l first):wpAny (Md B) B.A (callWith pos vf first (backTo pos (starEach es B.env)) []) Q E x.s:=
 callW_ok hn da (evs_ok hr m (Jn.onVs P λx1 ls us p1 d1 P=>P.ifT λhc P=>⟨⟨x1,p1,rfl,hc⟩,hr.call m (Den.mono p1 da) (Jq.append (Jq.mono p1 dl) d1) P⟩))
theorem callE_ok(hr:Hr n r)(m:Rm B n){fe:Expr}{kws:List Keyword}(P:Jn x RV (evE (.Call fe es kws pos) B.G.cx (r B.G.cx) B.f x.S) Q E):wpAny (Md B) B.A (eval (.Call fe es kws pos) B.env) Q E x.s:=by
 induction kws using c_ with
 |cons _ _=>exact P.elim
 |nil=>
  refine Jn.ifT P λhn P=>P.ifT λhl P=>?_;have hl:=nl hl;have plain:∀{fe:Expr},eval (.Call fe es [] pos) B.env=(do callWith pos (<-eval fe B.env) [] (backTo pos (starEach es B.env)) (backToKw pos (keywordEach [] B.env)))->Jn x RV (Internal.onV (r B.G.cx (.ev B.f fe) x.S) λfv S=>argsGo (r B.G.cx) B.f es fv [] S) Q E->wpAny (Md B) B.A (eval (.Call fe es [] pos) B.env) Q E x.s:=λarm P=>by
   rw[arm];exact Γ (hr.ev m (P.onV λx1 a u p1 d1 P=>argsGo_ok hr m hn P d1 Jq.nil))
  induction fe using Expr.casesOn with
  |Attribute o' z apos=>
   refine Jn.ifT P λhb P=>P.ifT λhline P=>?_;rw[arm_eval_Call,base_plain hb];refine Γ (hr.ev m (P.onV λx1 a u p1 d1 P=>P.ob λp hp P=>Γ (ϙ ?_)));have hform:methodCallForm (es.length+([]:List Keyword).length) (backTo pos (starEach es B.env)) (backToKw pos (keywordEach [] B.env))=true:=by
    unfold methodCallForm;have h1:(backTo pos (starEach es B.env)).all (λx=>!x.1)=true:=by rw[back_eq hn,List.all_map];exact List.all_eq_true.mpr λZ Z=>rfl
    rw[h1];show (true&&true&&decide (es.length+0+0<30))=true;rw[decide_eq_true (by lia)];rfl
   have hpos:methodCallPos true o' B.env apos pos=pure pos:=by
    unfold methodCallPos;simp[show (apos.endLine==pos.line)=true from beq_iff_eq.mpr (nq hline)]
   unfold methodCall;rw[hform];exact Γ (ω (getM_ok hp d1 λvf us t dv dus=>Γ (wpAny_of_eq hpos (argsGo_ok (x:=x1.toks t) hr m hn (P.up (ζ _)) dv dus))))
  |_=>exact plain rfl P
theorem Sit.pt(x:Sit B)(m:Rm B n)(hh:B.f.hd=false):Pt B.G.om B.A x.s B.G.k:=
 ⟨λb o=>x.base,λt ht=>(B.G.tl t ht).elim (λhm=>x.r.live (x.r.own.subset hm) λZ Z o Z Z e Z=>⟨o,e⟩) λh=>h.imp λo e=>x.r.keep _ _ e,Nat.le_of_lt x.big,x.r.gens,x.r.dr,x.r.os,m.room.le (by lia),B.hdl hh,_,B.fr,λe he=>(x.frb he).elim λad q=>q.elim λo F=>F.ns.elim λm' hm=>⟨F.k,ad,m',o,F.fr,F.h,hm,F.sz⟩⟩
theorem callS_ok(hr:Hr n r)(m:Rm B (n+1)){k:Nat}(P:Jn x RV (callS B.G.cx (r B.G.cx) B.f.hd k l x.S) Q E)(d:x.Ds l us):wpAny (Md B) B.A (call (.ref k) us) Q E x.s:=by
 unfold callS at P;induction hs:JN k B.G.cx.sp with
 |true=>
  rw[hs]at P;exact Jn.ifT P λhh P=>m.ora k l B.A _ x.wt us Q E hs (x.pt m (JL hh)) B.fr d P.pg
 |false=>
  rw[hs]at P;have hP:=B.G.hP;induction hf:fnP B.G.cx.P k with
  |some fi=>
   rw[hf]at P;exact wpAny_call (callFn_ok (x:=x.wt) hr (ZU.of m) (hP▸hf) (Jn.pg P) (Nat.le_of_lt x.big) d)
  |none=>
   rw[hf]at P;refine Jn.ob P λg hg P=>Jn.ob P λfi hf P=>?_;induction he:excP k with
   |false=>rw[he]at P;exact makeI_ok hr m hg he (hP▸hf) P d
   |true=>rw[he]at P;exact makeE_ok hr m hg he (hP▸hf) P d
variable {x:Nat}{o ord:List Nat}{y:Str}{ys:List Str}
theorem JV{a:Nat}:∀{l:List Nat},JN a l=true->a∈l:=by
 intro v0_;induction v0_ with
 |nil=>
  intro h;exact nb h
 |cons b l ih=>
  intro h;change (Bool.rec (JN a l) true (Nat.beq a b):Bool)=true at h;induction e:Nat.beq a b with
  |true=>rw[nq e];exact .head _
  |false=>rw[e]at h;exact .tail _ (ih h)
theorem Wn{a:Nat}:∀{l:List Nat},a∈l->JN a l=true
 |b::l,h=>by
  show (Bool.rec (JN a l) true (Nat.beq a b):Bool)=true;induction e:Nat.beq a b with
  |true=>rfl
  |false=>exact Wn ((mc_ h).resolve_left (ε e))
def orB(a b:Bool):Bool:=Bool.rec b true a
theorem orB_of{a b:Bool}(h:orB a b=true)(ha:a=false):b=true:=by subst ha;exact h
theorem memO_mem:∀{l:List (List Nat)},memO o l=true->o∈l:=by
 intro v0_;induction v0_ with
 |nil=>
  intro h;exact nb h
 |cons r l ih=>
  intro h;change (Bool.rec (memO o l) true (eqL o r):Bool)=true at h;induction e:eqL o r with
  |true=>rw[Ws e];exact .head _
  |false=>rw[e]at h;exact .tail _ (ih h)
theorem lt3(h:x<3):x∈[0,1,2]:=JC (P:=λx=>x∈[0,1,2]) (JC (JC WQ (.head _)) (.tail _ (.head _))) (.tail _ (.tail _ (.head _))) x h
theorem kyN_idx:∀{x},x<3->idxY (kyN x)=some x:=fun {x} h=>by
 match x,h with
 |0,_=>rfl
 |1,_=>rfl
 |2,_=>rfl
theorem idxY_of(h:idxY y=some x):y=kyN x/\x<3:=by
 unfold idxY at h;induction e0:sEq y "P" with
 |true=>rw[e0]at h;cases h;exact⟨Jw e0,by decide⟩
 |false=>
  rw[e0]at h;induction e1:sEq y "Q" with
  |true=>rw[e1]at h;cases h;exact⟨Jw e1,by decide⟩
  |false=>
   rw[e1]at h;induction e2:sEq y "S" with
   |true=>rw[e2]at h;cases h;exact⟨Jw e2,by decide⟩
   |false=>rw[e2]at h;exact no h
theorem idxsY_of:∀{ys:List Str} {o:List Nat},idxsY ys=some o->ys=o.map kyN:=by
 intro v0_;induction v0_ with
 |nil=>
  intro Z h;cases h;rfl
 |cons y ys ih=>
  intro o h;exact Jo h λx hx h=>Jo h λr hr h9=>by cases h9;rw[(idxY_of hx).1,ih hr];rfl
theorem Zd(h:ord∈ZC)(hx:x∈ord):x<3:=nl (al_ (al_ (by rfl':(ZC.all λo=>o.all λx=>Nat.blt x 3)=true) _ h) _ hx)
theorem ords_nd:∀o∈ZC,o.Nodup:=by decide
theorem ords_add(h:o∈ZC)(hx:x<3)(hn:x∉o):o++[x]∈ZC:=memO_mem (orB_of (al_ (al_ (by rfl':(ZC.all λo=>[0,1,2].all λx=>orB (JN x o) (memO (o++[x]) ZC))=true) _ h) _ (lt3 hx)) (bf_ λq=>hn (JV q)))
theorem ords_of:∀(n:Nat) (o:List Nat),o.length=n->o.Nodup->(∀x∈o,x<3)->o∈ZC:=by
 intro v0_;induction v0_ with
 |zero=>
  intro o h Z Z;rw[List.eq_nil_of_length_eq_zero h];exact .head _
 |succ n ih=>
  intro o h nd lt;rcases List.eq_nil_or_concat o with rfl|⟨l,b,rfl⟩
  ·exact nomatch h
  ·rw[List.concat_eq_append]at*
   rw[ς,Jg]at h;have q:=List.nodup_append.mp nd;exact ords_add (ih l (Nat.succ.inj h) q.1 λx hx=>lt x (μ _ hx)) (lt b (ξ _ (.head _))) λhb=>q.2.2 b hb b (.head _) rfl
theorem sort_of{z:List Str}(ho:o∈ZC)(hp:z.Perm (o.map kyN))(hs:sortedS z=true):z=(Wz o).map kyN:=by
 have hz:∀y∈z,kyN ((idxY y).getD 0)=y:=λy hy=>by
  obtain ⟨x,hx,rfl⟩:=mm_ (hp.mem_iff.mp hy);rw[kyN_idx (Zd ho hx)];rfl
 have e1:(z.map λy=>(idxY y).getD 0).map kyN=z:=by
  rw[Jb];exact(List.map_congr_left hz).trans (List.map_id _)
 have hp2:(z.map λy=>(idxY y).getD 0).Perm o:=by
  have:=hp.map λy=>(idxY y).getD 0;rw[Jb]at this;refine this.trans (List.Perm.of_eq ((List.map_congr_left λx hx=>?_).trans (List.map_id _)));show (idxY (kyN x)).getD 0=x;rw[kyN_idx (Zd ho hx)];rfl
 generalize (z.map λy=>(idxY y).getD 0)=o' at e1 hp2;subst e1;have ho':o'∈ZC:=ords_of _ o' rfl (hp2.nodup_iff.mpr (ords_nd o ho)) λx hx=>Zd ho (hp2.mem_iff.mp hx);have h1:o'=Wz o':=Ws (orB_of (al_ (by rfl':(ZC.all λo=>orB (JM (sortedS (o.map kyN))) (eqL o (Wz o)))=true) _ ho') (by rw[hs];rfl));have h2:Wz o'=Wz o:=List.filter_congr λx Z=>by
  induction e:JN x o with
  |true=>exact Wn (hp2.mem_iff.mpr (JV e))
  |false=>exact bf_ λq=>nb (e.symm.trans (Wn (hp2.mem_iff.mp (JV q))))
 rw[h1.trans h2]
theorem ords_lay:(ZC.all λo=>PyData.layable0 (.list ((o.map kyN).map .str)))=true:=by rfl'
theorem ords_len(h:o∈ZC):o.length<=3:=nl (al_ (by rfl':(ZC.all λo=>Nat.ble o.length 3)=true) _ h)
theorem kyN_eq{y:Nat}(hx:x<3)(hy:y<3):sEq (kyN x) (kyN y)=Nat.beq x y:=by
 have:=al_ (al_ (by rfl':([0,1,2].all λx=>[0,1,2].all λy=>bxor1 (sEq (kyN x) (kyN y)) (Nat.beq x y))=true) x (lt3 hx)) y (lt3 hy);cases e1:sEq (kyN x) (kyN y)<;>cases e2:Nat.beq x y<;>first|rfl|(rw[e1,e2]at this;exact nb this)
variable {x:Sit B}{c0:AV}{Qa:SP α}{L:List Addr}{o:Obj}{es:List (Str×AV)}{ds:List DictEntry}
theorem Jn.one{k:AV->R}(P:Jn x ρ (one1 l k) Qa E)(d:x.Ds l us)(h:∀a u,us=[u]->x.D a u->Jn x ρ (k a) Qa E->C):C:=by
 induction l using c_ with
 |nil=>exact P.elim
 |cons a l=>induction l using c_ with
  |nil=>exact Jq.one d λu e d=>h a u e d P
  |cons _ _=>exact P.elim
theorem Jn.two{k:AV->AV->R}(P:Jn x ρ (two2 l k) Qa E)(d:x.Ds l us)(h:∀a b u v,us=[u,v]->x.D a u->x.D b v->Jn x ρ (k a b) Qa E->C):C:=by
 induction l using c_ with
 |nil=>exact P.elim
 |cons a l=>exact d.elim λu d=>d.elim λr d=>Jn.one P d.2.2 λb v e db P=>h a b u v (e▸d.1) d.2.1 db P
theorem Jn.three{k:AV->AV->AV->R}(P:Jn x ρ (Internal.three l k) Qa E)(d:x.Ds l us)(h:∀a b c u v w,us=[u,v,w]->x.D a u->x.D b v->x.D c w->Jn x ρ (k a b c) Qa E->C):C:=by
 induction l using c_ with
 |nil=>exact P.elim
 |cons a l=>exact d.elim λu d=>d.elim λr d=>Jn.two P d.2.2 λb c v w e db dc P=>h a b c u v w (e▸d.1) d.2.1 db dc P
structure OwnL(x:Sit B)(i:Nat)(l:List AV)(ad:Addr)(xs:Array Value)(n:Nat):Prop where
 g:x.S.get i=some (.list l)
 a:x.L[i]?=some ad
 h:x.s.heap.get? ad=some (listOf xs n)
 d:x.Ds l xs.toList
 le:xs.size<=1000
 len:xs.size=l.length
theorem Jn.ownL{k:Nat->List AV->R}(P:Jn x ρ (Internal.ownL x.S a k) Qa E)(d:x.D a u)(h:∀i l ad xs n,u=.ref ad->OwnL x i l ad xs n->Jn x ρ (k i l) Qa E->C):C:=
 P.ob λi hi P=>P.ob λl hl P=>P.ifT λhs P=>Jz hl λo ho hv=>by
  rw[JQ hi]at d;cases Zf hv;exact d.loc_ λad ha hu=>x.own ho ha λo' ho' p=>p.list_ λxs n e dd=>h i l ad xs n hu ⟨ho,ha,e▸ho',dd,Jq.short dd hs,π▸(Jq.len dd).symm⟩ P
theorem lenS_ok(P:Jn x RV (lenS B.G.cx x.S a) Q E)(d:x.D a u):wpAny (Md B) B.A (call (.builtin "len") [u]) Q E x.s:=
 P.ob λl hl P=>P.ifT λhs P=>by
  induction ht:ZP B.G.cx x.S a with
  |some l'=>
   rw[ht]at hl;cases oi hl;exact Sit.tup ht d λad xs n hu ho dd=>hu▸len_tuple ⟨_,ho,rfl,n,rfl⟩ (lt63' (Jq.short dd hs)) (by rw[<-π,<-Jq.len dd];exact P.int)
  |none=>
   rw[ht]at hl;exact Sit.list hl d λad xs n hu ho dd=>hu▸call_len_list ⟨_,ho,rfl,n,rfl⟩ (lt63' (Jq.short dd hs)) (by rw[<-π,<-Jq.len dd];exact P.int)
theorem last_ok:∀{l p:List AV} {v:AV} {us:List Value},lastA l=some (p,v)->Jq nm L l us->∃ps y,us=ps++[y]/\Jq nm L p ps/\Den nm L v y:=by
 intro v0_;induction v0_ with
 |nil=>
  intro Z Z Z e Z;exact no e
 |cons a r ih=>
  intro p v us e y5_;obtain ⟨u,ws,hu,d,ds⟩:=y5_;have e:some (Option.rec ([],a) (λp=>(a::p.1,p.2)) (lastA r):List AV×AV)=some (p,v):=e;induction q:lastA r with
  |none=>
   rw[q]at e;cases oi e;induction r using c_ with
   |nil=>cases (show ws=[]from ds);exact⟨[],u,hu,Jq.nil,d⟩
   |cons b r=>exact no q.symm
  |some p'=>
   rw[q]at e;cases oi e;exact(ih (p:=p'.1) (v:=p'.2) q ds).elim λps g=>g.elim λy g=>⟨u::ps,y,hu.trans (Ja (u::·) g.1),Jq.cons d g.2.1,g.2.2⟩
theorem dens_strs:∀{l:List (Str×Tok)} {xs:List Str},l.map (·.1)=xs->Jq nm L (xs.map .str) (strValues l):=by
 intro v0_;induction v0_ with
 |nil=>
  intro Z rfl;exact Jq.nil
 |cons z9 l ih=>
  intro Z rfl;obtain ⟨x,t⟩:=z9;exact Jq.cons ⟨t,rfl⟩ (ih rfl)
theorem symK_sym(h:WG a=some i)(d:Den nm L a u)(k:∀t,u=.str (nm.f i) t->C):C:=(WZ h).elim λc e=>by rw[e]at d;exact d.sym_ λt e Z=>k t e
theorem extend_ok(P:Jn x RV (Internal.ownL x.S a λi p=>Internal.ownL x.S b λj q=>ifT (JM (Nat.beq i j)) (ifT (JT (p++q)) (setR x.S i (.list (p++q)) λS=>.ok (.v .none) S))) Q E)(da:x.D a u)(db:x.D b v):wpAny (Md B) B.A (call (.builtin "list.extend") [u,v]) Q E x.s:=
 P.ownL da λi p ad xs n hu O1 P=>P.ownL db λj q ad2 ys m hv O2 P=>P.ifT λhij P=>P.ifT λhs P=>by
  subst hu;subst hv;have hs:=Zg hs;rw[ς,<-O1.len,<-O2.len]at hs;have tl:¬(!xs.isEmpty&&Builtin.List.listTooLong (xs.size+ys.size))=true:=by
   rw[show Builtin.List.listTooLong (xs.size+ys.size)=false from by unfold Builtin.List.listTooLong;rw[PySem.sizeLine_eq];exact ϡ (by lia),Bool.and_false];exact Ϝ
  exact call_meets PySem.F.slot_list_extend ⟨_,O1.h,rfl⟩ PySem.F.entry_list_extend (PySem.F.args_list_extend_2 _ _) (PySem.AutoSeq1.list_extend_list_list_0 ad xs n ad2 ys m tl (ZW O1.le) (Nat.le_succ_of_le (ZW hs)))
   ⟨O1.h,O2.h,Jn.setS (k:=λS=>.ok (.v .none) S) (t:=x.s.toks) P O1.a (Ϡ ..) (PySem.IsL.update O1.h _) ⟨_,_,rfl,by rw[Array.toList_append];exact Jq.append O1.d O2.d⟩ (nns O1.g rfl) λx' p e1 Z P=>e1▸P.val (show Value.none=_ from rfl)⟩
theorem pop_ok(P:Jn x RV (Internal.ownL x.S a λi l=>ob (lastA l) λp=>setR x.S i (.list p.1) λS=>.ok (.v p.2) S) Q E)(da:x.D a u):wpAny (Md B) B.A (call (.builtin "list.pop") [u]) Q E x.s:=
 P.ownL da λi l ad xs n hu O P=>P.ob λp hp P=>(last_ok hp O.d).elim λps g=>g.elim λy g=>by
  subst hu;have ex:xs=(ps++[y]).toArray:=by rw[<-g.1,Array.toArray_toList]
  have hk:xs.size-1=ps.length:=by rw[ex,List.size_toArray,ς];rfl
  have hy:xs[xs.size-1]?=some y:=by rw[hk,ex];simp
  exact call_meets PySem.F.slot_list_pop ⟨_,O.h,rfl⟩ PySem.F.entry_list_pop (PySem.F.args_list_pop_1 _) (PySem.MeetsSeq.list_pop_last ad _ n y hy (ZW O.le))
   ⟨O.h,Jn.setS (k:=λS=>.ok (.v p.2) S) (t:=x.s.toks) P O.a (Ϡ ..) (PySem.IsL.update O.h _) ⟨_,_,rfl,by rw[hk,ex,kl_erase,List.append_nil];exact g.2.1⟩ (nns O.g rfl) λx' p' e1 Z P=>e1▸P.val (Den.mono p' g.2.2)⟩
theorem excInit_ok(P:Jn x RV (ob (Zh a) λi=>ob (gv vExc x.S i) λp=>ifT (excP p.1) (.ok (.v .none) x.S)) Q E)(da:x.D a u):wpAny (Md B) B.A (call (.builtin "Exception.__init__") [u,v]) Q E x.s:=
 P.ob λi hi P=>P.ob λp hp P=>P.ifT λhe P=>by
  rw[JQ hi]at da;refine da.loc_ λad ha hu=>x.exc hp ha λoe vs va vd hg q=>(exc_of (P:=B.G.om.w.params) he).obj λnm q' N bs bm hdct sn sub ab col dd k0 k1 k2 k3 k5 hC hm=>?_;rw[hu];refine exc_init (WE hm).2.2.2.1 (x.K _ _ hC) q.h q.p.cls q.p.data q.p.size λh' kp hx=>hx.elim λv0 hx=>?_;rw[map_fields q.p.data]at hx;have R':Rep B.G x.S x.L {x.s with heap:=h',toks:=x.s.toks}:=x.r.multi (.inl rfl) x.r.len (λb o e=>kp b o λz=>no ((x.r.new _ (Θ ha)).symm.trans (z▸e))) (λp hp o hl e q=>⟨o,kp _ o (λz=>hl (z▸Θ ha)) e,q⟩) (λj=>by
   by_cases w:j=i
   ·rw[w]
    exact .inr ⟨_,hg,ad,_,ha,hx,_,va,vd,{cls:=q.p.cls,data:=rfl,size:=(Array.size_setIfInBounds ..).trans q.p.size,f2:=(Array.getElem?_setIfInBounds_ne (by decide)).trans q.p.f2,slots:=q.p.slots,dict:=q.p.dict,d:=q.p.d,f1:=(Array.getElem?_setIfInBounds_ne (by decide)).trans q.p.f1,t:=q.p.t}⟩
   ·exact .inl ⟨rfl,λa o ha' e=>kp a o (λz=>w (Ju x.r.nd (z▸ha') ha)) e⟩) λj h1 h2=>absurd h2 (ϖ h1)
  exact Jn.val (x:=x.to R' (ζ _) λZ es e=>⟨es,e⟩) (P.up (ζ _)) (show Value.none=_ from rfl)
theorem strs_at{ys:List Str}:∀{us:List Value},StrsAre us ys->∀{m:Nat} {y:Value},us[m]?=some y->∃z t,ys[m]?=some z/\y=.str z t:=by
 intro us h;induction h with
 |nil=>exactλe=>no e
 |cons z t h ih=>
  intro m y e;induction m using Nat.casesAuxOn with
  |zero=>exact⟨z,t,rfl,(oi e).symm⟩
  |succ m=>exact ih (m:=m) e
theorem lindex_ok(P:Jn x RV (ob (Wo B.G.cx x.S a) λl=>ifT (JT l) (ob (WG b) λk=>ob (idxX B.G.cx k l) λr=>ob r λj=>intR x.S (Int.ofNat j))) Q E)(da:x.D a u)(db:x.D b v):wpAny (Md B) B.A (call (.builtin "list.index") [u,v]) Q E x.s:=
 P.ob λl hl P=>P.ifT λhsh P=>P.ob λk hk P=>P.ob λr hr P=>P.ob λj hj P9=>symK_sym hk db λt hv=>Jo hr λks hks hr=>Sit.list hl da λad xs n hu ho dd=>by
  subst hu;subst hv;subst hj;have hs:=syms_of (f:=B.G.nm.f) hks dd;refine((idxN_ok hr).at_ j rfl).elim λm g=>?_;have hm:j=m:=by rw[g.1,Nat.zero_add]
  subst hm;have hl:(ks.map B.G.nm.f).length=xs.size:=by rw[<-π];exact hs.length.symm
  have hj:j<xs.size:=hl▸(lt_ g.2.1);have at_:∀p (hp:p<xs.size),∃z t,(ks.map B.G.nm.f)[p]?=some z/\xs[p]=.str z t:=λp hp=>strs_at hs (by rw[Array.getElem?_toList,Λ hp]);refine call_meets PySem.F.slot_list_index ⟨_,ho,rfl⟩ PySem.F.entry_list_index (PySem.F.args_list_index_2 _ _)
   (MeetsSeq.list_index ad xs n (.str (B.G.nm.f k) t) (isStrOf (B.G.nm.f k)) (λy hy=>eq_isStrOf (B.G.nm.f k) t hs y (by simpa using hy)) j hj (by have:=dd.short hsh;lia) ?_ λp hp hlt=>?_) ⟨ho,P9.int⟩
  ·refine(at_ j hj).elim λz q=>q.elim λt' q=>?_
   rw[q.2,show z=_ from oi (q.1.symm.trans g.2.1)];exact Jm _
  ·refine(at_ p hp).elim λz q=>q.elim λt' q=>?_
   rw[q.2];exact beq_eq_false_iff_ne.mpr (g.2.2 p hlt z q.1)
theorem dget_ok(P:Jn x RV (ob (Zh a) λi=>ob (gv Zi x.S i) λes=>ob (Zz b) λy=>.ok (.v (Option.rec c0 (λu=>u) (look y es))) x.S) Q E)(da:x.D a u)(db:x.D b v){w:Value}(dc:x.D c0 w):wpAny (Md B) B.A (call (.builtin "dict.get") [u,v,w]) Q E x.s:=
 P.ob λi hi P=>P.ob λes hes P=>P.ob λy hy P=>by
  rw[JQ hi]at da;rw[Zb hy]at db;refine da.loc_ λad ha hu=>db.str_ λt hv=>Jz hes λo ho hv'=>x.own (ao:=.dict es) (ZB hv'▸ho) ha λo' ho' p=>p.dict_ λds hm e en=>?_;rw[hu];rw[hv];subst e;refine call_meetsIn PySem.F.slot_dict_get ⟨_,ho',rfl⟩ PySem.F.entry_dict_get (PySem.F.args_dict_get_3 _ _ _) (meets_dict_get_default (PySem.strKind B.G.om.prog B.G.om.w) ad (strKind_is _ _ y t) hm w) ⟨_,mapOf B.G.om ho' en,?_⟩;induction q:look y es with
  |some z=>
   rw[q]at P;exact(findBy_some en q).elim λu g=>by rw[g.1];exact P.val g.2 _
  |none=>rw[q]at P;rw[findBy_none en q];exact P.val dc _
theorem Ens.pairs(om:Om):∀{es:List (Str×AV)} {ds:List DictEntry},Ens om.w.params nm L es ds->∃kvs:List (Str×Value),Pairs (PySem.strKind om.prog om.w) ds kvs/\kvs.map (·.1)=es.map (·.1):=by
 intro v0_;induction v0_ with
 |nil=>
  intro Z e;exact⟨[],by rw[show _=[]from e];exact .nil,rfl⟩
 |cons p es ih=>
  intro Z y2_;obtain ⟨d,r,e,en,rest⟩:=y2_;exact(ih rest).elim λkvs g=>en.key.elim λt hk=>⟨(p.1,d.val)::kvs,e▸.cons (by rw[hk];exact strKind_is om.prog om.w p.1 t) rfl g.1,by rw[List.map_cons,List.map_cons,g.2]⟩
theorem dictAt{n:Nat}(om:Om)(ho:s.heap.get? ad=some (dictOf ds n))(en:Ens om.w.params nm L es ds)(hn:(es.map (·.1)).Nodup):∃kvs:List (Str×Value),s.heap.DictAt (PySem.strKind om.prog om.w) ad kvs n/\kvs.map (·.1)=es.map (·.1):=
 (Ens.pairs om en).elim λkvs g=>⟨kvs,⟨_,ds.toArray,ho,⟨rfl,rfl,rfl⟩,rfl,λe he=>(en.all e (by simpa using he)).elim λp q=>q.key.elim λt hk=>⟨p.1,by rw[hk];exact strKind_is om.prog om.w p.1 t,q.hash⟩,g.1,by rw[g.2];exact hn⟩,g.2⟩
theorem keys_dens:∀{es:List (Str×AV)} {vs:List Value},vs.length=es.length->(∀(j:Nat) (v:Value),vs[j]?=some v->∃k t,(es.map (·.1))[j]?=some k/\v=Value.str k t)->Jq nm L (es.map λp=>AV.str p.1) vs
 |[],[],_,_=>Jq.nil
 |p::es,v::vs,hl,h=>(h 0 v rfl).elim λk g=>g.elim λt g=>Jq.cons ⟨t,by rw[g.2,<-show p.1=k from oi g.1]⟩ (keys_dens (Nat.succ.inj hl) λj v e=>h (j+1) v e)
 |[],_::_,hl,_=>nomatch hl
 |_::_,[],hl,_=>nomatch hl
theorem Sit.kvs(x:Sit B)(hg:gv Zi x.S i=some es)(ha:x.L[i]?=some ad)(hn:(es.map (·.1)).Nodup)(k:∀kvs,(ad==sysModules)=false->x.s.heap.DictAt (PySem.strKind B.G.om.prog B.G.om.w) ad kvs es.length->kvs.map (·.1)=es.map (·.1)->kvs.length=es.length->C):C:=
 Jz hg λo ho hv=>x.own (ao:=.dict es) (ZB hv▸ho) ha λo' ho' p=>p.dict_ λds hm e en=>(dictAt B.G.om (e▸ho') en hn).elim λkvs g=>k kvs hm g.1 g.2 (by have:=Ja List.length g.2;rwa [Ω,Ω]at this)
theorem listE_ok(hh:B.A.handled=none){es:List (Str×AV)}{kvs:List (Str×Value)}(hm:(ad==sysModules)=false)(hd:x.s.heap.DictAt (PySem.strKind B.G.om.prog B.G.om.w) ad kvs es.length)(hk:kvs.map (·.1)=es.map (·.1))(hl:kvs.length=es.length)(hz:JT es=true)(P:Jn x RV (pushV x.S (.list (es.map λp=>.str p.1))) Q E):wpAny (Md B) B.A (call (.type "list") [.ref ad]) Q E x.s:=
 x.opens λm O=>kdl_N (kdl_dict (knd:=PySem.strKind B.G.om.prog B.G.om.w) (kvs:=kvs) (ep:=es.length) hm) hh O.f O.n hd (hl▸ZW (Zg hz)) λD c h' tk vs F' N' l1 hv1 hv=>O.pushV P F' N' l1 ⟨_,c,rfl,by
   rw[List.toList_toArray];exact keys_dens (hv1.trans hl) λj v e=>(hv j v e).elim λk g=>g.elim λy g=>(Value.isStrOf_shape g.2).elim λt ht=>⟨k,t,by rw[<-hk,δ,g.1];rfl,ht⟩⟩
theorem listK_ok(hh:B.A.handled=none)(hg:gv Zi x.S i=some es)(ha:x.L[i]?=some ad)(hz:JT es=true)(hn:Yd (es.map (·.1))=true)(P:Jn x RV (pushV x.S (.list (es.map λp=>.str p.1))) Q E):wpAny (Md B) B.A (call (.type "list") [.ref ad]) Q E x.s:=
 x.kvs hg ha (Zn hn) λkvs hm hd hk hl=>listE_ok hh hm hd hk hl hz P
theorem sorted_ok(hh:B.A.handled=none){p:Str×AV}(hg:gv Zi x.S i=some [p])(ha:x.L[i]?=some ad)(P:Jn x RV (pushV x.S (.list [.str p.1])) Q E):wpAny (Md B) B.A (call (.builtin "sorted") [.ref ad]) Q E x.s:=
 x.kvs hg ha (List.nodup_cons.mpr ⟨Ξ,ϑ⟩) λkvs hm hd hk hl=>x.opens λm O=>by
  refine kdu_sorted (kdl_dict (knd:=PySem.strKind B.G.om.prog B.G.om.w) (kvs:=kvs) (ep:=1) hm) hh O.f O.n hd (hl▸by rw[PySem.sizeLine_eq];exact nl rfl) λD h' tk vs F' N' l1 hv1 hv=>?_;have hD:=N' _ (.head _);obtain ⟨v,rfl⟩:=List.length_eq_one_iff.mp (hv1.trans hl);obtain ⟨t,rfl⟩:∃t,v=.str p.1 t:=(hv 0 v rfl).elim λk1 g=>g.elim λy g=>by
   have:(kvs.map (·.1))[0]?=some k1:=by rw[δ,g.1];rfl
   rw[hk]at this;cases oi this;exact Value.isStrOf_shape g.2
  refine wpAny_call_entry PyProof.Rows.slot_list_sort ⟨_,hD.1,rfl⟩ PyProof.Rows.entry_list_sort (list_sort_treeK strKind_oneLt hD.1 (StrsAre.keysOf (.cons p.1 t .nil)) (λv1 v2 rest e=>nomatch e) (show 1<64 by decide) λst' a1 a2=>⟨_,rfl,?_⟩) (PyProof.Rows.args_list_sort _);have hout:(arrOf st').map (·.2)=#[Value.str p.1 t]:=by
   have hp1:=Array.perm_iff_toList_perm.mp a1;rw[pairsOf_toList]at hp1;have:=List.perm_singleton.mp (hp1.map (·.2))
   exact Array.toList_inj.mp (by rw[Array.toList_map];exact this)
  rw[hout];have kp:∀b o,b≠D->h'.get? b=some o->(sortedHeap h' D [Value.str p.1 t] #[Value.str p.1 t]).get? b=some o:=λb o hb e=>(sortedHeap_old hb (ϱ e)).trans e;refine(sortedHeap_at (vs:=[Value.str p.1 t]) (out:=#[Value.str p.1 t]) hD.1).elim λe hse=>?_;refine O.pushV P (o:=listOf #[Value.str p.1 t] e) ⟨F'.ns.elim λo g=>g.elim λes g=>g.elim λep g=>⟨o,es,ep,kp _ o (Ne.symm hD.2.1) g.1,g.2⟩,λb o hb=>kp b o (λz=>no (hD.2.2.symm.trans (z▸hb))) (F'.keep b o hb),F'.above⟩ (λq hq=>(mc_ hq).elim (λz=>z▸⟨hse,hD.2⟩) λhq=>⟨kp _ _ (Jl (l1 q hq)) (N' q (.tail _ hq)).1,(N' q (.tail _ hq)).2⟩) l1 ⟨_,e,rfl,Jq.cons ⟨t,rfl⟩ Jq.nil⟩
theorem sortL_ok(hl:gv Zc x.S i=some l)(ha:x.L[i]?=some ad)(P:Jn x RV (ob (obO (strsA l) idxsY) λo=>ifT (memO o ZC) (pushV x.S (.list ((Wz o).map λx=>.str (kyN x))))) Q E):wpAny (Md B) B.A (call (.builtin "sorted") [.ref ad]) Q E x.s:=
 P.ob λo ho P=>P.ifT λhm P=>Jo ho λys hys hi=>Jz hl λao hg hv=>x.own (ao:=.list l) (Zf hv▸hg) ha λo' ho' p=>p.list_ λxs n e dd=>x.opens λm O=>by
  subst e;have hm:=memO_mem hm;cases idxsY_of hi;have hs:=strsA_of hys dd;have hn:=hs.length;have h3:=ords_len hm;rw[Ω]at hn;refine sorted_N2_str (ss:=o.map kyN) O.f O.n (vs:=xs.toList) ⟨_,ho',rfl,n,rfl⟩ hs (al_ ords_lay o hm) (by lia) λh' vs' ss' e F' N' Z hS2 Z Z Z hp hq=>?_;cases sort_of hm hp hq;refine O.pushV P F' N' (λp hp=>Nat.lt_succ_of_lt (O.lt p hp)) ⟨vs'.toArray,e,rfl,?_⟩;have key:∀{o:List Nat} {us:List Value},StrsAre us (o.map kyN)->Jq B.G.nm (x.L++[x.s.heap.objs.size+1]) (o.map λx=>.str (kyN x)) us:=fun {o}=>by
   induction o with
   |nil=>intro us h;cases h;exact rfl
   |cons c o ih=>intro us h;cases h with|cons _ t r=>exact⟨_,_,rfl,⟨t,rfl⟩,ih r⟩
  exact key hS2
theorem callB_ok{bi:BI}(P:Jn x RV (callB B.G.cx B.f.hd bi l x.S) Q E)(d:x.Ds l us):wpAny (Md B) B.A (call (.builtin bi.id) us) Q E x.s:=by
 revert d;intro d0;induction bi with
 |len=>
  refine Jn.one P d0 λa u e d P=>?_;subst e;induction a with
  |str w=>exact Jn.ifT P λhs P=>d.elim λt d=>d▸PySem.P.len_str (Int.not_le.mpr (lt63 (nl hs))) P.int
  |loc i=>exact lenS_ok P d
  |op i=>exact lenS_ok P d
  |_=>exact P.elim
 |ord=>
  refine Jn.one P d0 λa u e d P=>P.ob λw hw P=>?_;subst e;rw[Zb hw]at d;refine d.str_ λt hu=>?_;rw[hu];induction hc:w.cps.toList using c_ with
  |nil=>rw[hc]at P;exact P.elim
  |cons c0 r=>
   rw[hc]at P;induction r using c_ with
   |cons _ _=>exact P.elim
   |nil=>
    have h3:w.cps=#[c0]:=Array.toList_inj.mp hc;have h1:w.length=1:=by show w.cps.size=1;rw[h3];rfl
    have h2:w.cps.getD 0 0=c0:=by rw[h3];rfl
    exact ord_of_one h1 (by rw[h2];exact P.int)
 |abs=>
  refine Jn.one P d0 λa u e d P=>P.ob λw hw P=>?_;subst e;rw[JO hw]at d;exact d.elim λt d=>d▸call_abs_int λu tk=>P.int
 |min=>
  exact Jn.two P d0 λa b u v e da db P=>P.ifT λhh P=>P.int2 da db λi t j t2 hu hv P=>by
   subst e;subst hu;subst hv;exact x.opens λm O=>min_two_N (B.hdl (JL hh)) O.f O.n λh' tk F' N'=>Jn.val (x:=x.to (O.back (t:=tk) F' N') (ζ _) λZ es e=>⟨es,e⟩) (P.up (ζ _)) ⟨_,rfl⟩
 |split=>
  exact Jn.two P d0 λa b u v e da db P=>P.ob λy hy P=>P.ob λz hz P=>P.ifT λhs P=>P.ifT λhn P=>by
   subst e;rw[Zb hy]at da;rw[Zb hz]at db;exact da.str_ λt hu=>db.str_ λt2 hv=>by
    subst hu;subst hv;exact x.opens λm O=>splitN1 O.f O.n (JL hn) (λl h' k hl F' N'=>O.pushV P F' N' O.lt ⟨_,0,rfl,dens_strs hl⟩) (by have:=nl hs;rw[PySem.sizeLine_eq];lia)
 |index=>
  exact Jn.two P d0 λa b u v e da db P=>P.ob λy hy P=>P.ob λz hz P=>by
   subst e;rw[Zb hy]at da;rw[Zb hz]at db;refine da.str_ λt hu=>db.str_ λt2 hv=>?_;subst hu;subst hv;induction ho:Builtin.Str.occurrences y z 0 y.length 1 using c_ with
   |nil=>rw[ho]at P;exact P.elim
   |cons i r=>rw[ho]at P;exact PySem.SC.index ho P.int
 |append=>
  exact Jn.two P d0 λa b u v e da db P=>P.ownL da λi l ad xs n hu O P=>by
   subst e;subst hu;exact append_at O.h (λh' hs ho'=>Jn.setS (k:=λS=>.ok (.v .none) S) (t:=x.s.toks) P O.a hs ho' ⟨_,_,rfl,by rw[Array.toList_push];exact Jq.append O.d (Jq.cons db Jq.nil)⟩ (nns O.g rfl) λx' p e1 Z P=>e1▸P.val (show Value.none=_ from rfl)) (ZW O.le)
 |extend=>exact Jn.two P d0 λa b u v e da db P=>e▸extend_ok P da db
 |pop=>exact Jn.one P d0 λa u e d P=>e▸pop_ok P d
 |excInit=>exact Jn.two P d0 λa b u v e da db P=>e▸excInit_ok P da
 |lindex=>exact Jn.two P d0 λa b u v e da db P=>e▸lindex_ok P da db
 |dget=>exact Jn.three P d0 λa b c u v w e da db dc P=>e▸dget_ok P da db dc
 |sorted=>
  exact Jn.one P d0 λa u e d P=>P.ifT λhh P=>P.ob λi hi P9=>by
   subst e;rw[JQ hi]at d;refine d.loc_ λad ha hu=>?_;subst hu;have P:Jn x RV (Option.rec (ob (gv Zi x.S i) λes=>List.rec .no (λp r Z=>List.rec (pushV x.S (.list [.str p.1])) (λZ Z Z=>.no) r) es) (λl=>ob (obO (strsA l) idxsY) λo=>ifT (memO o ZC) (pushV x.S (.list ((Wz o).map λx=>.str (kyN x))))) (gv Zc x.S i)) Q E:=P9;induction hl:gv Zc x.S i with
   |some l=>rw[hl]at P;exact sortL_ok hl ha P
   |none=>
    rw[hl]at P;refine P.ob λes hes P=>?_;induction es using c_ with
    |nil=>exact P.elim
    |cons p r=>induction r using c_ with
     |nil=>exact sorted_ok (B.hdl (JL hh)) hes ha P
     |cons _ _=>exact P.elim
variable {prog:Program}{w:World}
def ZO(it:Addr)(h h':Heap):Prop:=(∀b o,b≠it->h.get? b=some o->h'.get? b=some o)/\∃o,h'.get? it=some o
theorem ZO.upd{it:Addr}{h:Heap}{o:Obj}{vs:Array Value}(ho:h.get? it=some o)(hd:o.data=.fields vs):ZO it h (h.update it (Obj.mapFields λx=>x.setIfInBounds 0 Value.none)):=
 ⟨(Ϡ ..).extBut,_,υ _ ho (Obj.isFreed_of_fields (Obj.data_mapFields hd _))⟩
theorem stop_raise{α:Type}{h1:Heap}{P:SP α}{EX:SP Value}(hh:A.handled=none)(H:∀h' e,(∀b o,h1.get? b=some o->h'.get? b=some o)->(∃o,h'.get? e=some o/\o.cls=.type "StopIteration")->EX (.ref e) {s with heap:=h'}):
  wpAny (model prog w) A (newExc (.type "StopIteration") []>>=λe=>raiseNew e) P EX {s with heap:=h1}:=by
 refine Γ ?_
 simp only[newExc,newTuple]
 refine Γ (wpAny_newObj_type ?_ (by size_fits))
 refine Γ (m:=firstArgMember _ _) (wpAny_of_eq (a:=Value.none) (by first|rfl|(simp only[firstArgMember];rfl)) ?_)
 refine wpAny_newObj_type ?_ (by size_fits)
 simp only[raiseNew]
 refine Γ (wpAny_handled ?_)
 rw[hh]
 refine Γ (Δ (wpAny_throw ?_))
 exact H _ _ (λb o e=>η _ (η _ e)) ⟨_,ϟ _ rfl,rfl⟩
theorem end_stop{it:Addr}{α:Type}{h1:Heap}{P:SP α}{Q:SP (Option Value)}(hh:A.in1.handled=none)(K:ZO it s.heap h1)(hQ:∀h',ZO it s.heap h'->Q none {s with heap:=h'}):
  wpAny (model prog w) A.in1 (newExc (.type "StopIteration") []>>=λe=>raiseNew e) P (λe s'=>wpAny (model prog w) A (isInstance e (.type "StopIteration")>>=λb=>if b=true then pure none else throw e) Q E s') {s with heap:=h1}:=
 stop_raise hh λh' e kp H=>H.elim λo r=>Γ (wpAny_isInstance (T:="StopIteration") (b:=true) ⟨o,r.1,r.2⟩ isSubtype_stop (Δ (hQ _ ⟨λb o hb e=>kp b o (K.1 b o hb e),K.2.elim λo q=>⟨o,kp _ _ q⟩⟩)))
theorem list_end{it l:Addr}{i:Nat}{items}{Q:SP (Option Value)}(hh:A.handled=none)
  (hit:s.heap.IsListIter it l i) (hl:s.heap.IsList l items) (hx:items[i]?=none)
  (hQ:∀h',ZO it s.heap h'->Q none {s with heap:=h'}):wpAny (model prog w) A (pyNext (.ref it)) Q E s:=by
 obtain ⟨o,ho,hc,hd⟩:=id hit
 obtain ⟨ol,hol,_,nl,hdl⟩:=hl
 unfold pyNext
 refine Γ (wpAny_attempt (wpAny_callSpecial?_slot (name:=Str.ofString "__next__") hit.typeIs slot_listiter_next
  (wpAny_call_entry slot_listiter_next hit.typeIs entry_listiter_next ?_ (args_listiter_next _))))
 show wpAny _ _ (field (.ref it) 0>>=_) _ _ s
 refine Γ (wpAny_field ho hd (x:=.ref l) rfl ?_)
 show wpAny _ _ (if (Value.ref l==Value.none)=true then _ else _) _ _ s
 rw[if_neg (show ¬((Value.ref l==Value.none)=true)from Ϝ)]
 show wpAny _ _ (field (.ref it) 1>>=_) _ _ s
 refine Γ (wpAny_field ho hd (x:=.int i 0) rfl ?_)
 show wpAny _ _ (seqItems? (.ref l)>>=_) _ _ s
 refine Γ (wpAny_seqItems hol hdl ?_)
 simp only[Int.toNat_natCast,hx]
 refine Γ (wpAny_rule (Γ (wpAny_setField ho hd (by simp) ?_)))
 exact end_stop hh (ZO.upd ho hd) hQ
theorem tup_end{it l:Addr}{i:Nat}{items}{Q:SP (Option Value)}(hh:A.handled=none)
  (hit:IsTupIter s.heap it l i) (hl:IsTup s.heap l items) (hx:items[i]?=none)
  (hQ:∀h',ZO it s.heap h'->Q none {s with heap:=h'}):wpAny (model prog w) A (pyNext (.ref it)) Q E s:=by
 obtain ⟨o,ho,hc,hd⟩:=id hit
 obtain ⟨ol,hol,_,nl,hdl⟩:=hl
 unfold pyNext
 refine Γ (wpAny_attempt (wpAny_callSpecial?_slot (name:=Str.ofString "__next__") hit.typeIs F.slot_tuple_iterator_next
  (wpAny_call_entry F.slot_tuple_iterator_next hit.typeIs F.entry_tuple_iterator_next ?_ (F.args_tuple_iterator_next_1 _))))
 show wpAny _ _ (field (.ref it) 0>>=_) _ _ s
 refine Γ (wpAny_field ho hd (x:=.ref l) rfl ?_)
 show wpAny _ _ (if (Value.ref l==Value.none)=true then _ else _) _ _ s
 rw[if_neg (show ¬((Value.ref l==Value.none)=true)from Ϝ)]
 show wpAny _ _ (field (.ref it) 1>>=_) _ _ s
 refine Γ (wpAny_field ho hd (x:=.int i 0) rfl ?_)
 show wpAny _ _ (seqItems? (.ref l)>>=_) _ _ s
 refine Γ (wpAny_seqItems hol hdl ?_)
 simp only[Int.toNat_natCast,hx]
 refine Γ (wpAny_rule (Γ (wpAny_setField ho hd (by simp) ?_)))
 exact end_stop hh (ZO.upd ho hd) hQ
theorem dict_end{it d:Addr}{i ep:Nat}{kvs:List (Str×Value)}{Q:SP (Option Value)}(hh:A.handled=none)(hit:s.heap.IsKeyIter it d i kvs.length ep)
  (hm:s.heap.DictAt (PySem.strKind prog w) d kvs ep) (hx:kvs[i]?=none)
  (hQ:∀h',ZO it s.heap h'->Q none {s with heap:=h'}):wpAny (model prog w) A (pyNext (.ref it)) Q E s:=by
 obtain ⟨o,ho,hc,hd⟩:=id hit
 obtain ⟨od,es,hod,hcd,hdd,hk,hp,hn⟩:=id hm
 unfold pyNext
 refine Γ (wpAny_attempt (wpAny_callSpecial?_slot (name:=Str.ofString "__next__") hit.typeIs F.slot_dict_keyiterator_next
  (wpAny_call_entry F.slot_dict_keyiterator_next hit.typeIs F.entry_dict_keyiterator_next ?_ (F.args_dict_keyiterator_next_1 _))))
 refine Γ (Δ ?_)
 refine Γ ?_
 refine Γ ?_
 first|refine Γ (wpAny_typeNameOfWhole_keyiter hit.typeIs (Δ ?_))|refine Γ (wpAny_typeNameOf_keyiter hit.typeIs (Δ ?_))
 refine Γ (wpAny_fieldsOf ho hd ?_)
 have hown:Builtin.Dict_items.ownsTuple "dict_keyiterator"=false:=by decide
 rw[hown]
 show wpAny _ _ (if (Value.ref d==Value.none)=true then _ else _) _ _ s
 rw[if_neg (show ¬((Value.ref d==Value.none)=true)from Ϝ)]
 refine Γ (Δ ?_)
 refine Γ (wpAny_dictEntries hod hdd ?_)
 have hsz:es.size=kvs.length:=by rw[<-hp.length];simp
 rw[if_neg (by rw[hsz];simp)]
 refine Γ (Δ ?_)
 refine Γ (wpAny_dictEpoch hod hdd ?_)
 rw[if_neg (by simp)]
 refine Δ ?_
 have hge:es.size<=i:=by rw[hsz];simpa using hx
 dsimp only
 rw[if_neg (show ¬((i:Int)<0)from by lia),Int.toNat_natCast,Array.getElem?_eq_none hge]
 refine Γ ?_
 first|refine Γ (wpAny_typeNameOfWhole_keyiter hit.typeIs (Δ ?_))|refine Γ (wpAny_typeNameOf_keyiter hit.typeIs (Δ ?_))
 show wpAny _ _ (setField (.ref it) 0 .none>>=_) _ _ s
 refine Γ (wpAny_setField ho hd (by simp) ?_)
 exact end_stop hh (ZO.upd ho hd) hQ
theorem ascii_end{it:Addr}{x:Str}{t:Tok}{i:Nat}{Q:SP (Option Value)}(hh:A.handled=none)
  (hit:s.heap.IsStrIter it "str_ascii_iterator" x t i) (hx:x.cps[i]?=none)
  (hQ:∀h',ZO it s.heap h'->Q none {s with heap:=h'}):wpAny (model prog w) A (pyNext (.ref it)) Q E s:=by
 obtain ⟨o,ho,hc,hd⟩:=id hit
 unfold pyNext
 refine Γ (wpAny_attempt (wpAny_callSpecial?_slot (name:=Str.ofString "__next__") hit.typeIs F.slot_str_ascii_iterator_next
  (wpAny_call_entry F.slot_str_ascii_iterator_next hit.typeIs F.entry_str_ascii_iterator_next ?_ (F.args_str_ascii_iterator_next_1 _))))
 show wpAny _ _ (field (.ref it) 0>>=_) _ _ s
 refine Γ (wpAny_field ho hd (x:=.str x t) rfl ?_)
 show wpAny _ _ (field (.ref it) 1>>=_) _ _ s
 refine Γ (wpAny_field ho hd (x:=.int i 0) rfl ?_)
 simp only[Int.toNat_natCast,hx]
 refine Γ (wpAny_rule (Γ (wpAny_setField ho hd (by simp) (Γ (wpAny_letGo ?_)))))
 exact end_stop hh (ZO.upd ho hd) hQ
theorem range_end{it:Addr}{x left step:Int}{Q:SP (Option Value)}(hh:A.handled=none)(hit:IsRangeIter s.heap it x left step)(hleft:left<=0)
  (hQ:∀h',ZO it s.heap h'->Q none {s with heap:=h'}):wpAny (model prog w) A (pyNext (.ref it)) Q E s:=by
 have hT:s.TypeIs (.ref it) "range_iterator":=⟨_,hit,rfl⟩
 unfold pyNext
 refine Γ (wpAny_attempt (wpAny_callSpecial?_slot (name:=Str.ofString "__next__") hT F.slot_range_iterator_next
  (wpAny_call_entry F.slot_range_iterator_next hT F.entry_range_iterator_next ?_ (F.args_range_iterator_next_1 _))))
 show wpAny _ _ (field (.ref it) 0>>=_) _ _ s
 refine Γ (wpAny_field hit rfl (x:=rawInt x) rfl ?_)
 show wpAny _ _ (field (.ref it) 1>>=_) _ _ s
 refine Γ (wpAny_field hit rfl (x:=rawInt left) rfl ?_)
 show wpAny _ _ (field (.ref it) 2>>=_) _ _ s
 refine Γ (wpAny_field hit rfl (x:=rawInt step) rfl ?_)
 show wpAny _ _ (if left<=0 then _ else _) _ _ s
 rw[if_pos hleft]
 refine Γ (wpAny_rule ?_)
 refine Γ ?_
 exact end_stop hh ⟨λZ Z Z e=>e,_,hit⟩ hQ
theorem nextOf_end{it l:Addr}{i:Nat}{items}{Q:SP Value}(hh:A.handled=none)
  (hit:s.heap.IsListIter it l i) (hl:s.heap.IsList l items) (hx:items[i]?=none)
  (hE:∀h' e,ZO it s.heap h'->(∃o,h'.get? e=some o/\o.cls=.type "StopIteration")->E (.ref e) {s with heap:=h'}) :
  wpAny (model prog w) A (Builtin.SmallTypes.nextOf (.ref it)) Q E s:=by
 obtain ⟨o,ho,hc,hd⟩:=id hit
 obtain ⟨ol,hol,_,nl,hdl⟩:=hl
 unfold Builtin.SmallTypes.nextOf
 refine Γ (wpAny_callSpecial?_slot (name:=Str.ofString "__next__") hit.typeIs slot_listiter_next
  (wpAny_call_entry slot_listiter_next hit.typeIs entry_listiter_next ?_ (args_listiter_next _)))
 show wpAny _ _ (field (.ref it) 0>>=_) _ _ s
 refine Γ (wpAny_field ho hd (x:=.ref l) rfl ?_)
 show wpAny _ _ (if (Value.ref l==Value.none)=true then _ else _) _ _ s
 rw[if_neg (show ¬((Value.ref l==Value.none)=true)from Ϝ)]
 show wpAny _ _ (field (.ref it) 1>>=_) _ _ s
 refine Γ (wpAny_field ho hd (x:=.int i 0) rfl ?_)
 show wpAny _ _ (seqItems? (.ref l)>>=_) _ _ s
 refine Γ (wpAny_seqItems hol hdl ?_)
 simp only[Int.toNat_natCast,hx]
 refine Γ (wpAny_rule (Γ (wpAny_setField ho hd (by simp) ?_)))
 exact stop_raise (A:=A.in1) hh λh' e kp H=>hE h' e ⟨λb o hb q=>kp b o ((ZO.upd ho hd).1 b o hb q),(ZO.upd ho hd).2.elim λo q=>⟨o,kp _ _ q⟩⟩ H
theorem enum_end{e it l:Addr}{i:Nat}{items:Array Value}{old:Value}{Q:SP (Option Value)}(hh:A.handled=none)
  (he:IsEnum s.heap e it i old) (hit:s.heap.IsListIter it l i) (hl:s.heap.IsList l items) (hx:items[i]?=none)
  (hQ:∀h',ZO it s.heap h'->Q none {s with heap:=h'}):wpAny (model prog w) A (pyNext (.ref e)) Q E s:=by
 have hT:s.TypeIs (.ref e) "enumerate":=⟨_,he,rfl⟩
 unfold pyNext
 refine Γ (wpAny_attempt (wpAny_callSpecial?_slot (name:=Str.ofString "__next__") hT F.slot_enumerate_next
  (wpAny_call_entry F.slot_enumerate_next hT F.entry_enumerate_next ?_ (F.args_enumerate_next_1 _))))
 show wpAny _ _ (field (.ref e) 2>>=_) _ _ _
 refine Γ (wpAny_field he rfl (x:=.ref it) rfl ?_)
 refine Γ (nextOf_end hh hit hl hx λh' x he' hx'=>?_)
 obtain ⟨o,ho,hc⟩:=hx'
 refine Γ (wpAny_isInstance (T:="StopIteration") (b:=true) ⟨o,ho,hc⟩ isSubtype_stop ?_)
 exact Δ (hQ _ he')
variable {a d it l:Addr}
theorem lk_list_keys:typeLookup (.type "list") "keys"=pure none:=by rw[typeLookup_type,builtinLookup_eq_fast];rfl'
theorem sub_AE:isSubtype (.type "AttributeError") (.type "AttributeError")=pure true:=by rw[isSubtype_type];rfl'
theorem miss_list{xs:Array Value}{k:Nat}{name:Str}{Q:SP (Option Value)}
  (hx:s.heap.get? a=some (listOf xs k)) (hmiss:typeLookup (.type "list") name=pure none) (hname:(["__module__","__name__","__qualname__","__doc__","__annotations__"]:List Str).contains name=false) (hA:A.handled=none)
  (h:∀h' tk e,Heap.NewAttrErr s.heap h' e (.ref a) name->Q none {s with heap:=h',toks:=tk}) (hsz:name.length+100<=sizeLine) :
  wpAny (model prog w) A (getAttr? (.ref a) name) Q E s:=by
 obtain ⟨hp,g,d,tk,os⟩:=s
 have hT:∀tk',(⟨hp,g,d,tk',os⟩:Shared).TypeIs (.ref a) "list":=λZ=>⟨_,hx,rfl⟩
 have f1:=sub_AE
 have f3:=F.slot_list_getattribute.lookup
 have f4:=F.slot_list_getattribute.bind (.ref a)
 have f5:=am_list_getattr_none
 unfold getAttr? getAttrBy? getAttrBy
 repeat (any_goals (first|assumption|exact hT _|((with_reducible show wpAny _ _ (call (Value.builtin "list.__getattribute__") _ _) _ _ _);refine call_meets F.slot_list_getattribute (hT _) am_entry_list_getattribute (F.args_list_getattribute_2 _ _) (meets_getattribute_miss_list a xs k #[] name _ hmiss hname hsz) ⟨hx,hA,λh' tk' e hx'=>?_⟩)|wp_step))
 obtain ⟨t',u',he⟩:=hx'.there
 show wpAny _ _ (getattributeRaised _ _ _ _ _ _ _) _ _ _
 unfold getattributeRaised hookOrError attributeErrorLeaves
 have hE:∀tk',(⟨h',g,d,tk',os⟩:Shared).TypeIs (.ref e) "AttributeError":=λZ=>⟨_,he,rfl⟩
 repeat (any_goals (first|assumption|exact hE _|wp_step))
 exact h _ _ _ hx'
theorem plain_upd:plainId "dict.update.loop"=true:=by decide +kernel
theorem entry_upd:entryFor table "dict.update.loop"=some Builtin.«dict.update.loop»:=entryFor_of_fast (by rfl')
theorem pair_items{t:Addr}{ts:Array Value}{n:Nat}{Q:SP (List Value)}(ht:s.heap.get? t=some ⟨.type "tuple",none,.seq ts n,#[]⟩)(h:Q ts.toList s):wpAny (model prog w) A (Builtin.Dict.pairItems (.ref t)) Q E s:=by
 unfold Builtin.Dict.pairItems;refine Γ (wpAny_typeOf (show s.TypeIs (.ref t) "tuple" from ⟨_,ht,rfl⟩) ?_);show wpAny _ _ (seqItems? (.ref t)>>=_) _ _ _;exact Γ (wpAny_seqItems ht rfl (Δ h))
theorem upd_end{xs:Array Value}{i:Nat}{res:Value}{R:Result->Shared->Prop}(hh:A.handled=none)(hit:s.heap.IsListIter it l i)(hl:s.heap.IsList l xs)(hx:xs[i]?=none)(h:∀h1,ZO it s.heap h1->R (.ok (.ret res)) {s with heap:=h1}):
  codeAny (model prog w) A (.builtin "dict.update.loop" ⟨[.ref d,.ref it,rawInt i,res],[]⟩) R s:=by
 refine codeAny_builtin entry_upd ?_
 rw[Around.under_plainId plain_upd _]
 unfold Builtin.«dict.update.loop» rawInt
 dsimp only
 exact Γ (list_end hh hit hl hx λh1 he=>Γ (Δ (Δ (h h1 he))))
variable {om:Om}{x:Str}
theorem upd_item{es:List (Str×AV)}{ds:List DictEntry}{xs:Array Value}{i:Nat}{t:Addr}{ts:Array Value}{n:Nat}{tk:Tok}{v res:Value}{R:Result->Shared->Prop}
  (hit:s.heap.IsListIter it l i) (hl:s.heap.IsList l xs) (hx:xs[i]?=some (.ref t)) (ht:s.heap.get? t=some ⟨.type "tuple",none,.seq ts n,#[]⟩) (hts:ts.toList=[.str x tk,v]) (hd:s.heap.get? d=some (dictOf ds es.length)) (en:Ens om.w.params nm L es ds) (hsz:ds.length<=1000) (hdi:d≠it) (hti:t≠it)
  (h:∀h2 tk',(∀b,b≠it->b≠d->h2.get? b=s.heap.get? b)->h2.IsListIter it l (i+1)->h2.get? d=some (dictOf (putL x (PyData.keyHash om.w.params x) (.str x tk) v ds) (PySem.W.putN x ds es.length))->codeAny (Mdl om) A (.builtin "dict.update.loop" ⟨[.ref d,.ref it,rawInt (i+1),res],[]⟩) R {s with heap:=h2,toks:=tk'}) :
  codeAny (Mdl om) A (.builtin "dict.update.loop" ⟨[.ref d,.ref it,rawInt i,res],[]⟩) R s:=by
 refine codeAny_builtin entry_upd ?_
 rw[Around.under_plainId plain_upd _]
 unfold Builtin.«dict.update.loop» rawInt
 dsimp only
 refine Γ (wpAny_pyNext_list_item hit hl hx λh1 hit1 hs1=>?_)
 dsimp only
 refine Γ (ω (Γ (wpAny_tryCatch (pair_items ((hs1.2 t hti).trans ht) ?_))))
 rw[hts]
 dsimp only
 exact ω (dictSet_E om (s:={s with heap:=h1}) ((hs1.2 d hdi).trans hd) en hsz λh2 tk' hs2 hd2=>Δ ⟨plainId_quiet plain_upd _,h h2 tk' (λb hb hd=>(hs2.2 b hd).trans (hs1.2 b hb)) (hit1.elim λo q=>⟨o,(hs2.2 it (Ne.symm hdi)).trans q.1,q.2⟩) hd2⟩)
theorem put_keys(x:Str)(v:AV):∀ys:List Str,put x v (ys.map λy=>(y,v))=(Bool.rec (ys++[x]) ys (ys.any λy=>sEq y x):List Str).map λy=>(y,v):=by
 intro v0_;induction v0_ with
 |nil=>
  exact rfl
 |cons y ys ih=>
  have ih:=ih;show (Bool.rec ((y,v)::put x v (ys.map λy=>(y,v))) ((x,v)::ys.map λy=>(y,v)) (sEq x y):List (Str×AV))=(Bool.rec (y::ys++[x]) (y::ys) (sEq y x||ys.any λy=>sEq y x):List Str).map λy=>(y,v);rw[ih];induction e:sEq x y with
  |true=>
   cases Jw e;rw[e];rfl
  |false=>
   have e2:sEq y x=false:=bf_ λq=>by cases Jw q;exact nb (e.symm.trans q)
   rw[e2];cases (ys.any λy=>sEq y x)<;>rfl
def PairAt(h:Heap)(u:Value)(x:Str):Prop:=∃t ts n tk,u=.ref t/\h.get? t=some ⟨.type "tuple",none,.seq ts n,#[]⟩/\ts.toList=[.str x tk,.bool true]
theorem upd_loop(hh:A.handled=none){xs:Array Value}{ns:List Str}{h0:Heap}(hl0:h0.IsList l xs)(hp:∀(i:Nat) u,xs[i]?=some u->∃x,ns[i]?=some x/\PairAt h0 u x)(hn:ns.length=xs.size)(hsz:xs.size<=1000){g:Array GenState}{dr:Drawn}{os:OsState}{res:Value}{R:Result->Shared->Prop}
  (hd0:h0.get? d=none) (hi0:h0.get? it=none) (hdi:d≠it)
  (h:∀h' tk ds,(∀b o,h0.get? b=some o->h'.get? b=some o)->h'.get? d=some (dictOf ds ((dedS ns []).map λy=>(y,AV.bool true)).length)->Ens om.w.params nm L ((dedS ns []).map λy=>(y,AV.bool true)) ds->R (.ok (.ret res)) ⟨h',g,dr,tk,os⟩) :
  ∀(m i:Nat) (hc:Heap) (tk:Nat) (ys:List Str) (ds:List DictEntry),i+m=xs.size->(∀b o,h0.get? b=some o->hc.get? b=some o)->hc.IsListIter it l i->hc.get? d=some (dictOf ds (ys.map λy=>(y,AV.bool true)).length)->Ens om.w.params nm L (ys.map λy=>(y,AV.bool true)) ds->dedS (ns.drop i) ys=dedS ns []->ys.length<=i->
   codeAny (Mdl om) A (.builtin "dict.update.loop" ⟨[.ref d,.ref it,rawInt i,res],[]⟩) R ⟨hc,g,dr,tk,os⟩:=by
 intro v0_
 induction v0_ with
 |zero=>
  intro i hc tk ys ds hi hk hit hd en hm hle
  exact hl0.elim λo r=>by
   refine upd_end (s:=⟨hc,g,dr,tk,os⟩) (xs:=xs) hh hit ⟨o,hk _ _ r.1,r.2⟩ (Array.getElem?_eq_none (by lia)) λh1 he=>?_;have hm:ys=dedS ns []:=by
    rw[List.drop_of_length_le (by lia)]at hm;exact hm
   subst hm;exact h h1 tk ds (λb o e=>he.1 b o (λq=>by rw[q,hi0]at e;cases e) (hk b o e)) (he.1 d _ hdi hd) en
 |succ m ih=>
  intro i hc tk ys ds hi hk hit hd en hm hle
  have hlt:i<xs.size:=by lia
  obtain ⟨x,hnx,t,ts,n,tk',hu,ht,hts⟩:=hp i _ (Λ hlt)
  obtain ⟨o,ho,r⟩:=id hl0
  have ni:∀b o,h0.get? b=some o->b≠it:=λb o e q=>by rw[q,hi0]at e;cases e
  have nd:∀b o,h0.get? b=some o->b≠d:=λb o e q=>by rw[q,hd0]at e;cases e
  have hl:=Ens.len en
  rw[Ω]at hl
  refine upd_item (s:=⟨hc,g,dr,tk,os⟩) (es:=ys.map λy=>(y,AV.bool true)) (x:=x) hit ⟨o,hk _ _ ho,r⟩ (by rw[Λ hlt,hu]) (hk _ _ ht) hts hd en (by lia) hdi (ni _ _ ht) λh2 tk2 kp hit2 hd2=>?_
  have en2:=en.put (z:=x) (a:=.bool true) (u:=.bool true) (show Den nm L (.bool true) (.bool true)from rfl) (t:=tk')
  rw[en.putN (z:=x) (a:=.bool true)]at hd2
  rw[put_keys]at en2 hd2
  refine ih (i+1) h2 tk2 _ _ (by lia) (λb o e=>(kp b (ni b o e) (nd b o e)).trans (hk b o e)) hit2 hd2 en2 ?_ ?_
  ·rw[<-hm,List.drop_eq_getElem_cons (show i<ns.length by lia),<-oi (hnx.symm.trans (Φ (show i<ns.length by lia)))];rfl
  ·induction (ys.any λy=>sEq y x)with
   |true=>exact Nat.le_succ_of_le hle
   |false=>show (ys++[x]).length<=_;rw[ς,Jg];lia
theorem dict_pairs{xs:Array Value}{n:Nat}{ns:List Str}{Q:SP Value}(hh:A.handled=none)(hl:s.heap.get? l=some (PySem.W.listOf xs n))(hp:∀(i:Nat) u,xs[i]?=some u->∃x,ns[i]?=some x/\PairAt s.heap u x)(hn:ns.length=xs.size)(hsz:xs.size<=1000)
  (h:∀h' tk d ds,(∀b o,s.heap.get? b=some o->h'.get? b=some o)->s.heap.objs.size<=d->h'.get? d=some (dictOf ds ((dedS ns []).map λy=>(y,AV.bool true)).length)->Ens om.w.params nm L ((dedS ns []).map λy=>(y,AV.bool true)) ds->Q (.ref d) {s with heap:=h',toks:=tk}) :
  wpAny (Mdl om) A (call (.type "dict") [.ref l]) Q E s:=by
 refine callType_codes (Q₁:=λobj s₁=>obj=.ref s.heap.objs.size/\s₁={s with heap:=s.heap.push {cls:=.type "dict",data:=.dict #[]}}) F.kt_called_dict (F.kt_typeCall_dict_1 _) F.entry_dict_init (kt_code_dict_new _ ⟨rfl,rfl⟩) ?_
 rintro obj s₁ ⟨rfl,rfl⟩
 have hnew:(s.heap.push {cls:=.type "dict",data:=.dict #[]}).DictOf (strKind om.prog om.w) s.heap.objs.size []:=Heap.DictOf.new s.heap
 have k1:∀b o,s.heap.get? b=some o->(s.heap.push {cls:=.type "dict",data:=.dict #[]}).get? b=some o:=λb o e=>η _ e
 have hdn:s.heap.get? s.heap.objs.size=none:=Heap.get?_none_of_le (Ϙ _)
 have hd0:(s.heap.push {cls:=.type "dict",data:=.dict #[]}).get? s.heap.objs.size=some (dictOf [] 0):=ϟ _ rfl
 refine⟨hnew.typeIs,F.args_dict_init_2 _ _,?_⟩
 unfold Builtin.«dict.__init__»
 refine Γ ?_
 unfold Builtin.Dict.selfAndRest
 refine Γ (wpAny_notOrdered_dict hnew.typeIs ?_)
 show wpAny _ _ (pure (s.heap.objs.size,[Value.ref l])) _ _ _
 refine Δ ?_
 show wpAny _ _ (Builtin.Dict.updateFrom "dict.__init__" s.heap.objs.size (.ref l) [] .none) _ _ _
 unfold Builtin.Dict.updateFrom
 have hT:({s with heap:=s.heap.push {cls:=.type "dict",data:=.dict #[]}}:Shared).TypeIs (.ref l) "list":=⟨_,k1 _ _ hl,rfl⟩
 refine Γ (wpAny_typeOf hT ?_)
 rw[if_pos (by decide)]
 refine Γ (miss_list (k1 _ _ hl) lk_list_keys (by decide +kernel) hh (λh2 tk2 e he=>?_) (by rw[PySem.sizeLine_eq];decide))
 have k2:∀b o,s.heap.get? b=some o->h2.get? b=some o:=λb o x=>he.keeps _ _ (k1 _ _ x)
 show wpAny _ _ (rule _>>=λZ=>pyIter (.ref l)>>=_) _ _ _
 refine Γ (wpAny_rule ?_)
 refine Γ (wpAny_pyIter_list (items:=xs) ⟨_,k2 _ _ hl,rfl,n,rfl⟩ ?_)
 have hit:(h2.push {cls:=.type "list_iterator",data:=.fields #[.ref l,.int 0 0]}).IsListIter h2.objs.size l 0:=⟨_,ϟ _ rfl,rfl,rfl⟩
 have hdlt:s.heap.objs.size<h2.objs.size:=ϱ (he.keeps _ _ hd0)
 exact Δ ⟨plainId_quiet plain_upd _,upd_loop (A:=A.in1) (h0:=s.heap) (ns:=ns) (xs:=xs) (res:=.none) (R:=wants (λr s₂=>r=.none/\Q (.ref s.heap.objs.size) s₂) E) (g:=s.gens) (dr:=s.drawn) (os:=s.os) hh ⟨_,hl,rfl,n,rfl⟩ hp hn hsz hdn (Heap.get?_none_of_le (Nat.le_of_lt hdlt)) (Jl hdlt) (λh' tk ds kk hd en=>⟨rfl,h h' tk _ ds kk (Ϙ _) hd en⟩) xs.size 0 _ tk2 [] [] (Nat.zero_add _) (λb o x=>η _ (k2 b o x)) hit (η _ (he.keeps _ _ hd0)) rfl rfl (Ϙ _)⟩
variable {x:Sit B}{a:AV}{l:List AV}
theorem smallA_of{a b:Int}(h:smallA a b=true):Builtin.Range.small a b 1=true:=Jr h λh1 h2=>small_one (ltI_of h1).1 (ltI_of h1).2 (ltI_of h2).1 (ltI_of h2).2
theorem nats_of:∀{l:List AV} {ks:List Nat} {us:List Value},natsOf l=some ks->Jq nm L l us->IntsAre us (ks.map Int.ofNat):=by
 intro v0_;induction v0_ with
 |nil=>
  intro Z Z e d;cases oi e;rw[show _=[]from d];exact .nil
 |cons a l ih=>
  intro Z Z e y4_;obtain ⟨u,r,hu,d,ds⟩:=y4_;exact Jo e λk hk e=>Jo e λks hks e=>by
   rw[natV_of hk]at d;exact d.elim λt ht=>hu▸ht▸oi e▸.cons _ _ (ih hks ds)
theorem bytes_nats{ks:List Nat}(h:ks.all (λk=>Nat.blt k 256)=true):(byteArr (ks.map Int.ofNat)).toList.map UInt8.toNat=ks:=by
 unfold byteArr;rw[Jb,Jb];have:∀k∈ks,((UInt8.toNat ∘ λn:Int=>n.toNat.toUInt8) ∘ Int.ofNat) k=k:=λk hk=>by
  have:=nl (al_ h k hk);show (Int.ofNat k).toNat.toUInt8.toNat=k;rw[show (Int.ofNat k).toNat=k from rfl,UInt8.toNat_ofNat'];lia
 rw[List.map_congr_left this,List.map_id']
theorem ownS(hg:x.S.get i=some (.list l))(ha:x.L[i]?=some ad)(hs:JT l=true)(k:∀xs n,OwnL x i l ad xs n->C):C:=x.own hg ha λo' ho' p=>p.list_ λxs n e dd=>k xs n ⟨hg,ha,e▸ho',dd,Jq.short dd hs,π▸(Jq.len dd).symm⟩
theorem tupT_ok(P:Jn x RV (ob (x.S.get i) λo=>tupT x.S i o) Q E)(ha:x.L[i]?=some ad):wpAny (Md B) B.A (call (.type "tuple") [.ref ad]) Q E x.s:=
 P.ob λo hg P=>by
  cases o with
  |list l=>exact Jn.ifT P λhs P=>ownS hg ha hs λxs n O=>call_tuple_list (items:=xs) ⟨_,O.h,rfl,n,rfl⟩ (λh' hk=>Jn.pushV (x:=x.grow (h':=h') hk x.s.toks) (P.up (ζ _)) ⟨xs,0,rfl,Jq.mono (θ _ _) O.d⟩) (by have:=O.le;rw[PySem.sizeLine_eq];lia)
  |tup l=>exact x.own hg ha λo' ho' p=>p.tup_ λxs n e dd=>call_tuple_tup ⟨_,e▸ho',rfl,n,rfl⟩ (P.val ⟨ad,ha,rfl⟩)
  |_=>exact P.elim
theorem listT_ok(P:Jn x RV (ob (x.S.get i) λo=>listT B.f.hd x.S o) Q E)(ha:x.L[i]?=some ad):wpAny (Md B) B.A (call (.type "list") [.ref ad]) Q E x.s:=
 P.ob λo hg P=>by
  cases o with
  |list l=>exact Jn.ifT P λhs P=>ownS hg ha hs λxs n O=>x.opens λm O'=>list_copyK O'.f O'.n (l:=ad) (items:=xs) ⟨_,O.h,rfl,n,rfl⟩ (λD c h' F' N' l1=>O'.pushV P F' N' l1 ⟨_,c,rfl,Jq.mono (θ _ _) O.d⟩) (by have:=O.le;rw[PySem.sizeLine_eq];lia)
  |tup l=>exact Jn.ifT P λhs P=>x.own hg ha λo' ho' p=>p.tup_ λxs n e dd=>call_list_seq ad (.inr rfl) (e▸ho') rfl rfl (λh' c kp hn=>Jn.pushAt (k:=λi S=>.ok (.v (.loc i)) S) (t:=x.s.toks) P (x.r.new_ (Ϙ _)) kp hn ⟨_,c,rfl,Jq.mono (θ _ _) dd⟩ λx' p e1 Z e2 P=>e1▸P.val (u:=.ref x.s.heap.objs.size) ⟨_,e2,rfl⟩) (by have:=Jq.short dd hs;rw[PySem.sizeLine_eq];lia)
  |dict es=>exact Jn.ifT P λhh P=>P.ifT λhs P=>P.ifT λhn P=>listK_ok (B.hdl (JL hh)) (show obO (x.S.get i) Zi=some es by rw[hg];rfl) ha hs hn P
  |_=>exact P.elim
theorem bytes_ok(P:Jn x RV (ifT (JM B.f.hd) (Internal.ownL x.S a λZ l=>ob (natsOf l) λks=>ifT (ks.all λk=>Nat.blt k 256) (.ok (.v (.bytes ks)) x.S))) Q E)(d:x.D a u):wpAny (Md B) B.A (call (.type "bytes") [u]) Q E x.s:=
 P.ifT λhh P=>P.ownL d λi l ad xs n hu O P=>P.ob λks hk P=>P.ifT λha P=>by
  subst hu;refine call_bytes_ints (show x.s.heap.IsList ad xs.toList.toArray by rw[Array.toArray_toList];exact⟨_,O.h,rfl,n,rfl⟩) (nats_of hk O.d) (λn hn=>?_) (by rw[π];have:=O.le;rw[PySem.sizeLine_eq];lia) (B.hdl (JL hh)) λh' t k kp=>?_
  ·obtain ⟨m,hm,rfl⟩:=mm_ hn
   have:=nl (al_ ha m hm);exact⟨Int.natCast_nonneg m,by show (m:Int)<256;lia⟩
  ·exact Jn.val (x:=x.grow (h':=h') kp k) (P.up (ζ _)) ⟨_,_,rfl,bytes_nats ha⟩
theorem enum_ok(P:Jn x RV (Internal.ownL x.S a λi Z=>pushR x.S (.lit i 0) λj S=>pushV S (.eit j 0)) Q E)(d:x.D a u):wpAny (Md B) B.A (call (.type "enumerate") [u]) Q E x.s:=
 P.ownL d λi l ad xs n hu O P=>by
  subst hu;refine call_enumerate_1 O.h λh' he hi hz kp=>?_;refine hi.elim λoi hi=>Jn.pushAt (t:=x.s.toks) P (x.r.new_ (Ϙ _)) kp hi.1 ⟨ad,Jp (θ _ _) O.a,hi.2.1,hi.2.2⟩ λx1 p e1 eL q1 P=>?_;have ny:=x.r.new_ (Nat.le_succ x.s.heap.objs.size);have ny1:New B.G x1.L (x.s.heap.objs.size+1):=⟨λhy=>by
   rw[eL]at hy;exact(ma_ hy).elim ny.L λhy=>Nat.succ_ne_self _ (ms_ hy),ny.F,ny.o⟩
  exact Jn.pushAt (k:=λi S=>.ok (.v (.loc i)) S) (t:=x.s.toks) P ny1 (λZ Z e=>e) (by rw[e1];exact he) ⟨_,_,Jp (θ _ _) q1,λZ e=>e⟩ λx2 p2 e2 Z q2 P=>by
   have:=P.val (u:=.ref (x.s.heap.objs.size+1)) ⟨_,q2,rfl⟩;rwa [show x2.s={x.s with heap:=h'} by rw[e2,e1]]at this
theorem rng_ok(P:Jn x RV (rngT x.S l) Q E)(d:x.Ds l us):wpAny (Md B) B.A (call (.type "range") us) Q E x.s:=by
 induction l using c_ with
 |nil=>exact P.elim
 |cons a r=>induction r using c_ with
  |nil=>
   exact Jq.one d λu e d=>e▸P.ob λw hw P=>P.ifT λhs P=>by
    rw[JO hw]at d;exact d.elim λt d=>d▸call_range_1 (Jn.pushV (t:=_) P ⟨⟨_,_,_,λZ e=>e⟩,smallA_of hs⟩)
  |cons b r=>induction r using c_ with
   |nil=>exact Jq.two d λu v e da db=>e▸Jn.int2 P da db λi t j t2 hu hv P=>P.ifT λhs P=>hu▸hv▸call_range_2 (Jn.pushV (t:=_) P ⟨⟨_,_,_,λZ e=>e⟩,smallA_of hs⟩)
   |cons _ _=>exact P.elim
theorem pairK_of{v:AV}{k:Nat}(h:pairK x.S v=some k)(d:x.D v u):PairAt x.s.heap u (B.G.nm.f k):=
 Jo h λj hj h=>Jo h λl hl h=>by
  induction l using c_ with
  |nil=>exact no h
  |cons a r=>induction r using c_ with
   |nil=>exact no h
   |cons b r=>induction r using c_ with
    |cons _ _=>exact no h
    |nil=>
     refine Jo h λk' hk h=>Jo h λc hc h=>Jt h λhcc h=>?_;cases h;subst hcc;rw[JQ hj]at d;refine d.loc_ λad ha hu=>Jz hl λao hg hv=>x.own (ao:=.tup [a,b]) (Wx hv▸hg) ha λo ho p=>p.tup_ λxs n e dd=>dd.two λw1 w2 ew d1 d2=>?_;rw[ZM hc]at d2;cases d2;exact symK_sym hk d1 λt hv=>⟨ad,xs,n,t,hu,e▸ho,by rw[ew,hv]⟩
theorem pairsK_of:∀{l:List AV} {ks:List Nat} {us:List Value},pairsK x.S l=some ks->x.Ds l us->ks.length=us.length/\∀(i:Nat) u,us[i]?=some u->∃y,(ks.map B.G.nm.f)[i]?=some y/\PairAt x.s.heap u y:=by
 intro v0_;induction v0_ with
 |nil=>
  intro Z Z h d;cases h;rw[show _=[]from d];exact⟨rfl,λi u e=>nomatch e⟩
 |cons v l ih=>
  intro ks us h y4_;obtain ⟨w,r,e,d,ds⟩:=y4_;exact Jo h λk hk h=>Jo h λr' hr h9=>by
   cases h9;subst e;have ih:=ih hr ds;refine⟨Ja (·+1) ih.1,λi u e=>?_⟩
   induction i using Nat.casesAuxOn with
   |zero=>cases e;exact⟨_,rfl,pairK_of hk d⟩
   |succ i=>exact ih.2 i u e
theorem dictT_ok(hh:B.A.handled=none)(P:Jn x RV (Internal.ownL x.S a λZ l=>ob (pairsK x.S l) λks=>ob (B.G.cx.kn.dk ks) λys=>pushV x.S (.dict (ys.map λy=>(y,.bool true)))) Q E)(d:x.D a u):wpAny (Md B) B.A (call (.type "dict") [u]) Q E x.s:=
 P.ownL d λi l ad xs n hu O P=>P.ob λks hk P=>P.ob λys hy P=>by
  subst hu;have q:=pairsK_of hk O.d;cases B.G.kn.dk _ _ hy;refine dict_pairs (om:=B.G.om) (nm:=B.G.nm) (L:=x.L) hh O.h (ns:=ks.map B.G.nm.f) (λi u e=>q.2 i u (Array.getElem?_toList.trans e)) (by rw[Ω,q.1,π]) (by have:=O.le;lia) λh' tk d ds kp hge hd en=>?_;have hn:x.s.heap.get? d=none:=Heap.get?_none_of_le hge;refine Jn.pushAt (k:=λi S=>.ok (.v (.loc i)) S) (t:=tk) P (x.newOf hn) kp hd ⟨?_,ds,rfl,Ens.mono (θ _ _) en⟩ λx' p e1 Z e2 P=>e1▸P.val (u:=.ref d) ⟨_,e2,rfl⟩;exact beq_eq_false_iff_ne.mpr (Nat.ne_of_gt (Ϛ B.G.om.nolim (Jk (Nat.le_of_lt x.big) hge)))
theorem callT_ok{ty:TY}(P:Jn x RV (callT B.G.cx B.f.hd ty l x.S) Q E)(d:x.Ds l us):wpAny (Md B) B.A (call (.type ty.name) us) Q E x.s:=by
 cases ty with
 |tuple=>
  exact Jn.one P d λa u e d1 P=>P.ob λi hi P=>by
   rw[JQ hi]at d1;exact d1.loc_ λad ha hu=>e▸hu▸tupT_ok P ha
 |list=>
  exact Jn.one P d λa u e d1 P9=>by
   subst e;have P:Jn x RV (Option.rec (ob (Zh a) λi=>ob (x.S.get i) λo=>listT B.f.hd x.S o) (λk=>ob (obO (B.G.cx.kn.sob k) Zi) λes=>listD B.f.hd x.S es) (opV a)) Q E:=P9;induction ho:opV a with
   |none=>
    rw[ho]at P;refine P.ob λi hi P=>?_;rw[JQ hi]at d1;exact d1.loc_ λad ha hu=>hu▸listT_ok P ha
   |some k=>
    rw[ho]at P;refine P.ob λes hes P=>P.ifT λhh P=>P.ifT λhs P=>P.ifT λhn P8=>?_;cases Yc ho;refine Jo hes λao h1 h2=>Kn.op_ x (ao:=.dict es) (ZB h2▸h1) λo h3 p=>p.dict_ λds hm eo en=>?_;cases d1;refine(dictAt B.G.om (eo▸h3) en (Zn hn)).elim λkvs g=>listE_ok (B.hdl (JL hh)) hm g.1 g.2 (by have:=Ja List.length g.2;rwa [Ω,Ω]at this) hs P8
 |dict=>exact Jn.one P d λa u e d1 P=>P.ifT λhh P=>e▸dictT_ok (B.hdl (JL hh)) P d1
 |int=>
  refine Jn.one P d λa u e d1 P=>e▸?_;induction a with
  |int w=>exact d1.elim λt d1=>d1▸call_int_int P.int
  |bool w=>cases d1;induction w<;>exact call_int_bool P.int
  |_=>exact P.elim
 |bytes=>exact Jn.one P d λa u e d1 P=>e▸bytes_ok P d1
 |range=>exact rng_ok P d
 |enumerate=>exact Jn.one P d λa u e d1 P=>e▸enum_ok P d1
 |_=>exact P.elim
theorem callX_ok(hr:Hr n r)(m:Rm B (n+1))(P:Jn x RV (callX B.G.cx (r B.G.cx) B.f.hd a l x.S) Q E)(da:x.D a vf)(d:x.Ds l us):wpAny (Md B) B.A (call vf us) Q E x.s:=by
 induction a with
 |bi b=>cases da;exact callB_ok P d
 |ty t=>cases da;exact callT_ok P d
 |st k=>cases da;exact callS_ok hr m P d
 |loc i=>
  refine Jn.ob P λao hg P=>da.loc_ λad ha hu=>hu▸?_;induction ao with
  |clo cs ps body sc j q=>exact wpAny_call (callC_ok (x:=x.wt) hr (ZU.of m) (Jn.pg P) (Nat.le_of_lt x.big) d hg ha)
  |_=>exact P.elim
 |_=>exact P.elim
theorem const_ok{c:Const}{k:Nat}(P:Jn x RV (constA c x.S) Q E):wpAny (Md B) B.A (eval (.Constant c k pos) B.env) Q E x.s:=by
 induction c with
 |none=>exactλZ Z Z=>P.val (show Value.none=_ from rfl)
 |bool b=>exactλZ Z Z=>P.val (show Value.bool b=_ from rfl)
 |int i=>exactλZ Z Z=>P.int
 |str w=>exactλZ Z Z=>P.val ⟨_,rfl⟩ _
 |bytes b=>exactλZ Z Z=>P.val ⟨_,_,rfl,by simp⟩ _
 |_=>exact P.elim
theorem bound_ok(hr:Hr n r)(m:Rm B n){e:Option Expr}{k:AV->St->R}(P:Jn x ρ (Internal.onV (boundE (r B.G.cx) B.f e x.S) k) Qa E){Q1:SP Value}(h:∀x1 a u,x.le x1->x1.D a u->Jn x1 ρ (k a x1.S) Qa E->Q1 u x1.s):wpAny (Md B) B.A (evalPart e B.env) Q1 E x.s:=by
 induction e with
 |none=>exact Δ (h x .none .none (Sit.le.refl x) rfl P)
 |some e=>exact hr.ev m (Jn.onV P h)
theorem sub_eval(hr:Hr n r)(m:Rm B n){o' i:Expr}{k:AV->St->R}(P:Jn x RV (Internal.onV (r B.G.cx (.ev B.f o') x.S) k) Q E)(h:∀x1 a u,x.le x1->x1.D a u->Jn x1 RV (k a x1.S) Q E->wpAny (Md B) B.A (eval i B.env) (λv s=>wpAny (Md B) B.A (subscriptTail o' i u v) Q E s) E x1.s):wpAny (Md B) B.A (eval (.Subscript o' i pos) B.env) Q E x.s:=
 Subscript_ (hr.ev m (P.onV h))
theorem subE_plain{o' i:Expr}(h:Zs i=true):subE o' i=λcx r f S=>Internal.onV (r (.ev f o') S) λov S=>Internal.onV (r (.ev f i) S) λiv S=>okV S (subA cx S ov iv):=by
 revert h;induction i using Expr.casesOn with
 |Slice _ _ _ _=>exact nb
 |_=>exactλZ=>rfl
theorem slice_el{i:Expr}{C:Expr->Prop}(h:Zs i=false)(k:∀a b c p,C (.Slice a b c p)):C i:=by
 revert h;induction i using Expr.casesOn with
 |Slice a b c p=>exactλZ=>k a b c p
 |_=>exact tf
theorem subE_ok(hr:Hr n r)(m:Rm B n){o' i:Expr}(P:Jn x RV (subE o' i B.G.cx (r B.G.cx) B.f x.S) Q E):wpAny (Md B) B.A (eval (.Subscript o' i pos) B.env) Q E x.s:=by
 induction hp:Zs i with
 |true=>
  rw[subE_plain hp]at P;exact sub_eval hr m P λx1 a u p1 d1 P=>hr.ev m (P.onV λx2 b v p2 d2 P=>okV_ok P λw hw h=>sub_ok hp hw (d1.up p2) d2 λy t d=>h y t d)
 |false=>
  refine slice_el (C:=λi=>Jn x RV (subE o' i B.G.cx (r B.G.cx) B.f x.S) Q E->wpAny (Md B) B.A (eval (.Subscript o' i pos) B.env) Q E x.s) hp (λlo hi st p P=>?_) P;induction st with
  |none=>exact sub_eval hr m P λx1 a u p1 d1 P=>wpAny_Slice (bound_ok hr m P λx2 b v p2 d2 P=>bound_ok hr m P λx3 c w p3 d3 P=>Δ (cut_ok P ((d1.up p2).up p3) (d2.up p3) d3))
  |some k=>
   induction lo with
   |some _=>exact P.elim
   |none=>induction hi with
    |some _=>exact P.elim
    |none=>exact sub_eval hr m P λx1 a u p1 d1 P=>wpAny_Slice (Δ (Δ (hr.ev m (P.onV λx2 b v p2 d2 P=>rev_ok P (d1.up p2) d2))))
theorem evE_ok(hr:Hr n r)(m:Rm B n){e:Expr}(hl:∀{as body sc p},B.G.cx.lam=true->Jn x RV (lamA B.f as body sc p x.S) Q E->wpAny (Md B) B.A (eval (.Lambda as body sc p) B.env) Q E x.s)(hc:∀{elt gens sc p},Jn x RV (evE (.ListComp elt gens sc p) B.G.cx (r B.G.cx) B.f x.S) Q E->wpAny (Md B) B.A (eval (.ListComp elt gens sc p) B.env) Q E x.s):
  Jn x RV (evE e B.G.cx (r B.G.cx) B.f x.S) Q E->wpAny (Md B) B.A (eval e B.env) Q E x.s:=by
 induction e using Expr.casesOn with
 |Constant c k p=>exact const_ok
 |Name z p=>exactλP=>okV_ok P λw hw h=>name_ok hw λu d=>h u x.s.toks d
 |BoolOp op es p=>exact bops_ok hr m
 |BinOp l op rr p=>exactλP=>wpAny_BinOp (hr.ev m (Jn.onV P λx1 a u p1 d1 P=>hr.ev m (P.onV λx2 b v p2 d2 P=>bin_ok P (d1.up p2) d2)))
 |UnaryOp op e p=>exactλP=>wpAny_UnaryOp (hr.ev m (Jn.onV P λx1 a u p1 d1 P=>un_ok P d1))
 |IfExp t a b p=>exactλP=>wpAny_IfExp (hr.tst m (Jn.onB P λx1 c p1 P=>by induction c<;>exact hr.ev m P))
 |List es p=>exactλP=>wpAny_List (evs_ok hr m (Jn.onVs P λx1 l us p1 d1 P=>P.ifT λhs P=>⟨ZW (d1.len▸Zg hs),Jn.pushV (t:=x1.s.toks) P ⟨_,0,rfl,Jq.mono (θ _ _) d1⟩⟩))
 |Tuple es k p=>exactλP=>wpAny_Tuple (evs_ok hr m (Jn.onVs P λx1 l us p1 d1 P=>P.ifT λhs P=>⟨ZW (d1.len▸Zg hs),Jn.pushV (t:=x1.s.toks) P ⟨_,0,rfl,Jq.mono (θ _ _) d1⟩⟩))
 |Dict ks vs p=>
  induction ks using c_ with
  |cons _ _=>exact False.elim
  |nil=>induction vs using c_ with
   |cons _ _=>exact False.elim
   |nil=>exactλP=>wpAny_Dict_empty (Jn.pushV (t:=x.s.toks) P ⟨x.low,[],rfl,rfl⟩)
 |Compare l ops es p=>
  intro P
  show wpAny _ _ (do compareChain p (<-eval l B.env) ops (markedEach ops es (evalEach es B.env))) _ _ _
  exact Γ (hr.ev m (Jn.onV P λx1 a u p1 d1 P=>chain_ok hr m P d1))
 |Call fe es kws p=>exact callE_ok hr m
 |Attribute o' z p=>exactλP=>Jn.ifT P λhb P=>attr_eval hb (hr.ev m (P.onV λx1 a u p1 d1 P=>okV_ok P λw hw h=>attr_ok hw d1 λy t d=>h y t d))
 |Subscript o' i p=>exact subE_ok hr m
 |Lambda as body sc p=>exactλP=>Jn.ifT P λhm P=>hl hm P
 |ListComp elt gens sc p=>exact hc
 |_=>exact False.elim
theorem tst_plain(hr:Hr n r)(m:Rm B n){e:Expr}{Q:SP Bool}(he:isTrue e B.env (eval e B.env)=(do let v<-eval e B.env;standAt e.pos;holding [v] (truthy v)))(P:Jn x RB (tstP e B.G.cx (r B.G.cx) B.f x.S) Q E):wpAny (Md B) B.A (isTrue e B.env (eval e B.env)) Q E x.s:=
 isTrue_plain (hr.ev m (P.onV λx1 a u p1 d1 P=>P.ob λb hb P=>tru_ok hb d1 λt=>P.bo t)) he
theorem tstE_ok(hr:Hr n r)(m:Rm B n){e:Expr}{Q:SP Bool}:Jn x RB (tstE e B.G.cx (r B.G.cx) B.f x.S) Q E->wpAny (Md B) B.A (isTrue e B.env (eval e B.env)) Q E x.s:=by
 induction e using Expr.casesOn with
 |UnaryOp op e p=>
  induction op with
  |Not=>exactλP=>isTrue_not (hr.tst m (Jn.onB P λx1 b p1 P=>P.bo))
  |_=>exact False.elim
 |BoolOp op es p=>exact tsts_ok hr m
 |Compare l ops es p=>
  intro P;show wpAny _ _ (do testChain p (<-eval l B.env) ops (markedEach ops es (evalEach es B.env))) _ _ _;exact Γ (hr.ev m (Jn.onV P λx1 a u p1 d1 P=>tchain_ok hr m P d1))
 |IfExp a b c d=>exact False.elim
 |_=>exact tst_plain hr m rfl
variable {Q:SP Flow}{e:Expr}
theorem with_env0(e:Expr)(t:Option Expr)(k:Nat)(env:Env):swapsWith e t k env=swapsWith e t k (ZY env.scope):=rfl
theorem sole_env0(ts:List Expr)(e:Expr)(k:Nat)(env:Env):swapsWithSole ts e k env=swapsWithSole ts e k (ZY env.scope):=by
 unfold swapsWithSole;split<;>first|rfl|exact with_env0 _ _ _ _
theorem swap_env0(ts:List Expr)(e:Expr)(env:Env):swappedStores ts e env=swappedStores ts e (ZY env.scope):=rfl
theorem storesR_ok{Q1:SP Unit}:∀{ns:List Str} {vs:List AV} {us:List Value} {x:Sit B},Jn x RU (storesR B.f ns vs x.S) Q1 E->x.Ds vs us->wpAny (Md B) A (assignInOrder (ns.map λx=>bindName B.env x) us) Q1 E x.s:=by
 intro ns;induction ns with
 |nil=>
  intro vs us x P d;induction vs using c_ with
  |nil=>rw[show us=[]from d];exact Δ P.next
  |cons _ _=>exact P.elim
 |cons z ns ih=>
  intro vs us x P d;induction vs using c_ with
  |nil=>exact P.elim
  |cons v vs=>
   exact d.elim λw d=>d.elim λws d=>by
    rw[d.1];show wpAny _ _ (do holding ws (bindName B.env z w);assignInOrder (ns.map λx=>bindName B.env x) ws) _ _ _;exact Γ (ω (wpAny_bindName (store_ok (k:=λS=>storesR B.f ns vs S) P d.2.1 λx1 p1 Z P=>ih P (Jq.mono p1 d.2.2))))
theorem Jn.toU(P:Jn x RF c Q E):Jn x RU c (λZ s=>Q .next s) E:=P.leaf λx' o p h1 h2=>⟨λu r=>h1 .next (.inl ⟨r,rfl⟩),h2⟩
theorem oneN_ok(hr:Hr n r)(m:Rm B n){t:Expr}(h1:swapsWithSole [t] e pos.line (ZY B.f.sc)=pure false)(h2:swappedStores [t] e (ZY B.f.sc)=pure none)(P:Jn x RF (oneN e t B.G.cx (r B.G.cx) B.f x.S) Q E):wpAny (Md B) B.A (exec (.Assign [t] e pos) B.env) Q E x.s:=
 P.ifT λhs P=>by
  have sc:=x.top.sc;refine wpAny_Assign_stores (hr.ev m (P.onV λx1 a u p1 d1 P=>?_)) (by rw[sole_env0,sc,h1]) (by rw[swap_env0,sc,h2]);rw[each_eq hs];exact hr.asg m d1 P.toU
theorem swapE_ok(hr:Hr n r)(m:Rm B n){t:Expr}{ns:List Str}(h1:swapsWithSole [t] e pos.line (ZY B.f.sc)=pure false)(h2:swappedStores [t] e (ZY B.f.sc)=pure (some ns))(P:Jn x RF (swapE e ns B.G.cx (r B.G.cx) B.f x.S) Q E):wpAny (Md B) B.A (exec (.Assign [t] e pos) B.env) Q E x.s:=by
 have sc:=x.top.sc;rw[exec_Assign_arm];refine Γ (ϙ ?_);rw[sole_env0,sc,h1];refine Γ (Δ ?_);rw[if_neg Ϝ];refine Γ (hr.ev m (P.onV λx1 a u p1 d1 P=>?_));rw[swap_env0,sc,h2];refine Γ (Δ ?_);show wpAny _ _ (do
  rule "assign.swapped-stores"
  let items<-unpackItems u ns.length none
  assignInOrder (ns.reverse.map λn=>bindName B.env n) items.reverse
  pure Flow.next) _ _ _
 refine Γ (wpAny_rule (Γ ?_));refine P.ifT λhh P=>P.ob λi hi P=>P.ob λl hl P=>P.ifT λhn P=>?_;rw[JQ hi]at d1;refine d1.loc_ λad ha hu=>Jz hl λo ho hv=>x1.own (ao:=.tup l) (Wx hv▸ho) ha λo' ho' p=>p.tup_ λxs k e dd=>?_;subst hu;have hsz:ns.length=xs.size:=by rw[<-π,<-Jq.len dd];exact(nq hn).symm
 rw[hsz];have tail:∀h',Heap.ExtBut x1.s.heap.objs.size x1.s.heap h'->wpAny (Md B) B.A (do assignInOrder (ns.reverse.map λx=>bindName B.env x) xs.toList.reverse;pure Flow.next) Q E {x1.s with heap:=h'}:=λh' he=>
  Γ (storesR_ok (x:=x1.grow (h':=h') (λb o e=>he b o (Jl (ϱ e)) e) x1.s.toks) (Jn.leaf (P.up (ζ _)) λx' o p h1 h2=>⟨λu r=>Δ (h1 .next (.inl ⟨r,rfl⟩)),h2⟩) (Jq.rev dd))
 unfold handB at hh;induction hd:B.f.hd with
 |false=>exact unpackItems_tuple (B.hdl hd) ⟨_,e▸ho',rfl,k,rfl⟩ tail
 |true=>
  rw[hd]at hh;induction he:B.f.he with
  |none=>rw[he]at hh;exact nb hh
  |some j=>
   rw[he]at hh;induction hj:gv vExc x1.S j with
   |none=>
    have hh:JH (gv vExc x1.S j)=true:=hh;rw[hj]at hh;exact nb hh
   |some p=>exact(x1.he j he hd).elim λae g=>x1.exc hj g.1 λoe vs va vd Z q=>unpackItems_tuple_h g.2 q.h q.p.data q.p.f2 ⟨_,e▸ho',rfl,k,rfl⟩ tail
theorem inter_no{env:Env}(h:env.scope.kind=.function):interactive env=false:=by unfold interactive;rw[h];rfl
theorem exprS_ok(hr:Hr n r)(m:Rm B n)(P:Jn x RF (exprS e (pureOf (swapsWith e none pos.line (ZY B.f.sc))) B.G.cx (r B.G.cx) B.f x.S) Q E):wpAny (Md B) B.A (exec (.Expr e pos) B.env) Q E x.s:=by
 have sc:=x.top.sc;induction hs:pureOf (swapsWith e none pos.line (ZY B.f.sc))with
 |none=>rw[hs]at P;exact P.elim
 |some b=>
  rw[hs]at P;induction b with
  |true=>exact P.elim
  |false=>exact wpAny_Expr_any (hr.ev m (Jn.onV P λx1 a u p1 d1 P=>P.nextF)) (inter_no x.fun_) (by rw[with_env0,sc,of_pureOf hs])
theorem asgS_ok(hr:Hr n r)(m:Rm B n){t:Expr}(hc:swapsWithSole [t] e pos.line (ZY B.f.sc)=pure true->Jn x RF (lcN t e B.G.cx (r B.G.cx) B.f x.S) Q E->wpAny (Md B) B.A (exec (.Assign [t] e pos) B.env) Q E x.s)
  (P:Jn x RF (asgS t e (pureOf (swapsWithSole [t] e pos.line (ZY B.f.sc))) (pureOf (swappedStores [t] e (ZY B.f.sc))) B.G.cx (r B.G.cx) B.f x.S) Q E):wpAny (Md B) B.A (exec (.Assign [t] e pos) B.env) Q E x.s:=by
 induction h1:pureOf (swapsWithSole [t] e pos.line (ZY B.f.sc))with
 |none=>rw[h1]at P;exact P.elim
 |some b=>
  rw[h1]at P
  induction b with
  |true=>exact hc (of_pureOf h1) P
  |false=>
   induction h2:pureOf (swappedStores [t] e (ZY B.f.sc))with
   |none=>rw[h2]at P;exact P.elim
   |some sw=>
    rw[h2]at P
    induction sw with
    |none=>exact oneN_ok hr m (of_pureOf h1) (of_pureOf h2) P
    |some ns=>exact swapE_ok hr m (of_pureOf h1) (of_pureOf h2) P
theorem xF_ok(hr:Hr n r)(m:Rm B n){body:List Stmt}{k:St->R}(P:Jn x RF (xF (Wc (r B.G.cx) B.f body x.S) k) Q E){Q1:SP Flow}{E1:SP Value}(h1:∀y:Sit B,x.le y->Jn y RF (k y.S) Q E->Q1 .next y.s)(h2:∀(y:Sit B) u,x.le y->Q (.ret u) y.s->Q1 (.ret u) y.s):wpAny (Md B) B.A (execs body B.env) Q1 E1 x.s:=
 exs_ok hr m (Jn.seq (K:=thenX k) P λy o p P=>⟨λu ru=>ru.el (λe1 e2=>by subst e1;subst e2;exact h1 y p P) λa v e1 e2 d=>by subst e1;subst e2;exact h2 y v p (P.retF d),λi ad e ha=>by subst e;exact P.elim⟩)
variable {k:Nat}{vs:List AV}{Q:SP α}{Qn:Shared->Prop}{Qs:SP Value}{E1 E2:SP Value}{al:Addr}{t:Expr}{done:St->R}{go:AV->St->R}
def NxQ(M:Model)(A:Around)(t:Expr)(ad:Addr)(E2:SP Value)(Qn:Shared->Prop)(Qs:SP Value)(r:Option Value)(s:Shared):Prop:=Option.rec (Qn s) (λu=>wpAny M A (letOwnedTupleGo t (.ref ad) u) (λZ s=>Qs u s) E2 s) r
structure Nx(x:Sit B)(ρ:Sit B->Out->α->Prop)(done:St->R)(go:AV->St->R)(Q:SP α)(E:SP Value)(Qn:Shared->Prop)(Qs:SP Value):Prop where
 d:∀x',x.le x'->Jn x' ρ (done x'.S) Q E->Qn x'.s
 g:∀x' v u,x.le x'->x'.D v u->Jn x' ρ (go v x'.S) Q E->Qs u x'.s
theorem Nx.dead(N:Nx x ρ done go Q E Qn Qs)(P:Jn x ρ (setR x.S i .dead done) Q E)(hg:x.S.get i=some ao)(hv:vNs ao=none)(ha:x.L[i]?=some ad)(he:ZO ad x.s.heap h'):Qn {x.s with heap:=h'}:=
 he.2.elim λo ho=>Jn.setR (t:=x.s.toks) P ha he.1 ho trivial (nns hg hv) λx' p e1 Z Z P=>e1▸N.d x' p P
theorem go_name(h:Zk t=true){M:Model}{Q1:SP Unit}(hq:Q1 () s):wpAny M A (letOwnedTupleGo t v u) Q1 E s:=by
 revert h;induction t using Expr.casesOn with
 |Name _ _=>exactλZ=>wpAny_of_eq rfl hq
 |_=>exact nb
theorem tgt_name(h:Wy x.S i t=true)(hg:x.S.get i=some ao)(hs:isSeqIt ao=false):Zk t=true:=by
 have h:(Bool.rec (Bool.rec false (Option.rec false (λo=>isSeqIt o) (x.S.get i)) (isTupE t)) (JM (Option.rec false (λo=>isEit o) (x.S.get i))) (Zk t):Bool)=true:=h;rw[hg]at h;induction q:Zk t with
 |true=>rfl
 |false=>
  rw[q]at h;have h:(Bool.rec false (isSeqIt ao) (isTupE t):Bool)=true:=h;rw[hs]at h;cases w:isTupE t<;>(rw[w]at h;exact nb h)
theorem isTup_el{t:Expr}{C:Expr->Prop}(h:isTupE t=true)(k:∀es c p,C (.Tuple es c p)):C t:=by
 revert h;induction t using Expr.casesOn with
 |Tuple es c p=>exactλZ=>k es c p
 |_=>exact nb
theorem tgt_tup(h:Wy x.S i t=true)(hg:x.S.get i=some ao)(k1:Zk t=true->isEit ao=false->C)(k2:∀es c p,t=.Tuple es c p->C):C:=by
 have h:(Bool.rec (Bool.rec false (Option.rec false (λo=>isSeqIt o) (x.S.get i)) (isTupE t)) (JM (Option.rec false (λo=>isEit o) (x.S.get i))) (Zk t):Bool)=true:=h;rw[hg]at h;induction q:Zk t with
 |true=>rw[q]at h;exact k1 q (JL h)
 |false=>
  rw[q]at h;induction q2:isTupE t with
  |true=>exact isTup_el (C:=λe=>t=e->C) q2 (λes c p=>k2 es c p) rfl
  |false=>rw[q2]at h;exact nb h
theorem go_lit(h:Wy x.S i t=true)(hg:x.S.get i=some ao)(hit:s.heap.IsListIter ad al k){Q1:SP Unit}(hq:Q1 () s):wpAny (Md B) A (letOwnedTupleGo t (.ref ad) u) Q1 E s:=
 tgt_tup h hg (λq Z=>go_name q hq) λes c p e=>by
  subst e;induction u with
  |ref y=>exact wpAny_letOwnedTupleGo_listiter hit hq
  |_=>exact wpAny_of_eq rfl hq
theorem lit_ok(N:Nx x ρ done go Q E Qn Qs)(ht:Wy x.S i t=true)(hh:A.handled=none)(hg:x.S.get i=some ao)(hv:vNs ao=none)(ha:x.L[i]?=some ad)(hit:x.s.heap.IsListIter ad al k){xs:Array Value}{m:Nat}(ho:x.s.heap.get? al=some (listOf xs m))(dd:x.Ds vs xs.toList){ao':AO}
  (hok:∀o:Obj,o.cls=.type "list_iterator"->o.data=.fields #[.ref al,.int (k+1:Nat) 0]->x.P ad ao' o) (P:Jn x ρ (seqN x.S i vs k ao' done go) Q E):wpAny (Md B) A (pyNext (.ref ad)) (NxQ (Md B) A t ad E2 Qn Qs) E1 x.s:=by
 have hl:x.s.heap.IsList al xs:=⟨_,ho,rfl,m,rfl⟩
 unfold seqN at P
 induction hk:vs[k]? with
 |none=>rw[hk]at P;exact list_end hh hit hl (Jq.end_ dd hk) λh' he=>N.dead P hg hv ha he
 |some w=>
  rw[hk]at P
  exact Jq.at_ dd hk λy hy dy=>wpAny_pyNext_list_item hit hl hy λh' hit' sb=>go_lit (s:={x.s with heap:=h'}) ht hg hit' (hit'.elim λo' g=>Jn.setS (k:=λS=>go w S) (t:=x.s.toks) P ha sb g.1 (hok o' g.2.1 g.2.2) (nns hg hv) λx' p e1 Z P=>e1▸N.g x' w y p (Den.mono p dy) P)
theorem str_ok{w:Str}{t0:Tok}(N:Nx x ρ done go Q E Qn Qs)(ht:Zk t=true)(hh:A.handled=none)(hg:x.S.get i=some ao)(hv:vNs ao=none)(ha:x.L[i]?=some ad)(hit:x.s.heap.IsStrIter ad "str_ascii_iterator" w t0 k)(P:Jn x ρ (strN x.S i w k done go) Q E):wpAny (Md B) A (pyNext (.ref ad)) (NxQ (Md B) A t ad E2 Qn Qs) E1 x.s:=by
 unfold strN at P;induction hk:w.cps[k]? with
 |none=>rw[hk]at P;exact ascii_end hh hit hk λh' he=>N.dead P hg hv ha he
 |some c=>
  rw[hk]at P;exact wpAny_pyNext_ascii_item hit hk λh' hit' sb=>go_name ht (hit'.elim λo' g=>Jn.setS (k:=λS=>go (.str ⟨#[c]⟩) S) P ha sb g.1 ⟨t0,g.2⟩ (nns hg hv) λx' p e1 Z P=>e1▸N.g x' (.str ⟨#[c]⟩) _ p ⟨_,rfl⟩ P)
theorem rng_next(N:Nx x ρ done go Q E Qn Qs){n:Nat}{w:Int}(ht:Zk t=true)(hh:A.handled=none)(hg:x.S.get i=some ao)(hv:vNs ao=none)(ha:x.L[i]?=some ad)(hit:IsRangeIter x.s.heap ad w n 1)(P:Jn x ρ (rngN x.S i n w done go) Q E):wpAny (Md B) A (pyNext (.ref ad)) (NxQ (Md B) A t ad E2 Qn Qs) E1 x.s:=by
 induction n using Nat.casesAuxOn with
 |zero=>exact range_end hh hit (by decide) λh' he=>N.dead P hg hv ha he
 |succ m=>
  refine wpAny_pyNext_range_item hit (by lia) λh' hit' sb=>go_name ht ?_;rw[show ((m+1:Nat):Int)-1=(m:Int)by lia]at hit';exact Jn.setS (k:=λS=>go (.int w) S) P ha sb hit' (λZ e=>e) (nns hg hv) λx' p e1 Z P=>e1▸N.g x' (.int w) _ p ⟨_,rfl⟩ P
theorem tit_ok(N:Nx x ρ done go Q E Qn Qs)(ht:Zk t=true)(hh:A.handled=none)(hg:x.S.get i=some ao)(hv:vNs ao=none)(ha:x.L[i]?=some ad)(hit:IsTupIter x.s.heap ad al k){xs:Array Value}{m j:Nat}(hj:x.L[j]?=some al)(ho:x.s.heap.get? al=some ⟨.type "tuple",none,.seq xs m,#[]⟩)(dd:x.Ds vs xs.toList)
  (P:Jn x ρ (seqN x.S i vs k (.tit j (k+1)) done go) Q E):wpAny (Md B) A (pyNext (.ref ad)) (NxQ (Md B) A t ad E2 Qn Qs) E1 x.s:=by
 have hl:IsTup x.s.heap al xs:=⟨_,ho,rfl,m,rfl⟩
 unfold seqN at P
 induction hk:vs[k]? with
 |none=>rw[hk]at P;exact tup_end hh hit hl (Jq.end_ dd hk) λh' he=>N.dead P hg hv ha he
 |some w=>
  rw[hk]at P
  exact Jq.at_ dd hk λy hy dy=>next_tuple_item hit hl hy λh' hit' sb=>go_name ht (hit'.elim λo' g=>Jn.setS (k:=λS=>go w S) (t:=x.s.toks) P ha sb g.1 ⟨al,hj,g.2⟩ (nns hg hv) λx' p e1 Z P=>e1▸N.g x' w y p (Den.mono p dy) P)
theorem upd2_get{h h':Heap}{c a b:Addr}{oc oc' oa oa' z:Obj}(n:a≠c)(h1:h.get? c=some oc)(h2:h.get? a=some oa)(f1:oc'.isFreed=false)(f2:oa'.isFreed=false)(g1:h'.get? c=some oc')(g2:h'.get? a=some oa')
  (kp:∀b o,b≠a->b≠c->h.get? b=some o->h'.get? b=some o) (e:((h.update c λZ=>oc').update a λZ=>oa').get? b=some z):h'.get? b=some z:=by
 by_cases q:b=a
 ·rw[q]at e ⊢
  exact g2.trans ((υ _ ((χ _ _ (Ne.symm n)).trans h2) f2).symm.trans e)
 ·have e:=(χ _ _ (Ne.symm q)).symm.trans e
  by_cases q2:b=c
  ·rw[q2]at e ⊢
   exact g1.trans ((υ _ h1 f1).symm.trans e)
  ·exact kp b z q q2 ((χ _ _ (Ne.symm q2)).symm.trans e)
theorem enu_ok(N:Nx x ρ done go Q E Qn Qs)(ht:Wy x.S i t=true)(hh:A.handled=none)(hg:x.S.get i=some (.eit j k))(ha:x.L[i]?=some ad)(P:Jn x ρ (enuN x.S i j k done go) Q E):wpAny (Md B) A (pyNext (.ref ad)) (NxQ (Md B) A t ad E2 Qn Qs) E1 x.s:=
 P.ob λp hp P=>P.ifT λhk P=>P.ob λvs hvs P=>x.own hg ha λo ho q=>q.elim λaj q=>q.elim λold q=>Jz hp λoj hoj hv=>Jz hvs λol hol hv2=>by
  cases Zf hv2;induction oj with
  |lit l k2=>
   cases oi hv;cases nq hk;refine x.own hoj q.1 λo1 ho1 q1=>q1.elim λal q1=>x.own hol q1.1 λo2 ho2 q2=>q2.list_ λxs m e dd=>?_;have he:=q.2 _ ho;have hit:x.s.heap.IsListIter aj al k:=⟨o1,ho1,q1.2⟩;have hl:x.s.heap.IsList al xs:=⟨_,e▸ho2,rfl,m,rfl⟩;have hij:i≠j:=λz=>by rw[z,hoj]at hg;exact nomatch hg
   have haa:ad≠aj:=λz=>hij (Ju x.r.nd ha (z▸q.1));induction hv3:vs[k]? with
   |none=>rw[hv3]at P;exact enum_end hh he hit hl (Jq.end_ dd hv3) λh' he=>N.dead P hoj rfl q.1 he
   |some w=>
    rw[hv3]at P;refine Jq.at_ dd hv3 λy hy dy=>wpAny_pyNext_enum_item he hit hl hy haa λh' heo hit' ht' hz kp=>tgt_tup ht hg (λZ z=>nb z.symm) λes c p et=>?_;subst et;refine wpAny_letOwnedTupleGo_enum heo λh₂ he₂ hs₂=>hit'.elim λoj' gj=>?_;have kj:h₂.get? aj=some oj':=(hs₂.2 aj (Ne.symm haa)).trans gj.1;have fj:oj'.isFreed=false:=Obj.isFreed_of_fields gj.2.2;refine Jn.setR (t:=x.s.toks) P q.1 (h':=x.s.heap.update aj λZ=>oj') (λb o hb e=>(χ _ _ (Ne.symm hb)).trans e) (υ _ ho1 fj) ⟨al,q1.1,gj.2⟩ (nns hoj rfl) λx1 p1 e1 eL1 C1 P=>?_;have ho3:x1.s.heap.get? ad=some o:=by rw[e1];exact(χ _ _ (Ne.symm haa)).trans ho
    refine Jn.setR (x:=x1) (t:=x.s.toks) P (eL1▸ha) (h':=x1.s.heap.update ad λZ=>_) (λb o hb e=>(χ _ _ (Ne.symm hb)).trans e) (υ _ ho3 rfl) ⟨aj,y,eL1▸q.1,λZ e=>e⟩ (nns ((C1.other i hij).trans hg) rfl) λx2 p2 e2 eL2 C2 P=>?_;have hL:x2.L=x.L:=eL2.trans eL1;have ne:∀{b:Addr},b∈x.L->x.s.heap.objs.size≠b:=λhb=>Nat.ne_of_gt (x.r.lt hb);refine Jn.pushAt (x:=x2) (t:=x.s.toks+1) (h':=h₂) P (hL▸x.r.new_ (Ϙ _)) (λb o e=>?_) ((hs₂.2 _ (ne (Θ ha))).trans ht') ⟨_,_,rfl,Jq.cons ⟨_,rfl⟩ (Jq.cons (Den.mono (hL▸θ _ _) dy) Jq.nil)⟩ λx3 p3 e3 Z q3 P=>?_
    ·rw[e2,e1]at e
     exact upd2_get haa ho1 ho fj rfl kj he₂ (λb o h1 h2 e=>(hs₂.2 b h1).trans (kp b o h1 h2 e)) e
    ·have:=N.g x3 (.loc x2.S.n) (.ref x.s.heap.objs.size) (τ p1 (τ p2 p3)) ⟨_,q3,rfl⟩ P
     rwa [show x3.s={x.s with heap:=h₂,toks:=x.s.toks+1} by rw[e3,e2,e1]]at this
  |_=>exact no hv
theorem dit_ok(N:Nx x ρ done go Q E Qn Qs){n:Nat}(ht:Zk t=true)(hh:A.handled=none)(hg:x.S.get i=some ao)(hv:vNs ao=none)(ha:x.L[i]?=some ad)(hj:x.L[j]?=some al)(hit:x.s.heap.IsKeyIter ad al k n n)(P:Jn x ρ (keyN x.S i j k n done go) Q E):wpAny (Md B) A (pyNext (.ref ad)) (NxQ (Md B) A t ad E2 Qn Qs) E1 x.s:=
 P.ob λes hes P=>P.ifT λhn P=>P.ifT λhnd P=>x.kvs hes hj (Zn hnd) λkvs hm hd hk hl=>by
  cases nq hn;rw[<-hl]at hit hd;induction hv3:es[k]? with
  |none=>rw[hv3]at P;exact dict_end hh hit hd (List.getElem?_eq_none (by rw[hl];exact List.getElem?_eq_none_iff.mp hv3)) λh' he=>N.dead P hg hv ha he
  |some p=>
   rw[hv3]at P;have hx:∃y,kvs[k]?=some (p.1,y):=by
    have:(kvs.map (·.1))[k]?=some p.1:=by rw[hk,δ,hv3];rfl
    rw[δ]at this;induction q:kvs[k]? with
    |none=>rw[q]at this;exact no this
    |some w=>rw[q]at this;exact⟨w.2,by rw[<-oi this]⟩
   refine hx.elim λy hx=>wpAny_pyNext_dict_item hit hd hx λkey h' hkey hit' sb=>(Value.isStrOf_shape (show Value.isStrOf p.1 key=true from hkey)).elim λtk et=>go_name ht (hit'.elim λo' g=>?_);exact Jn.setS (k:=λS=>go (.str p.1) S) (t:=x.s.toks) P ha sb g.1 ⟨al,hj,g.2.1,by rw[g.2.2,hl]⟩ (nns hg hv) λx' p' e1 Z P=>e1▸N.g x' (.str p.1) _ p' ⟨tk,et⟩ P
theorem next_ok(N:Nx x ρ done go Q E Qn Qs)(ht:Wy x.S i t=true)(hh:A.handled=none)(ha:x.L[i]?=some ad)(P:Jn x ρ (nextR B.G.cx x.S i done go) Q E):wpAny (Md B) A (pyNext (.ref ad)) (NxQ (Md B) A t ad E2 Qn Qs) E1 x.s:=
 P.ob λao hg P=>x.own hg ha λo ho p=>by
  induction ao with
  |lit l k=>exact Jn.ob P λvs hl P=>p.elim λal q=>Jz hl λo2 ho2 hv=>x.own (ao:=.list vs) (Zf hv▸ho2) q.1 λo3 ho3 p3=>p3.list_ λxs m e dd=>lit_ok (ao':=.lit l (k+1)) N ht hh hg rfl ha ⟨o,ho,q.2⟩ (e▸ho3) dd (λo' h1 h2=>⟨al,q.1,h1,h2⟩) P
  |lio l k=>exact Jn.ob P λvs hl P=>Jo hl λo2 ho2 hv=>Kn.op_ x (ao:=.list vs) (Zf hv▸ho2) λo3 ho3 p3=>p3.list_ λxs m e dd=>lit_ok (ao':=.lio l (k+1)) N ht hh hg rfl ha ⟨o,ho,p⟩ (e▸ho3) dd (λo' h1 h2=>⟨h1,h2⟩) P
  |sit w k=>exact p.elim λt0 q=>str_ok N (tgt_name ht hg rfl) hh hg rfl ha ⟨o,ho,q⟩ P
  |rit n w=>exact rng_next N (tgt_name ht hg rfl) hh hg rfl ha (p _ ho) P
  |eit j k=>exact enu_ok N ht hh hg ha P
  |tit l k=>exact Jn.ob P λvs hl P=>p.elim λal q=>Jz hl λo2 ho2 hv=>x.own (ao:=.tup vs) (Wx hv▸ho2) q.1 λo3 ho3 p3=>p3.tup_ λxs m e dd=>tit_ok N (tgt_name ht hg rfl) hh hg rfl ha ⟨o,ho,q.2⟩ q.1 (e▸ho3) dd P
  |dit d k n=>exact p.elim λal q=>dit_ok N (tgt_name ht hg rfl) hh hg rfl ha q.1 ⟨o,ho,q.2⟩ P
  |_=>exact P.elim
end Internal
namespace Internal
variable {B:Bd}{x x':Sit B}{α:Type}{a b:AV}{u v:Value}{i j n k:Nat}{vs:List AV}{ρ:Sit B->Out->α->Prop}{Qa:SP α}{Q:SP Flow}{E E1:SP Value}{A:Around}{s:Shared}{ad:Addr}{h h':Heap}{ao:AO}{o:Obj}{r:Cx->Cm->St->R}{e t:Expr}{body:List Stmt}{prog:Program}{w:World}{env:Env}{Rr:Result->Shared->Prop}
theorem iterO_ok{kk:Nat->St->R}(P:Jn x ρ (iterO x.S i kk ao) Qa E)(hg:x.S.get i=some ao)(ha:x.L[i]?=some ad){Q1:SP Value}(h:∀x' j a',x.le x'->x'.L[j]?=some a'->Jn x' ρ (kk j x'.S) Qa E->Q1 (.ref a') x'.s):wpAny (Md B) A (pyIter (.ref ad)) Q1 E1 x.s:=
 x.own hg ha λo ho p=>by
  have last:∀{ao:AO} {ob:Obj},Jn x ρ (pushR x.S ao kk) Qa E->x.P x.s.heap.objs.size ao ob\/OkP B.G.om B.G.nm (x.L++[x.s.heap.objs.size]) x.s.heap.objs.size ao ob->ob.isFreed=false->Q1 (.ref x.s.heap.objs.size) {x.s with heap:=x.s.heap.push ob}:=λP ok hf=>
   P.pushR (t:=x.s.toks) (ok.elim (λq=>q.mono (θ _ _)) id) hf λx' p e1 Z e2 P=>e1▸h x' _ _ p e2 P
  cases ao with
  |list vs=>exact p.list_ λxs m e dd=>wpAny_pyIter_list (items:=xs) ⟨_,e▸ho,rfl,m,rfl⟩ (last P (.inl ⟨ad,ha,rfl,rfl⟩) rfl)
  |tup vs=>exact p.tup_ λxs m e dd=>iter_tuple (items:=xs) ⟨_,e▸ho,rfl,m,rfl⟩ (last P (.inl ⟨ad,ha,rfl,rfl⟩) rfl)
  |dict es=>exact Jn.ifT P λhn P=>x.kvs (show obO (x.S.get i) Zi=some es by rw[hg];rfl) ha (Zn hn) λkvs hm hd hk hl=>wpAny_pyIter_dict hm hd (last P (.inl ⟨ad,ha,rfl,by rw[hl];rfl⟩) rfl)
  |eit j k=>exact p.elim λaj q=>q.elim λold q=>wpAny_pyIter_enum (q.2 _ ho) (h x i ad (Sit.le.refl x) ha P)
  |rng y z=>
   refine p.1.elim λt q=>q.elim λu q=>q.elim λv q=>wpAny_pyIter_range (q _ ho) p.2 (last P (.inl λh' e=>?_) rfl);rw[show ((z-y).toNat:Int)=Builtin.Range.rangeSize y z 1 by rw[rangeSize_one];split<;>lia];exact e
  |_=>exact P.elim
theorem iterR_ok{kk:Nat->St->R}(P:Jn x ρ (iterR B.G.cx x.S a kk) Qa E)(d:x.D a u){Q1:SP Value}(h:∀x' j a',x.le x'->x'.L[j]?=some a'->Jn x' ρ (kk j x'.S) Qa E->Q1 (.ref a') x'.s):wpAny (Md B) A (pyIter u) Q1 E1 x.s:=by
 induction a with
 |str w=>exact Jn.ifT P λhw P=>d.str_ λt hu=>hu▸wpAny_pyIter_ascii hw (P.pushR (t:=x.s.toks) ⟨t,rfl,rfl⟩ rfl λx' p e1 Z e2 P=>e1▸h x' _ _ p e2 P)
 |loc i=>exact Jn.ob P λao hg P=>d.loc_ λad ha hu=>hu▸iterO_ok P hg ha h
 |op j=>exact Jn.ob P λvs hl P=>Jo hl λo2 ho2 hv=>Kn.op_ x (ao:=.list vs) (Zf hv▸ho2) λo3 ho3 p3=>p3.list_ λxs m e dd=>(show u=_ from d)▸wpAny_pyIter_list (items:=xs) ⟨_,e▸ho3,rfl,m,rfl⟩ (P.pushR (t:=x.s.toks) ⟨rfl,rfl⟩ rfl λx' p e1 Z e2 P=>e1▸h x' _ _ p e2 P)
 |_=>exact P.elim
def Turn(M:Model)(A:Around)(cd:Code)(Rr:Result->Shared->Prop)(f:Flow)(s:Shared):Prop:=match f with
 |.next|.cont=>codeAny M A cd Rr s
 |.brk=>Rr (.ok .next) s
 |.ret v=>Rr (.ok (.ret v)) s
theorem whileStep{test:Expr}(h:wpAny (model prog w) A (isTrue test env (eval test env)) (λb s₂=>Bool.rec (Rr (.ok .next) s₂) (wpAny (model prog w) A (execs body env) (Turn (model prog w) A (.whileLoop test body [] env) Rr) (notedBy (model prog w) A env λe s'=>Rr (.error e) s') s₂) b) (notedBy (model prog w) A env λe s'=>Rr (.error e) s') s):codeAny (model prog w) A (.whileLoop test body [] env) Rr s:=by
 refine codeAny_of_tree ?_;show wpAny _ A ((whileTurn test body [] env).onRaise (λx=>do noteFrame x env;theTreesLotGoes x)) _ _ s;refine wpAny_noted ?_;unfold whileTurn;refine Γ (ι h (λb s₂ h₂=>?_) λZ Z h'=>h');induction b with
 |false=>exact Γ (wpAny_execs_nil (Δ h₂))
 |true=>
  refine Γ (ι h₂ (λf s₃ h₃=>?_) λZ Z h'=>h');induction f with
  |next=>exact Δ ⟨rfl,h₃⟩
  |cont=>exact Δ ⟨rfl,h₃⟩
  |brk=>exact Δ h₃
  |ret v=>exact Δ h₃
theorem forStep(h:wpAny (model prog w) A (pyNext (.ref ad)) (NxQ (model prog w) A t ad (notedBy (model prog w) A env λe s'=>Rr (.error e) s') (λs=>Rr (.ok .next) s) λv s=>wpAny (model prog w) A (assign t env v) (λZ s₂=>wpAny (model prog w) A (execs body env) (Turn (model prog w) A (.forLoop t (.ref ad) body [] env) Rr) (notedBy (model prog w) A env λe s'=>Rr (.error e) s') s₂) (notedBy (model prog w) A env λe s'=>Rr (.error e) s') s)
   (notedBy (model prog w) A env λe s'=>Rr (.error e) s') s):codeAny (model prog w) A (.forLoop t (.ref ad) body [] env) Rr s:=by
 refine codeAny_of_tree ?_
 show wpAny _ _ ((forTurn t (.ref ad) body [] env).onRaise (λx=>do noteFrame x env;theTreesLotGoes x)) _ _ s
 refine wpAny_noted ?_
 unfold forTurn
 refine Γ (ϙ (Γ (wpAny_onRaise (ι h (λr s₁ h₁=>?_) λZ Z h'=>ϙ h'))))
 induction r with
 |none=>exact Δ ⟨rfl,codeAny_block (wpAny_execs_nil h₁)⟩
 |some v=>
  refine Γ (ι h₁ (λZ s₁' h₁'=>?_) λZ Z h'=>h')
  refine Γ (ι h₁' (λZ s₂ h₂=>Γ (ι h₂ (λf s₃ h₃=>?_) λZ Z h'=>h')) λZ Z h'=>h')
  induction f with
  |next=>exact Δ ⟨rfl,h₃⟩
  |cont=>exact Δ ⟨rfl,h₃⟩
  |brk=>exact Δ h₃
  |ret v=>exact Δ h₃
theorem loop_ok(hr:Hr n r)(m:Rm B n)(P:Jn x RF (loopX (r B.G.cx) B.f t body x.S) Q E):codeAny (Md B) B.A (.whileLoop t body [] B.env) (Zt Q) x.s:=
 whileStep (hr.tst m (Jn.xB P λx1 b p1 P=>by
  induction b with
  |false=>exact P.nextF
  |true=>exact xF_ok hr m P (λy p P=>hr.loop m P) λy u p q=>q))
theorem each_ok(hr:Hr n r)(m:Rm B n)(ha:x.L[i]?=some ad)(P:Jn x RF (eachX B.G.cx (r B.G.cx) B.f t i body x.S) Q E):codeAny (Md B) B.A (.forLoop t (.ref ad) body [] B.env) (Zt Q) x.s:=
 P.ifT λhh P=>P.ifT λht P=>forStep (next_ok ⟨λx' p P=>P.nextF,λx1 v u p1 d1 P=>hr.asg m d1 (P.xN λx2 p2 P=>xF_ok hr m P (λy p P=>hr.each m (Jp p (Jp p2 (Jp p1 ha))) P) λy u p q=>q)⟩ ht (B.hdl (JL hh)) ha P)
variable {c:R}{C:Prop}{l:List AV}{Q:SP Value}{pos:Pos}{f:FrA}{L:List Addr}{z:Str}
structure Clo(env:Env)(cs:List (Str×Nat))(acc clos:List (Str×Addr)):Prop where
 inv:∀x a,clos.lookup x=some a->env.cells.lookup x=some a
 has:∀x,(∃i,look x cs=some i)\/(∃a,acc.lookup x=some a)->∃a,clos.lookup x=some a
def clBody(env:Env)(p:Str×NameKind)(acc:List (Str×Addr)):Sem (ForInStep (List (Str×Addr))):=
 match p with
 |(name,kind)=>if (kind==.free)=true then do let a<-cellOf env name;pure (.yield ((name,a)::acc))else pure (.yield acc)
theorem isFree_eq(k:NameKind):isFree k=(k==.free):=by induction k<;>rfl
theorem lookup_ne{x y:Str}{a:Addr}{l:List (Str×Addr)}(h:x≠y):((y,a)::l).lookup x=l.lookup x:=by rw[Jd,show (x==y)=false from beq_eq_false_iff_ne.mpr h]
theorem clo_loop(hc:∀x i,look x f.cells=some i->∃a,L[i]?=some a/\env.cells.lookup x=some a):∀{l:List (Str×NameKind)} {cs:List (Str×Nat)} (acc:List (Str×Addr)),freeCells f l=some cs->(∀x a,acc.lookup x=some a->env.cells.lookup x=some a)->
  (∀x i,look x cs=some i->look x f.cells=some i)/\∃clos,forIn l acc (clBody env)=(pure clos:Sem _)/\Clo env cs acc clos:=by
 intro v0_
 induction v0_ with
 |nil=>
  intro Z acc h inv
  cases oi h
  exact⟨λx i e=>no e,acc,rfl,inv,λx e=>e.elim (λe=>e.elim λi e=>no e) id⟩
 |cons z9 l ih=>
  intro cs acc h inv
  obtain ⟨y,kd⟩:=z9
  exact Jo h λcs0 h0 h=>by
   have h:(Bool.rec (some cs0) (obO (look y f.cells) λc=>some ((y,c)::cs0)) (isFree kd):Option (List (Str×Nat)))=some cs:=h;rw[List.forIn_cons];induction q:isFree kd with
   |false=>
    rw[q]at h;cases oi h;have e:clBody env (y,kd) acc=pure (.yield acc):=by
     show (if (kd==.free)=true then _ else _)=_;rw[<-isFree_eq,q];rfl
    rw[e];exact ih acc h0 inv
   |true=>
    rw[q]at h;exact Jo h λc hcc h=>by
     cases oi h;refine(hc y c hcc).elim λa g=>?_;have e:clBody env (y,kd) acc=pure (.yield ((y,a)::acc)):=by
      show (if (kd==.free)=true then _ else _)=_;rw[<-isFree_eq,q];show (do let a<-cellOf env y;pure (ForInStep.yield ((y,a)::acc)):Sem _)=_;unfold cellOf;rw[g.2];rfl
     rw[e];refine(ih ((y,a)::acc) h0 λw b e=>?_).imp (λg1 w i e=>?_) λg=>g.elim λclos g=>⟨clos,g.1,g.2.inv,λw e=>g.2.has w (e.elim (λe=>e.elim λi e=>?_) λe=>e.elim λb e=>.inr ?_)⟩
     ·by_cases z:w=y
      ·subst z;rw[List.lookup_cons_self]at e;exact oi e▸g.2
      ·exact inv w b ((lookup_ne z).symm.trans e)
     ·by_cases z:w=y
      ·subst z;rw[ZR]at e;exact oi e▸hcc
      ·exact g1 w i ((ZV z _ _).symm.trans e)
     ·by_cases z:w=y
      ·subst z;exact .inr ⟨a,List.lookup_cons_self⟩
      ·exact .inl ⟨i,(ZV z _ _).symm.trans e⟩
     ·by_cases z:w=y
      ·subst z;exact⟨a,List.lookup_cons_self⟩
      ·exact⟨b,(lookup_ne z).trans e⟩
theorem clo_of{sc:Scope}{cs:List (Str×Nat)}(hc:∀x i,look x f.cells=some i->∃a,L[i]?=some a/\env.cells.lookup x=some a)(h:freeCells f sc.names=some cs)(k:∀clos,closureFor sc env=pure clos->(∀x i,look x cs=some i->∃a,L[i]?=some a/\clos.lookup x=some a)->C):C:=
 (clo_loop (env:=env) hc [] h λx a e=>no e).2.elim λclos g=>k clos (by
  have:closureFor sc env=(forIn sc.names [] (clBody env)>>=λr=>pure r):=rfl;rw[this,g.1];rfl) λx i e=>(hc x i ((clo_loop (env:=env) hc [] h λx a e=>no e).1 x i e)).elim λa q=>(g.2.has x (.inl ⟨i,e⟩)).elim λb w=>⟨a,q.1,w.trans ((g.2.inv x b w).symm.trans q.2)⟩
structure LamP(args:Arguments)(sc:Scope)(ps:List Str):Prop where
 as:∃as,args=⟨[],as,none,[],[],none,[]⟩/\as.map (·.arg)=ps
 nd:ps.Nodup
 k:sc.kind=.function
 co:sc.isCoroutine=false
 ge:sc.isGenerator=false
theorem lamAs_of{args:Arguments}{as:List Arg}(h:lamAs args=some as):args=⟨[],as,none,[],[],none,[]⟩:=by
 cases args with
 |mk po as' va ko kd kw dd=>
  revert h;induction po using c_ with
  |cons _ _=>exact no
  |nil=>induction va with
   |some _=>exact no
   |none=>induction ko using c_ with
    |cons _ _=>exact no
    |nil=>induction kd using c_ with
     |cons _ _=>exact no
     |nil=>induction kw with
      |some _=>exact no
      |none=>induction dd using c_ with
       |cons _ _=>exact no
       |nil=>exactλh=>Ja (λl=>Arguments.mk [] l none [] [] none []) (oi h)
theorem notNot{b:Bool}(h:(!b)=true):b=false:=by revert h;induction b<;>first|exact nb|exactλZ=>rfl
theorem lamPs_of{args:Arguments}{sc:Scope}{ps:List Str}(h:lamPs args sc=some ps):LamP args sc ps:=
 Jo h λas ha h=>Jt h λhk h=>Jr hk λhk h4=>Jr hk λhk h3=>Jr hk λh1 h2=>by
  cases oi h;exact⟨⟨as,lamAs_of ha,rfl⟩,Zn h1,κ h2,notNot h3,notNot h4⟩
theorem vTab_of{w:Option (Nat×Nat×Nat)}(h:vTab ao=some w):ao=.tab w:=WS (c:=AO.tab) (by clear h;induction ao<;>exact rfl) h
theorem tab_at(x:Sit B)(hm:B.G.cx.lam=true){cd:Nat}(h:JE cd t_tabs=some k):∃P,x.L[k]?=some P/\CodeHd B.G.om.hb cd P/\B.G.om.hb.get? P=none:=(B.G.om.codes (cd,k) (lookN_of h)).elim λP g=>⟨P,Jp ((B.G.t2 hm).trans x.r.own) g.1,g.2,by
 have hm:P∈tbs:=Θ g.1;rcases mc_ hm with h|h
 ·exact h▸B.G.om.tb.1
 ·exact ms_ h▸B.G.om.tb.2⟩
theorem lamF{args:Arguments}{sc:Scope}{ps:List Str}(F:LamP args sc ps){x:Sit B}{cs:List (Str×Nat)}{clos:List (Str×Addr)}(hc:∀z i,look z cs=some i->∃a,x.L[i]?=some a/\clos.lookup z=some a){q:Str}{aj:Addr}(hj:x.L[j]?=some aj){nm:Str}{body:Expr}{pm ctv:Value}(L':List Addr)(p:x.L<+:L'):
  FnP L' cs ps body sc j q (kla_obj nm q args body sc clos pm aj ctv) (kla_fn nm q args body sc clos pm (.ref aj) ctv):=
 {o:=rfl,body:=rfl,scope:=rfl,gl:=rfl,bi:=rfl,ps:=F.as.elim λas g=>⟨as,[],[],g⟩,nd:=F.nd,df:=rfl,q:=rfl,code:=⟨aj,Jp p hj,rfl⟩,k:=F.k,co:=F.co,ge:=F.ge,cl:=λz i e=>(hc z i e).elim λa g=>⟨a,Jp p g.1,g.2⟩}
theorem lamA_ok{args:Arguments}{body:Expr}{sc:Scope}(hm:B.G.cx.lam=true)(P:Jn x RV (lamA B.f args body sc pos x.S) Q E):wpAny (Md B) B.A (eval (.Lambda args body sc pos) B.env) Q E x.s:=
 P.ob λps hps P=>P.ob λcs hcs P=>P.ob λc hc P=>P.ifT λhcp P=>P.ob λt ht P=>P.ob λw hw P=>(x.top.fr (JL hcp)).2.elim λfa g=>g.elim λcd g=>clo_of x.top.cl hcs λclos hcl hclk=>(tab_at x hm ht).elim λP0 T=>Jz hw λo0 ho0 hv=>x.own (ao:=.tab w) (vTab_of hv▸ho0) T.1 λo ho p=>by
  have F:=lamPs_of hps;have hg0:x.S.get t=some (.tab w):=vTab_of hv▸ho0;have hq:B.env.qual++"<lambda>"=lamQ B.f:=by rw[g.1];rfl
  have hcode:B.env.code=.ref c:=by rw[g.1];exact g.2 c hc
  have hb:x.s.heap.BuiltinsAt B.G.om.mg P0:=(B.G.om.bat P0 T.2.2).imp λbm q=>q.imp λo q=>⟨q.1,q.2.1,q.2.2.1,q.2.2.2.1,x.base q.2.2.2.2.1,q.2.2.2.2.2⟩;have hgs:=B.G.om.T.g.keeps λb o=>x.base (b:=b) (o:=o);have C:=T.2.1.keeps λb o=>x.base (b:=b) (o:=o);refine kla_eval (F.as.elim λas g=>by rw[g.1];rfl) ?_;rw[hq];induction w with
  |some w=>
   refine Jn.ifT P λh1 P=>P.ifT λh2 P=>p.elim λaj q=>?_;refine kla_makeFunctionHit (mg:=B.G.om.mg) (P:=P0) (ps:=#[rawInt w.1,rawInt w.2.1,.ref aj]) hcl x.top.gl hgs hcode C (q.2▸ho) trivial (cv:=.ref aj) ?_ hb λctv h' tk kp hz=>?_
   ·show codeAmong pos [rawInt w.1,rawInt w.2.1,.ref aj]=_
    rw[nq h1,nq h2];simp[codeAmong,rawInt]
   ·have:=Jn.pushV (x:=x.grow (h':=h') kp tk) (t:=tk) (P.up (ζ _)) (o:=kla_obj "<lambda>" (lamQ B.f) args body sc clos ((B.G.om.mg "__name__").getD .none) aj ctv) ⟨_,lamF F hclk q.1 _ (θ _ _)⟩
    exact this
  |none=>
   have hgP:mainGlobals≠P0:=λz=>B.G.om.T.g.elim λo q=>q.elim λes q=>q.elim λep q=>no (T.2.2.symm.trans (z▸q.1));refine kla_makeFunction (mg:=B.G.om.mg) (P:=P0) (ps:=#[]) hcl x.top.gl hgs hcode C (show _=some (tabObj #[])from (show o=_ from p)▸ho) trivial rfl hgP hb λc' ctv h' tk hx hge hlt hrec htb=>hrec.elim λc2 q=>q.elim λoc q=>q.elim λvs q=>q.elim λtq q=>?_;cases q.1;refine Jn.ob P λS1 e1 P=>P.ob λS2 e2 P=>?_;have C1:=St.set_get e1;have C2:=St.push_get e2;have pp:x.L<+:x.L++[c']:=θ _ _;have go:∀j,j≠t->j≠x.S.n->S2.get j=x.S.get j:=λj h1 h2=>(C2.other j (C1.n▸h2)).trans (C1.other j h1);have q2:(x.L++[c'])[x.S.n]?=some c':=x.r.len▸ZE x.L _;have R':=x.setpush (t:=tk) T.1 (C2.n.trans (Ja (·+1) C1.n)) ((C2.other _ (C1.n▸x.ne_n hg0)).trans C1.self) (C1.n▸C2.self) go (.inr ⟨_,rfl,x.r.new_ hge⟩) hx ⟨_,htb,c',x.r.len▸ZE x.L _,rfl⟩ (an:=.code (lamQ B.f)) ⟨oc,q.2.1,vs,tq,q.2.2⟩
   exact Jn.pushV (x:=x.to R' pp (x.spns hg0 (λZ=>nofun) go)) (t:=tk) (P.up pp) (o:=kla_obj "<lambda>" (lamQ B.f) args body sc clos ((B.G.om.mg "__name__").getD .none) c' ctv) ⟨_,lamF (x:=x.to R' pp (x.spns hg0 (λZ=>nofun) go)) F (λz i e=>(hclk z i e).imp λa g=>⟨Jp pp g.1,g.2⟩) (C1.n▸q2) _ (θ _ _)⟩
variable {d acc:Nat}{Q:SP Unit}{al:Addr}{elt:Expr}{gens:List Comprehension}{sc:Scope}{g:Comprehension}{it av:Value}
def ifsSem(ifs:List Expr)(env:Env):Sem Bool:=List.rec (pure true) (λc cs Z=>List.rec (isTrue c env (eval c env)) (λZ Z Z=>pure true) cs) ifs
theorem tests_eq{ifs:List Expr}(h:ifs.length<=1){Q:SP Bool}(hw:wpAny (model prog w) A (ifsSem ifs env) Q E s):
  wpAny (model prog w) A (forIn ifs true λc r=>if r=true then do let ok<-isTrue c env (eval c env);pure (ForInStep.yield ok)else pure (ForInStep.yield r)) Q E s:=by
 induction ifs using c_ with
 |nil=>exact hw
 |cons c cs=>induction cs using c_ with
  |nil=>exact wpAny_tests_one hw
  |cons _ _=>exact absurd h (by simp)
theorem WN{e:Expr}(h:notSet e=true){env:Env}:∀x,foldedSetIterable e env x=pure x:=by
 revert h;induction e using Expr.casesOn with
 |Set a b c=>exact nb
 |_=>exactλZ Z=>rfl
theorem compStart_(hg:gens[d]?=some g)(ha:g.is_async=0)(h0:codeAny (model prog w) A (.compLoop (.ListComp elt gens sc pos) d it av env) Rr s)
  (h:wpAny (model prog w) A (pyIter it) (λit' s'=>codeAny (model prog w) A (.compLoop (.ListComp elt gens sc pos) d it' av env) Rr s') (notedBy (model prog w) A env λx s'=>Rr (.error x) s') s) :
  codeAny (model prog w) A (.compStart (.ListComp elt gens sc pos) d it av env) Rr s:=by
 refine codeAny_of_tree ?_
 show wpAny _ _ ((compStart (.ListComp elt gens sc pos) d it av env).onRaise (λx=>do noteFrame x env;standAt theWindowsPlace)) _ _ s
 refine wpAny_notedAt ?_
 unfold compStart
 have hc:(clausesOf (.ListComp elt gens sc pos))[d]?=some g:=hg
 simp only[hc,ha,Option.elim,bne_self_eq_false,Bool.false_eq_true,if_false]
 show wpAny _ _ (ask>>=_) _ _ s
 refine Γ (wpAny_askSetting (wpAny_ite ?_))
 split
 ·first
   |exact Γ (Δ (Δ (And.intro rfl h0)))
   |exact Δ (And.intro rfl h0)
 ·first
   |exact Γ (wpAny_rule (Γ (ϙ (Γ (ι h (λit' s' h'=>Δ (And.intro rfl h')) λZ Z x=>x)))))
   |(refine Γ (wpAny_rule ?_);show wpAny _ _ (standAt g.iter.pos>>=_) _ _ s;exact Γ (ϙ (Γ (ι h (λit' s' h'=>Δ (And.intro rfl h')) λZ Z x=>x))))
theorem self_ok(hi:itOk x.S i=true)(ha:x.L[i]?=some ad){Q1:SP Value}(h:Q1 (.ref ad) x.s):wpAny (Md B) A (pyIter (.ref ad)) Q1 E1 x.s:=by
 have hi:(Option.rec false (λo=>isIt o) (x.S.get i):Bool)=true:=hi;induction hg:x.S.get i with
 |none=>rw[hg]at hi;exact nb hi
 |some ao=>
  rw[hg]at hi;refine x.own hg ha λo ho p=>?_;induction ao with
  |lit l k=>exact p.elim λal q=>wpAny_pyIter_listiter ⟨o,ho,q.2⟩ h
  |lio l k=>exact wpAny_pyIter_listiter ⟨o,ho,p⟩ h
  |sit z k=>exact p.elim λt q=>wpAny_pyIter_striter_ascii ⟨o,ho,q⟩ h
  |rit n z=>exact wpAny_pyIter_rangeiter (p _ ho) h
  |eit j k=>exact p.elim λaj q=>q.elim λold q=>wpAny_pyIter_enum (q.2 _ ho) h
  |tit l k=>exact p.elim λal q=>wpAny_pyIter_tupleiter ⟨o,ho,q.2⟩ h
  |dit d k n=>exact p.elim λal q=>wpAny_pyIter_keyiter ⟨o,ho,q.2⟩ h
  |_=>exact nb hi
noncomputable abbrev Nt_(M:Model)(A:Around)(env:Env)(Rr:Result->Shared->Prop):SP Value:=notedBy M A env λe s'=>Rr (.error e) s'
def InnerQ(M:Model)(A:Around)(env:Env)(elt:Expr)(ec:Expr)(d:Nat)(it av:Value)(Rr:Result->Shared->Prop)(g:Option Comprehension)(s:Shared):Prop:=
 Option.rec (wpAny M A (eval elt env) (λx s₄=>wpAny M A (call (.builtin "list.append") [av,x]) (λZ s₅=>codeAny M A (.compLoop ec d it av env) Rr s₅) (Nt_ M A env Rr) s₄) (Nt_ M A env Rr) s)
  (λg'=>wpAny M A (eval g'.iter env) (λx s₄=>((∀y,foldedSetIterable g'.iter env y=pure y)/\g'.is_async=0)/\wpAny M A (pyIter x) (λit' s₅=>wpAny M A (runOwn (.compStart ec (d+1) it' av env) env) (λZ s₆=>codeAny M A (.compLoop ec d it av env) Rr s₆) (Nt_ M A env Rr) s₅) (Nt_ M A env Rr) s₄) (Nt_ M A env Rr) s) g
theorem compStep(hg:gens[d]?=some g)(ha:g.is_async=0)(hi:g.ifs.length<=1)
  (h:wpAny (model prog w) A (pyNext (.ref ad)) (NxQ (model prog w) A g.target ad (Nt_ (model prog w) A env Rr) (λs=>Rr (.ok .next) s) λv s=>wpAny (model prog w) A (assign g.target env v) (λZ s₂=>wpAny (model prog w) A (ifsSem g.ifs env) (λok s₃=>
    Bool.rec (codeAny (model prog w) A (.compLoop (.ListComp elt gens sc pos) d (.ref ad) av env) Rr s₃) (InnerQ (model prog w) A env elt (.ListComp elt gens sc pos) d (.ref ad) av Rr (gens[d+1]?) s₃) ok) (Nt_ (model prog w) A env Rr) s₂) (Nt_ (model prog w) A env Rr) s) (Nt_ (model prog w) A env Rr) s) :
  codeAny (model prog w) A (.compLoop (.ListComp elt gens sc pos) d (.ref ad) av env) Rr s:=by
 refine codeAny_of_tree ?_
 show wpAny _ A ((compTurn (.ListComp elt gens sc pos) d (.ref ad) av env).onRaise (λx=>do noteFrame x env;theTreesLotGoes x)) _ _ s
 refine wpAny_noted ?_
 unfold compTurn
 simp only[hg,ha,bne_self_eq_false,Bool.false_eq_true,if_false]
 refine Γ (ϙ (Γ (ι h (λr s₁ h₁=>?_) λZ Z h'=>h')))
 induction r with
 |none=>exact Δ h₁
 |some v=>
  refine Γ (ι h₁ (λZ s₁' h₁'=>Γ (ι h₁' (λZ s₂ h₂=>?_) λZ Z h'=>h')) λZ Z h'=>h')
  refine Γ (ι (tests_eq hi h₂) (λok s₃ h₃=>?_) λZ Z h'=>h')
  induction ok with
  |false=>
   simp only[Bool.false_eq_true,if_false]
   first|exact Δ ⟨rfl,h₃⟩|exact Γ (Δ (Δ ⟨rfl,h₃⟩))
  |true=>
   simp only[if_true]
   have h₃:InnerQ (model prog w) A env elt (.ListComp elt gens sc pos) d (.ref ad) av Rr (gens[d+1]?) s₃:=h₃
   induction hq:gens[d+1]? with
   |none=>
    rw[hq]at h₃
    exact Γ (Γ (ι h₃ (λx s₄ h₄=>Γ (ι h₄ (λZ s₅ h₅=>Δ (Δ ⟨rfl,h₅⟩)) λZ Z h'=>h')) λZ Z h'=>h'))
   |some g'=>
    rw[hq]at h₃
    refine Γ (ι h₃ (λx s₄ h₄=>?_) λZ Z h'=>h')
    obtain ⟨⟨f1,f2⟩,h₄⟩:=h₄
    simp only[f2,bne_self_eq_false,Bool.false_eq_true,if_false]
    refine Γ (ϙ (Γ (wpAny_of_eq (f1 x) (Γ (ω (ι h₄ (λit' s₅ h₅=>?_) λZ Z h'=>h'))))))
    exact Γ (ι h₅ (λZ s₆ h₆=>Δ ⟨rfl,h₆⟩) λZ Z h'=>h')
structure GenP(g:Comprehension):Prop where
 ns:notSet g.iter=true
 as:g.is_async=0
 ifs:g.ifs.length<=1
structure LcP(sc:Scope)(gens:List Comprehension):Prop where
 nd:(sc.names.map (·.1)).Nodup
 k:sc.kind=.function
 cell:∀x∈sc.names,x.2≠.cell
 g:∀g∈gens,GenP g
theorem lcOk_of(h:lcOk sc gens=true):LcP sc gens:=
 Jr h λh h4=>Jr h λh h3=>Jr h λh1 h2=>⟨Zn h1,κ h2,λx hx e=>by
  have:=al_ h3 x hx;rw[e]at this;exact nb this,λg hg=>Jr (al_ h4 g hg) λh h3=>Jr h λh1 h2=>⟨h1,κ h2,nl h3⟩⟩
theorem ifs_ok(hr:Hr n r)(m:Rm B n){ifs:List Expr}{kk:Bool->St->R}{Qa:SP α}(P:Jn x ρ (xo selB (ifsA (r B.G.cx) B.f ifs x.S) kk) Qa E){Q1:SP Bool}(h:∀x1 b,x.le x1->Jn x1 ρ (kk b x1.S) Qa E->Q1 b x1.s):wpAny (Md B) B.A (ifsSem ifs B.env) Q1 E1 x.s:=by
 induction ifs using c_ with
 |nil=>exact Δ (h x true (Sit.le.refl x) P)
 |cons c cs=>induction cs using c_ with
  |nil=>exact hr.tst m (Jn.xB P h)
  |cons _ _=>exact P.elim
theorem end_mono{M:Model}{cd:Code}{K:Shared->Prop}(h:codeAny M A cd (Zt λZ s=>K s) s){R':Result->Shared->Prop}(k:∀f s,K s->R' (.ok f) s):codeAny M A cd R' s:=codeAny_mono h λr s z=>by induction r<;>first|exact k _ _ z|exact z.elim
theorem inner_ok(hr:Hr n r)(m:Rm B n)(F:LcP sc gens)(ha:x.L[i]?=some ad)(hb:x.L[acc]?=some al)(P:Jn x RU (compIn B.G.cx (r B.G.cx) B.f (.ListComp elt gens sc pos) elt d i acc x.S (gens[d+1]?)) Q E):
  InnerQ (Md B) B.A B.env elt (.ListComp elt gens sc pos) d (.ref ad) (.ref al) (Zt λZ=>Q ()) (gens[d+1]?) x.s:=by
 induction hg:gens[d+1]? with
 |none=>
  rw[hg]at P
  refine hr.ev m (Jn.xV P λx1 a u p1 d1 P=>P.ob λvs hvs P=>P.ifT λhs P=>Jz hvs λo ho hv=>?_)
  refine ownS (Zf hv▸ho) (Jp p1 hb) hs λxs k O=>append_at O.h (λh' hs' ho'=>?_) (ZW O.le)
  exact Jn.setS (t:=x1.s.toks) P O.a hs' ho' ⟨_,_,rfl,by rw[Array.toList_push];exact Jq.append O.d (Jq.cons d1 Jq.nil)⟩ (nns O.g rfl) λx2 p2 e2 Z P=>e2▸hr.comp m (Jp p2 (Jp p1 ha)) (Jp p2 (Jp p1 hb)) P
 |some g'=>
  rw[hg]at P
  have G':=F.g g' (Θ hg)
  refine hr.ev m (Jn.xV P λx1 a u p1 d1 P=>⟨⟨WN G'.ns,G'.as⟩,iterR_ok P d1 λx2 j aj p2 hj P=>P.ifT λhi P=>wpAny_runOwn ?_⟩)
  have ha2:=Jp p2 (Jp p1 ha)
  have hb2:=Jp p2 (Jp p1 hb)
  have main:=hr.comp (Q:=λZ s=>codeAny (Md B) B.A (.compLoop (.ListComp elt gens sc pos) d (.ref ad) (.ref al) B.env) (Zt λZ=>Q ()) s) (E:=E) m hj hb2 (Jn.xN P λx3 p3 P=>hr.comp m (Jp p3 ha2) (Jp p3 hb2) P)
  refine compStart_ hg G'.as (end_mono main λf s z=>z) (self_ok hi hj (end_mono main λf s z=>z))
theorem comp_ok(hr:Hr n r)(m:Rm B n)(ha:x.L[i]?=some ad)(hb:x.L[acc]?=some al)(P:Jn x RU (compX B.G.cx (r B.G.cx) B.f e d i acc x.S) Q E):codeAny (Md B) B.A (.compLoop e d (.ref ad) (.ref al) B.env) (Zt λZ=>Q ()) x.s:=by
 revert P;induction e using Expr.casesOn with
 |ListComp elt gens sc pos=>
  refineλP=>Jn.ob P λg hg P=>P.ifT λhh P=>P.ifT λht P=>P.ifT λhcp P=>P.ifT λhlc P=>?_;have F:=lcOk_of hlc;have G:=F.g g (Θ hg);refine compStep hg G.as G.ifs (next_ok ⟨λx' p P=>P.next,λx1 v u p1 d1 P=>hr.asg m d1 (P.xN λx2 p2 P=>ifs_ok hr m P λx3 b p3 P=>?_)⟩ ht (B.hdl (JL hh)) ha P);have ha3:=Jp p3 (Jp p2 (Jp p1 ha));have hb3:=Jp p3 (Jp p2 (Jp p1 hb));induction b with
  |false=>exact hr.comp m ha3 hb3 P
  |true=>exact inner_ok hr m F ha3 hb3 P
 |_=>exact False.elim
variable {gs:List Comprehension}
theorem lookup_nodup:∀{l:List (Str×NameKind)},(l.map (·.1)).Nodup->∀x∈l,l.lookup x.1=some x.2:=by
 intro l;induction l with
 |nil=>exactλZ x h=>absurd h Ξ
 |cons p l ih=>
  intro nd x h;rw[List.map_cons,List.nodup_cons]at nd;refine(mc_ h).elim (λe=>?_) λh=>?_
  ·rw[e,Jd,Jm]
  ·rw[Jd,show (x.1==p.1)=false from beq_eq_false_iff_ne.mpr λe=>nd.1 (e▸ϕ (f:=(·.1)) h)];exact ih nd.2 x h
def Gone(l:Addr)(K:Shared->Prop)(s:Shared):Prop:=∃m,s.heap.Ns l m/\∀h' m',h'.Ns l m'->Heap.SameBut l s.heap h'->K {s with heap:=h'}
def LcR(U:Shared->Prop)(r:Result)(s':Shared):Prop:=match r with|.ok _=>U s'|.error _=>False
def LcIn(M:Model)(A:Around)(e:Expr)(sc:Scope)(env:Env)(cl:List (Str×Addr))(E:SP Value)(U:Value->Addr->Shared->Prop)(x:Value)(s₁:Shared):Prop:=
 wpAny M A (pyIter x) (λit s₂=>wpAny M A (newList []) (λacc s₃=>wpAny M A (newFunctionEnv sc env.globals cl [] env.qual none .none (some env)) (λcenv s₄=>
  codeAny M A (.compStart e 0 it acc {cenv with scope:=relabel sc env}) (LcR (U acc cenv.locals)) s₄) E s₃) E s₂) E s₁
theorem lcGen{M:Model}{first:Sem Value}{cl:List (Str×Addr)}{Q:SP Value}
  (hcl:clausesOf e=g::gs) (hs:∀x,foldedSetIterable g.iter env x=pure x) (hclos:closureFor sc env=pure cl)
  (hkind:sc.kind=.function) (hnames:∀x∈sc.names,x.2=.local->sc.names.lookup x.1=some .local)
  (h:wpAny M A first (LcIn M A e sc env cl E λacc l=>Gone l (Q acc)) E s) :
  wpAny M A (comprehension e sc env pos (newList []) false first none) Q E s:=by
 unfold comprehension
 rw[hclos,hcl]
 refine Γ (ι h (λx s₁ h₁=>Γ (ϙ (Γ (wpAny_of_eq (hs x) (Γ (ω (ι h₁ (λit s₂ h₂=>
  wpAny_standIf (Γ (ι h₂ (λacc s₃ h₃=>Γ (Δ (Γ (ι h₃ (λcenv s₄ h₄=>?_) λZ Z h'=>h')))) λZ Z h'=>h')))
   λZ Z h'=>h'))))))) λZ Z h'=>h')
 dsimp only
 have hv:∀x∈(sc.names.filter λx=>(x.2==.local||x.2==.cell)&&x.1 !=(".0":Str)).reverse,x.2=.local->
   Env.kindOf {cenv with scope:=relabel sc env} x.1=some .local:=λx hx hl=>lookup_relabel_local (hnames x (List.mem_filter.mp (List.mem_reverse.mp hx)).1 hl)
 refine ω (Γ (wpAny_attempt (ω (wpAny_run (codeAny_mono h₄ λr s' hr=>?_)))))
 induction r with
 |ok f=>exact hr.elim λm hr=>Γ (ω (wpAny_comp_letGo (cenv:={cenv with scope:=relabel sc env}) hkind _ s' m hv hr.1 λh' m' hn' hs'=>Δ (hr.2 h' m' hn' hs')))
 |error x=>exact hr.elim
theorem lcGenU{M:Model}{first:Sem Value}{cl:List (Str×Addr)}{use:Value->Sem Unit}{Q:Shared->Prop}
  (hcl:clausesOf e=g::gs) (hs:∀x,foldedSetIterable g.iter env x=pure x) (hclos:closureFor sc env=pure cl)
  (hkind:sc.kind=.function) (hnames:∀x∈sc.names,x.2=.local->sc.names.lookup x.1=some .local)
  (h:wpAny M A first (LcIn M A e sc env cl E λacc l s=>wpAny M A (use acc) (λZ s5=>Gone l Q s5) E s) E s) :
  wpAny M A (comprehension e sc env pos (newList []) false first (some use)) (λZ s=>Q s) E s:=by
 unfold comprehension
 rw[hclos,hcl]
 refine Γ (ι h (λx s₁ h₁=>Γ (ϙ (Γ (wpAny_of_eq (hs x) (Γ (ω (ι h₁ (λit s₂ h₂=>
  wpAny_standIf (Γ (ι h₂ (λacc s₃ h₃=>Γ (Δ (Γ (ι h₃ (λcenv s₄ h₄=>?_) λZ Z h'=>h')))) λZ Z h'=>h')))
   λZ Z h'=>h'))))))) λZ Z h'=>h')
 dsimp only
 have hv:∀x∈(sc.names.filter λx=>(x.2==.local||x.2==.cell)&&x.1 !=(".0":Str)).reverse.drop 1++(sc.names.filter λx=>(x.2==.local||x.2==.cell)&&x.1 !=(".0":Str)).reverse.take 1,x.2=.local->
   Env.kindOf {cenv with scope:=relabel sc env} x.1=some .local:=λx hx hl=>lookup_relabel_local (hnames x (List.mem_filter.mp (List.mem_reverse.mp ((ma_ hx).elim List.mem_of_mem_drop List.mem_of_mem_take))).1 hl)
 refine ω (Γ (wpAny_attempt (ω (wpAny_run (codeAny_mono h₄ λr s' hr=>?_)))))
 induction r with
 |ok f=>
  refine Γ (wpAny_rule (Γ (ω (ι hr (λZ s5 h5=>?_) λZ Z x=>x))))
  exact h5.elim λm hr=>Γ (wpAny_comp_letGo (cenv:={cenv with scope:=relabel sc env}) hkind _ s5 m hv hr.1 λh' m' hn' hs'=>Δ (hr.2 h' m' hn' hs'))
 |error x=>exact hr.elim
theorem relA_eq(h:env.scope=B.f.sc):relabel sc env=relA B.f sc:=by
 unfold relA relabel Env.kindOf;rw[h];rfl
noncomputable abbrev Bd.lc(B:Bd)(f':FrA)(env':Env)(h:f'.cp=true):Bd:=⟨B.G,B.A,B.f,B.env,(f',env')::B.below,by
 have:Jv ((B.f,B.env)::(f',env')::B.below)=Jv ((B.f,B.env)::B.below):=by
  have q:Jv ((f',env')::B.below)=Jv B.below:=by show (Bool.rec _ _ f'.cp:List Env)=_;rw[h];rfl
  show (Bool.rec (B.env::Jv ((f',env')::B.below)) (Jv ((f',env')::B.below)) B.f.cp:List Env)=_;rw[q];rfl
 rw[this];exact B.fr,B.hdl⟩
theorem lc_sub{f':FrA}{env':Env}{L:List Addr}{S:St}(h:WY L S ((B.f,B.env)::(f',env')::B.below)):WY L S ((B.f,B.env)::B.below):=λp hp=>(mc_ hp).elim (λe=>h p (e▸.head _)) λq=>h p (.tail _ (.tail _ q))
theorem WY.swap{L:List Addr}{S:St}{p q:FrA×Env}{l:List (FrA×Env)}(h:WY L S (p::q::l)):WY L S (q::p::l):=λw hw=>(mc_ hw).elim (λe=>h w (e▸.tail _ (.head _))) λhw=>(mc_ hw).elim (λe=>h w (e▸.head _)) λhw=>h w (.tail _ (.tail _ hw))
theorem gone_ok{f':FrA}{env':Env}{hcp:f'.cp=true}{y:Sit (B.lc f' env' hcp)}(p:x.L<+:y.L){k:St->R}(P:Jn (x.out y p lc_sub) ρ (setR y.S f'.l .dead k) Qa E)(hne:∀q∈(B.f,B.env)::B.below,q.1.l≠f'.l){K:Shared->Prop}(h:∀x':Sit B,y.L<+:x'.L->Jn x' ρ (k x'.S) Qa E->K x'.s):Gone env'.locals K y.s:=by
 have F:=y.ok (f',env') (.tail _ (.head _));refine F.2.elim λes hg=>y.own hg F.1.loc λo ho q=>q.ns_ λm hb hm ok=>⟨m,nsP_at ho hm,λh' m' hn hs=>?_⟩;refine Jn.ob P λS' e P=>hn.elim λo2 q=>q.elim λes2 q=>q.elim λep q=>?_;have Ch:=St.set_get e;have R':=y.r.step (t:=y.s.toks) Ch (.inl rfl) y.r.len (λb o' hb e=>(hs.2 b λz=>hb (z▸F.1.loc)).trans e) ⟨_,o2,F.1.loc,q.1,trivial⟩ λj h1 h2=>absurd h2 (ϖ h1);exact h ⟨S',y.L,{y.s with heap:=h'},R',λw hw=>⟨(lc_sub (B:=B) (f':=f') (env':=env') y.ok w hw).1,(lc_sub (B:=B) (f':=f') (env':=env') y.ok w hw).2.elim λes e=>⟨es,(Ch.other _ (hne w hw)).trans e⟩⟩,y.he⟩ (ζ _) (P.up (ζ _))
theorem lcIn_ok(hr:Hr n r)(m:Rm B n){fin:Nat->St->(St->R)->R}{kk:Nat->St->R}{cs:List (Str×Nat)}{cl:List (Str×Addr)}{U:Value->Addr->Shared->Prop}(F:LcP sc (g::gs))
  (P:Jn x ρ (iterR B.G.cx x.S a λi S=>pushR S (.list []) λa S=>pushR S (.ns []) λl S=>ifT (itOk S i) (xo selN (r B.G.cx (.comp ⟨relA B.f sc,l,cs,B.f.hd,B.f.code,B.f.cn,B.f.he,true⟩ (.ListComp elt (g::gs) sc pos) 0 i a) S) λZ S=>fin a S λS=>setR S l .dead λS=>kk a S)) Qa E) (dx:x.D a u)
  (hcc:∀z i,look z cs=some i->∃a,x.L[i]?=some a/\cl.lookup z=some a)
  (h:∀f' env' hcp (y:Sit (B.lc f' env' hcp)) a al (p:x.L<+:y.L),y.L[a]?=some al->(∀q∈(B.f,B.env)::B.below,q.1.l≠f'.l)->Jn (x.out y p lc_sub) ρ (fin a y.S λS=>setR S f'.l .dead λS=>kk a S) Qa E->U (.ref al) env'.locals y.s) :
  LcIn (Md B) B.A (.ListComp elt (g::gs) sc pos) sc B.env cl E1 U u x.s:=by
 refine iterR_ok P dx λx2 i ai p2 hi P=>wpAny_newObj_type ?_
 refine P.pushR (t:=x2.s.toks) (o:={cls:=.type "list",data:=.seq ([]:List Value).toArray}) ⟨#[],0,rfl,Jq.nil⟩ rfl λx3 p3 e3 eL3 q3 P=>e3▸wpAny_newFunctionEnv F.cell (λy hy=>by simp at hy) (λh₁ hns hsb=>?_) F.k
 have kp:∀b o,x3.s.heap.get? b=some o->h₁.get? b=some o:=λb o e=>(hsb.2 b (Jl (ϱ e))).trans (η _ e)
 refine hns.elim λo q=>q.elim λes q=>q.elim λep q=>?_
 refine P.pushAtG (t:=x3.s.toks) (x3.r.new_ (Ϙ _)) kp q.1 ⟨Nat.le_of_lt x3.big,_,⟨es,ep,q.2⟩,λZ Z e=>no e⟩ λx4 p4 e4 eL4 q4 g4 P=>P.ifT λhit P=>?_
 have hai:=Jp p4 (Jp p3 hi)
 have hac:=Jp p4 q3
 have p24:=p2.trans (p3.trans p4)
 let f':FrA:=⟨relA B.f sc,x3.S.n,cs,B.f.hd,B.f.code,B.f.cn,B.f.he,true⟩
 let env':Env:={(newEnv sc x3.s.heap.objs.size B.env.globals cl B.env.qual none .none (some B.env) builtinsNs)with scope:=relabel sc B.env}
 let Bc:Bd:=⟨B.G,B.A,f',env',(B.f,B.env)::B.below,B.fr,B.hdl⟩
 let y0:Sit Bc:=⟨x4.S,x4.L,x4.s,x4.r,λp hp=>(mc_ hp).elim (λe=>e▸⟨⟨F.k,relA_eq x.top.sc,x.top.gl,x.top.bi,q4,λz=>(nomatch z),λz i e=>(hcc z i e).imp λa q=>⟨Jp p24 q.1,q.2⟩⟩,⟨_,g4⟩⟩) λhp=>x4.ok p hp,x4.he⟩
 have m':Rm Bc n:=⟨⟨m.room.dep,m.room.un⟩,m.ora⟩
 have main:=hr.comp (B:=Bc) (x:=y0) (Q:=λZ s=>U (.ref x2.s.heap.objs.size) x3.s.heap.objs.size s) (E:=E1) m' hai hac (Jn.enter (x:=x4) (K:=λo S=>Option.rec .no (λZ=>fin x2.S.n S λS=>setR S x3.S.n .dead λS=>kk x2.S.n S) (selN o)) P (ζ _) (λZ Z h p hp=>h p (.tail _ hp)) λy o q P=>⟨λu ru=>by
  subst ru;exact h f' env' rfl ⟨y.S,y.L,y.s,y.r,WY.swap y.ok,y.he⟩ _ _ (p24.trans q) (Jp q hac) (λw hw=>(x3.ok w hw).2.elim λes e=>x3.ne_n e) (P.up (ζ _)),λi a e ha=>by subst e;exact P.elim⟩)
 rw[show ({x3.s with heap:=h₁,toks:=x3.s.toks+([]:List (Str×Value)).length}:Shared)=x4.s from e4.symm]
 exact compStart_ rfl (F.g g (.head _)).as (end_mono main λf s z=>z) (self_ok hit hai (end_mono main λf s z=>z))
theorem head_of(h:gens.head?=some g)(k:∀gs,gens=g::gs->C):C:=by
 induction gens using c_ with
 |nil=>exact no h
 |cons g0 gs=>exact k gs (by rw[oi h])
theorem lcE_ok(hr:Hr n r)(m:Rm B n){Q:SP Value}(P:Jn x RV (evE (.ListComp elt gens sc pos) B.G.cx (r B.G.cx) B.f x.S) Q E):wpAny (Md B) B.A (eval (.ListComp elt gens sc pos) B.env) Q E x.s:=
 Jn.ob P λg hg P=>P.ifT λhlc P=>P.ob λcs hcs P=>head_of hg λgs e=>by
  subst e;have F:=lcOk_of hlc;have G:=F.g g (.head _);refine clo_of x.top.cl hcs λclos hcl hclk=>?_;have fa:firstAsync (g::gs)=false:=by
   obtain ⟨_,_,_,a⟩:=g;show (a !=0)=false;rw[show a=0 from G.as];rfl
  have fi:firstIter (g::gs) B.env=eval g.iter B.env:=by obtain ⟨_,_,_,_⟩:=g;rfl
  rw[eval_ListComp,fa,fi];exact lcGen (g:=g) (gs:=gs) rfl (WN G.ns) hcl F.k (λx hx e=>by rw[lookup_nodup F.nd x hx,e]) (hr.ev m (P.onV λx1 a u p1 d1 P=>lcIn_ok (fin:=λZ S k=>k S) (kk:=λa S=>.ok (.v (.loc a)) S) hr m F P d1 (λz i e=>(hclk z i e).imp λa q=>⟨Jp p1 q.1,q.2⟩) λf' env' hcp y a al p ha hne P=>gone_ok p P hne λx' p' P=>P.val ⟨al,Jp p' ha,rfl⟩))
variable {Q:SP Flow}
theorem lcN_el{t e:Expr}{C:Expr->Expr->Prop}{cx:Cx}{r:Cm->St->R}{f:FrA}{S:St}(P:Jn x RF (lcN t e cx r f S) Q E)(k:∀z p elt gens sc q,C (.Name z p) (.ListComp elt gens sc q)):C t e:=by
 revert P;induction t using Expr.casesOn with
 |Name z p=>induction e using Expr.casesOn with
  |ListComp elt gens sc q=>exactλZ=>k z p elt gens sc q
  |_=>exact False.elim
 |_=>exact False.elim
theorem lcN_ok(hr:Hr n r)(m:Rm B n)(hsw:swapsWithSole [t] e pos.line (ZY B.f.sc)=pure true)(P:Jn x RF (lcN t e B.G.cx (r B.G.cx) B.f x.S) Q E):wpAny (Md B) B.A (exec (.Assign [t] e pos) B.env) Q E x.s:=by
 refine lcN_el (C:=λt e=>swapsWithSole [t] e pos.line (ZY B.f.sc)=pure true->Jn x RF (lcN t e B.G.cx (r B.G.cx) B.f x.S) Q E->wpAny (Md B) B.A (exec (.Assign [t] e pos) B.env) Q E x.s) P (λz p elt gens sc cpos hsw P=>?_) hsw P;refine Jn.ob P λg hg P=>P.ifT λhlc P=>P.ob λcs hcs P=>head_of hg λgs e=>?_;subst e;have F:=lcOk_of hlc;have G:=F.g g (.head _);refine clo_of x.top.cl hcs λclos hcl hclk=>?_;have fa:firstAsync (g::gs)=false:=by
  obtain ⟨_,_,_,a⟩:=g;show (a !=0)=false;rw[show a=0 from G.as];rfl
 have fi:firstIter (g::gs) B.env=eval g.iter B.env:=by obtain ⟨_,_,_,_⟩:=g;rfl
 rw[exec_Assign_arm];refine Γ (ϙ ?_);rw[sole_env0,x.top.sc,hsw];refine Γ (Δ ?_);rw[if_pos rfl];unfold evalThenUse;dsimp only;rw[fa,fi];refine Γ (Γ (ι (lcGenU (Q:=λs'=>Q .next s') (g:=g) (gs:=gs) rfl (WN G.ns) hcl F.k (λx hx e=>by rw[lookup_nodup F.nd x hx,e]) ?_) (λZ s' z=>Δ (Δ z)) λZ Z z=>z));refine hr.ev m (P.xV λx1 a u p1 d1 P=>lcIn_ok (fin:=λa S k=>ob (Wi B.f S z (.loc a)) k) (kk:=λZ S=>.ok .next S) hr m F P d1 (λz i e=>(hclk z i e).imp λa q=>⟨Jp p1 q.1,q.2⟩) λf' env' hcp y a al py ha hne P=>?_);show wpAny _ _ (assign (.Name z p) B.env (.ref al)) _ _ _;refine wpAny_assign_Name (Jn.ob P λS3 e3 P=>?_);have P2:Jn y RU (ob (Wi B.f y.S z (.loc a)) λS=>.ok .next S) (λZ s=>Gone env'.locals (λs=>Q .next s) s) E:=by
  rw[show Wi B.f y.S z (.loc a)=some S3 from e3];exactλy3 q eS=>⟨λZ Z=>by subst eS;exact gone_ok (x:=x1) (τ py q) (P.up q) hne λx' p' P=>P.nextF,λi a e=>nomatch e⟩
 exact store_ok (B:=B.lc f' env' hcp) (x:=y) (k:=λS=>.ok .next S) P2 ⟨al,ha,rfl⟩ λx' p' Z P=>P.next
theorem own_done{cd:Code}{M:Model}(h:codeAny M A cd (Zt Q) s):codeAny M A cd (λr s'=>match r with|.ok f=>Q f s'|.error e=>cameBackBy M A env E e s') s:=
 codeAny_mono h λr s' z=>by induction r<;>first|exact z|exact z.elim
theorem exE_ok(hr:Hr n r)(m:Rm B n){st:Stmt}(P:Jn x RF (exE st B.f.sc B.G.cx (r B.G.cx) B.f x.S) Q E):wpAny (Md B) B.A (exec st B.env) Q E x.s:=by
 revert P;induction st using Stmt.casesOn with
 |Expr e pos=>exact exprS_ok hr m
 |Return o pos=>
  induction o with
  |none=>exactλP=>wpAny_Return_none (Jn.retF P (show Value.none=_ from rfl))
  |some e=>exactλP=>wpAny_Return_some (hr.ev m (Jn.onV P λx1 a u p1 d1 P=>P.retF d1))
 |Assign ts e pos=>
  induction ts using c_ with
  |nil=>exact False.elim
  |cons t ts=>induction ts using c_ with
   |nil=>exact asgS_ok hr m (λh P=>lcN_ok hr m h P)
   |cons _ _=>exact False.elim
 |If t a b pos=>exactλP=>wpAny_If (hr.tst m (Jn.onB P λx1 b p1 P=>by induction b<;>exact exs_ok hr m P))
 |While t body els pos=>
  induction els using c_ with
  |nil=>exactλP=>wpAny_While (own_done (hr.loop m P))
  |cons _ _=>exact False.elim
 |For t it body els pos=>
  induction els using c_ with
  |nil=>exactλP=>Jn.ifT P λhs P=>wpAny_For (hr.ev m (P.onV λx1 a u p1 d1 P=>iterR_ok P d1 λx2 j aj p2 hj P=>own_done (hr.each m hj P))) (WN hs)
  |cons _ _=>exact False.elim
 |Raise e c pos=>
  induction e with
  |none=>exact False.elim
  |some e=>induction c with
   |none=>exact raise_ok hr m
   |some _=>exact False.elim
 |Try body hs els fin pos=>
  induction els using c_ with
  |cons _ _=>exact False.elim
  |nil=>induction fin using c_ with
   |nil=>exact try_ok hr m
   |cons _ _=>exact False.elim
 |_=>exact False.elim
theorem step_ok(hr:Hr n r):Hr (n+1) (λcx c S=>step cx (r cx) c S) where
 ev m P:=evE_ok hr m.dn (λhm P=>lamA_ok hm P) (λP=>lcE_ok hr m.dn P) P
 tst m P:=tstE_ok hr m.dn P
 ex m P:=exE_ok hr m.dn P
 call m da d P:=callX_ok hr m P da d
 asg m d P:=asg_ok hr m.dn P d
 loop m P:=loop_ok hr m.dn P
 each m ha P:=each_ok hr m.dn ha P
 comp m ha hb P:=comp_ok hr m.dn ha hb P
theorem Wl:∀n,Hr n (λcx=>run cx n):=by
 intro v0_;induction v0_ with
 |zero=>
  exact⟨λZ P=>P.elim,λZ P=>P.elim,λZ P=>P.elim,λZ Z Z P=>P.elim,λZ Z P=>P.elim,λZ P=>P.elim,λZ Z P=>P.elim,λZ Z Z P=>P.elim⟩
 |succ n ih=>
  exact step_ok (ih )
end Internal
namespace Internal
section
variable {h:Heap}{ts:List Addr}{a b:Addr}{o:Obj}
def hide1(h:Heap)(a:Addr):Heap:=h.update a λZ=>⟨.none,none,.freed,#[]⟩
set_option tactic.hygienic true in
theorem hide1_self(h:Heap)(a:Addr):(hide1 h a).get? a=none:=by
 unfold hide1;cases h;simp only[Heap.update,Heap.get?,Array.getElem?_modify,if_true];rename_i objs life;cases e:objs[a]?<;>rfl
def WT(h:Heap)(ts:List Addr):Heap:=List.rec h (λa Z ih=>hide1 ih a) ts
theorem ZL:∀{ts:List Addr},b∈ts->(WT h ts).get? b=none
 |a::r,hm=>by
  by_cases q:b=a
  ·exact q▸hide1_self _ _
  ·exact(Heap.get?_update_other _ _ (Ne.symm q)).trans (ZL ((mc_ hm).resolve_left q))
theorem hides_out:∀{ts:List Addr},b∉ts->(WT h ts).get? b=h.get? b:=by
 intro v0_;induction v0_ with
 |nil=>
  intro Z;exact rfl
 |cons a r ih=>
  intro hm;exact(Heap.get?_update_other (WT h r) _ λq:a=b=>hm (by rw[q];exact .head _)).trans (ih λw=>hm (.tail _ w))
theorem hides_sub(e:(WT h ts).get? b=some o):h.get? b=some o:=by
 by_cases q:b∈ts
 ·exact no ((ZL q).symm.trans e)
 ·exact(hides_out q).symm.trans e
theorem Wq(e:h.get? b=some o)(q:b∉ts):(WT h ts).get? b=some o:=(hides_out q).trans e
variable {om:Om}{A:Around}{s s':Shared}{k K n:Nat}{out:List Env}{own L':List Addr}{nm:Nt}{u:Nat->Bool}{cx:Cx}{S S':St}{c:R}{φ ψ:Out->St->Prop}{Q E:SP Value}{env:Env}
def Fre(out:List Env)(l:List Addr):Prop:=∀e∈out,∀a,e.frame=some a->a∉l
structure View(om:Om)(s:Shared)(out:List Env)(q:Addr×(Str->Option Value)):Prop where
 h:∃o,s.heap.get? q.1=some o/\nsP q.2 o
 sz:om.hb.objs.size<=q.1
 e:∃e∈out,e.frame=some q.1
def FrsOk(om:Om)(s:Shared)(out:List Env):Prop:=∀e∈out,e.scope.kind≠.module/\∃a m o,e.frame=some a/\s.heap.get? a=some o/\nsP m o/\om.hb.objs.size<=a
theorem views:∀{out:List Env},FrsOk om s out->∃l:List (Addr×(Str->Option Value)),(∀e∈out,e.scope.kind≠.module/\∃q∈l,e.frame=some q.1)/\∀q∈l,View om s out q:=by
 intro v0_;induction v0_ with
 |nil=>
  intro Z;exact⟨[],λZ h=>absurd h List.not_mem_nil,λZ h=>absurd h List.not_mem_nil⟩
 |cons e out ih=>
  intro H;exact(ih λe' h=>H e' (.tail _ h)).elim λl g=>(H e (.head _)).2.elim λa r=>r.elim λm r=>r.elim λo r=>⟨(a,m)::l,λe' h=>(mc_ h).elim (λz=>z▸⟨(H e (.head _)).1,(a,m),.head _,r.1⟩) λh=>⟨(g.1 e' h).1,(g.1 e' h).2.imp λq w=>⟨.tail _ w.1,w.2⟩⟩,λq h=>(mc_ h).elim (λz=>z▸⟨⟨o,r.2.1,r.2.2.1⟩,r.2.2.2,e,.head _,r.1⟩) λh=>{g.2 q h with e:=(g.2 q h).e.imp λe' w=>⟨.tail _ w.1,w.2⟩}⟩
structure Gin(om:Om)(s:Shared)(own:List Addr)(out:List Env):Prop where
 base:∀b o,om.hb.get? b=some o->s.heap.get? b=some o
 live:∀t∈tbs,∃o,s.heap.get? t=some o
 gens:s.gens=om.gens
 dr:s.drawn=om.dr
 os:s.os=om.os
 frs:FrsOk om s out
 nd:own.Nodup
 hb:∀a∈own,om.hb.get? a=none
 fre:Fre out own
def Stays(s:Shared)(own:List Addr)(out:List Env)(h:Heap):Prop:=∀b o,b∉own->Fre out [b]->s.heap.get? b=some o->h.get? b=some o
namespace Gin
def outm(g:Gin om s own out):List (Addr×(Str->Option Value)):=Classical.choose (views g.frs)
theorem v(g:Gin om s own out):∀q∈g.outm,View om s out q:=(Classical.choose_spec (views g.frs)).2
theorem oute(g:Gin om s own out):∀e∈out,e.scope.kind≠.module/\∃q∈g.outm,e.frame=some q.1:=(Classical.choose_spec (views g.frs)).1
theorem ap(g:Gin om s own out):∀q∈g.outm,q.1∉own:=λq hq=>(g.v q hq).e.elim λe r=>g.fre e r.1 _ r.2
def hF(g:Gin om s own out):Heap:=WT s.heap (own++g.outm.map (·.1))
theorem gone(g:Gin om s own out){b:Addr}(h:b∈own++g.outm.map (·.1)):om.hb.get? b=none:=(ma_ h).elim (g.hb b) λh=>(mm_ h).elim λq r=>r.2▸(by
 induction e:om.hb.get? q.1 with
 |none=>rfl
 |some o=>exact absurd (Heap.lt_size e) (Nat.not_lt_of_le (g.v q r.1).sz))
theorem stays(g:Gin om s own out):Stays s own out g.hF:=λb o h1 h2 e=>Wq e λhm=>(ma_ hm).elim h1 λh=>(mm_ h).elim λq r=>(g.v q r.1).e.elim λe' w=>h2 e' w.1 b (r.2▸w.2) (.head _)
def gd(g:Gin om s own out)(nm:Nt)(u:Nat->Bool)(cx:Cx)(k:Nat)(hP:cx.P=om.w.params)(tb:cx.lam=true->tbs<+:own)(kn:Zp om g.hF nm u own cx.kn):Gd:=
 {om:=om,hF:=g.hF,nm:=nm,u:=u,own:=own,out:=out,cx:=cx,k:=k,hP:=hP,base:=λb o e=>Wq (g.base b o e) λhm=>no ((g.gone hm).symm.trans e),t2:=tb,
  tl:=λt ht=>(Classical.em (t∈own)).imp id λhn=>(g.live t ht).imp λo e=>Wq e λhm=>(ma_ hm).elim hn λh=>(mm_ h).elim λq r=>absurd (om.tbl t ht) (Nat.not_lt_of_le (r.2▸(g.v q r.1).sz)),
  outm:=g.outm,oute:=g.oute,outn:=λq hq=>⟨ZL (List.mem_append_right _ (List.mem_map_of_mem hq)),(g.v q hq).sz⟩,kn:=kn}
end Gin
structure Beg(om:Om)(nm:Nt)(s:Shared)(own:List Addr)(S:St):Prop where
 n:own.length=S.n
 all:∀i,i<S.n->∃ao,S.get i=some ao
 objs:∀i ao,S.get i=some ao->∃a o,own[i]?=some a/\s.heap.get? a=some o/\OkP om nm own a ao o
theorem Gin.rep(g:Gin om s own out)(b:Beg om nm s own S){hP:cx.P=om.w.params}{tb:cx.lam=true->tbs<+:own}{kn:Zp om g.hF nm u own cx.kn}:Rep (g.gd nm u cx k hP tb kn) S own s:=
 ⟨b.n,g.nd,λb o e=>hides_sub e,λa ha=>ZL (List.mem_append_left _ ha),b.all,b.objs,g.gens,g.dr,g.os,List.prefix_refl _,λq hq=>⟨g.ap q hq,(g.v q hq).h⟩⟩
structure Aft(own:List Addr)(out:List Env)(s s':Shared):Prop where
 keep:∀b o,b∉own->Fre out [b]->s.heap.get? b=some o->s'.heap.get? b=some o
 frs:∀e∈out,∀a m o,e.frame=some a->s.heap.get? a=some o->nsP m o->∃o',s'.heap.get? a=some o'/\nsP m o'
 gens:s'.gens=s.gens
 dr:s'.drawn=s.drawn
 os:s'.os=s.os
structure Bk(om:Om)(nm:Nt)(own:List Addr)(out:List Env)(s:Shared)(S':St)(L':List Addr)(s':Shared):Prop where
 pre:own<+:L'
 nd:L'.Nodup
 len:L'.length=S'.n
 all:∀i,i<S'.n->∃ao,S'.get i=some ao
 objs:∀i ao,S'.get i=some ao->∃a o,L'[i]?=some a/\s'.heap.get? a=some o/\OkP om nm L' a ao o
 new:∀i a,own.length<=i->L'[i]?=some a->s.heap.get? a=none
 fre:Fre out L'
 hb:∀a∈L',om.hb.get? a=none
 aft:Aft own out s s'
theorem nsP_eq{m m':Str->Option Value}{o:Obj}(h:nsP m o)(h':nsP m' o):m=m':=h.elim λes r=>r.elim λep r=>h'.elim λes' r'=>r'.elim λep' r'=>by
 cases r.1.symm.trans r'.1;exact funext λx=>(r.2.2 x).symm.trans (r'.2.2 x)
theorem Gin.end_(g:Gin om s own out){hP:cx.P=om.w.params}{tb:cx.lam=true->tbs<+:own}{kn:Zp om g.hF nm u own cx.kn}(R:Rep (g.gd nm u cx k hP tb kn) S' L' s'):Bk om nm own out s S' L' s' where
 pre:=R.own
 nd:=R.nd
 len:=R.len
 all:=R.all
 objs:=R.objs
 fre:=λe he a hf hm=>(g.oute e he).2.elim λq r=>(R.outs q r.1).1 (oi (r.2.symm.trans hf)▸hm)
 hb:=λa ha=>by
  induction e:om.hb.get? a with
  |none=>rfl
  |some o=>exact no ((R.new a ha).symm.trans ((g.gd nm u cx k hP tb kn).base a o e))
 new:=λi a hi ha=>by
  have hm:a∈L':=List.mem_of_getElem? ha;have h1:a∉own:=λh=>(mi_ h).elim λj hj=>absurd (lt_ hj) (Nat.not_lt_of_le (Ju R.nd ha (Jp R.own hj)▸hi));have h2:a∉own++g.outm.map (·.1):=λh=>(ma_ h).elim h1 λh=>(mm_ h).elim λq r=>(R.outs q r.1).1 (r.2▸hm)
  exact(hides_out h2).symm.trans (R.new a hm)
 aft:=⟨λb o h1 h2 e=>R.keep b o (g.stays b o h1 h2 e),λe he a m o hf ho hn=>(g.oute e he).2.elim λq r=>by
  cases r.2.symm.trans hf;refine(g.v q r.1).h.elim λo1 h1=>(R.outs q r.1).2.imp λo2 h2=>⟨h2.1,?_⟩;cases h1.1.symm.trans ho;exact nsP_eq h1.2 hn▸h2.2,R.gens.trans g.gens.symm,R.dr.trans g.dr.symm,R.os.trans g.os.symm⟩
def WJ(u:Nat->Bool)(c:R)(φ:Out->St->Prop):Prop:=R.rec (motive:=λZ=>Prop) False (λo S=>φ o S) (λi Z Z a b=>(u i=true->a)/\(u i=false->b)) c
theorem WJ.pg{G:Gd}{fs:List (FrA×Env)}{x:Wt G fs}(P:WJ G.u c φ)(h:∀o S,φ o S->∀x':Wt G fs,x.L<+:x'.L->x'.S=S->(∀a u,o=.v a->Den G.nm x'.L a u->Q u x'.s)/\∀i,o≠.exc i):PG x c Q E:=by
 induction c with
 |no=>exact P
 |ok o S=>exactλx' p e=>⟨(h o S P x' p e).1,λi a z=>absurd z ((h o S P x' p e).2 i)⟩
 |ask i t f iht ihf=>exact⟨λe=>iht (P.1 e),λe=>ihf (P.2 e)⟩
theorem WJ.post{B:Bd}{x:Sit B}{α:Type}{ρ:Sit B->Out->α->Prop}{Q:SP α}(P:WJ B.G.u c φ)(h:∀o S,φ o S->∀x':Sit B,x.le x'->x'.S=S->(∀u,ρ x' o u->Q u x'.s)/\∀i,o≠.exc i):Jn x ρ c Q E:=by
 induction c with
 |no=>exact P
 |ok o S=>exactλx' p e=>⟨(h o S P x' p e).1,λi a z=>absurd z ((h o S P x' p e).2 i)⟩
 |ask i t f iht ihf=>exact⟨λe=>iht (P.1 e),λe=>ihf (P.2 e)⟩
def Val(om:Om)(nm:Nt)(own:List Addr)(out:List Env)(s:Shared)(Q:SP Value)(o:Out)(S':St):Prop:=∃a,o=.v a/\∀L' s' v,Bk om nm own out s S' L' s'->Den nm L' a v->Q v s'
theorem Pt.gin(p:Pt om A s K)(hfr:A.frames=some out)(nd:own.Nodup)(hb:∀a∈own,om.hb.get? a=none)(fre:Fre out own):Gin om s own out:=
 ⟨p.base,p.live,p.gens,p.dr,p.os,p.fr.elim λout' r=>oi (r.1.symm.trans hfr)▸r.2,nd,hb,fre⟩
theorem go{ad:Addr}{fi:FnI}{args:List AV}{us:List Value}(p:Pt om A s K)(hfr:A.frames=some out)(g:Gin om s own out)(b:Beg om nm s own S)(hP:cx.P=om.w.params)(tb:cx.lam=true->tbs<+:own)(kn:Zp om g.hF nm u own cx.kn)(k:Nat)(hK:2*n+1+60+k<=K)(ora:Wv (g.gd nm u cx k hP tb kn))
  (hf:fnP om.w.params ad=some fi) (d:Jq nm own args us) (P:WJ u (ZF (run cx n) false fi args S) (Val om nm own out s Q)):wpAny (Mdl om) A (call (.ref ad) us) Q E s:=
 wpAny_call (callFn_ok (x:=⟨S,own,s,g.rep b,λp hp=>absurd hp List.not_mem_nil⟩) (G:=g.gd nm u cx k hP tb kn) (fs:=[]) (r:=λcx=>run cx n) (Wl n) ⟨hfr,λZ=>p.hdl,p.room.le hK,ora⟩ hf
  (WJ.pg P λo S1 h x' q e=>h.elim λa h=>⟨λa' v z dv=>by cases h.1.symm.trans z;exact h.2 x'.L x'.s v (e▸g.end_ x'.r) dv,λi z=>nomatch h.1.symm.trans z⟩) p.big d)
def Flo(om:Om)(nm:Nt)(own:List Addr)(out:List Env)(s:Shared)(Q:SP Flow)(o:Out)(S':St):Prop:=(o=.next/\∀L' s',Bk om nm own out s S' L' s'->Q .next s')\/∃a,o=.ret a/\∀L' s' v,Bk om nm own out s S' L' s'->Den nm L' a v->Q (.ret v) s'
def Rest(M:Model)(A:Around)(rest:List Stmt)(env:Env)(Q:SP Flow)(E:SP Value)(fl:Flow)(s:Shared):Prop:=match fl with
 |.next=>wpAny M A (execs rest env) Q E s
 |fl=>Q fl s
theorem exs_app{B:Bd}{r:Cx->Cm->St->R}(hr:Hr n r)(m:Rm B n){rest:List Stmt}{Q:SP Flow}:∀{ss:List Stmt} {x:Sit B},Jn x RF (Wc (r B.G.cx) B.f ss x.S) (Rest (Md B) B.A rest B.env Q E) E->wpAny (Md B) B.A (execs (ss++rest) B.env) Q E x.s:=by
 intro v0_;induction v0_ with
 |nil=>
  intro x P;exact P.nextF
 |cons st ss ih=>
  intro x P;exact wpAny_execs_cons (hr.ex m (Jn.seq (K:=thenO (Wc (r B.G.cx) B.f ss)) P λy o p P=>⟨λu ru=>ru.el (λe1 e2=>by subst e1;subst e2;exact ih P) λa v e1 e2 d=>by subst e1;subst e2;exact P.retF d,λi ad e ha=>by subst e;exact P.exc ha⟩))
noncomputable abbrev Gin.bd{env:Env}{f:FrA}(g:Gin om s own out)(hfr:A.frames=some (env::out))(hdl:A.handled=none)(hP:cx.P=om.w.params)(tb:cx.lam=true->tbs<+:own)(kn:Zp om g.hF nm u own cx.kn)(k:Nat)(hcp:f.cp=false):Bd:=
 ⟨g.gd nm u cx k hP tb kn,A,f,env,[],by rw[reals_cons hcp];exact hfr,λZ=>hdl⟩
def Gin.sit{env:Env}{f:FrA}(g:Gin om s own out)(b:Beg om nm s own S)(hfr:A.frames=some (env::out))(hdl:A.handled=none)(hP:cx.P=om.w.params)(tb:cx.lam=true->tbs<+:own)(kn:Zp om g.hF nm u own cx.kn)(k:Nat)(F:ZA own f env)(hcp:f.cp=false)(hhe:f.he=none)(ns:∃es,S.get f.l=some (.ns es)):Sit (g.bd hfr hdl hP tb kn k hcp):=
 ⟨S,own,s,g.rep b,λp hp=>(ms_ hp)▸⟨F,ns⟩,λi h=>nomatch hhe.symm.trans h⟩
theorem goB{env:Env}{f:FrA}{ss rest:List Stmt}{Q:SP Flow}(hfr:A.frames=some (env::out))(hdl:A.handled=none)(room:Room A (2*n+60+k))(g:Gin om s own out)(b:Beg om nm s own S)(hP:cx.P=om.w.params)(tb:cx.lam=true->tbs<+:own)(kn:Zp om g.hF nm u own cx.kn)(ora:Wv (g.gd nm u cx k hP tb kn))
  (F:ZA own f env) (hcp:f.cp=false) (hhe:f.he=none) (ns:∃es,S.get f.l=some (.ns es)) (P:WJ u (Wc (run cx n) f ss S) (Flo om nm own out s (Rest (Mdl om) A rest env Q E))):wpAny (Mdl om) A (execs (ss++rest) env) Q E s:=
 exs_app (B:=g.bd hfr hdl hP tb kn k hcp) (x:=g.sit b hfr hdl hP tb kn k F hcp hhe ns) (r:=λcx=>run cx n) (Wl n) ⟨room,ora⟩ (WJ.post P λo S1 h x' q e=>h.elim (λh=>⟨λw r=>r.el (λZ z=>z▸h.2 x'.L x'.s (e▸g.end_ x'.r)) λa v z=>(nomatch h.1.symm.trans z),λi z=>nomatch h.1.symm.trans z⟩)
  λh=>h.elim λa h=>⟨λw r=>r.el (λz=>nomatch h.1.symm.trans z) λa' v z zv dv=>by cases h.1.symm.trans z;exact zv▸h.2 x'.L x'.s v (e▸g.end_ x'.r) dv,λi z=>nomatch h.1.symm.trans z⟩)
structure Fp(om:Om)(A:Around)(env:Env)(out:List Env)(f:FrA)(s:Shared)(K:Nat):Prop where
 p:Pt om A s K
 fr:A.frames=some (env::out)
 sc:f.sc.kind=.function/\env.scope=f.sc/\env.globals=mainGlobals/\env.builtins=builtinsNs
 x:env.frame=some env.locals/\∃fa cd,env=envX f.cn f.sc env.locals fa cd env.cells/\∀c,f.code=some c->cd=.ref c
def frZ(fi:FnI)(l:Nat)(cs:List (Str×Nat)):FrA:=⟨fi.sc,l,cs,false,some fi.code,fi.qual,none,false⟩
theorem goF{ad:Addr}{fi:FnI}{args:List AV}{us:List Value}{l:Nat}{cs:List (Str×Nat)}{S0:St}(p:Pt om A s (K+1))(hfr:A.frames=some out)(g:Gin om s own out)(b:Beg om nm s own S)(hP:cx.P=om.w.params)(tb:cx.lam=true->tbs<+:own)(kn:Zp om g.hF nm u own cx.kn)
  (hf:fnP om.w.params ad=some fi) (d:Jq nm own args us) (run0:∀k,enterX false fi args S k=k (frZ fi l cs) S0)
  (H:∀env L' s',Fp om (A.deeper env) env out (frZ fi l cs) s' K->ZA L' (frZ fi l cs) env->Bk om nm own out s S0 L' s'->wpAny (Mdl om) (A.deeper env) (execs fi.body env) (λ(fl:Flow) s'=>Q (match fl with|.ret v=>v|_=>.none) s') (λe s'=>wpAny (Mdl om) (A.deeper env) (leaving env e) (λZ s''=>E e s'') (λe' s''=>E e' s'') s') s'):wpAny (Mdl om) A (call (.ref ad) us) Q E s:=by
 refine wpAny_call (fn_of om hf λob fd ho F=>?_)
 have k0:∀f S,f=frZ fi l cs/\S=S0->((@ite _ (f=frZ fi l cs/\S=S0) (Classical.propDecidable _) (.ok (.v .none) S) .no:R)=.ok (.v .none) S):=λf S h=>if_pos h
 refine callF_gen (G:=g.gd nm u cx 0 hP tb kn) (fs:=[]) (x:=⟨S,own,s,g.rep b,λp hp=>absurd hp List.not_mem_nil⟩) (hd:=false) (Q:=Q) (E:=E) (Q0:=λZ Z=>True) (E0:=λZ Z=>True) (k:=λf S=>@ite _ (f=frZ fi l cs/\S=S0) (Classical.propDecidable _) (.ok (.v .none) S) .no) (Nat.lt_of_le_of_lt (Nat.le_add_right _ _) p.room.dep) hfr (λZ=>p.hdl) ?_ p.big d (p.base _ _ ho) F λenv m cs' fr' hd' y P=>?_
 ·rw[run0,k0 _ _ ⟨rfl,rfl⟩]
  exactλx' Z Z=>⟨λZ Z Z Z=>trivial,λZ Z Z Z=>trivial⟩
 ·have e:frZ fi m cs'=frZ fi l cs/\y.S=S0:=by
   by_cases h:frZ fi m cs'=frZ fi l cs/\y.S=S0
   ·exact h
   ·have P:Jn y RV (@ite _ (frZ fi m cs'=frZ fi l cs/\y.S=S0) (Classical.propDecidable _) (.ok (.v .none) y.S) .no) (λZ Z=>True) (λZ Z=>True):=P
    rw[if_neg h]at P;exact P.elim
  have hm:m=l:=congrArg FrA.l e.1
  have hc:cs'=cs:=congrArg FrA.cells e.1
  subst hm hc
  have T:ZA y.L (frZ fi m cs') env:=y.top
  have B:=g.end_ y.r
  have Gn:=e.2▸B
  have F1:=y.frb (e:=env) (.head _)
  have pt:Pt om (A.deeper env) y.s K:=⟨λb o=>y.base,λt ht=>((g.gd nm u cx 0 hP tb kn).tl t ht).elim (λhm=>y.r.live (y.r.own.subset hm) λZ Z o Z Z e Z=>⟨o,e⟩) λh=>h.imp λo e=>y.r.keep _ _ e,Nat.le_of_lt y.big,y.r.gens,y.r.dr,y.r.os,⟨Nat.lt_of_le_of_lt (by show A.depth+1+K<=A.depth+(K+1);omega) p.room.dep,Nat.lt_of_le_of_lt (by show A.units+3+10*K<=A.units+10*(K+1);omega) p.room.un⟩,p.hdl,_,Around.frames_deeper hfr,λe' he=>(y.frb (e:=e') he).elim λad q=>q.elim λo F=>F.ns.elim λm' hm=>⟨F.k,ad,m',o,F.fr,F.h,hm,F.sz⟩⟩
  exact H env y.L y.s ⟨pt,Around.frames_deeper hfr,⟨T.k,T.sc,T.gl,T.bi⟩,T.fr rfl⟩ T Gn
end
end Internal
namespace Internal
def resOf:List Stmt->Str
 |[.Assign _ (.Constant (.str s) _ _) _]=>s
 |_=>⟨#[]⟩
def resS:Str:=resOf ((PySem.Challenge.pw_pq0642_01.main.body.drop 70).take 1)
end Internal
set_option maxHeartbeats 0
namespace MineH
noncomputable section
def q0:Program:=view P0 [89]
def gKeys:List Value:=gK.map λp=>s p.1 p.2
def loose0:List Str:=(gK.drop 9).dropLast.map λp=>.ofString p.1
def tbs:List Addr:=[538,385]
def isRes(o:Option Value):Option Str:=match o with|some (.str x _)=>some x|_=>none
def look(x:SharedT)(a:Addr):Option Obj:=match Nat.blt a x.n with
 |true=>(match x.tree.get a with|some o=>alive o|none=>none)
 |false=>none
theorem look_of{x:SharedT}{a:Addr}{o:Obj}(h:look x a=some o):x.abs.heap.get? a=some o:=by
 unfold look at h;cases e:Nat.blt a x.n with
 |false=>rw[e]at h;cases h
 |true=>
  rw[e]at h;cases g:x.tree.get a with
  |none=>rw[g]at h;cases h
  |some o'=>rw[g]at h;exact(abs_get (Nat.le_of_ble_eq_true e) g).trans h
def entsO(o:Option Obj):List DictEntry:=match o with
 |some o=>(match o.data with
  |.dict es _=>es.toList
  |_=>[])
 |none=>[]
def obsK(x:SharedT):=(KL.map (look x),(entsO (look x 3)).map (·.key),gVals.map λp=>(entsO (look x 3))[p.1]?.map (·.val),isRes ((entsO (look x 3))[71]?.map (·.val)),tbs.map (look x))
def valK(P:Params):=((KR P).map λp=>some p.2,gKeys,gVals.map λp=>some p.2,some Internal.resS,tbs.map λZ=>some (tabObj #[]))
theorem KL_is(P:Params):(KR P).map (·.1)=KL:=by rfl'
def mods0:List Str:=importedModules P0.main.body
def obs(w:World)(x:SharedT):=((staticsOk mods0 (boot_heap w.params) x.abs.heap&&namesBound P0 x.abs.heap&&gensDone x.abs&&laidKept (boot_heap w.params) x.abs.heap),seenQ q0 loose0 mods0 (λZ=>true) true x.abs,obsK x)
def runW(b:Bool)(w:World)(os:OsState):Option SharedT:=runQ P0 (w.withFollow "special-get-raises" b) (boot_heap w.params).objs.size ((boot_heap w.params).nsMap mainGlobals "__annotations__") 6000 (s0 w.params os) (topStub P0)
theorem ranF(w:World)(os:OsState):(runW false w os).map (obs w)=some (true,openGood q0 loose0,valK w.params):=by rfl'
theorem ranT(w:World)(os:OsState):(runW true w os).map (obs w)=some (true,openGood q0 loose0,valK w.params):=by rfl'
end
end MineH
set_option maxHeartbeats 0
namespace MineL
theorem road_cons(lk:Look)(s:Stmt)(r:List Stmt):noRoadLSs lk (s::r)=(noRoadLS lk s&&noRoadLSs lk r):=by rfl'
theorem road_append(lk:Look):∀(a b:List Stmt),noRoadLSs lk a=true->noRoadLSs lk b=true->noRoadLSs lk (a++b)=true
 |[],_,_,hb=>hb
 |s::r,b,ha,hb=>by
  rw[road_cons]at ha;rw[List.cons_append,road_cons];obtain ⟨h1,h2⟩:=Bool.and_eq_true_iff.mp ha;rw[h1,road_append lk r b h2 hb];rfl
theorem road_cut(lk:Look)(n:Nat)(l:List Stmt)(h1:noRoadLSs lk (l.take n)=true)(h2:noRoadLSs lk (l.drop n)=true):noRoadLSs lk l=true:=by
 have:=road_append lk _ _ h1 h2;rwa [List.take_append_drop]at this
def lk0:Look:={strict:=false,foot:=none,bare:=[]}
theorem no_of_head{x:Str}{l:List Str}(hx:x.cps[0]?=some 32)(hl:(l.all λn=>n.cps[0]? !=some 32)=true):l.contains x=false:=by
 cases h:l.contains x with
 |false=>rfl
 |true=>
  have hm:=List.contains_iff_mem.mp h;have:=List.all_eq_true.mp hl x hm;rw[hx]at this;exact absurd this (by decide)
theorem opens_no{x:Str}(hx:x.cps[0]?=some 32):x.opensWith "__"=false:=by
 unfold Str.opensWith;cases h:(x.cps.extract 0 (Str.ofString "__").cps.size==(Str.ofString "__").cps)with
 |false=>rfl
 |true=>
  have e:=eq_of_beq h;have e0:(x.cps.extract 0 (Str.ofString "__").cps.size)[0]?=(Str.ofString "__").cps[0]?:=by rw[e]
  have e1:(Str.ofString "__").cps=#[95,95]:=by decide +kernel
  rw[e1]at e0;rw[Array.getElem?_extract]at e0;simp[hx]at e0
theorem str_ok{x:Str}(hx:x.cps[0]?=some 32)(hr:roadStr x=false):lk0.str x=true:=by
 have h1:attrL x=true:=by
  unfold attrL;rw[no_of_head hx (by decide +kernel),opens_no hx];rfl
 have h2:lk0.word x=true:=by
  unfold Look.word;rw[h1];rfl
 unfold Look.str;rw[h2,hr];simp
theorem str_of{x:Str}{t:String}{l:List Char}(ht:x=Str.ofString t)(hl:t=String.ofList l)(h0:(l.map Char.toNat)[0]?=some 32)(hr:((l.map Char.toNat).any (λc=>c==123||c==125)||((l.map Char.toNat).any (·==46)&&!(l.map Char.toNat).any (·<=32)))=false):lk0.str x=true:=by
 subst ht;subst hl;rw[Fast.ofString_ofList];refine str_ok (by rw[List.getElem?_toArray];exact h0) ?_;unfold roadStr;simp only[List.any_toArray];exact hr
theorem road_x(x:Str)(p q r:Pos)(k:Nat):noRoadLSs lk0 [.Assign [.Name "RESERVED" p] (.Constant (.str x) k q) r]=(lk0.str x&&true):=by rfl'
theorem road_one{l:List Stmt}{x:Str}{p q r}{k:Nat}(e:l=[.Assign [.Name "RESERVED" p] (.Constant (.str x) k q) r])(hx:lk0.str x=true):noRoadLSs lk0 l=true:=by
 rw[e,road_x,hx];rfl
noncomputable abbrev roadQ:=Fast.tw8326940854005059898
theorem road_q(lk:Look)(l:List Stmt)(h:roadQ lk l=true):noRoadLSs lk l=true:=by rw[Fast.te8326940854005059898];exact h
theorem road70:noRoadLSs lk0 ((PySem.Challenge.pw_pq0642_01.main.body.drop 70).take 1)=true:=road_one rfl (str_of rfl rfl (by rfl') (by rfl'))
theorem look_is:({strict:=!(importedModules PySem.Challenge.pw_pq0642_01.main.body).all cThrough.contains,foot:=none,bare:=(["vars","dir","locals"]:List Str).filter (readsOut PySem.Challenge.pw_pq0642_01 PySem.Challenge.pw_pq0642_01.main.body)}:Look)=lk0:=by
 rw[Fast.te13343964577679436407];rfl'
theorem road_a:noRoadLSs lk0 (PySem.Challenge.pw_pq0642_01.main.body.take 70)=true:=road_q _ _ (by rfl')
theorem road_b:noRoadLSs lk0 (PySem.Challenge.pw_pq0642_01.main.body.drop 71)=true:=road_q _ _ (by rfl')
theorem leaf4:noRoadLSs ({strict:=!(importedModules PySem.Challenge.pw_pq0642_01.main.body).all cThrough.contains,foot:=none,bare:=(["vars","dir","locals"]:List Str).filter (readsOut PySem.Challenge.pw_pq0642_01 PySem.Challenge.pw_pq0642_01.main.body)}:Look) PySem.Challenge.pw_pq0642_01.main.body=true:=by
 rw[look_is];refine road_cut lk0 70 _ road_a (road_cut lk0 1 _ road70 ?_);rw[List.drop_drop];exact road_b
theorem prog_is:PySem.Challenge.rw_pq0642_01.row.prog=PySem.Challenge.pw_pq0642_01:=rfl
theorem said:PySem.Challenge.rw_pq0642_01.wellSaid=true:=by
 unfold OpenLaw.wellSaid OpenRow.wellSaid OpenRow.partSaid looksOpen;repeat' (with_reducible refine look_both ?_ ?_)
 rotate_left 4
 ·rw[prog_is];with_reducible exact leaf4
 all_goals (try simp only[Fast.te17119622794617984870,Fast.te12862048085361865435,Fast.te8377067652309620493,Fast.te11788848310118352699,Fast.te9558739934217749035,Fast.te16286561074155671207,Fast.te6984425678791042302,Fast.te10792542408131684335,Fast.te10501279942588096481,Fast.te8179353310426384613,Fast.te18344453789297297638,Fast.te13582783067957832011,Fast.te8326940854005059898,Fast.te14412699480532031325])
 all_goals first|rfl'|skip
end MineL
set_option maxHeartbeats 0
namespace MineH
noncomputable section
def Yf(x:Shared):=(KL.map x.heap.get?,(entsO (x.heap.get? 3)).map (·.key),gVals.map λp=>(entsO (x.heap.get? 3))[p.1]?.map (·.val),isRes ((entsO (x.heap.get? 3))[71]?.map (·.val)),tbs.map x.heap.get?)
theorem map_up{f g:Addr->Option Obj}(u:∀a o,f a=some o->g a=some o):∀{l:List Addr} {m:List (Option Obj)},(∀o∈m,o.isSome=true)->l.map f=m->l.map g=m
 |[],m,_,h=>h
 |a::l,m,hm,h=>by
  subst h;obtain ⟨o,ho⟩:=Option.isSome_iff_exists.mp (hm (f a) List.mem_cons_self);rw[List.map_cons,List.map_cons,u a o ho,ho,map_up u (λo h=>hm o (List.mem_cons_of_mem _ h)) rfl]
theorem ents_up{f g:Addr->Option Obj}(u:∀a o,f a=some o->g a=some o)(h:(entsO (f 3)).map (·.key)=gKeys):g 3=f 3:=by
 cases e:f 3 with
 |some o=>exact u 3 o e
 |none=>rw[e]at h;exact absurd (congrArg List.length h) (by decide)
theorem Yf_up{x:SharedT}{P:Params}(h:obsK x=valK P):Yf x.abs=valK P:=by
 have u:∀a o,look x a=some o->x.abs.heap.get? a=some o:=λa o=>look_of;obtain ⟨h1,h2⟩:=Prod.mk.inj h;obtain ⟨h2,h3⟩:=Prod.mk.inj h2;obtain ⟨h3,h4⟩:=Prod.mk.inj h3;obtain ⟨h4,h5⟩:=Prod.mk.inj h4;have e:=ents_up u h2;unfold Yf;rw[e,h2,h3,h4,map_up u (λo ho=>?_) h1,map_up u (λo ho=>?_) h5];rfl
 ·obtain ⟨p,_,rfl⟩:=List.mem_map.mp ho;rfl
 ·obtain ⟨p,_,rfl⟩:=List.mem_map.mp ho;rfl
theorem mem_lookup{a:Addr}{o:Obj}:∀{K:Frag},K.lookup a=some o->(a,o)∈K
 |(b,x)::K,h=>by
  rw[List.lookup_cons]at h;cases e:a==b with
  |true=>rw[e]at h;cases h;rw[eq_of_beq e];exact List.mem_cons_self
  |false=>rw[e]at h;exact List.mem_cons_of_mem _ (mem_lookup h)
theorem s0_abs(P:Params)(os:OsState):(s0 P os).abs=⟨boot_heap P,#[],boot_drawn,boot_toks,os⟩:=by rfl'
theorem s0_at(P:Params):((boot_heap P).isNs mainGlobals&&(#[]:Array GenState).size==0)=true:=by rfl'
theorem op0:opening P0=plainProg P0.main.scope.names:=by rfl'
theorem fen0(x:Shared):fenceModules? P0 x=some x:=by rfl'
structure HdY(w:World)(h:Heap):Prop where
 X:(KR w.params).In h
 tb:∀t∈tbs,h.get? t=some (tabObj #[])
 hk:(entsO (h.get? 3)).map (·.key)=gKeys
 hv:∀p∈gVals,(entsO (h.get? 3))[p.1]?.map (·.val)=some p.2
 res:isRes ((entsO (h.get? 3))[71]?.map (·.val))=some Internal.resS
theorem HdY.of{w:World}{x:Shared}(h:Yf x=valK w.params):HdY w x.heap:=by
 obtain ⟨h1,h2⟩:=Prod.mk.inj h;obtain ⟨h2,h3⟩:=Prod.mk.inj h2;obtain ⟨h3,h4⟩:=Prod.mk.inj h3;obtain ⟨h4,h5⟩:=Prod.mk.inj h4;refine⟨?_,List.map_inj_left.mp h5,h2,List.map_inj_left.mp h3,h4⟩;have h6:(KR w.params).map (λp=>x.heap.get? p.1)=(KR w.params).map λp=>some p.2:=by
  rw[<-h1,<-KL_is w.params,List.map_map];rfl
 intro a o e;exact List.map_inj_left.mp h6 (a,o) (mem_lookup e)
theorem HdY.keeps{w:World}{h h':Heap}(Y:HdY w h)(k:∀b o,h.get? b=some o->h'.get? b=some o):HdY w h':=by
 have e:=ents_up k Y.hk;exact⟨λa o q=>k _ _ (Y.X a o q),λt ht=>k _ _ (Y.tb t ht),by rw[e];exact Y.hk,by rw[e];exact Y.hv,by rw[e];exact Y.res⟩
theorem left0:LeftO P0 q0 loose0 (λZ=>true) Yf (λw=>valK w.params) 6000:=λw=>by
 obtain ⟨x,hx,e⟩:=Option.map_eq_some_iff.mp (boot_open (p:=P0) (N:=6000) op0 rfl fen0 w);obtain ⟨hp,gs,d,k,os⟩:=x;obtain ⟨rfl,rfl,rfl,rfl⟩:hp=boot_heap w.params/\gs=#[]/\d=boot_drawn/\k=boot_toks:=by simpa using e
 unfold openEnds;rw[hx,Option.bind_some];have K:(runW (w.params.followText "special-get-raises") w os).map (obs w)=some (true,openGood q0 loose0,valK w.params):=by
  cases w.params.followText "special-get-raises"
  ·exact ranF w os
  ·exact ranT w os
 obtain ⟨r,hr,q⟩:=Option.map_eq_some_iff.mp K;obtain ⟨q1,q2⟩:=Prod.mk.inj q;obtain ⟨q2,q3⟩:=Prod.mk.inj q2;unfold runW at hr;rw[World.withFollow_self]at hr;have hr:=runQ_spec _ _ _ _ hr;rw[s0_abs]at hr;unfold topFrom;dsimp only;rw[s0_at,hr];show (match (staticsOk (importedModules P0.main.body) (boot_heap w.params) r.abs.heap&&namesBound P0 r.abs.heap&&gensDone r.abs&&laidKept (boot_heap w.params) r.abs.heap)with|true=>some r.abs|false=>none).map _=_;rw[show (staticsOk (importedModules P0.main.body) (boot_heap w.params) r.abs.heap&&namesBound P0 r.abs.heap&&gensDone r.abs&&laidKept (boot_heap w.params) r.abs.heap)=true from q1];show some (openSeen q0 loose0 (importedModules P0.main.body) (λZ=>true) true r.abs,Yf r.abs)=_;rw[Yf_up q3,Fast.te4187177175401517315];exact congrArg (λz=>some (z,valK w.params)) q2
abbrev R0:OpenRow:=PySem.Challenge.rw_pq0642_01.row
theorem def_some:(defOf q0 R0.name).isSome=true:=by rfl'
def dk:DefRec×List (Str×Expr):=(defOf q0 R0.name).get def_some
theorem dk_is:defOf q0 R0.name=some (dk.1,dk.2):=(Option.some_get def_some).symm
theorem dk_def:R0.prog.theDef R0.name=some (dk.1.params,dk.1.body,dk.1.scope):=by rfl'
theorem dk_kw:kwWritten? dk.1.params.kwonlyargs dk.1.params.kw_defaults=some dk.2:=by rfl'
theorem wits:R0.toRowW.promised:=by
 first|w_witness2|skip
theorem hd(ZI:WalkO q0 loose0 (λZ Z=>True) HdY R0.toRowW dk.1 dk.2 λf vs=>PySem.call f vs):PySem.Challenge.rw_pq0642_01.Holds:=
 holds_law MineL.said λsaid=>holds_open (r:=R0) left0 (λw s h=>HdY.of h) (λw h h' Y k=>Y.keeps k) (λZ Z=>trivial) (λZ Z Z Z Z=>trivial) dk_is dk_def dk_kw (λZ Z=>recFacts_nil rfl) (by rfl) said (by decide +kernel) ⟨rfl,rfl,rfl,rfl,rfl,by decide +kernel⟩ wits ZI
end
end MineH
namespace Internal
def entsG(h:Heap):List DictEntry:=MineH.entsO (h.get? 3)
def keyO(v:Value):Option Str:=match v with|.str x _=>some x|_=>none
def hitK(x:Str)(v:Value):Bool:=Option.rec false (λy=>sEq x y) (keyO v)
def kIdx(x:Str)(l:List Value):Nat->Option Nat:=List.rec (motive:=λZ=>Nat->Option Nat) (λZ=>none) (λv Z ih i=>Bool.rec (ih (i+1)) (some i) (hitK x v)) l
theorem isStr_hit(x:Str)(v:Value):v.isStr x=hitK x v:=by
 induction v with
 |str y t=>
  show (y==x)=sEq x y;rw[sEq_dec x y];by_cases e:x=y
  ·rw[decide_eq_true e,e];exact Jm y
  ·rw[ϡ e];exact beq_eq_false_iff_ne.mpr (Ne.symm e)
 |_=>rfl
theorem kIdx_none{x:Str}:∀{E:List DictEntry} (n:Nat),kIdx x (E.map (·.key)) n=none->E.find? (λe=>e.key.isStr x)=none:=by
 intro v0_;induction v0_ with
 |nil=>
  intro Z Z;exact rfl
 |cons e E ih=>
  intro n h;rw[List.find?_cons,isStr_hit];change (Bool.rec (kIdx x (E.map (·.key)) (n+1)) (some n) (hitK x e.key):Option Nat)=none at h
  induction q:hitK x e.key with
  |true=>rw[q]at h;exact nomatch h
  |false=>rw[q]at h;exact ih (n+1) h
theorem kIdx_some{x:Str}{i:Nat}:∀{E:List DictEntry} (n:Nat),kIdx x (E.map (·.key)) n=some i->n<=i/\(E.find? (λe=>e.key.isStr x)).map (·.val)=(E[i-n]?).map (·.val):=by
 intro v0_;induction v0_ with
 |nil=>
  intro Z h;exact nomatch h
 |cons e E ih=>
  intro n h;rw[List.find?_cons,isStr_hit];change (Bool.rec (kIdx x (E.map (·.key)) (n+1)) (some n) (hitK x e.key):Option Nat)=some i at h
  induction q:hitK x e.key with
  |true=>rw[q]at h;cases h;exact⟨Ϙ _,by rw[Nat.sub_self];rfl⟩
  |false=>
   rw[q]at h;have ih:=ih (n+1) h;exact⟨Nat.le_of_succ_le ih.1,by rw[show i-n=(i-(n+1))+1 from (Nat.sub_add_cancel (Nat.sub_pos_of_lt ih.1)).symm];exact ih.2⟩
theorem ents_mg{h:Heap}{mg:Str->Option Value}(hn:h.Ns mainGlobals mg)(x:Str):mg x=((entsG h).find? λe=>e.key.isStr x).map (·.val):=by
 obtain ⟨o,es,ep,e,hd,_,hf⟩:=hn;have:entsG h=es.toList:=by
  unfold entsG;rw[show h.get? 3=some o from e];unfold MineH.entsO;dsimp only;rw[hd]
 rw[this,<-hf x];unfold nsFind findBy;rw[<-Array.find?_toList]
def avB(v:AV)(u:Value):Bool:=match v,u with
 |.st a,.ref b=>Nat.beq a b
 |.str x,.str y _=>sEq x y
 |.int i,.int j _=>decide (i=j)
 |.ty t,.type n=>decide (n=t.name)
 |.bi b,.builtin n=>decide (n=b.id)
 |_,_=>false
theorem avB_of{nm:Nt}{L:List Addr}{v:AV}{u:Value}(h:avB v u=true):Den nm L v u:=by
 induction v<;>induction u<;>first|exact nb h|exact Ja Value.ref (nq h).symm|exact⟨_,by rw[Jw h]⟩|exact⟨_,by rw[κ h]⟩|exact Ja _ (κ h)
structure Hd(w:World)(h:Heap)(mg mb:Str->Option Value):Prop where
 X:(MineH.KR w.params).In h
 tb:∀t∈tbs,h.get? t=some (tabObj #[])
 hk:(entsG h).map (·.key)=MineH.gKeys
 hv:∀p∈MineH.gVals,(entsG h)[p.1]?.map (·.val)=some p.2
 res:∃t,mg "RESERVED"=some (.str resS t)
 T:∃p loose mean,Top p loose mean mg mb h
theorem We{α:Type}{a:Nat}{v:α}:∀{l:List (Nat×α)},JE a l=some v->(a,v)∈l:=by
 intro v0_;induction v0_ with
 |nil=>
  intro h;exact nomatch h
 |cons z9 r ih=>
  intro h;obtain ⟨b,u⟩:=z9;change (Bool.rec (JE a r) (some u) (Nat.beq a b):Option α)=some v at h;induction q:Nat.beq a b with
  |true=>rw[q]at h;cases h;rw[nq q];exact .head _
  |false=>rw[q]at h;exact .tail _ (ih h)
variable {w:World}{h:Heap}{mg mb:Str->Option Value}
theorem Hd.at_(W:Hd w h mg mb){x:Str}{i:Nat}{v:Value}(e:kIdx x MineH.gKeys 0=some i)(hv:JE i MineH.gVals=some v):mg x=some v:=W.T.elim λp r=>r.elim λloose r=>r.elim λmean T=>by
 rw[ents_mg T.g x,(kIdx_some 0 (W.hk.symm▸e)).2];exact W.hv _ (We hv)
theorem Hd.not_(W:Hd w h mg mb){x:Str}(e:kIdx x MineH.gKeys 0=none):mg x=none:=W.T.elim λp r=>r.elim λloose r=>r.elim λmean T=>by
 rw[ents_mg T.g x,kIdx_none 0 (W.hk.symm▸e)];rfl
def glB(p:Str×AV):Bool:=Option.rec (Option.rec false (λu=>avB p.2 u&&!(sEq p.1 "__name__")) (bootBuiltins p.1)) (λi=>Option.rec false (λu=>avB p.2 u) (JE i MineH.gVals)) (kIdx p.1 MineH.gKeys 0)
theorem glB_all:t_gl.all glB=true:=by rfl'
theorem look_mem{α:Type}{x:Str}{v:α}:∀{l:List (Str×α)},Internal.look x l=some v->∃y,x=y/\(y,v)∈l:=by
 intro v0_;induction v0_ with
 |nil=>
  intro h;exact nomatch h
 |cons z9 r ih=>
  intro h;obtain ⟨y,u⟩:=z9;change (Bool.rec (Internal.look x r) (some u) (sEq x y):Option α)=some v at h;induction q:sEq x y with
  |true=>rw[q]at h;cases h;exact⟨y,Jw q,.head _⟩
  |false=>rw[q]at h;exact(ih h).imp λy r=>⟨r.1,.tail _ r.2⟩
theorem Hd.gl(W:Hd w h mg mb)(x:Str)(v:AV)(e:Internal.look x t_gl=some v):∃u,(∀nm L,Den nm L v u)/\(mg x=some u\/(mg x=none/\mb x=some u)):=by
 obtain ⟨y,rfl,hm⟩:=look_mem e;have hq:=al_ glB_all _ hm;change (Option.rec (Option.rec false (λu=>avB v u&&!(sEq x "__name__")) (bootBuiltins x)) (λi=>Option.rec false (λu=>avB v u) (JE i MineH.gVals)) (kIdx x MineH.gKeys 0):Bool)=true at hq;induction hi:kIdx x MineH.gKeys 0 with
 |some i=>
  rw[hi]at hq;change (Option.rec false (λu=>avB v u) (JE i MineH.gVals):Bool)=true at hq;induction hu:JE i MineH.gVals with
  |none=>rw[hu]at hq;exact nb hq
  |some u=>rw[hu]at hq;exact⟨u,λZ Z=>avB_of hq,.inl (W.at_ hi hu)⟩
 |none=>
  rw[hi]at hq;change (Option.rec false (λu=>avB v u&&!(sEq x "__name__")) (bootBuiltins x):Bool)=true at hq;induction hu:bootBuiltins x with
  |none=>rw[hu]at hq;exact nb hq
  |some u=>
   rw[hu]at hq;change (avB v u&&!(sEq x "__name__"))=true at hq;rw[Bool.and_eq_true,Bool.not_eq_true']at hq;exact⟨u,λZ Z=>avB_of hq.1,.inr ⟨W.not_ hi,W.T.elim λp r=>r.elim λloose r=>r.elim λmean T=>by rw[T.builtins _ (Yb hq.2)];exact hu⟩⟩
theorem keepH(W:Hd w h mg mb){b:Addr}{o:Obj}(e:h.get? b=some o)(hne:o≠tabObj #[]):(WT h tbs).get? b=some o:=Wq e λhm=>hne (oi (e.symm.trans (W.tb b hm)))
theorem nsH(W:Hd w h mg mb){a:Addr}{m:Str->Option Value}(hn:h.Ns a m):(WT h tbs).Ns a m:=by
 obtain ⟨o,es,ep,e,hd,r⟩:=hn;exact⟨o,es,ep,keepH W e (λq=>by rw[q]at hd;exact nomatch hd),hd,r⟩
theorem kr_tb(P:Params):(MineH.KR P).lookup 538=none/\(MineH.KR P).lookup 385=none:=⟨by rfl',by rfl'⟩
theorem Hd.Xb(W:Hd w h mg mb):(MineH.KR w.params).In (WT h tbs):=λa o e=>Wq (W.X a o e) λhm=>by
 rcases mc_ hm with rfl|hm
 ·exact no ((kr_tb w.params).1.symm.trans e)
 ·rw[ms_ hm]at e;exact no ((kr_tb w.params).2.symm.trans e)
theorem t_tab(P:Params):(codeHdIn (MineH.KR P) 542 538&&codeHdIn (MineH.KR P) 389 385)=true:=by rfl'
def keyS0(v:Value):Str:=match v with|.str x _=>x|_=>default
def dicE(P:Params)(a:Nat):List DictEntry:=Option.rec [] (λo=>Option.rec [] (λl=>l) (dicO o)) (WD a (MineH.KR P))
theorem t_h(P:Params):t_dics.map (λa=>(dicE P a).map (·.hash))=t_dics.map (λa=>(dicE P a).map λe=>PyData.keyHash P (keyS0 e.key)):=by rfl'
theorem ens_of(P:Params){nm:Nt}{L:List Addr}:∀{l:List DictEntry} {es:List (Str×AV)},esOf l=some es->(l.map (·.hash)=l.map λe=>PyData.keyHash P (keyS0 e.key))->Ens P nm L es l:=by
 intro v0_;induction v0_ with
 |nil=>
  intro es h Z;cases h;exact rfl
 |cons z9 r ih=>
  intro es h q;obtain ⟨hs,k,v⟩:=z9;exact Jo h λx hx h=>Jo h λa ha h=>Jo h λl hl h=>by
   cases h;have q:=List.cons.inj q;induction k with
   |str y t=>cases hx;exact⟨_,_,rfl,⟨⟨t,rfl⟩,q.1,avOf_den ha nm L⟩,ih hl q.2⟩
   |_=>exact no hx
theorem dicO_of{o:Obj}{l:List DictEntry}(h:dicO o=some l){C:Prop}(k:∀n,o=dictOf l n->C):C:=by
 unfold dicO at h;refine Jt h λhb h=>Jo h λp hp h=>?_;cases h;rw[Bool.and_eq_true,Bool.and_eq_true]at hb;obtain ⟨c,d,dt,sl⟩:=o;have h1:c=.type "dict":=eq_of_beq hb.1.1;have h2:d=none:=Option.isNone_iff_eq_none.mp hb.1.2;have h3:sl=#[]:=Array.isEmpty_iff.mp hb.2;subst h1 h2 h3;induction dt with
 |dict es n=>cases hp;exact k n rfl
 |_=>exact no hp
theorem Hd.dics(W:Hd w h mg mb)(t:Nat)(es:List (Str×AV))(e:dicP w.params t=some es):(t==sysModules)=false/\∃o,(WT h tbs).get? t=some o/\∀nm L,SD w.params es nm L o:=by
 unfold dicP at e;refine Jt e λhm e=>Jo e λo ho e=>Jo e λl hl e=>?_;have hm:=JV hm;refine⟨(show ∀t∈t_dics,(t==sysModules)=false by decide) t hm,o,W.Xb t o (findA_eq t _▸ho),λnm L=>?_⟩;refine dicO_of hl λn ho'=>⟨l,n,ho',ens_of _ e ?_⟩;have:=List.map_inj_left.mp (t_h w.params) t hm;unfold dicE at this;rw[ho]at this;change (Option.rec [] (λl=>l) (dicO o):List DictEntry).map _=(Option.rec [] (λl=>l) (dicO o):List DictEntry).map _ at this;rw[hl]at this;exact this
def mkOm(prog:Program)(w:World)(h:Heap)(p:Program)(loose:List Str)(mean:ExcName->Option Value)(gens:Array GenState)(dr:Drawn)(os:OsState)(W:Hd w h mg mb)(T:Top p loose mean mg mb h):Om where
 prog:=prog
 w:=w
 hb:=WT h tbs
 p:=p
 loose:=loose
 mg:=mg
 mb:=mb
 mean:=mean
 gens:=gens
 dr:=dr
 os:=os
 X:=W.Xb
 T:=⟨nsH W T.g,nsH W T.b,let ⟨mc,h1,h2⟩:=T.nolimit;⟨mc,nsH W h1,h2⟩,T.builtins,T.free⟩
 nolim:=by
  obtain ⟨o,es,ep,e,_⟩:=nsH W T.g;exact ϛ (by decide) (ϱ e)
 gl:=W.gl
 codes:=λq hq=>by
  have t:=t_tab w.params;rw[Bool.and_eq_true]at t;rcases mc_ hq with rfl|hq
  ·exact⟨538,rfl,codeHd_of_K W.Xb t.1⟩
  ·rw[ms_ hq];exact⟨385,rfl,codeHd_of_K W.Xb t.2⟩
 tb:=⟨ZL (.head _),ZL (.tail _ (.head _))⟩
 tbl:=λt ht=>by
  have h845:(WD 845 (MineH.KR w.params)).isSome=true:=by rfl'
  obtain ⟨o,ho⟩:=Option.isSome_iff_exists.mp h845;exact Nat.lt_trans ((show ∀t∈[538,385],t<845 by decide) t ht) (ϱ (W.Xb 845 o (findA_eq 845 _▸ho)))
 bat:=λP hP=>by
  obtain ⟨bm,ob,b1,b2,b3,b4,b5,b6⟩:=T.bmain;have e:=keepH W b3 λq=>by rw[q]at b4;exact nomatch b4
  obtain ⟨o,es,ep,eg,dg,_⟩:=T.g;exact⟨bm,ob,b1,b2,(λq=>by rw[q,eg]at b3;cases b3;rw[dg]at b6;exact nomatch b6),(λq=>by rw[q,hP]at e;exact nomatch e),e,b4,b5,b6⟩
 dics:=W.dics
variable {om:Om}{A:Around}{s s':Shared}{k n i:Nat}{out:List Env}{own L' l:List Addr}{nm:Nt}{u:Nat->Bool}{S S':St}{c:R}{φ:Out->St->Prop}{Q E:SP Value}{G:Gd}{fs:List (FrA×Env)}{x y:Wt G fs}{a b ad:Addr}{o:Obj}{ao:AO}{aos:List AO}{v:AV}{w:Value}{C:Prop}
def stP(l:List AO):St->Option St:=List.rec (motive:=λZ=>St->Option St) (λS=>some S) (λo Z ih S=>obO (S.push o) ih) l
def JZ(l:List AO):St:=Option.rec ⟨0,.nil⟩ (λS=>S) (stP l ⟨0,.nil⟩)
def okS(l:List AO):Bool:=JH (stP l ⟨0,.nil⟩)
theorem stP_of:∀{l:List AO} {S S':St},stP l S=some S'->S'.n=S.n+l.length/\(∀i,i<S.n->S'.get i=S.get i)/\∀i,S'.get (S.n+i)=if i<l.length then l[i]? else S.get (S.n+i):=by
 intro v0_;induction v0_ with
 |nil=>
  intro S S' h;cases h;exact⟨rfl,λZ Z=>rfl,λi=>(if_neg (Nat.not_lt_zero i)).symm⟩
 |cons o l ih=>
  intro S S' h;exact Jo (y:=S.push o) (k:=stP l) h λS1 h1 h2=>by
   have C:=St.push_get h1;have ih:=ih h2;rw[C.n]at ih;refine⟨by rw[ih.1,Υ];lia,λi hi=>(ih.2.1 i (Nat.lt_succ_of_lt hi)).trans (C.other i (Jl hi)),λi=>?_⟩;induction i using Nat.casesAuxOn with
   |zero=>exact((ih.2.1 S.n (Nat.lt_succ_self _)).trans C.self).trans (if_pos (show 0<(o::l).length from Nat.succ_pos _)).symm
   |succ i=>
    have e:=ih.2.2 i;rw[show S.n+1+i=S.n+(i+1)by lia]at e;rw[e,Υ];by_cases q:i<l.length
    ·rw[if_pos q,if_pos (Nat.succ_lt_succ q)];rfl
    ·rw[if_neg q,if_neg (λz=>q (Nat.lt_of_succ_lt_succ z))];exact C.other _ (by lia)
structure StL(l:List AO)(S:St):Prop where
 n:S.n=l.length
 get:∀i,S.get i=l[i]?
theorem stL(h:okS aos=true):StL aos (JZ aos):=by
 unfold okS at h;unfold JZ;induction e:stP aos ⟨0,.nil⟩with
 |none=>rw[e]at h;exact nb h
 |some S=>
  have z:=stP_of e;refine⟨z.1.trans (Nat.zero_add _),λi=>?_⟩;have q:=z.2.2 i;rw[show (St.mk 0 .nil).n+i=i from Nat.zero_add i]at q;refine q.trans ?_;by_cases w:i<aos.length
  ·rw[if_pos w]
  ·rw[if_neg w,List.getElem?_eq_none (Jf w)];rfl
def ObL(om:Om)(nm:Nt)(s:Shared)(L:List Addr)(l:List Addr):List AO->Prop:=List.rec (motive:=λZ=>List AO->Prop) (λr=>r=[]) (λa Z ih r=>List.rec False (λao r Z=>(∃o,s.heap.get? a=some o/\OkP om nm L a ao o)/\ih r) r) l
theorem ObL.nil{L:List Addr}:ObL om nm s L [] []:=rfl
theorem ObL.cons{L:List Addr}{r:List AO}(ho:s.heap.get? a=some o)(ok:OkP om nm L a ao o)(h:ObL om nm s L l r):ObL om nm s L (a::l) (ao::r):=⟨⟨o,ho,ok⟩,h⟩
theorem OkP.lst{L:List Addr}{vs:List AV}{xs:Array Value}{n:Nat}(d:Jq nm L vs xs.toList):OkP om nm L a (.list vs) (listOf xs n):=⟨xs,n,rfl,d⟩
theorem ObL.get{L:List Addr}:∀{l:List Addr} {aos:List AO} {i:Nat} {ao:AO},ObL om nm s L l aos->aos[i]?=some ao->∃a o,l[i]?=some a/\s.heap.get? a=some o/\OkP om nm L a ao o
 |[],_,_,_,h,e=>by cases h;exact nomatch e
 |a::l,[],_,_,h,_=>h.elim
 |a::l,ao::r,0,_,h,e=>h.1.elim λo g=>⟨a,o,rfl,g.1,oi e▸g.2⟩
 |a::l,ao::r,i+1,_,h,e=>ObL.get (i:=i) h.2 e
theorem ObL.len{L:List Addr}:∀{l:List Addr} {aos:List AO},ObL om nm s L l aos->l.length=aos.length
 |[],_,h=>by cases h;rfl
 |a::l,[],h=>h.elim
 |a::l,ao::r,h=>Ja (·+1) (ObL.len h.2)
theorem Beg.of(h:ObL om nm s own own aos)(w:StL aos S):Beg om nm s own S:=⟨h.len.trans w.n.symm,λi hi=>⟨aos[i]'(w.n▸hi),by rw[w.get];exact Φ _⟩,λi ao e=>h.get ((w.get i).symm.trans e)⟩
def sel(is:List Nat)(c:R):Option (Out×List (Option AO)):=R.rec none (λo S=>some (o,is.map S.get)) (λZ Z Z Z Z=>none) c
theorem sel_leaf{is:List Nat}{o:Out}{gs:List (Option AO)}(h:sel is c=some (o,gs))(k:∀S,is.map S.get=gs->φ o S):WJ u c φ:=by
 induction c with
 |no=>exact no h
 |ask i t f=>exact no h
 |ok o' S=>cases h;exact k S rfl
theorem gets{is:List Nat}{gs:List (Option AO)}(h:is.map S.get=gs){j:Nat}(hi:is[j]?=some i)(hg:gs[j]?=some (some ao)):S.get i=some ao:=by
 subst h;rw[δ,hi]at hg;exact oi hg
theorem Wt.frm(x:Wt G fs){e:Env}(he:e∈Jv fs):∃f,(f,e)∈fs/\e.frame=some e.locals/\x.L[f.l]?=some e.locals/\∃es,x.S.get f.l=some (.ns es):=(reals_mem he).elim λp r=>by
 obtain ⟨hp,hc,rfl⟩:=r;have F:=x.ok p hp;exact⟨p.1,hp,(F.1.fr hc).1,F.1.loc,F.2⟩
structure Ex2(G:Gd)(L L':List Addr):Prop where
 pre:L<+:L'
 nd:L.Nodup->L'.Nodup
 n:∀a∈L',a∈L\/New G L a
theorem Ex2.of{L L':List Addr}(h:Ext G L L'):Ex2 G L L':=⟨h.pre,h.nd,λa ha=>by
 rcases h with rfl|⟨z,rfl,hz⟩
 ·exact .inl ha
 ·exact(ma_ ha).imp id λq=>by rw[ms_ q];exact hz⟩
theorem Ex2.new{L L':List Addr}(h:Ex2 G L L')(d:∀a∈L,G.hF.get? a=none):∀a∈L',G.hF.get? a=none:=λa ha=>(h.n a ha).elim (d a) λq=>q.F
theorem Ex2.outs{L L':List Addr}(h:Ex2 G L L'){p:Addr×(Str->Option Value)}(hp:p∈G.outm)(d:p.1∉L):p.1∉L':=λhy=>(h.n _ hy).elim d λq=>q.o p hp rfl
theorem Wt.after(x:Wt G fs)(hown:∀a∈own,a∈x.L)(af:Aft own (Jv fs++G.out) x.s s')(hL:Ex2 G x.L L')(hn:L'.length=S'.n)(h:∀j,(S'.get j=x.S.get j/\∀b,x.L[j]?=some b->b∉own)\/∃ao,S'.get j=some ao/\Obs G s'.heap L' j ao)(all:∀j,x.S.n<=j->j<S'.n->∃ao,S'.get j=some ao):Rep G S' L' s':=by
 have kp:∀b o,b∉own->x.s.heap.get? b=some o->(∃e∈Jv fs++G.out,e.frame=some b)\/s'.heap.get? b=some o:=λb o hb e=>(Classical.em _).imp id λhn=>af.keep b o hb (λe' he a hf hm=>hn ⟨e',he,(ms_ hm)▸hf⟩) e;have fr:∀b o m,x.s.heap.get? b=some o->nsP m o->b∉own->∃o',s'.heap.get? b=some o'/\nsP m o':=λb o m e hm hb=>(kp b o hb e).elim (λq=>q.elim λe' q=>af.frs e' q.1 b m o q.2 e hm) λq=>⟨o,q,hm⟩;refine⟨hn,hL.nd x.r.nd,λb o e=>(kp b o (λhm=>no ((x.r.new b (hown b hm)).symm.trans e)) (x.r.keep b o e)).elim (λq=>q.elim λe' q=>?_) id,hL.new x.r.new,λj hj=>?_,λj ao e=>?_,af.gens.trans x.r.gens,af.dr.trans x.r.dr,af.os.trans x.r.os,x.r.own.trans hL.pre,λp hp=>⟨hL.outs hp (x.r.outs p hp).1,(x.r.outs p hp).2.elim λo q=>fr _ o _ q.1 q.2 λhm=>(x.r.outs p hp).1 (hown _ hm)⟩⟩
 ·refine(ma_ q.1).elim (λhe=>(x.frm he).elim λf r=>?_) λhe=>(G.oute e' he).2.elim λp r=>?_
  ·cases r.2.1.symm.trans q.2
   exact no ((x.r.new _ (Θ r.2.2.1)).symm.trans e)
  ·cases r.2.symm.trans q.2
   exact no ((G.outn p r.1).1.symm.trans e)
 ·by_cases q:j<x.S.n
  ·exact(h j).elim (λh=>(x.r.all j q).elim λao e=>⟨ao,h.1.trans e⟩) λh=>h.elim λao h=>⟨ao,h.1⟩
  ·exact all j (Jf q) hj
 ·refine(h j).elim (λh=>?_) λh=>h.elim λao' h=>oi (h.1.symm.trans e)▸h.2
  refine(x.r.objs j ao (h.1.symm.trans e)).el λa o ha ho ok=>(kp a o (h.2 a ha) ho).elim (λq=>q.elim λe' q=>?_) λq=>⟨a,o,Jp hL.pre ha,q,ok.mono hL.pre⟩;refine(ma_ q.1).elim (λhe=>(x.frm he).elim λf r=>?_) λhe=>(G.oute e' he).2.elim λp r=>?_
  ·cases r.2.1.symm.trans q.2
   cases Ju x.r.nd ha r.2.2.1;refine r.2.2.2.elim λes g=>?_;cases g.symm.trans (h.1.symm.trans e);exact ok.ns_ λm hs hm hk=>(fr _ o m ho hm (h.2 _ ha)).elim λo' g=>⟨_,o',Jp hL.pre ha,g.1,hs,m,g.2,hk.mono hL.pre⟩
  ·cases r.2.symm.trans q.2
   exact absurd (Θ ha) (x.r.outs p r.1).1
def Wt.to(x:Wt G fs)(R:Rep G S' L' s')(p:x.L<+:L')(m:NsK x.S S'):Wt G fs:=⟨S',L',s',R,λq hq=>⟨(x.ok q hq).1.mono p,(x.ok q hq).2.elim λes e=>m _ es e⟩⟩
theorem PG.stay(P:PG x (.ok (.v v) x.S) Q E)(af:Aft [] (Jv fs++G.out) x.s s')(d:Den G.nm x.L v w):Q w s':=
 (P (x.to (x.after (λZ h=>absurd h Ξ) af (.of (.inl rfl)) x.r.len (λj=>.inl ⟨rfl,λZ Z=>Ξ⟩) λj h1 h2=>absurd h2 (ϖ h1)) (ζ _) λi es e=>⟨es,e⟩) (ζ _) rfl).1 v w rfl d
theorem PG.new(P:PG x (pushV x.S ao) Q E)(af:Aft [] (Jv fs++G.out) x.s s')(hn:x.s.heap.get? ad=none)(hf:Fre (Jv fs++G.out) [ad])(ho:s'.heap.get? ad=some o)(ok:OkP G.om G.nm (x.L++[ad]) ad ao o):Q (.ref ad) s':=
 P.ob λS1 e P=>by
  have C:=St.push_get e;have N:New G x.L ad:=⟨λhL=>x.r.live hL λZ Z o Z Z e Z=>no (hn.symm.trans e),by
   induction e:G.hF.get? ad with
   |none=>rfl
   |some o=>exact no (hn.symm.trans (x.r.keep _ o e)),λp hp e=>(x.r.outs p hp).2.elim λo q=>no (hn.symm.trans (e▸q.1))⟩
  have p:x.L<+:x.L++[ad]:=θ _ _;have q:(x.L++[ad])[x.S.n]?=some ad:=x.r.len▸ZE x.L _;have R:=x.after (S':=S1) (L':=x.L++[ad]) (λZ h=>absurd h Ξ) af (.of (.inr ⟨_,rfl,N⟩)) (by rw[ς,C.n,x.r.len];rfl) (λj=>by
   by_cases z:j=x.S.n
   ·exact .inr ⟨ao,z▸C.self,ad,o,z▸q,ho,ok⟩
   ·exact .inl ⟨C.other j z,λZ Z=>Ξ⟩) λj h1 h2=>⟨ao,(Nat.le_antisymm (Je (Ϛ h2 (Nat.le_of_eq C.n))) h1)▸C.self⟩
  exact(P (x.to R p (C.ns λes z=>(x.r.objs _ _ z).el λZ Z r Z Z=>absurd (lt_ r) (by rw[x.r.len];exact Jj _))) p rfl).1 _ _ rfl ⟨ad,q,rfl⟩
theorem Wt.fre(x:Wt G fs)(h:∀a∈l,∃i ao,x.L[i]?=some a/\x.S.get i=some ao/\∀es,ao≠.ns es):Fre (Jv fs++G.out) l:=λe he a hf hm=>(h a hm).elim λi r=>r.elim λao r=>(ma_ he).elim (λhe=>(x.frm he).elim λf q=>by
  cases q.2.1.symm.trans hf;cases Ju x.r.nd r.1 q.2.2.1;exact q.2.2.2.elim λes g=>r.2.2 es (oi (r.2.1.symm.trans g))) λhe=>(G.oute e he).2.elim λp q=>by
  cases q.2.symm.trans hf;exact(x.r.outs p q.1).1 (Θ r.1)
theorem Fre.one(h:Fre out l)(hm:a∈l):Fre out [a]:=λe he b hf hb=>h e he b hf ((ms_ hb)▸hm)
theorem Wt.hb(x:Wt G fs)(h:a∈x.L):G.om.hb.get? a=none:=by
 induction e:G.om.hb.get? a with
 |none=>rfl
 |some o=>exact no ((x.r.new a h).symm.trans (G.base _ _ e))
theorem Fre.of_size{om:Om}{s:Shared}(h:FrsOk om s out)(hb:b<om.hb.objs.size):Fre out [b]:=λe he a hf hm=>(h e he).2.elim λa' r=>r.elim λm r=>r.elim λo r=>by
 cases r.1.symm.trans hf;exact absurd hb (ϖ ((ms_ hm)▸r.2.2.2))
theorem Gin.next(g:Gin om s own out)(B:Bk om nm own out s S' L' s')(nd:l.Nodup)(hl:∀a∈l,a∈L'):Gin om s' l out where
 base:=λb o e=>B.aft.keep b o (λhm=>no ((g.hb b hm).symm.trans e)) (Fre.of_size g.frs (ϱ e)) (g.base b o e)
 live:=λt ht=>(Classical.em (t∈own)).elim (λhm=>(mi_ (B.pre.subset hm)).elim λi hi=>by
  induction e:S'.get i with
  |some ao=>exact(B.objs i ao e).elim λa r=>r.elim λo r=>⟨o,(oi (r.1.symm.trans hi))▸r.2.1⟩
  |none=>exact(B.all i (B.len▸(lt_ hi))).elim λao h=>no (e.symm.trans h)) λhn=>(g.live t ht).imp λo e=>B.aft.keep t o hn (Fre.of_size g.frs (om.tbl t ht)) e
 gens:=B.aft.gens.trans g.gens
 dr:=B.aft.dr.trans g.dr
 os:=B.aft.os.trans g.os
 frs:=λe he=>⟨(g.frs e he).1,(g.frs e he).2.elim λa r=>r.elim λm r=>r.elim λo r=>(B.aft.frs e he a m o r.1 r.2.1 r.2.2.1).elim λo' q=>⟨a,m,o',r.1,q.1,q.2,r.2.2.2⟩⟩
 nd:=nd
 hb:=λa ha=>B.hb a (hl a ha)
 fre:=λe he a hf hm=>B.fre e he a hf (hl a hm)
theorem Bk.get(B:Bk om nm own out s S' L' s')(e:S'.get i=some ao)(ha:L'[i]?=some a){C:Prop}(k:∀o,s'.heap.get? a=some o->OkP om nm L' a ao o->C):C:=(B.objs i ao e).elim λb r=>r.elim λo r=>by
 cases r.1.symm.trans ha;exact k o r.2.1 r.2.2
theorem Bk.at_(B:Bk om nm own out s S' L' s')(e:S'.get i=some ao){C:Prop}(k:∀a o,L'[i]?=some a->s'.heap.get? a=some o->OkP om nm L' a ao o->C):C:=(B.objs i ao e).elim λb r=>r.elim λo r=>k b o r.1 r.2.1 r.2.2
theorem Bk.out_(B:Bk om nm own out s S' L' s'){b:Addr}(hb:b∉own)(e:s.heap.get? b=some o):b∉L':=λhm=>(mi_ hm).elim λi hi=>by
 by_cases q:i<own.length
 ·have h1:=Jp B.pre (Φ q)
  cases h1.symm.trans hi;exact hb (ο q)
 ·exact no ((B.new i b (Jf q) hi).symm.trans e)
theorem Aft.trans(B:Bk om nm own out s S' L' s'){s2:Shared}{l:List Addr}(a2:Aft l out s' s2)(hl:∀a∈l,a∈L'\/s.heap.get? a=none):Aft own out s s2 where
 keep:=λb o hb hf e=>a2.keep b o (λhm=>(hl b hm).elim (B.out_ hb e) λz=>no (z.symm.trans e)) hf (B.aft.keep b o hb hf e)
 frs:=λe he a m o h1 h2 h3=>(B.aft.frs e he a m o h1 h2 h3).elim λo' q=>a2.frs e he a m o' h1 q.1 q.2
 gens:=a2.gens.trans B.aft.gens
 dr:=a2.dr.trans B.aft.dr
 os:=a2.os.trans B.aft.os
theorem kn0{h:Heap}:Zp om h nm u own {}:=⟨λZ Z e=>no e,λZ Z Z e=>no e,λZ Z Z e=>no e,λZ Z Z e=>no e,λZ Z Z e=>no e,λZ Z Z e=>no e,λZ Z Z e=>no e,λZ Z Z e=>no e,λZ Z e=>no e,λZ Z e=>no e,λZ Z e=>no e⟩
theorem ora0{G:Gd}(h:∀a,JN a G.cx.sp=false):Wv G:=λa args A fs x us Q E hm=>nb ((h a).symm.trans hm)
theorem Jq.loc1{nm:Nt}{L:List Addr}{j:Nat}{l:List AV}{us:List Value}{C:Prop}(d:Jq nm L (.loc j::l) us)(k:∀a r,L[j]?=some a->us=.ref a::r->Jq nm L l r->C):C:=
 d.elim λu d=>d.elim λr d=>d.2.1.elim λa q=>k a r q.1 (d.1.trans (Ja (·::r) q.2)) d.2.2
theorem Jq.op1{nm:Nt}{L:List Addr}{j:Nat}{l:List AV}{us:List Value}{C:Prop}(d:Jq nm L (.op j::l) us)(k:∀r,us=.ref (nm.op j)::r->Jq nm L l r->C):C:=
 d.elim λu d=>d.elim λr d=>k r (d.1.trans (Ja (·::r) d.2.1)) d.2.2
theorem Jq.two_ops{nm:Nt}{L:List Addr}{i j:Nat}{us:List Value}(d:Jq nm L [.op i,.op j] us):us=[.ref (nm.op i),.ref (nm.op j)]:=
 d.two λZ Z e d1 d2=>by rw[e,show _=_ from d1,show _=_ from d2]
variable {K:Nat}{cx:Cx}{t:Tok}
def fiP(P:Params)(a:Nat):FnI:=Option.rec ⟨[],[],[],default,0,⟨#[]⟩⟩ (λx=>x) (fnP P a)
def cx0(P:Params):Cx:={P:=P,kn:={},sp:=[],ora:=λZ Z Z=>.no,lam:=false}
theorem nolam{P:Params}{l:List Addr}:(cx0 P).lam=true->tbs<+:l:=λh=>nb h
def okW:List Str:=["P","Q","S","W","F-1","A","B","X"]
def isP(l:List Nat):List Nat->Bool:=List.rec (motive:=λZ=>List Nat->Bool) (λZ=>true) (λa Z ih r=>List.rec false (λb r Z=>Bool.rec false (ih r) (Nat.beq a b)) r) l
def inL(x:List Nat)(l:List Nat):Bool:=List.rec (isP x []) (λb r ih=>Bool.rec ih true (isP x (b::r))) l
def pad(x:Str):Str:=((" ":Str)++x)++" "
def bad(l:List Nat):Bool:=okW.any λx=>inL (pad x).cps.toList l
theorem res_s:∃s:String,resS=Str.ofString s/\∃l,s=String.ofList l/\bad (l.map Char.toNat)=false:=⟨_,rfl,_,rfl,by rfl'⟩
theorem isP_take:∀{x l:List Nat},l.take x.length=x->isP x l=true
 |[],_,_=>rfl
 |a::x,[],h=>nomatch h
 |a::x,b::l,h=>by
  obtain ⟨e1,e2⟩:=List.cons.inj (show b::l.take x.length=a::x from h);subst e1;show (Bool.rec false (isP x l) (Nat.beq b b):Bool)=true;rw[Nat.beq_refl];exact isP_take e2
theorem inL_drop:∀{l:List Nat} {x:List Nat} (i:Nat),(l.drop i).take x.length=x->i+x.length<=l.length->inL x l=true
 |[],[],i,h,hl=>rfl
 |[],_::_,i,h,hl=>nomatch hl
 |b::l,x,0,h,_=>by
  show (Bool.rec (inL x l) true (isP x (b::l)):Bool)=true;rw[isP_take (l:=b::l) h]
 |b::l,x,i+1,h,hl=>by
  show (Bool.rec (inL x l) true (isP x (b::l)):Bool)=true;induction isP x (b::l)with
  |true=>rfl
  |false=>exact inL_drop i h (by simp only[Υ]at hl;lia)
theorem res_none{x:Str}(hx:x∈okW):(Builtin.Str.occurrences resS (pad x) 0 resS.length 1).isEmpty=true:=by
 obtain ⟨s,h1,l,rfl,h2⟩:=res_s;have hc:resS.cps.toList=l.map Char.toNat:=by
  rw[h1,Str.ofString_eq_toList,String.toList_ofList]
 have hn:inL (pad x).cps.toList (l.map Char.toNat)=false:=bf_ (List.any_eq_false.mp h2 x hx);rw[W.occ_nil_of_no resS (pad x) 1 λi hi=>?_];rfl;induction q:Builtin.Str.subAt resS (pad x) i with
 |false=>rfl
 |true=>
  unfold Builtin.Str.subAt at q;have q:=Ja Array.toList (beq_iff_eq.mp q);rw[Array.toList_extract]at q;have hl:(pad x).cps.toList.length=(pad x).length:=π;have hr:resS.cps.toList.length=resS.length:=π;refine nb (hn.symm.trans (inL_drop (l:=l.map Char.toNat) (x:=(pad x).cps.toList) i ?_ ?_))
  ·rw[<-hc,hl]
   rw[List.extract_eq_take_drop,show i+(pad x).length-i=(pad x).length from by lia]at q;exact q
  ·rw[<-hc,hr,hl];exact hi
def retE(b:List Stmt):Expr×Pos:=match b with
 |.Return (some e) p::_=>(e,p)
 |_=>(.Constant .none 0 default,default)
def cmpE(e:Expr):Expr×Expr×Pos:=match e with
 |.Compare l _ (r::_) p=>(l,r,p)
 |e=>(e,e,default)
def posE(e:Expr):Pos:=match e with
 |.Name _ p=>p
 |_=>default
def resD(P:Params):Expr×Pos×Pos×Pos:=((cmpE (retE (fiP P 571).body).1).1,posE (cmpE (retE (fiP P 571).body).1).2.1,(cmpE (retE (fiP P 571).body).1).2.2,(retE (fiP P 571).body).2)
theorem res_fi(P:Params):fnP P 571=some (fiP P 571):=by rfl'
theorem res_b(P:Params):(fiP P 571).body=[.Return (some (.Compare (resD P).1 [.In] [.Name "RESERVED" (resD P).2.1] (resD P).2.2.1)) (resD P).2.2.2]:=by rfl'
theorem res_run(P:Params)(x:Str)(k:FrA->St->R):enterX false (fiP P 571) [.str x] (JZ []) k=k (frZ (fiP P 571) 0 []) (JZ [.ns [("word",.str x)]]):=by rfl'
theorem res_l(P:Params):okW.map (λx=>sel [] (run (cx0 P) 9 (.ev (frZ (fiP P 571) 0 []) (resD P).1) (JZ [.ns [("word",.str x)]])))=okW.map λx=>some (.v (.str (pad x)),[]):=by rfl'
theorem res_nm(P:Params):look "RESERVED" (fiP P 571).sc.names=some .globalImplicit:=by rfl'
theorem res_ok(hres:∃t,om.mg "RESERVED"=some (.str resS t)){x:Str}(hx:x∈okW)(p:Pt om A s (K+100))(hfr:A.frames=some out)(h9:∀s',Aft [] out s s'->Q (.bool false) s'):wpAny (Mdl om) A (call (.ref 571) [.str x t]) Q E s:=by
 have g:Gin om s [] out:=p.gin hfr ϑ (λZ h9=>absurd h9 Ξ) λZ Z Z Z=>Ξ;refine goF (nm:=⟨λZ=>"",λZ=>0⟩) (u:=λZ=>false) (cx:=cx0 om.w.params) (S:=JZ []) (K:=K+99) p hfr g (Beg.of rfl (stL rfl)) rfl nolam kn0 (res_fi _) (Jq.cons (a:=.str x) ⟨t,rfl⟩ Jq.nil) (res_run _ x) λenv L' s1 F Fr B=>?_;rw[res_b];have g1:Gin om s1 L' out:=g.next B B.nd λZ h=>h;have b1:Beg om ⟨λZ=>"",λZ=>0⟩ s1 L' _:=⟨B.len,B.all,B.objs⟩;let x0:=g1.sit (u:=λZ=>false) (cx:=cx0 om.w.params) b1 F.fr F.p.hdl rfl nolam kn0 0 Fr rfl rfl ⟨_,((stL rfl).get 0)⟩;refine wpAny_execs_cons (wpAny_Return_some ?_);show wpAny _ _ (do compareChain (resD om.w.params).2.2.1 (<-eval (resD om.w.params).1 env) [.In] (markedEach [.In] [.Name "RESERVED" (resD om.w.params).2.1] (evalEach [.Name "RESERVED" (resD om.w.params).2.1] env))) _ _ _;refine Γ ((Wl 9).ev (x:=x0) ⟨F.p.room.le (show 2*9+60+0<=K+99 by lia),ora0 λZ=>rfl⟩ (WJ.post (φ:=λo Z=>o=.v (.str (pad x))) (sel_leaf (List.map_inj_left.mp (res_l om.w.params) x hx) λZ Z=>rfl) λo S1 h x1 q e=>⟨λv r=>?_,λi z=>nomatch h.symm.trans z⟩));obtain ⟨a,ha,da⟩:=r;cases h.symm.trans ha;refine da.str_ λt1 e1=>?_;subst e1;show wpAny _ _ (compareChain _ _ [.In] [markedBehindIn .In (.Name "RESERVED" _) (eval (.Name "RESERVED" _) env)]) _ _ _;rw[markedBehindIn_of_false rfl];show wpAny _ _ (do
   let rv<-holding [_] (eval (.Name "RESERVED" _) env)
   standAt _
   operate [_,rv] (compareOp .In _ rv)) _ _ _
 have T:=x1.top;have gn:x1.s.heap.Ns env.globals om.mg:=T.gl▸om.T.g.keeps λb o=>x1.base;obtain ⟨tr,hr⟩:=hres;refine Γ (ω (Name_function_global x1.fun_ (T.kind (res_nm om.w.params)) (loadGlobal_global gn hr (Γ (ϙ (opd_ (PyProof.Rows.in_str ?_)))))));rw[res_none hx];exact h9 _ (Aft.trans B (g1.end_ x1.r).aft λZ h=>.inl h)
set_option exponentiation.threshold 2000
variable {aT:Addr}{t1 t2:Tok}
def sipR(P:Params)(m:Int)(x y:Int):Option (Out×List (Option AO)):=sel [0] (ZF (run (cx0 P) 12) false (fiP P 802) [.loc 0,.int m] (JZ [.list [.int x,.int y]]))
noncomputable abbrev SipOk(P:Params)(m x y:Int):Prop:=sipR P m x y=some (.v (.int (Int.fmod (WH x y) m)),[some (.list [.int (Int.fdiv (WH x y) m),.int (sipB x y)])])
theorem sip_s(P:Params)(k:Nat)(y:Int):SipOk P 2 (Int.ofNat (Nat.succ k)) y/\SipOk P 3 (Int.ofNat (Nat.succ k)) y/\SipOk P 4 (Int.ofNat (Nat.succ k)) y/\SipOk P 5 (Int.ofNat (Nat.succ k)) y/\SipOk P 11 (Int.ofNat (Nat.succ k)) y:=⟨by rfl',by rfl',by rfl',by rfl',by rfl'⟩
def sipM:List Nat:=[2,3,4,5,11]
def JW(n:Nat):List Nat:=Nat.rec [] (λk ih=>k::ih) n
theorem JD:∀{n k:Nat},k<n->k∈JW n
 |n+1,k,h=>(Nat.lt_or_eq_of_le (Je h)).elim (λh=>.tail _ (JD h)) λe=>e▸.head _
def refill(y:Int):Int:=Int.fdiv (((y+1)*(y+1)-(y+1)+41) ^ 20) 777
def isI(p:Int)(a:AV):Bool:=Option.rec false (λi=>decide (i=p)) (Zw a)
def isI2(q z:Int)(l:List AV):Bool:=List.rec false (λa r Z=>isI q a&&List.rec false (λb r Z=>isI z b&&JM (neL r)) r) l
def sipZ(r:Option (Out×List (Option AO)))(p q z:Int):Bool:=Option.rec false (λt=>Option.rec false (isI p) (Ya t.1)&&List.rec false (λg r Z=>Option.rec false (isI2 q z) (obO g Zc)&&JM (neL r)) t.2) r
theorem isI_of{p:Int}{a:AV}(h:isI p a=true):a=.int p:=by
 unfold isI at h;induction e:Zw a with
 |none=>rw[e]at h;exact nb h
 |some i=>rw[e]at h;rw[JO e,κ h]
theorem neL_of{α:Type}{l:List α}(h:JM (neL l)=true):l=[]:=by
 induction l using c_ with
 |nil=>rfl
 |cons _ _=>exact nb h
theorem isI2_of{q z:Int}{l:List AV}(h:isI2 q z l=true):l=[.int q,.int z]:=by
 induction l using c_ with
 |nil=>exact nb h
 |cons a r=>
  refine Jr h λh1 h=>?_;induction r using c_ with
  |nil=>exact nb h
  |cons b r=>exact Jr h λh2 h3=>by rw[isI_of h1,isI_of h2,neL_of h3]
theorem sipZ_of{r:Option (Out×List (Option AO))}{p q z:Int}(h:sipZ r p q z=true):r=some (.v (.int p),[some (.list [.int q,.int z])]):=by
 induction r with
 |none=>exact nb h
 |some t=>
  obtain ⟨o,l⟩:=t;refine Jr h λh1 h2=>?_;induction o with
  |v a=>
   rw[isI_of (show isI p a=true from h1)];induction l using c_ with
   |nil=>exact nb h2
   |cons g r=>
    refine Jr h2 λh2 h3=>?_;induction g with
    |none=>exact nb h2
    |some ao=>
     change (Option.rec false (isI2 q z) (Zc ao):Bool)=true at h2;induction e:Zc ao with
     |none=>rw[e]at h2;exact nb h2
     |some vs=>rw[e]at h2;rw[Zf e,isI2_of h2,neL_of h3]
  |_=>exact nb h1
def zB(P:Params)(m c:Nat):Bool:=sipZ (sipR P (Int.ofNat m) 0 (Int.ofNat c)) (Int.fmod (refill (Int.ofNat c)) (Int.ofNat m)) (Int.fdiv (refill (Int.ofNat c)) (Int.ofNat m)) (Int.ofNat c+1)&&(decide (0<=refill (Int.ofNat c))&&decide (refill (Int.ofNat c)<2 ^ 700))
theorem sipz(P:Params):(sipM.all λm=>(JW 60).all λc=>zB P m c)=true:=by rfl'
theorem zB_of(P:Params){m:Nat}(hm:m∈sipM){y:Int}(h0:0<=y)(h1:y<60):SipOk P m 0 y/\0<=refill y/\refill y<2 ^ 700:=by
 obtain ⟨c,rfl⟩:∃c:Nat,y=Int.ofNat c:=⟨y.toNat,(Int.toNat_of_nonneg h0).symm⟩;have hc:c<60:=Int.ofNat_lt.mp h1;have z:=al_ (al_ (sipz P) m hm) c (JD hc);exact Jr z λz1 z2=>Jr z2 λz4 z5=>⟨sipZ_of z1,κ z4,κ z5⟩
theorem sip_all(P:Params){m:Nat}(hm:m∈sipM){x y:Int}(hx:0<=x)(hy:0<=y)(hy2:y<60):SipOk P m x y:=by
 obtain ⟨n,rfl⟩:=Int.eq_ofNat_of_zero_le hx;induction n using Nat.casesAuxOn with
 |zero=>exact(zB_of P hm hy hy2).1
 |succ k=>
  have H:=sip_s P k y;rcases mc_ hm with rfl|hm
  ·exact H.1
  rcases mc_ hm with rfl|hm
  ·exact H.2.1
  rcases mc_ hm with rfl|hm
  ·exact H.2.2.1
  rcases mc_ hm with rfl|hm
  ·exact H.2.2.2.1
  rw[ms_ hm];exact H.2.2.2.2
theorem sipA_b(P:Params){x y:Int}(h:0<=x)(h2:x<2 ^ 700)(hy:0<=y)(hy2:y<60):0<=WH x y/\WH x y<2 ^ 700:=by
 unfold WH;split
 ·exact(zB_of P (.head _) hy hy2).2
 ·exact⟨h,h2⟩
theorem sip_fi(P:Params):fnP P 802=some (fiP P 802):=by rfl'
theorem Bk.list_(B:Bk om nm own out s S' L' s'){vs:List AV}(e:S'.get i=some (.list vs))(ha:L'[i]?=some a){C:Prop}(k:∀xs n,s'.heap.get? a=some (listOf xs n)->Jq nm L' vs xs.toList->C):C:=B.get e ha λo ho p=>p.list_ λxs n e d=>k xs n (e▸ho) d
theorem sip_ok{m:Nat}(hm:m∈sipM){x y:Int}(x0:0<=x)(y0:0<=y)(y1:y<60)(p:Pt om A s (K+100))(hfr:A.frames=some out)(fre:Fre out [aT])(hb:om.hb.get? aT=none)(ho:s.heap.get? aT=some (listOf #[.int x t1,.int y t2] n))
  (h:∀s' t t3 t4 n,Aft [aT] out s s'->s'.heap.get? aT=some (listOf #[.int (Int.fdiv (WH x y) m) t3,.int (sipB x y) t4] n)->Q (.int (Int.fmod (WH x y) m) t) s'):wpAny (Mdl om) A (call (.ref 802) [.ref aT,.int m t]) Q E s:=by
 have g:Gin om s [aT] out:=p.gin hfr (List.nodup_cons.mpr ⟨Ξ,ϑ⟩) (λa ha=>(ms_ ha)▸hb) fre
 refine go (n:=12) (nm:=⟨λZ=>"",λZ=>0⟩) (u:=λZ=>false) (cx:=cx0 om.w.params) (S:=JZ [.list [.int x,.int y]]) p hfr g (Beg.of (ObL.cons ho (OkP.lst (Jq.cons (a:=.int x) ⟨t1,rfl⟩ (Jq.cons (a:=.int y) ⟨t2,rfl⟩ Jq.nil))) ObL.nil) (stL rfl)) rfl nolam kn0 0 (by lia) (ora0 λZ=>rfl) (sip_fi _) (Jq.cons (a:=.loc 0) ⟨aT,rfl,rfl⟩ (Jq.cons (a:=.int m) ⟨t,rfl⟩ Jq.nil)) (sel_leaf (sip_all om.w.params hm x0 y0 y1) λS1 hg=>⟨_,rfl,λL1 s1 v B d=>d.int_ λt' e=>?_⟩)
 subst e
 refine B.list_ (i:=0) (gets hg (j:=0) rfl rfl) (Jp B.pre rfl) λxs n' hx dd=>Jq.two dd λu1 u2 eu d1 d2=>d1.int_ λt3 e3=>d2.int_ λt4 e4=>?_
 have hx2:xs=#[.int (Int.fdiv (WH x y) m) t3,.int (sipB x y) t4]:=Array.toList_inj.mp (by rw[eu,e3,e4])
 exact h s1 t' t3 t4 n' B.aft (hx2▸hx)
def sipV(d:Dw):AV:=Dw.rec (λZ k=>.int (Int.ofNat k)) (λm k=>.ix m k) d
def oraSip(args:List AV)(S:St):R:=two2 args λa b=>ob (Zh a) λi=>ob (gv vTap S i) λds=>List.rec .no (λd r Z=>ob (Zw b) λm=>ifT (decide (m=Int.ofNat d.m)&&JN d.m sipM) (setR S i (.tap r) λS=>.ok (.v (sipV d)) S)) ds
theorem vTap_of{ds:List Dw}(h:vTap ao=some ds):ao=.tap ds:=WS (c:=AO.tap) (by clear h;induction ao<;>exact rfl) h
theorem PG.two_{x:Wt G fs}{args:List AV}{k:AV->AV->R}(P:PG x (two2 args k) Q E)(h:∀a b,args=[a,b]->PG x (k a b) Q E->C):C:=by
 induction args using c_ with
 |nil=>exact P.elim
 |cons a r=>induction r using c_ with
  |nil=>exact P.elim
  |cons b r=>induction r using c_ with
   |nil=>exact h a b rfl P
   |cons _ _=>exact P.elim
theorem sip_core{x:Wt G fs}{args:List AV}{us:List Value}{V:Dw->St->R}(P:PG x (two2 args λa b=>ob (Zh a) λi=>ob (gv vTap x.S i) λds=>List.rec .no (λd r Z=>ob (Zw b) λm=>ifT (decide (m=Int.ofNat d.m)&&JN d.m sipM) (setR x.S i (.tap r) λS=>V d S)) ds) Q E)(p:Pt G.om A x.s (K+100))(hfr:A.frames=some (Jv fs++G.out))(d:Jq G.nm x.L args us)
  (k:∀(y:Wt G fs) (e:Dw) (z:Int) (t:Tok),PG y (V e y.S) Q E->Draw G.nm.f e z->Q (.int z t) y.s):wpAny (Mdl G.om) A (call (.ref 802) us) Q E x.s:=
 P.two_ λa b e P=>P.ob λi hi P=>P.ob λds hds P=>by
  subst e;cases JQ hi;refine Jz hds λao hg hv=>?_;cases vTap_of hv;refine d.two λu1 u2 eu d1 d2=>d1.loc_ λaT ha e1=>x.r.get hg ha λo ho q=>q.elim λX q=>q.elim λY q=>q.elim λt1 q=>q.elim λt2 q=>q.elim λn q=>?_;obtain ⟨eo,T,D⟩:=q;induction ds using c_ with
  |nil=>exact P.elim
  |cons e ds=>
   refine P.ob λm hm P8=>P8.ifT λhc P9=>Jr hc λh1 h2=>?_;cases JO hm;cases κ h1;refine d2.int_ λt3 e3=>?_;rw[eu,e1,e3];have T1:=T.y1;rw[Υ]at T1;refine sip_ok (JV h2) T.x0 T.y0 (by lia) p hfr (x.fre λa ha'=>⟨_,_,(ms_ ha')▸ha,hg,λZ z=>nomatch z⟩) (x.hb (Θ ha)) (eo▸ho) λs1 t t4 t5 n1 af h'=>P9.ob λS1 es P=>?_;have A1:=sipA_b G.om.w.params T.x0 T.x1 T.y0 (show Y<60 by lia);have m0:(0:Int)<Int.ofNat e.m:=Int.ofNat_lt.mpr D.1;have hq:Int.fdiv (WH X Y) (Int.ofNat e.m)=WH X Y / Int.ofNat e.m:=Int.fdiv_eq_ediv_of_nonneg _ (Int.le_of_lt m0);have yb:Y<=sipB X Y/\sipB X Y<=Y+1:=by unfold sipB;split<;>lia
   have Ch:=St.set_get es;have R:=x.after (S':=S1) (L':=x.L) (λa h=>(ms_ h)▸Θ ha) af (.of (.inl rfl)) (x.r.len.trans Ch.n.symm) (λj=>by
    by_cases q:j=i
    ·exact .inr ⟨.tap ds,q▸Ch.self,aT,_,q▸ha,h',show OkP G.om G.nm x.L aT (.tap ds) _ from ⟨_,_,t4,t5,n1,rfl,⟨hq▸Int.ediv_nonneg A1.1 (Int.le_of_lt m0),hq▸Int.lt_of_le_of_lt (Int.ediv_le_self _ A1.1) A1.2,Int.le_trans T.y0 yb.1,by lia⟩,D.2.2⟩⟩
    ·exact .inl ⟨Ch.other j q,λb hb hm=>q (Ju x.r.nd hb (ms_ hm▸ha))⟩) λj h1 h2=>absurd h2 (ϖ (Ch.n▸h1))
   exact k (x.to R (ζ _) (Ch.ns λes z=>nomatch hg.symm.trans z)) e _ t (P.up (ζ _)) D.2.1
theorem sip_ora{x:Wt G fs}{args:List AV}{us:List Value}(P:PG x (oraSip args x.S) Q E)(p:Pt G.om A x.s (K+100))(hfr:A.frames=some (Jv fs++G.out))(d:Jq G.nm x.L args us):wpAny (Mdl G.om) A (call (.ref 802) us) Q E x.s:=
 sip_core (V:=λd S=>.ok (.v (sipV d)) S) P p hfr d λy e z t P D=>(P y (ζ _) rfl).1 _ _ rfl (by
  induction e with
  |c m k=>exact⟨t,Ja (λz=>Value.int z t) D⟩
  |y m k=>exact D.elim λi0 r=>⟨t,i0,Ja (λz=>Value.int z t) r.1,r.2⟩)
variable {n2:Nat}{ar aq:Addr}{xs zs:Array Value}{ys qs:List Str}
inductive DT where
 |leaf (b:Bool)|ask (i:Nat) (t f:DT)
def DT.ev(u:Nat->Bool)(d:DT):Bool:=DT.rec (λb=>b) (λi Z Z t f=>Bool.rec f t (u i)) d
def boolO(o:Out):Option DT:=Out.rec (λa=>obO (ZN a) λb=>some (.leaf b)) (λZ=>none) (λZ=>none) none (λZ=>none) (λZ=>none) o
def skel(c:R):Option DT:=R.rec none (λo Z=>boolO o) (λi Z Z a b=>obO a λx=>obO b λy=>some (.ask i x y)) c
theorem skel_leaf{d:DT}(h:skel c=some d)(k:∀S,φ (.v (.bool (d.ev u))) S):WJ u c φ:=by
 induction c generalizing d with
 |no=>exact no h
 |ok o S=>
  induction o with
  |v a=>
   exact Jo h λb hb h=>by
    cases ZM hb;cases h;exact k S
  |_=>exact no h
 |ask i t f iht ihf=>
  refine Jo (show obO (skel t) (λx=>obO (skel f) λy=>some (.ask i x y))=some d from h) λx hx h=>Jo h λy hy h=>?_;cases h;refine⟨λe=>iht hx λS=>?_,λe=>ihf hy λS=>?_⟩
  ·have:=k S
   change φ (.v (.bool (Bool.rec (y.ev u) (x.ev u) (u i)))) S at this;rw[e]at this;exact this
  ·have:=k S
   change φ (.v (.bool (Bool.rec (y.ev u) (x.ev u) (u i)))) S at this;rw[e]at this;exact this
theorem Fre.of_obj(h:FrsOk om s out)(ho:s.heap.get? a=some o)(hd:∀es ep,o.data≠.dict es ep):Fre out [a]:=λe he b hf hm=>(h e he).2.elim λa' r=>r.elim λm r=>r.elim λo' r=>by
 cases r.1.symm.trans hf;cases ms_ hm;cases r.2.1.symm.trans ho;exact r.2.2.1.elim λes q=>q.elim λep q=>hd es ep q.1
theorem Pt.gin0(p:Pt om A s k)(hfr:A.frames=some out):Gin om s [] out:=p.gin hfr ϑ (λZ h9=>absurd h9 Ξ) λZ Z Z Z=>Ξ
theorem Gin.frz(g:Gin om s own out)(ho:s.heap.get? a=some o)(hn:a∉own)(hd:∀es ep,o.data≠.dict es ep):g.hF.get? a=some o:=g.stays a o hn (Fre.of_obj g.frs ho hd) ho
def Zu(om:Om)(h:Heap)(nm:Nt)(own:List Addr)(l:List (Nat×AO)):Prop:=List.rec True (λp Z ih=>(∃o,h.get? (nm.op p.1)=some o/\∀L,own<+:L->OkP om nm L (nm.op p.1) p.2 o)/\ih) l
theorem Zu.get{h:Heap}:∀{l:List (Nat×AO)} {k:Nat} {ao:AO},Zu om h nm own l->JE k l=some ao->∃o,h.get? (nm.op k)=some o/\∀L,own<+:L->OkP om nm L (nm.op k) ao o:=by
 intro v0_;induction v0_ with
 |nil=>
  intro Z Z Z e;exact nomatch e
 |cons z9 l ih=>
  intro k ao H e;obtain ⟨b,x⟩:=z9;change (Bool.rec (JE k l) (some x) (Nat.beq k b):Option AO)=some ao at e;induction q:Nat.beq k b with
  |true=>rw[q]at e;cases e;rw[nq q];exact H.1
  |false=>rw[q]at e;exact ih H.2 e
theorem Zu.cons{h:Heap}{l:List (Nat×AO)}(e:nm.op k=a)(ho:h.get? a=some o)(ok:∀L,own<+:L->OkP om nm L a ao o)(H:Zu om h nm own l):Zu om h nm own ((k,ao)::l):=⟨⟨o,e.symm▸ho,e.symm▸ok⟩,H⟩
theorem OkP.tp{L:List Addr}{vs:List AV}(d:Jq nm L vs xs.toList):OkP om nm L a (.tup vs) ⟨.type "tuple",none,.seq xs n,#[]⟩:=⟨xs,n,rfl,d⟩
def JF(qs:List Str)(ys:List Str):Bool:=List.rec (motive:=λZ=>List Str->Bool) (λqs=>List.rec true (λZ Z Z=>false) qs) (λy Z ih qs=>List.rec true (λq r Z=>Bool.rec (ih qs) (ih r) (decide (y=q))) qs) ys qs
def symsF(b:Nat)(n:Nat):List AV:=Nat.rec (motive:=λZ=>Nat->List AV) (λZ=>[]) (λZ ih b=>.sym 2 b::ih (b+1)) n b
def ldF(ys qs:List Str)(k:Nat):Str:=Bool.rec ((qs[k-300]?).getD "") ((ys[k-200]?).getD "") (Nat.blt k 300)
def ldU(ys qs:List Str)(t:Nat):Bool:=decide (ldF ys qs (200+t / 10)=ldF ys qs (300+t%10))
def ldE(i j:Nat):Option Qb:=ifO (Nat.ble 200 i&&Nat.blt i 300&&Nat.ble 300 j&&Nat.blt j 310) (some (.u ((i-200)*10+(j-300))))
def ldS(l m:Nat)(k:Nat):Option AO:=JE k [(0,.list (symsF 200 l)),(1,.tup (symsF 300 m))]
def ldCx(P:Params)(l m:Nat):Cx:={cx0 P with kn:={sob:=ldS l m,eqs:=ldE}}
def ltD(m r:Nat):Nat->Nat->DT:=Nat.rec (motive:=λZ=>Nat->Nat->DT) (λZ c=>.leaf (Nat.beq c m)) (λZ ih i c=>Bool.rec (ih (i+1) c) (.ask (i*10+c) (ih (i+1) (c+1)) (ih (i+1) c)) (Nat.blt c m)) r
def ltRun(P:Params)(l m:Nat):Option DT:=skel (ZF (run (ldCx P l m) 12) false (fiP P 334) [.op 0,.op 1] (JZ []))
theorem lt_run(P:Params)(m:Nat)(hm:m<=2):[ltRun P 0 m,ltRun P 1 m,ltRun P 2 m,ltRun P 3 m,ltRun P 4 m,ltRun P 5 m,ltRun P 6 m]=[some (ltD m 0 0 0),some (ltD m 1 0 0),some (ltD m 2 0 0),some (ltD m 3 0 0),some (ltD m 4 0 0),some (ltD m 5 0 0),some (ltD m 6 0 0)]:=by
 match m,hm with
 |0,_=>rfl'
 |1,_=>rfl'
 |2,_=>rfl'
theorem Wp(ys:List Str):JF [] ys=true:=by induction ys<;>rfl
theorem ltD_ev:∀{zs:List Str} {i c:Nat},c<=qs.length->(∀j y,zs[j]?=some y->∀d q,qs[d]?=some q->u ((i+j)*10+d)=decide (y=q))->(ltD qs.length zs.length i c).ev u=JF (qs.drop c) zs:=by
 intro v0_;induction v0_ with
 |nil=>
  intro i c hc Z;show Nat.beq c qs.length=(List.rec true (λZ Z Z=>false) (qs.drop c):Bool);induction q:Nat.beq c qs.length with
  |true=>rw[nq q,List.drop_length]
  |false=>
   have:c<qs.length:=Nat.lt_of_le_of_ne hc (ε q);rw[List.drop_eq_getElem_cons this]
 |cons y zs ih=>
  intro i c hc hu;have hu':∀j z,zs[j]?=some z->∀d q,qs[d]?=some q->u ((i+1+j)*10+d)=decide (z=q):=λj z hz d q hq=>by
   rw[show i+1+j=i+(j+1)by lia];exact hu (j+1) z hz d q hq
  show DT.ev u (Bool.rec (ltD qs.length zs.length (i+1) c) (.ask (i*10+c) (ltD qs.length zs.length (i+1) (c+1)) (ltD qs.length zs.length (i+1) c)) (Nat.blt c qs.length))=_;induction q:Nat.blt c qs.length with
  |false=>
   have e:qs.drop c=[]:=List.drop_eq_nil_iff.mpr (Jf λh=>absurd (Jc h) (by rw[show Nat.ble (c+1) qs.length=false from q];exact nofun));exact(ih hc hu').trans (by rw[e,Wp,Wp])
  |true=>
   have h:c<qs.length:=nl q;rw[List.drop_eq_getElem_cons h];show (Bool.rec (DT.ev u _) (DT.ev u _) (u (i*10+c)):Bool)=Bool.rec (JF (qs[c]::qs.drop (c+1)) zs) (JF (qs.drop (c+1)) zs) (decide (y=qs[c]));rw[show u (i*10+c)=decide (y=qs[c])from hu 0 y rfl c _ (Φ h),ih h hu',ih hc hu',<-List.drop_eq_getElem_cons h]
theorem dens_syms{L:List Addr}:∀{ys:List Str} {us:List Value} {b:Nat},StrsAre us ys->(∀i y,ys[i]?=some y->nm.f (b+i)=y)->(∀y∈ys,y∈JR 2)->Jq nm L (symsF b ys.length) us:=by
 intro ys us b h;induction h generalizing b with
 |nil=>exactλZ Z=>rfl
 |cons y t h ih=>exactλe hp=>Jq.cons (a:=.sym 2 b) ⟨t,Ja (λz=>Value.str z t) (e 0 y rfl).symm,(e 0 y rfl).symm▸hp y (.head _)⟩ (ih (λi z hz=>(Ja nm.f (Nat.succ_add_eq_add_succ b i)).trans (e (i+1) z hz)) λz hz=>hp z (.tail _ hz))
theorem ldF_y{y:Str}(hl:ys.length<=100)(e:ys[i]?=some y):ldF ys qs (200+i)=y:=by
 have hi:=(lt_ e);unfold ldF;rw[show Nat.blt (200+i) 300=true from Jc (by lia),show 200+i-200=i by lia,e];rfl
theorem ldF_q{y:Str}(e:qs[i]?=some y):ldF ys qs (300+i)=y:=by
 unfold ldF;rw[show Nat.blt (300+i) 300=false from bf_ λh=>absurd (nl h) (by lia),show 300+i-300=i by lia,e];rfl
def ldN(ys qs:List Str)(ar aq:Addr):Nt:=⟨ldF ys qs,λk=>Bool.rec aq ar (Nat.beq k 0)⟩
theorem ld_kn{h:Heap}(h1:h.get? ar=some (listOf xs n))(d1:StrsAre xs.toList ys)(h2:h.get? aq=some ⟨.type "tuple",none,.seq zs n2,#[]⟩)(d2:StrsAre zs.toList qs)(ly:ys.length<=6)(py:∀y∈ys,y∈JR 2)(pq:∀y∈qs,y∈JR 2){eq:Nat->Nat->Option Qb}(he:∀i j q,eq i j=some q->decide (ldF ys qs i=ldF ys qs j)=q.val u):
  Zp om h (ldN ys qs ar aq) u own {sob:=ldS ys.length qs.length,eqs:=eq} where
 sob k ao e:=Zu.get (l:=[(0,.list (symsF 200 ys.length)),(1,.tup (symsF 300 qs.length))]) (Zu.cons (a:=ar) rfl h1 (λL Z=>OkP.lst (dens_syms d1 (λi y e=>ldF_y (Jk ly (by decide)) e) py)) (Zu.cons (a:=aq) rfl h2 (λL Z=>OkP.tp (dens_syms d2 (λi y e=>ldF_q e) pq)) trivial)) e
 eqs i j q e:=he i j q e
 mem _ _ _ e:=no e
 lmem _ _ _ e:=no e
 same _ _ _ e:=no e
 smem _ _ _ e:=no e
 dget _ _ _ e:=no e
 oatt _ _ _ e:=no e
 fst _ _ e:=no e
 gl _ _ e:=no e
 dk _ _ e:=no e
theorem dm10{a d:Nat}(h:d<10):(a*10+d) / 10=a/\(a*10+d)%10=d:=⟨by rw[Nat.mul_comm,Nat.mul_add_div (by decide),Nat.div_eq_of_lt h];rfl,Nat.mul_add_mod_of_lt h⟩
theorem beq_c{a b c d:Nat}(h1:a=b->c=d)(h2:c=d->a=b):Nat.beq a b=Nat.beq c d:=Bool.eq_iff_iff.mpr ⟨λe=>h1 (nq e)▸Nat.beq_refl _,λe=>h2 (nq e)▸Nat.beq_refl _⟩
theorem beq_min{n p d z:Nat}(h:d<n)(hp:p<d):Nat.beq (d-(p+1)) z=Nat.beq d (Nat.min n (p+1+z)):=beq_c (λe=>by
  have w:p+1+z=d:=e▸Nat.add_sub_of_le hp;rw[w];exact(Nat.min_eq_right (Nat.le_of_lt h)).symm) λe=>by
  rw[(Nat.le_total n (p+1+z)).elim (λl=>absurd (e.trans (Nat.min_eq_left l)) (Jl h)) λl=>e.trans (Nat.min_eq_right l),Ψ]
theorem blt_min{n p z:Nat}:Nat.blt (Nat.min n (p+1+z)) n=Nat.blt z (n-(p+1)):=Bool.eq_iff_iff.mpr ⟨λe=>Jc (Nat.lt_sub_of_add_lt (Nat.add_comm z (p+1)▸(Nat.le_total n (p+1+z)).elim (λl=>absurd (nl e) λe=>Jj n (ϛ (Nat.le_of_eq (Nat.min_eq_left l).symm) e)) λl=>ϛ (Nat.le_of_eq (Nat.min_eq_right l).symm) (nl e))),λe=>Jc (ϛ (Nat.min_le_right _ _) (Nat.add_comm z (p+1)▸Nat.add_lt_of_lt_sub (nl e)))⟩
theorem two_el{α:Type}{P:List α->Prop}(l:List α)(h:l.length<=2)(h0:P [])(h1:∀a,P [a])(h2:∀a b,P [a,b]):P l:=by
 revert h;induction l using c_ with
 |nil=>exactλZ=>h0
 |cons a l=>induction l using c_ with
  |nil=>exactλZ=>h1 a
  |cons b l=>induction l using c_ with
   |nil=>exactλZ=>h2 a b
   |cons c l=>exactλh=>absurd h (Nat.not_le_of_lt (Nat.succ_lt_succ (Nat.succ_lt_succ (Nat.zero_lt_succ _))))
theorem ldE_ok(i j:Nat)(q:Qb)(e:ldE i j=some q):decide (ldF ys qs i=ldF ys qs j)=q.val (ldU ys qs):=Jt e λhc e=>Jr hc λhc h4=>Jr hc λhc h3=>Jr hc λh1 h2=>by
 cases e;have h1:=nl h1;have h3:=nl h3;have h4:j<310:=nl h4;show decide (ldF ys qs i=ldF ys qs j)=ldU ys qs ((i-200)*10+(j-300));unfold ldU;have w:=dm10 (a:=i-200) (Nat.sub_lt_left_of_lt_add h3 h4);rw[w.1,w.2,Nat.add_sub_of_le h1,Nat.add_sub_of_le h3]
theorem lt_fi(P:Params):fnP P 334=some (fiP P 334):=by rfl'
theorem seven{α:Type}{f g:Nat->α}(h:[f 0,f 1,f 2,f 3,f 4,f 5,f 6]=[g 0,g 1,g 2,g 3,g 4,g 5,g 6]){l:Nat}(hl:l<=6):f l=g l:=by
 exact JC (P:=λl=>f l=g l) (JC (JC (JC (JC (JC (JC WQ (oi (Ja (λz=>z[0]?) h))) (oi (Ja (λz=>z[1]?) h))) (oi (Ja (λz=>z[2]?) h))) (oi (Ja (λz=>z[3]?) h))) (oi (Ja (λz=>z[4]?) h))) (oi (Ja (λz=>z[5]?) h))) (oi (Ja (λz=>z[6]?) h)) l (Jh hl)
structure Lq(s:Shared)(ar aq:Addr)(ys qs:List Str):Prop where
 r:∃xs n,s.heap.get? ar=some (listOf xs n)/\StrsAre xs.toList ys
 q:∃xs n,s.heap.get? aq=some ⟨.type "tuple",none,.seq xs n,#[]⟩/\StrsAre xs.toList qs
 ly:ys.length<=6
 lq:qs.length<=2
 py:∀y∈ys,y∈JR 2
 pq:∀y∈qs,y∈JR 2
theorem lt_ok(D:Lq s ar aq ys qs)(p:Pt om A s (K+100))(hfr:A.frames=some out)(h:∀s',Aft [] out s s'->Q (.bool (JF qs ys)) s'):wpAny (Mdl om) A (call (.ref 334) [.ref ar,.ref aq]) Q E s:=by
 obtain ⟨xs,n,h1,d1⟩:=D.r;obtain ⟨zs,n2,h2,d2⟩:=D.q;have g:=p.gin0 hfr;have d0:Jq (ldN ys qs ar aq) [] [.op 0,.op 1] [.ref ar,.ref aq]:=⟨_,_,rfl,rfl,_,_,rfl,rfl,rfl⟩;have kn:=ld_kn (om:=om) (own:=[]) (g.frz h1 Ξ λZ Z=>nofun) d1 (g.frz h2 Ξ λZ Z=>nofun) d2 D.ly D.py D.pq ldE_ok;refine go (n:=12) (nm:=ldN ys qs ar aq) (u:=ldU ys qs) (own:=[]) (cx:=ldCx om.w.params ys.length qs.length) (S:=JZ []) p hfr g (Beg.of ObL.nil (stL rfl)) rfl (λh=>nb h) kn 0 (by lia) (ora0 λZ=>rfl) (lt_fi _) d0 (skel_leaf (seven (f:=λl=>ltRun om.w.params l qs.length) (g:=λl=>some (ltD qs.length l 0 0)) (lt_run om.w.params _ D.lq) D.ly) λS1=>⟨_,rfl,λL1 s1 v B d=>?_⟩);rw[ltD_ev (Nat.zero_le _) λj y hy d q hq=>?_]at d
 ·cases d;exact h s1 B.aft
 ·have hd:d<2:=Ϛ (lt_ hq) D.lq
  unfold ldU;have w:=dm10 (a:=0+j) (Nat.lt_trans hd (by decide));rw[w.1,w.2,Nat.zero_add,ldF_y (Jk D.ly (by decide)) hy,ldF_q hq]
def idxS(q:Str)(ys:List Str):Nat:=List.rec 0 (λy Z ih=>Bool.rec (ih+1) 0 (decide (y=q))) ys
theorem idxS_le(q:Str):∀ys:List Str,idxS q ys<=ys.length:=by
 intro v0_;induction v0_ with
 |nil=>
  exact Ϙ _
 |cons y ys ih=>
  show (Bool.rec (idxS q ys+1) 0 (decide (y=q)):Nat)<=_;induction decide (y=q)with
  |true=>exact Nat.zero_le _
  |false=>exact Nat.succ_le_succ (ih )
theorem idxS_at(q:Str):∀{ys:List Str} {i:Nat} {y:Str},i<=idxS q ys->ys[i]?=some y->decide (y=q)=Nat.beq i (idxS q ys)
 |y::ys,i,z,h,e=>by
  change i<=(Bool.rec (idxS q ys+1) 0 (decide (y=q)):Nat)at h;show decide (z=q)=Nat.beq i (Bool.rec (idxS q ys+1) 0 (decide (y=q)));induction w:decide (y=q)with
  |true=>rw[w]at h;cases Nat.le_zero.mp h;cases e;exact w
  |false=>
   rw[w]at h;induction i using Nat.casesAuxOn with
   |zero=>cases e;exact w
   |succ i=>exact idxS_at q (Nat.le_of_succ_le_succ h) e
theorem leadsB_cons(q:Str)(qs:List Str):∀ys:List Str,JF (q::qs) ys=(Nat.blt (idxS q ys) ys.length&&JF qs (ys.drop (idxS q ys+1))):=by
 intro v0_;induction v0_ with
 |nil=>
  exact rfl
 |cons y ys ih=>
  show (Bool.rec (JF (q::qs) ys) (JF qs ys) (decide (y=q)):Bool)=(Nat.blt (Bool.rec (idxS q ys+1) 0 (decide (y=q))) (ys.length+1)&&JF qs ((y::ys).drop (Bool.rec (idxS q ys+1) 0 (decide (y=q))+1)));induction decide (y=q)with
  |true=>exact(Bool.true_and _).symm
  |false=>exact ih
def llE(l m p1 p2:Nat)(i j:Nat):Option Qb:=ifO (Nat.ble 200 i&&Nat.blt (i-200) l) (Bool.rec (ifO (Nat.beq j 301&&Nat.blt 1 m&&Nat.blt p1 (i-200)&&Nat.ble (i-200) p2) (some (.b (Nat.beq (i-200) p2)))) (ifO (Nat.blt 0 m&&Nat.ble (i-200) p1) (some (.b (Nat.beq (i-200) p1)))) (Nat.beq j 300))
def llCx(P:Params)(l m p1 p2:Nat):Cx:={cx0 P with kn:={sob:=ldS l m,eqs:=llE l m p1 p2}}
def llRun(P:Params)(l m p1 p2:Nat):R:=ZF (run (llCx P l m p1 p2) 20) false (fiP P 814) [.op 0,.op 1] (JZ [])
def leafB(d:Option DT)(b:Bool):Bool:=Option.rec false (λd=>DT.rec (λc=>bxor1 b c) (λZ Z Z Z Z=>false) d) d
theorem leafB_of{d:Option DT}{b:Bool}(h:leafB d b=true):d=some (.leaf b):=by
 induction d with
 |none=>exact nb h
 |some d=>induction d with
  |leaf c=>induction b<;>induction c<;>first|rfl|exact nb h
  |ask _ _ _=>exact nb h
def llB(P:Params)(l p1 p2:Nat):Bool:=leafB (skel (llRun P l 2 p1 p2)) (Nat.blt p1 l&&Nat.blt p2 l)&&leafB (skel (llRun P l 1 p1 p2)) (Nat.blt p1 l)&&leafB (skel (llRun P l 0 p1 p2)) true
def llA(P:Params)(l:Nat):Bool:=(JW (l+1)).all λp1=>(JW (l+1)).all λp2=>orB (orB (Nat.blt l p1) (Bool.rec false (Nat.ble p2 p1) (Nat.blt p1 l))) (llB P l p1 p2)
theorem ll_run(P:Params):[llA P 0,llA P 1,llA P 2,llA P 3,llA P 4,llA P 5,llA P 6]=[true,true,true,true,true,true,true]:=by rfl'
theorem ll_at(P:Params){l p1 p2:Nat}(hl:l<=6)(h1:p1<=l)(h2:p2<=l)(h3:p1<l->p1<p2):llB P l p1 p2=true:=by
 have h:=al_ (al_ (seven (f:=λl=>llA P l) (g:=λZ=>true) (ll_run P) hl) p1 (JD (Jh h1))) p2 (JD (Jh h2));refine orB_of h ?_;have f1:Nat.blt l p1=false:=bf_ λh=>absurd (nl h) (by lia);rw[f1];show (Bool.rec false (Nat.ble p2 p1) (Nat.blt p1 l):Bool)=false;induction q:Nat.blt p1 l with
 |false=>rfl
 |true=>exact bf_ λh=>absurd (nl h) (by have:=h3 (nl q);lia)
def llP1(qs ys:List Str):Nat:=List.rec ys.length (λq Z Z=>idxS q ys) qs
def llP2(qs ys:List Str):Nat:=Option.rec ys.length (λq=>Nat.min ys.length (llP1 qs ys+1+idxS q (ys.drop (llP1 qs ys+1)))) qs[1]?
theorem llP1_le(qs ys:List Str):llP1 qs ys<=ys.length:=by induction qs using c_ with
 |nil=>exact Ϙ _
 |cons q _=>exact idxS_le q ys
theorem llP2_le(qs ys:List Str):llP2 qs ys<=ys.length:=by
 unfold llP2;induction qs[1]? with
 |none=>exact Ϙ _
 |some q=>exact Nat.min_le_left _ _
theorem llP_lt(qs ys:List Str)(h:llP1 qs ys<ys.length):llP1 qs ys<llP2 qs ys:=by
 unfold llP2;induction qs[1]? with
 |none=>exact h
 |some q=>exact Nat.lt_min.mpr ⟨h,by lia⟩
theorem llE_ok(ly:ys.length<=6)(lq:qs.length<=2)(i j:Nat)(q:Qb)(e:llE ys.length qs.length (llP1 qs ys) (llP2 qs ys) i j=some q):decide (ldF ys qs i=ldF ys qs j)=q.val u:=Jt e λhc e=>Jr hc λc1 c2=>by
 have h1:=nl c1;have h2:i-200<ys.length:=nl c2;obtain ⟨d,rfl⟩:=Ϟ h1;rw[Ψ]at h2 e;have hy:ys[d]?=some ys[d]:=Φ h2;rw[ldF_y (by lia) hy];generalize ys[d]=y at hy;induction hj:Nat.beq j 300 with
 |true=>
  rw[hj]at e;refine Jt e λhc e=>Jr hc λg1 g2=>?_;cases e;induction qs using c_ with
  |nil=>exact nomatch g1
  |cons q0 r=>
   rw[nq hj,show 300=300+0 from rfl,ldF_q (qs:=q0::r) rfl];exact idxS_at q0 (nl g2) hy
 |false=>
  rw[hj]at e;refine Jt e λhc e=>Jr hc λhc g4=>Jr hc λhc g3=>Jr hc λg1 g2=>?_;cases e;have g3:llP1 qs ys<d:=nl g3;have g4:=nl g4;have g2:1<qs.length:=nl g2;have hq:qs[1]?=some qs[1]:=Φ g2;rw[nq g1,show 301=300+1 from rfl,ldF_q hq];generalize qs[1]=q1 at hq;have e2:llP2 qs ys=Nat.min ys.length (llP1 qs ys+1+idxS q1 (ys.drop (llP1 qs ys+1))):=by unfold llP2;rw[hq]
  show decide (y=q1)=Nat.beq d (llP2 qs ys);rw[e2]at g4 ⊢;generalize llP1 qs ys=p at*;have hd:(ys.drop (p+1))[d-(p+1)]?=some y:=by rw[List.getElem?_drop,Nat.add_sub_of_le g3];exact hy
  rw[idxS_at q1 (Nat.sub_le_of_le_add (Nat.add_comm (p+1) _▸Jk g4 (Nat.min_le_right _ _))) hd];exact beq_min h2 g3
theorem ll_val(lq:qs.length<=2){F:Nat->Option DT}(h2:leafB (F 2) (Nat.blt (llP1 qs ys) ys.length&&Nat.blt (llP2 qs ys) ys.length)=true)(h1:leafB (F 1) (Nat.blt (llP1 qs ys) ys.length)=true)(h0:leafB (F 0) true=true):F qs.length=some (.leaf (JF qs ys)):=by
 revert h2 h1;refine two_el (P:=λqs=>leafB (F 2) (Nat.blt (llP1 qs ys) ys.length&&Nat.blt (llP2 qs ys) ys.length)=true->leafB (F 1) (Nat.blt (llP1 qs ys) ys.length)=true->F qs.length=some (.leaf (JF qs ys))) qs lq (λZ Z=>?_) (λq0 Z h1=>?_) λq0 q1 h2 Z=>?_
 ·rw[Wp];exact leafB_of h0
 ·rw[leadsB_cons,Wp,Bool.and_true];exact leafB_of h1
 ·rw[leadsB_cons,leadsB_cons,Wp,Bool.and_true,List.length_drop]
  exact(leafB_of h2).trans (Ja (λb=>some (DT.leaf (Nat.blt (idxS q0 ys) ys.length&&b))) blt_min)
theorem llB_of{P:Params}{l p1 p2:Nat}(h:llB P l p1 p2=true){C:Prop}(k:leafB (skel (llRun P l 2 p1 p2)) (Nat.blt p1 l&&Nat.blt p2 l)=true->leafB (skel (llRun P l 1 p1 p2)) (Nat.blt p1 l)=true->leafB (skel (llRun P l 0 p1 p2)) true=true->C):C:=by
 unfold llB at h;exact Jr h λh h0=>Jr h λh2 h1=>k h2 h1 h0
theorem ll_fi(P:Params):fnP P 814=some (fiP P 814):=by rfl'
theorem ll_ok(D:Lq s ar aq ys qs)(p:Pt om A s (K+150))(hfr:A.frames=some out)(h:∀s',Aft [] out s s'->Q (.bool (JF qs ys)) s'):wpAny (Mdl om) A (call (.ref 814) [.ref ar,.ref aq]) Q E s:=by
 obtain ⟨xs,n,h1,d1⟩:=D.r;obtain ⟨zs,n2,h2,d2⟩:=D.q;have g:=p.gin0 hfr;have d0:Jq (ldN ys qs ar aq) [] [.op 0,.op 1] [.ref ar,.ref aq]:=⟨_,_,rfl,rfl,_,_,rfl,rfl,rfl⟩;have kn:=ld_kn (om:=om) (own:=[]) (u:=λZ=>false) (g.frz h1 Ξ λZ Z=>nofun) d1 (g.frz h2 Ξ λZ Z=>nofun) d2 D.ly D.py D.pq (llE_ok D.ly D.lq);refine go (n:=20) (nm:=ldN ys qs ar aq) (u:=λZ=>false) (own:=[]) (cx:=llCx om.w.params ys.length qs.length (llP1 qs ys) (llP2 qs ys)) (S:=JZ []) p hfr g (Beg.of ObL.nil (stL rfl)) rfl (λh=>nb h) kn 0 (by lia) (ora0 λZ=>rfl) (ll_fi _) d0
  (skel_leaf (llB_of (ll_at om.w.params D.ly (llP1_le qs ys) (llP2_le qs ys) (llP_lt qs ys)) λh2 h1 h0=>ll_val (F:=λm=>skel (llRun om.w.params ys.length m (llP1 qs ys) (llP2 qs ys))) D.lq h2 h1 h0) λS1=>⟨_,rfl,λL1 s1 v B d=>?_⟩)
 cases d;exact h s1 B.aft
variable {aN aS:Addr}{x:Str}
noncomputable abbrev Rws:=List (Addr×List Str)
def DAt(om:Om)(h:Heap)(a:Addr)(es:List (Str×AV))(nm0:Nt)(L0:List Addr):Prop:=∃o,h.get? a=some o/\SD om.w.params es nm0 L0 o
structure Rw(h:Heap)(aR:Addr)(rws:Rws):Prop where
 lst:∃xs n,h.get? aR=some (listOf xs n)/\xs.toList=rws.map λp=>Value.ref p.1
 row:∀p∈rws,∃xs n,h.get? p.1=some (listOf xs n)/\StrsAre xs.toList p.2
 ly:∀p∈rws,p.2.length<=6/\∀y∈p.2,y∈JR 2
 len:rws.length<=6
structure Nq(om:Om)(h:Heap)(aN aS:Addr)(x:Str)(b1:Bool)(r:Option (Addr×Rws)):Prop where
 nN:(aN==sysModules)=false
 n:∃es nm0 L0,DAt om h aN es nm0 L0/\JH (look x es)=b1
 nS:(aS==sysModules)=false
 s:∃es nm0 L0,DAt om h aS es nm0 L0/\JH (look x es)=JH r/\∀p,r=some p->∃z,look x es=some z/\∀y,Den nm0 L0 z y->y=.ref p.1
 rw:∀p,r=some p->Rw h p.1 p.2
structure Rdr(om:Om)(h:Heap)(ar aN aS:Addr):Prop where
 at_:∃d es nm0 L0,h.get? ar=some (instObj 745 d)/\DAt om h d es nm0 L0/\(∃z,look "named" es=some z/\(Zo z).isSome/\∀y,Den nm0 L0 z y->y=.ref aN)/\∃z,look "shared" es=some z/\(Zo z).isSome/\∀y,Den nm0 L0 z y->y=.ref aS
def ncV(b1:Bool)(r:Option (Addr×Rws))(qs:List Str):Bool:=Bool.rec false (Option.rec true (λp=>List.rec true (λZ Z Z=>p.2.any λq=>JF qs q.2) p.2) r) b1
def Js(l:List Addr)(k:Nat):Addr:=(l[k]?).getD 0
def ncOp(ar aN aS aR aq:Addr)(rs:List Addr)(k:Nat):Addr:=Bool.rec (Js [ar,aN,aS,aR,aq] k) (Js rs (k-20)) (Nat.ble 20 k)
def ZD(b:Nat)(n:Nat):List AV:=Nat.rec (motive:=λZ=>Nat->List AV) (λZ=>[]) (λZ ih b=>.op b::ih (b+1)) n b
def ncKn(m r:Nat)(b1 b2:Bool):Kn:={sob:=λk=>JE k (Bool.rec [(4,.tup (symsF 300 m))] [(3,.list (ZD 20 r)),(4,.tup (symsF 300 m))] b2),oatt:=λk x=>ifO (Nat.beq k 0) (look x [("named",.op 1),("shared",.op 2)]),mem:=λk i=>ifO (Nat.beq i 200) (JE k [(1,.b b1),(2,.b b2)]),dget:=λk i=>ifO (Nat.beq k 2&&Nat.beq i 200&&b2) (some (.op 3))}
def ncOra(r:Nat)(a:Nat)(args:List AV)(S:St):R:=ifT (Nat.beq a 334) (two2 args λa b=>ob (opV a) λk=>ob (opV b) λj=>ifT (Nat.beq j 4&&Nat.ble 20 k&&Nat.blt (k-20) r) (.ask k (.ok (.v (.bool true)) S) (.ok (.v (.bool false)) S)))
def ncCx(P:Params)(m r:Nat)(b1 b2:Bool):Cx:={cx0 P with kn:=ncKn m r b1 b2,sp:=[334],ora:=ncOra r}
def ncD(r:Nat):Nat->Bool->DT:=Nat.rec (motive:=λZ=>Nat->Bool->DT) (λZ b=>.leaf b) (λZ ih i b=>.ask i (ih (i+1) true) (ih (i+1) b)) r
def ncRun(P:Params)(m r:Nat)(b1 b2:Bool):Option DT:=skel (ZF (run (ncCx P m r b1 b2) 16) false (fiP P 535) [.op 0,.sym 2 200,.op 4] (JZ []))
theorem nc_no(P:Params)(m:Nat):ncRun P m 0 false false=some (.leaf false):=by rfl'
theorem nc_yes(P:Params)(m:Nat):ncRun P m 0 true false=some (.leaf true):=by rfl'
theorem nc_row(P:Params)(m:Nat):[ncRun P m 0 true true,ncRun P m 1 true true,ncRun P m 2 true true,ncRun P m 3 true true,ncRun P m 4 true true,ncRun P m 5 true true,ncRun P m 6 true true]=[some (.leaf true),some (ncD 1 20 false),some (ncD 2 20 false),some (ncD 3 20 false),some (ncD 4 20 false),some (ncD 5 20 false),some (ncD 6 20 false)]:=by rfl'
theorem ncD_ev{rws:Rws}:∀{l:Rws} {i:Nat} {b:Bool},(∀j p,l[j]?=some p->u (i+j)=JF qs p.2)->(ncD l.length i b).ev u=(b||l.any λq=>JF qs q.2):=by
 intro v0_;induction v0_ with
 |nil=>
  intro i b Z;exact(Bool.or_false b).symm
 |cons p l ih=>
  intro i b h;have h':∀j q,l[j]?=some q->u (i+1+j)=JF qs q.2:=λj q e=>(Ja u (Nat.succ_add_eq_add_succ _ _)).trans (h (j+1) q e);show (Bool.rec (DT.ev u (ncD l.length (i+1) b)) (DT.ev u (ncD l.length (i+1) true)) (u i):Bool)=_;rw[ih h',ih h',show u i=JF qs p.2 from h 0 p rfl,List.any_cons];cases JF qs p.2<;>induction b<;>rfl
theorem nthA_map{rws:Rws}{p:Addr×List Str}(e:rws[i]?=some p):Js (rws.map (·.1)) i=p.1:=by
 unfold Js;rw[δ,e];rfl
theorem ncOp_row{rs:List Addr}{aR:Addr}(k:Nat):ncOp ar aN aS aR aq rs (20+k)=Js rs k:=by
 unfold ncOp;rw[show Nat.ble 20 (20+k)=true from Jc (Nat.le_add_right _ _),Ψ]
theorem dens_ops{L:List Addr}:∀{rws:Rws} {us:List Value} {b:Nat},us=rws.map (λp=>Value.ref p.1)->(∀i p,rws[i]?=some p->nm.op (b+i)=p.1)->Jq nm L (ZD b rws.length) us:=by
 intro v0_;induction v0_ with
 |nil=>
  intro Z Z e Z;exact e
 |cons p r ih=>
  intro Z b e h;exact e▸Jq.cons (a:=.op b) (Ja Value.ref (h 0 p rfl).symm) (ih rfl λi q hq=>(Ja nm.op (Nat.succ_add_eq_add_succ _ _)).trans (h (i+1) q hq))
structure Qs(h:Heap)(aq:Addr)(qs:List Str):Prop where
 q:∃xs n,h.get? aq=some ⟨.type "tuple",none,.seq xs n,#[]⟩/\StrsAre xs.toList qs
 lq:qs.length<=2
 pq:∀y∈qs,y∈JR 2
def ncN(x:Str)(qs:List Str)(ar aN aS aR aq:Addr)(rws:Rws):Nt:=⟨ldF [x] qs,ncOp ar aN aS aR aq (rws.map (·.1))⟩
theorem Zj{a b:Nat}(h:a<=b):Nat.ble a b=true:=Jc h
theorem ZZ{a b:Nat}(h:b<a):Nat.ble a b=false:=bf_ λq=>absurd (nl q) (Nat.not_le_of_lt h)
theorem beq_f{a b:Nat}(h:a≠b):Nat.beq a b=false:=bf_ λq=>h (nq q)
theorem all3{α:Type}{P:α->Prop}{a b c:α}(h1:P a)(h2:P b)(h3:P c):∀x∈[a,b,c],P x:=λx h=>(mc_ h).elim (λe=>e▸h1) λh=>(mc_ h).elim (λe=>e▸h2) λh=>(ms_ h)▸h3
theorem not3{α:Type}{a b c x:α}(h1:x≠a)(h2:x≠b)(h3:x≠c):x∉[a,b,c]:=λh=>all3 (P:=λy=>x≠y) h1 h2 h3 x h rfl
theorem nodup3{α:Type}{a b c:α}(h1:a≠b)(h2:a≠c)(h3:b≠c):[a,b,c].Nodup:=List.nodup_cons.mpr ⟨λh=>(mc_ h).elim h1 λh=>h2 (ms_ h),List.nodup_cons.mpr ⟨λh=>h3 (ms_ h),List.nodup_cons.mpr ⟨Ξ,ϑ⟩⟩⟩
theorem look_two{α:Type}{x y z:Str}{v w r:α}(h:look x [(y,v),(z,w)]=some r):x=y/\r=v\/x=z/\r=w:=by
 change (Bool.rec (Bool.rec none (some w) (sEq x z)) (some v) (sEq x y):Option α)=some r at h;induction q:sEq x y with
 |true=>rw[q]at h;exact .inl ⟨Jw q,(oi h).symm⟩
 |false=>
  rw[q]at h;induction q2:sEq x z with
  |true=>rw[q2]at h;exact .inr ⟨Jw q2,(oi h).symm⟩
  |false=>rw[q2]at h;exact no h
theorem bif_of{β:Type}{b:Bool}{f t:Option β}{r:β}(h:(Bool.rec f t b:Option β)=some r){C:Prop}(k1:b=true->t=some r->C)(k0:b=false->f=some r->C):C:=by
 induction b with
 |true=>exact k1 rfl h
 |false=>exact k0 rfl h
theorem att_oatt{om:Om}{h:Heap}{a:Addr}{cl k:Nat}{z:Str}{R:Value->Prop}{nm:Nt}{own:List Addr}{v:AV}(H:∃e es nm0 L0,h.get? a=some (instObj cl e)/\DAt om h e es nm0 L0/\∃z',look z es=some z'/\(Zo z').isSome/\∀y,Den nm0 L0 z' y->R y)(ha:nm.op k=a)(hc:attP cl z=true)(d:∀y,R y->∀L,own<+:L->Den nm L v y):
  ∃c d o es nm0 L0 z',h.get? (nm.op k)=some (instObj c d)/\attP c z=true/\h.get? d=some o/\SD om.w.params es nm0 L0 o/\look z es=some z'/\(Zo z').isSome/\∀y,Den nm0 L0 z' y->∀L,own<+:L->Den nm L v y:=
 H.elim λe H=>H.elim λes H=>H.elim λnm0 H=>H.elim λL0 H=>H.2.1.elim λo p=>H.2.2.elim λz' q=>⟨cl,e,o,es,nm0,L0,z',ha▸H.1,hc,p.1,p.2,q.1,q.2.1,λy dy=>d y (q.2.2 y dy)⟩
theorem lookN2{P:Nat->Qb->Prop}{k:Nat}{a b q:Qb}(e:JE k [(1,a),(2,b)]=some q)(h1:P 1 a)(h2:P 2 b):P k q:=by
 rcases mc_ (We e)with e|e
 ·cases e;exact h1
 ·cases ms_ e;exact h2
theorem bo_{α:Type}{x:α}(b:Bool):JH (Bool.rec none (some x) b:Option α)=b:=by induction b<;>rfl
theorem nc_kn{b1:Bool}{aR:Addr}{rws:Rws}{b2:Bool}(R:Rdr om h ar aN aS)(N:Nq om h aN aS x b1 (Bool.rec none (some (aR,rws)) b2))(D:Qs h aq qs):Zp om h (ncN x qs ar aN aS aR aq rws) u own (ncKn qs.length rws.length b1 b2) where
 sob k ao e:=by
  obtain ⟨zs,n2,h2,d2⟩:=D.q;have H4:Zu om h (ncN x qs ar aN aS aR aq rws) own [(4,.tup (symsF 300 qs.length))]:=Zu.cons (a:=aq) rfl h2 (λL Z=>OkP.tp (dens_syms d2 (λi y e=>ldF_q e) D.pq)) trivial;induction b2 with
  |false=>exact Zu.get H4 e
  |true=>
   obtain ⟨xs,n,h1,d1⟩:=(N.rw _ rfl).lst;exact Zu.get (l:=[(3,.list (ZD 20 rws.length)),(4,.tup (symsF 300 qs.length))]) (Zu.cons (a:=aR) rfl h1 (λL Z=>OkP.lst (dens_ops d1 λi p e=>(ncOp_row i).trans (nthA_map e))) H4) e
 oatt k y v e:=Jt e λhk e=>by
  obtain ⟨d,es,nm0,L0,e1,⟨o,e2,e3⟩,⟨z1,f1,g1,k1⟩,z2,f2,g2,k2⟩:=R.at_;rw[nq hk];refine(look_two e).elim (λq=>?_) λq=>?_
  ·rw[q.1,q.2];exact⟨745,d,o,es,nm0,L0,z1,e1,rfl,e2,e3,f1,g1,λw dw L Z=>(k1 w dw)⟩
  ·rw[q.1,q.2];exact⟨745,d,o,es,nm0,L0,z2,e1,rfl,e2,e3,f2,g2,λw dw L Z=>(k2 w dw)⟩
 eqs _ _ _ e:=no e
 mem k i q e:=Jt e λhi e=>by
  rw[nq hi];refine lookN2 (P:=λk q=>((ncN x qs ar aN aS aR aq rws).op k==sysModules)=false/\∃o es nm0 L0,h.get? ((ncN x qs ar aN aS aR aq rws).op k)=some o/\SD om.w.params es nm0 L0 o/\JH (look ((ncN x qs ar aN aS aR aq rws).f 200) es)=Qb.val u q) e ?_ ?_
  ·exact⟨N.nN,N.n.elim λes r=>r.elim λnm0 r=>r.elim λL0 r=>r.1.elim λo g=>⟨o,es,nm0,L0,g.1,g.2,r.2⟩⟩
  ·exact⟨N.nS,N.s.elim λes r=>r.elim λnm0 r=>r.elim λL0 r=>r.1.elim λo g=>⟨o,es,nm0,L0,g.1,g.2,r.2.1.trans (bo_ b2)⟩⟩
 lmem _ _ _ e:=no e
 same _ _ _ e:=no e
 smem _ _ _ e:=no e
 dget k i v e:=Jt e λhi e=>Jr hi λhi h3=>Jr hi λh1 h2=>by
  cases e;cases nq h1;cases nq h2;subst h3;exact N.s.elim λes r=>r.elim λnm0 r=>r.elim λL0 r=>r.1.elim λo g=>(r.2.2 _ rfl).elim λz q=>⟨o,es,nm0,L0,z,g.1,g.2,q.1,λy dy L Z=>q.2 y dy⟩
 fst _ _ e:=no e
 gl _ _ e:=no e
 dk _ _ e:=no e
theorem nc_fi(P:Params):fnP P 535=some (fiP P 535):=by rfl'
def ncU(qs:List Str)(rws:Rws)(k:Nat):Bool:=Option.rec false (λp=>JF qs p.2) rws[k-20]?
theorem leads_ora{G:Gd}{fs:List (FrA×Env)}{y:Wt G fs}{M:Model}{c jq r a:Nat}{f:Nat->Nat}{g:Nat->Addr}{args:List AV}{us:List Value}{s:Shared}(P:PG y (ifT (Nat.beq a c) (two2 args λa b=>ob (opV a) λk=>ob (opV b) λj=>ifT (Nat.beq j jq&&Nat.ble 20 k&&Nat.blt (k-20) r) (.ask (f k) (.ok (.v (.bool true)) y.S) (.ok (.v (.bool false)) y.S)))) Q E)(dd:Jq G.nm y.L args us)(hg:∀d,G.nm.op (20+d)=g d)(hq:G.nm.op jq=aq)
  (h:∀d,d<r->(∀b s',G.u (f (20+d))=b->Aft [] (Jv fs++G.out) y.s s'->Q (.bool b) s')->wpAny M A (call (.ref c) [.ref (g d),.ref aq]) Q E s):wpAny M A (call (.ref a) us) Q E s:=
 PG.ifT P λha P=>P.two_ λa1 a2 e P=>P.ob λk hk P=>P.ob λj hj P=>P.ifT λhc P=>Jr hc λhc h3=>Jr hc λh1 h2=>(Ϟ (nl h2)).elim λd e2=>by
  rw[e,Yc hk,Yc hj,nq h1,e2]at dd;rw[dd.two_ops,nq ha,hg,hq];rw[e2,Ψ]at h3;refine h d (nl h3) λb s' hu af=>?_;rw[e2]at P;induction b with
  |true=>exact PG.stay (P.1 hu) af rfl
  |false=>exact PG.stay (P.2 hu) af rfl
theorem nc_lt{h:Heap}{aR:Addr}{rws:Rws}{d:Nat}(NR:Rw h aR rws)(D:Qs h aq qs)(hd:d<rws.length)(k:∀b o,h.get? b=some o->s.heap.get? b=some o)(p:Pt om A s (K+100))(hfr:A.frames=some out)(H:∀s',Aft [] out s s'->Q (.bool (ncU qs rws (20+d))) s'):wpAny (Mdl om) A (call (.ref 334) [.ref (Js (rws.map (·.1)) d),.ref aq]) Q E s:=by
 have hp:=Φ hd;have hm:=ο hd;obtain ⟨xs,n,r1,r2⟩:=NR.row _ hm;obtain ⟨zs,n2,q1,q2⟩:=D.q;rw[nthA_map hp];have e:ncU qs rws (20+d)=JF qs rws[d].2:=by unfold ncU;rw[Ψ,hp]
 exact lt_ok (K:=K) (ys:=rws[d].2) (qs:=qs) ⟨⟨xs,n,k _ _ r1,r2⟩,⟨zs,n2,k _ _ q1,q2⟩,(NR.ly _ hm).1,D.lq,(NR.ly _ hm).2,D.pq⟩ p hfr λs' af=>e▸H s' af
theorem nc_go{b1:Bool}{aR:Addr}{rws:Rws}{b2:Bool}{d:DT}(p:Pt om A s (K+250))(hfr:A.frames=some out)(R:Rdr om (p.gin0 hfr).hF ar aN aS)(N:Nq om (p.gin0 hfr).hF aN aS x b1 (Bool.rec none (some (aR,rws)) b2))(D:Qs (p.gin0 hfr).hF aq qs)(hx:x∈JR 2)(hw:b2=false->rws=[])
  (hrun:ncRun om.w.params qs.length rws.length b1 b2=some d) (hd:d.ev (ncU qs rws)=ncV b1 (Bool.rec none (some (aR,rws)) b2) qs) (h:∀s',Aft [] out s s'->Q (.bool (ncV b1 (Bool.rec none (some (aR,rws)) b2) qs)) s'):wpAny (Mdl om) A (call (.ref 535) [.ref ar,.str x t,.ref aq]) Q E s:=by
 have kn:=nc_kn (om:=om) (own:=[]) (u:=ncU qs rws) R N D
 have d0:Jq (ncN x qs ar aN aS aR aq rws) [] [.op 0,.sym 2 200,.op 4] [.ref ar,.str x t,.ref aq]:=⟨_,_,rfl,rfl,_,_,rfl,⟨t,rfl,hx⟩,_,_,rfl,rfl,rfl⟩
 refine go (n:=16) (nm:=ncN x qs ar aN aS aR aq rws) (u:=ncU qs rws) (own:=[]) (cx:=ncCx om.w.params qs.length rws.length b1 b2) (S:=JZ []) p hfr (p.gin0 hfr) (Beg.of ObL.nil (stL rfl)) rfl (λh=>nb h) kn 100 (by lia) (λa args A' fs y us Q' E' hm pt hf' dd P=>?_) (nc_fi _) d0 (skel_leaf hrun λS1=>⟨_,rfl,λL1 s1 v B dv=>?_⟩)
 ·exact leads_ora (g:=Js (rws.map λp:Addr×List Str=>p.1)) (aq:=aq) P dd (λd=>ncOp_row (ar:=ar) (aN:=aN) (aS:=aS) (aR:=aR) (aq:=aq) (rs:=rws.map λp:Addr×List Str=>p.1) d) rfl λd h3 H=>nc_lt (K:=0) (N.rw (aR,rws) ((Bool.of_not_eq_false λz=>Nat.not_lt_zero d (show d<([]:Rws).length from hw z▸h3):b2=true)▸rfl)) D h3 y.r.keep pt hf' λs' af=>H _ s' rfl af
 ·rw[hd]at dv;cases dv;exact h s1 B.aft
theorem nc_ok{b1:Bool}{r:Option (Addr×Rws)}(p:Pt om A s (K+250))(hfr:A.frames=some out)(R:Rdr om (p.gin0 hfr).hF ar aN aS)(N:Nq om (p.gin0 hfr).hF aN aS x b1 r)(hb:b1=false->r=none)(D:Qs (p.gin0 hfr).hF aq qs)(hx:x∈JR 2)(h:∀s',Aft [] out s s'->Q (.bool (ncV b1 r qs)) s'):wpAny (Mdl om) A (call (.ref 535) [.ref ar,.str x t,.ref aq]) Q E s:=by
 induction b1 with
 |false=>cases hb rfl;exact nc_go (aR:=0) (rws:=[]) (b2:=false) p hfr R N D hx (λZ=>rfl) (nc_no _ _) rfl h
 |true=>induction r with
  |none=>exact nc_go (aR:=0) (rws:=[]) (b2:=false) p hfr R N D hx (λZ=>rfl) (nc_yes _ _) rfl h
  |some w=>
   obtain ⟨aR,rws⟩:=w;have hl:=(N.rw _ rfl).len;induction rws using c_ with
   |nil=>exact nc_go (aR:=aR) (rws:=[]) (b2:=true) p hfr R N D hx (λz=>nomatch z) (seven (f:=λr=>ncRun om.w.params qs.length r true true) (g:=λr=>some (Nat.rec (DT.leaf true) (λm Z=>ncD (m+1) 20 false) r)) (nc_row _ _) hl) rfl h
   |cons q rws=>
    refine nc_go (aR:=aR) (rws:=q::rws) (b2:=true) p hfr R N D hx (λz=>nomatch z) (seven (f:=λr=>ncRun om.w.params qs.length r true true) (g:=λr=>some (Nat.rec (DT.leaf true) (λm Z=>ncD (m+1) 20 false) r)) (nc_row _ _) hl) ?_ h;exact(ncD_ev (rws:=rws) (l:=q::rws) (i:=20) (b:=false) λj p e=>by unfold ncU;rw[Ψ,e]).trans (Bool.false_or _)
set_option exponentiation.threshold 2000
variable {N m:Nat}{h0:Heap}{x y:Int}{f:Nat->Str}{ds:List Dw}{env:Env}
def Za(N:Nat):List Dw:=Nat.rec [] (λZ ih=>.c 1 0::ih) N
theorem ZS:∀N,(Za N).length=N:=by
 intro v0_;induction v0_ with
 |zero=>
  exact rfl
 |succ N ih=>
  exact Ja (·+1) (ih )
theorem Zm:∀(N:Nat) (x y:Int),WF f (Za N) x y:=by
 intro v0_;induction v0_ with
 |zero=>
  intro Z Z;exact trivial
 |succ N ih=>
  intro x y;exact⟨Nat.one_pos,Int.fmod_one _,ih _ _⟩
theorem sipB_b(x y:Int):y<=sipB x y/\sipB x y<=y+1:=by unfold sipB;split<;>lia
theorem Tp.next(P:Params)(T:Tp (N+1) x y)(hm:0<m):Tp N (Int.fdiv (WH x y) m) (sipB x y):=by
 have y1:=T.y1;have y60:y<60:=by lia
 have A1:=sipA_b P T.x0 T.x1 T.y0 y60;have m0:(0:Int)<m:=Int.ofNat_lt.mpr hm;have hq:Int.fdiv (WH x y) m=WH x y / m:=Int.fdiv_eq_ediv_of_nonneg _ (Int.le_of_lt m0);have yb:=sipB_b x y;exact⟨hq▸Int.ediv_nonneg A1.1 (Int.le_of_lt m0),hq▸Int.lt_of_le_of_lt (Int.ediv_le_self _ A1.1) A1.2,Int.le_trans T.y0 yb.1,by lia⟩
theorem Tp.draw(P:Params)(T:Tp (N+1) x y)(hm:0<m):∃k,k<m/\Int.fmod (WH x y) m=Int.ofNat k:=by
 have y1:=T.y1;have A1:=sipA_b P T.x0 T.x1 T.y0 (by lia);have m0:(0:Int)<m:=Int.ofNat_lt.mpr hm;have e:Int.fmod (WH x y) m=WH x y%m:=Int.fmod_eq_emod_of_nonneg _ (Int.le_of_lt m0);have h1:=Int.emod_nonneg (WH x y) (Int.ne_of_gt m0);have h2:=Int.emod_lt_of_pos (WH x y) m0;exact⟨(WH x y%m).toNat,by lia,by rw[e];exact(Int.toNat_of_nonneg h1).symm⟩
theorem Tp.dc(P:Params)(T:Tp (N+1) x y)(hm:0<m){C:Prop}(k:∀k x' y',k<m->Tp N x' y'->(∀f ds,WF f ds x' y'->WF f (.c m k::ds) x y)->C):C:=(T.draw P hm).elim λj r=>k j _ _ r.1 (T.next P hm) λf ds D=>⟨hm,r.2,D⟩
theorem ix_get:∀m,m=3\/m=4\/m=5->∀k,k<m->∃d,(JG m)[k]?=some d/\d∈JG m/\d∈JR (ixCls m):=by
 intro m hm;rcases hm with rfl|rfl|rfl
 ·exact JC (JC (JC WQ ⟨_,rfl,.head _,.head _⟩) ⟨_,rfl,.tail _ (.head _),.tail _ (.head _)⟩) ⟨_,rfl,.tail _ (.tail _ (.head _)),.tail _ (.tail _ (.head _))⟩
 ·exact JC (JC (JC (JC WQ ⟨_,rfl,.head _,.head _⟩) ⟨_,rfl,.tail _ (.head _),.tail _ (.head _)⟩) ⟨_,rfl,.tail _ (.tail _ (.head _)),.tail _ (.tail _ (.head _))⟩) ⟨_,rfl,.tail _ (.tail _ (.tail _ (.head _))),.tail _ (.tail _ (.tail _ (.head _)))⟩
 ·exact JC (JC (JC (JC (JC WQ ⟨_,rfl,.head _,.head _⟩) ⟨_,rfl,.tail _ (.head _),.tail _ (.tail _ (.tail _ (.head _)))⟩) ⟨_,rfl,.tail _ (.tail _ (.head _)),.tail _ (.head _)⟩) ⟨_,rfl,.tail _ (.tail _ (.tail _ (.head _))),.tail _ (.tail _ (.tail _ (.tail _ (.head _))))⟩) ⟨_,rfl,.tail _ (.tail _ (.tail _ (.tail _ (.head _)))),.tail _ (.tail _ (.head _))⟩
theorem Tp.dy(P:Params)(T:Tp (N+1) x y)(hm:m=3\/m=4\/m=5){C:Prop}(k:∀d x' y',d∈JG m->Tp N x' y'->(∀(f:Nat->Str) j ds,f j=d->WF f ds x' y'->WF f (.y m j::ds) x y)->C):C:=
 have h0:0<m:=by lia
 (T.draw P h0).elim λj r=>(ix_get m hm j r.1).elim λd q=>k d _ _ q.2.1 (T.next P h0) λf i ds e D=>⟨h0,⟨j,r.2,e▸q.1,e▸q.2.2⟩,D⟩
theorem Tp.le(T:Tp N x y)(h:m<=N):Tp m x y:=⟨T.x0,T.x1,T.y0,by have:=T.y1;lia⟩
def JP(h:Heap)(a:Addr)(N:Nat):Prop:=∃x y t1 t2 n,h.get? a=some (listOf #[.int x t1,.int y t2] n)/\Tp N x y
theorem JP.el{h:Heap}{a:Addr}{N:Nat}{C:Prop}(T:JP h a N)(k:∀x y t1 t2 n,h.get? a=some (listOf #[.int x t1,.int y t2] n)->Tp N x y->C):C:=T.elim λx q=>q.elim λy q=>q.elim λt1 q=>q.elim λt2 q=>q.elim λn q=>k x y t1 t2 n q.1 q.2
theorem JP.keep{h h':Heap}{a:Addr}{N:Nat}(T:JP h a N)(k:∀o,h.get? a=some o->h'.get? a=some o):JP h' a N:=T.el λx y t1 t2 n e q=>⟨x,y,t1,t2,n,k _ e,q⟩
theorem JP.ok{h:Heap}{a b:Addr}{N:Nat}{nm:Nt}{L:List Addr}{ds:List Dw}{o:Obj}(ho:h.get? a=some o)(p:OkP om nm L b (.tap ds) o)(e:ds.length=N):JP h a N:=p.elim λx q=>q.elim λy q=>q.elim λt1 q=>q.elim λt2 q=>q.elim λn q=>⟨x,y,t1,t2,n,q.1▸ho,e▸q.2.1⟩
structure WL(h0:Heap)(out:List Env)(s:Shared):Prop where
 kp:∀b o,h0.get? b=some o->s.heap.get? b=some o
 fr:∀b o,h0.get? b=some o->Fre out [b]
theorem Gin.kept(g:Gin om s own out)(B:WL h0 out s)(nw:∀a∈own,h0.get? a=none)(e:h0.get? b=some o):g.hF.get? b=some o:=g.stays b o (λhm=>no ((nw b hm).symm.trans e)) (B.fr b o e) (B.kp b o e)
theorem WL.next(B:WL h0 out s)(af:Aft own out s s')(nw:∀a∈own,h0.get? a=none):WL h0 out s':=⟨λb o e=>af.keep b o (λhm=>no ((nw b hm).symm.trans e)) (B.fr b o e) (B.kp b o e),B.fr⟩
def ysF(b:Nat)(m:Nat):List Dw:=Nat.rec (motive:=λZ=>Nat->List Dw) (λZ=>[]) (λZ ih b=>.y 5 b::ih (b+1)) m b
def nrDs(m:Nat)(r:List Dw):List Dw:=.y 3 0::.c 3 m::(ysF 1 m++r)
def nrf(l:List Str)(k:Nat):Str:=(l[k]?).getD ""
theorem nr_draws(P:Params)(T:Tp (N+4) x y){C:Prop}(k:∀d0 qs,d0∈JG 3->qs.length<=2->(∀q∈qs,q∈JG 5)->WF (nrf (d0::qs)) (nrDs qs.length (Za N)) x y->Tp (nrDs qs.length (Za N)).length x y->C):C:=
 T.dy P (.inl rfl) λd0 x1 y1 m0 T1 D1=>T1.dc P (m:=3) (by decide) λc x2 y2 hc T2 D2=>by
  have le:∀n,n<=4->Tp ((Za N).length+n) x y:=λn h=>T.le (by rw[ZS];exact Nat.add_le_add_left h N);revert D2;refine JC (P:=λc=>(∀(f:Nat->Str) ds,WF f ds x2 y2->WF f (.c 3 c::ds) x1 y1)->C) (JC (JC WQ ?_) ?_) ?_ c hc
  ·exactλD2=>k d0 [] m0 (by decide) (λq hq=>absurd hq Ξ) (D1 _ _ _ rfl (D2 _ _ (Zm N _ _))) (le 2 (by decide))
  ·exactλD2=>T2.dy P (.inr (.inr rfl)) λd1 x3 y3 m1 T3 D3=>k d0 [d1] m0 (nl rfl) (λq hq=>(ms_ hq)▸m1) (D1 _ _ _ rfl (D2 _ _ (D3 _ _ _ rfl (Zm N _ _)))) (le 3 (by decide))
  ·exactλD2=>T2.dy P (.inr (.inr rfl)) λd1 x3 y3 m1 T3 D3=>T3.dy P (.inr (.inr rfl)) λd2 x4 y4 m2 T4 D4=>k d0 [d1,d2] m0 (nl rfl) (λq hq=>(mc_ hq).elim (λe=>e▸m1) λhq=>(ms_ hq)▸m2) (D1 _ _ _ rfl (D2 _ _ (D3 _ _ _ rfl (D4 _ _ _ rfl (Zm N _ _))))) (le 4 (by decide))
def nrOra(a:Nat)(args:List AV)(S:St):R:=ifT (Nat.beq a 802) (oraSip args S)
def nrCx(P:Params):Cx:={cx0 P with sp:=[802],ora:=nrOra}
def nrCs:List (Str×Nat):=[("qualifiers",5),("choice",4),("name",3),("tap",2)]
def nrS0(r:List Dw):St:=JZ [.tap r,.ns [("knows",.op 4),("items",.op 2),("found",.op 3)],.cell (some (.loc 0)),.cell none,.cell none,.cell none]
theorem nrS0_1(r:List Dw):(nrS0 r).get 1=some (.ns [("knows",.op 4),("items",.op 2),("found",.op 3)]):=by rfl'
theorem nr_fi(P:Params):fnP P 833=some (fiP P 833):=by rfl'
theorem nr_ent(P:Params)(r:List Dw)(k:FrA->St->R):enterX false (fiP P 833) [.loc 0,.op 4,.op 2,.op 3] (JZ [.tap r]) k=k (frZ (fiP P 833) 1 nrCs) (nrS0 r):=by rfl'
def ofF(b:Nat)(m:Nat):List AV:=Nat.rec (motive:=λZ=>Nat->List AV) (λZ=>[]) (λZ ih b=>.str "OF"::.sym 0 b::ih (b+1)) m b
def sy0(b:Nat)(m:Nat):List AV:=Nat.rec (motive:=λZ=>Nat->List AV) (λZ=>[]) (λZ ih b=>.sym 0 b::ih (b+1)) m b
def nrA(P:Params)(r:List Dw)(m:Nat):Option (Out×List (Option AO)):=sel [0,1,3,5,12,17+2*m] (Wc (run (nrCx P) 14) (frZ (fiP P 833) 1 nrCs) ((fiP P 833).body.take 3) (nrS0 (nrDs m r)))
def nrA'(r:List Dw)(m:Nat):Option (Out×List (Option AO)):=some (.next,[some (.tap r),some (.ns [("knows",.op 4),("items",.op 2),("found",.op 3),("words",.loc (17+2*m))]),some (.cell (some (.sym 0 0))),some (.cell (some (.loc 12))),some (.tup (sy0 1 m)),some (.list (.sym 0 0::ofF 1 m))])
theorem nr_runA(P:Params)(r:List Dw):nrA P r 0=nrA' r 0/\nrA P r 1=nrA' r 1/\nrA P r 2=nrA' r 2:=⟨by rfl',by rfl',by rfl'⟩
theorem nr_runs(P:Params)(r:List Dw)(hm:m<=2):nrA P r m=nrA' r m:=by
 match m,hm with
 |0,_=>exact(nr_runA P r).1
 |1,_=>exact(nr_runA P r).2.1
 |2,_=>exact(nr_runA P r).2.2
theorem Aft.comp{s1 s2:Shared}{l:List Addr}(a1:Aft own out s s1)(a2:Aft l out s1 s2)(hl:∀a∈l,a∈own\/s.heap.get? a=none):Aft own out s s2 where
 keep:=λb o hb hf e=>a2.keep b o (λhm=>(hl b hm).elim hb λz=>no (z.symm.trans e)) hf (a1.keep b o hb hf e)
 frs:=λe he a m o h1 h2 h3=>(a1.frs e he a m o h1 h2 h3).elim λo' q=>a2.frs e he a m o' h1 q.1 q.2
 gens:=a2.gens.trans a1.gens
 dr:=a2.dr.trans a1.dr
 os:=a2.os.trans a1.os
theorem Aft.fresh{s1:Shared}(a1:Aft own out s s1)(h:s1.heap.get? a=none)(hn:a∉own)(hf:Fre out [a]):s.heap.get? a=none:=by
 induction e:s.heap.get? a with
 |none=>rfl
 |some o=>exact no (h.symm.trans (a1.keep a o hn hf e))
theorem Bk.old(B:Bk om nm own out s S' L' s')(h:a∈L'):a∈own\/s.heap.get? a=none:=(mi_ h).elim λi hi=>by
 by_cases q:i<own.length
 ·cases (Jp B.pre (Φ q)).symm.trans hi
  exact .inl (ο q)
 ·exact .inr (B.new i a (Jf q) hi)
def nrN(d0:Str)(qs:List Str)(aK aI aF:Addr):Nt:=⟨nrf (d0::qs),λk=>Js [0,0,aI,aF,aK] k⟩
noncomputable abbrev nrF(P:Params):FrA:=frZ (fiP P 833) 1 nrCs
structure NrA(om:Om)(out:List Env)(s:Shared)(aT aK aI aF:Addr)(N K:Nat)(A':Around)(env:Env)(d0:Str)(qs:List Str)(L1 L2:List Addr)(s1 s2:Shared)(S2:St):Prop where
 md:d0∈JG 3
 lq:qs.length<=2
 pq:∀q∈qs,q∈JG 5
 F:Fp om A' env out (nrF om.w.params) s1 K
 Fr:ZA L1 (nrF om.w.params) env
 g:Gin om s1 L1 out
 B1:Bk om (nrN d0 qs aK aI aF) [aT] out s (nrS0 (nrDs qs.length (Za N))) L1 s1
 B2:Bk om (nrN d0 qs aK aI aF) L1 out s1 S2 L2 s2
 S2:[0,1,3,5,12,17+2*qs.length].map S2.get=[some (.tap (Za N)),some (.ns [("knows",.op 4),("items",.op 2),("found",.op 3),("words",.loc (17+2*qs.length))]),some (.cell (some (.sym 0 0))),some (.cell (some (.loc 12))),some (.tup (sy0 1 qs.length)),some (.list (.sym 0 0::ofF 1 qs.length))]
theorem nr_A{aK aI aF:Addr}(p:Pt om A s (K+201))(hfr:A.frames=some out)(T:JP s.heap aT (N+4))(fre:Fre out [aT])(hb:om.hb.get? aT=none)
  (H:∀env d0 qs L1 L2 s1 s2 S2 E',NrA om out s aT aK aI aF N (K+200) (A.deeper env) env d0 qs L1 L2 s1 s2 S2->wpAny (Mdl om) (A.deeper env) (execs ((fiP om.w.params 833).body.drop 3) env) (λ(fl:Flow) s'=>Q (match fl with|.ret v=>v|_=>.none) s') E' s2):wpAny (Mdl om) A (call (.ref 833) [.ref aT,.ref aK,.ref aI,.ref aF]) Q E s:=by
 refine T.el λx y t1 t2 n ho T=>nr_draws om.w.params T λd0 qs m0 lq pq D T2=>?_
 have g:Gin om s [aT] out:=p.gin hfr (List.nodup_cons.mpr ⟨Ξ,ϑ⟩) (λa ha=>(ms_ ha)▸hb) fre
 have d:Jq (nrN d0 qs aK aI aF) [aT] [.loc 0,.op 4,.op 2,.op 3] [.ref aT,.ref aK,.ref aI,.ref aF]:=⟨_,_,rfl,⟨aT,rfl,rfl⟩,_,_,rfl,rfl,_,_,rfl,rfl,_,_,rfl,rfl,rfl⟩
 refine goF (nm:=nrN d0 qs aK aI aF) (u:=λZ=>false) (cx:=nrCx om.w.params) (S:=JZ [.tap (nrDs qs.length (Za N))]) (K:=K+200) (l:=1) (cs:=nrCs) (S0:=nrS0 (nrDs qs.length (Za N))) p hfr g (Beg.of (ObL.cons ho (show OkP om (nrN d0 qs aK aI aF) [aT] aT (.tap _) _ from ⟨x,y,t1,t2,n,rfl,T2,D⟩) ObL.nil) (stL rfl)) rfl (λh=>nb h) kn0 (nr_fi _) d (nr_ent _ _) λenv L1 s1 F Fr B1=>?_
 have g1:Gin om s1 L1 out:=g.next B1 B1.nd λZ h=>h
 rw[<-List.take_append_drop 3 (fiP om.w.params 833).body]
 refine goB (n:=14) (k:=100) (nm:=nrN d0 qs aK aI aF) (u:=λZ=>false) (cx:=nrCx om.w.params) F.fr F.p.hdl (F.p.room.le (by lia)) g1 ⟨B1.len,B1.all,B1.objs⟩ rfl (λh=>nb h) kn0 (λa args A' fs y us Q' E' hm pt hf' dd P=>?_) Fr rfl rfl ⟨_,nrS0_1 _⟩ (sel_leaf (nr_runs om.w.params (Za N) lq) λS2 e2=>.inl ⟨rfl,λL2 s2 B2=>?_⟩)
 ·exact PG.ifT P λha P=>nq ha▸sip_ora (K:=0) P pt hf' dd
 ·show wpAny _ _ (execs ((fiP om.w.params 833).body.drop 3) env) _ _ s2
  exact H env d0 qs L1 L2 s1 s2 S2 _ ⟨m0,lq,pq,F,Fr,g1,B1,B2,e2⟩
def eqV(a b:AV):Bool:=AV.rec (noneB b) (λx=>Option.rec false (λy=>bxor1 x y) (ZN b)) (λx=>Option.rec false (λy=>decide (x=y)) (Zw b)) (λx=>Option.rec false (λy=>sEq x y) (Zz b)) (λZ=>false) (λZ=>false) (λZ=>false) (λZ=>false) (λi=>Option.rec false (λj=>Nat.beq i j) (Zh b)) false (λc k=>Option.rec false (λp=>Nat.beq c p.1&&!p.2) (Wh b)&&Option.rec false (λj=>Nat.beq k j) (WG b)) (λZ Z=>false) (λi=>Option.rec false (λj=>Nat.beq i j) (opV b)) (λZ Z=>false) a
def Ww(l:List AV):List AV->Bool:=List.rec (motive:=λZ=>List AV->Bool) (λr=>List.rec true (λZ Z Z=>false) r) (λa Z ih r=>List.rec false (λb r Z=>Bool.rec false (ih r) (eqV a b)) r) l
def eqEs(l:List (Str×AV)):List (Str×AV)->Bool:=List.rec (motive:=λZ=>List (Str×AV)->Bool) (λr=>List.rec true (λZ Z Z=>false) r) (λa Z ih r=>List.rec false (λb r Z=>Prod.rec (λx v=>Prod.rec (λy w=>Bool.rec false (Bool.rec false (ih r) (eqV v w)) (sEq x y)) b) a) r) l
def eqO(a b:AO):Bool:=AO.rec (λZ=>false) (λes=>Option.rec false (λfs=>eqEs es fs) (Zi b)) (λl=>Option.rec false (λr=>Ww l r) (Zc b)) (λl=>Option.rec false (λr=>Ww l r) (vTup b)) (λc d=>Option.rec false (λp=>Nat.beq c p.1&&Nat.beq d p.2) (vInst b)) (λZ=>false) (λZ Z Z Z Z Z=>false) (λZ=>false) (λZ=>false) (λZ Z Z=>false) (λZ=>false) (λZ Z=>false) (λZ Z=>false) (λZ Z=>false) (λZ Z=>false) (λZ Z=>false) (λZ Z=>false) (λZ Z=>false) (λZ Z Z=>false) (λZ=>false) (λZ=>false) false a
theorem eqV_of{a b:AV}(h:eqV a b=true):a=b:=by
 induction a with
 |none=>exact(WO h).symm
 |bool x=>
  change (Option.rec false (λy=>bxor1 x y) (ZN b):Bool)=true at h;induction e:ZN b with
  |none=>rw[e]at h;exact nb h
  |some y=>rw[e]at h;rw[ZM e];induction x<;>induction y<;>first|rfl|exact nb h
 |int x=>
  change (Option.rec false (λy=>decide (x=y)) (Zw b):Bool)=true at h;induction e:Zw b with
  |none=>rw[e]at h;exact nb h
  |some y=>rw[e]at h;rw[JO e,κ h]
 |str x=>
  change (Option.rec false (λy=>sEq x y) (Zz b):Bool)=true at h;induction e:Zz b with
  |none=>rw[e]at h;exact nb h
  |some y=>rw[e]at h;rw[Zb e,Jw h]
 |loc i=>
  change (Option.rec false (λj=>Nat.beq i j) (Zh b):Bool)=true at h;induction e:Zh b with
  |none=>rw[e]at h;exact nb h
  |some j=>rw[e]at h;rw[JQ e,nq h]
 |op i=>
  change (Option.rec false (λj=>Nat.beq i j) (opV b):Bool)=true at h;induction e:opV b with
  |none=>rw[e]at h;exact nb h
  |some j=>rw[e]at h;rw[Yc e,nq h]
 |sym c k=>
  refine Jr h λh1 h2=>?_;induction b with
  |sym d j=>exact Jr (show (Nat.beq c d&&true)=true from h1) λh3 Z=>by rw[nq h3,nq (show Nat.beq k j=true from h2)]
  |hd d j=>exact Jr (show (Nat.beq c d&&false)=true from h1) λZ h4=>nb h4
  |_=>exact nb h1
 |_=>exact nb h
theorem Zq:∀{l r:List AV},Ww l r=true->l=r
 |[],[],_=>rfl
 |[],_::_,h=>nb h
 |_::_,[],h=>nb h
 |a::l,b::r,h=>by
  change (Bool.rec false (Ww l r) (eqV a b):Bool)=true at h;induction e:eqV a b with
  |false=>rw[e]at h;exact nb h
  |true=>rw[e]at h;rw[eqV_of e,Zq h]
theorem eqEs_of:∀{l r:List (Str×AV)},eqEs l r=true->l=r
 |[],[],_=>rfl
 |[],_::_,h=>nb h
 |_::_,[],h=>nb h
 |(x,v)::l,(y,w)::r,h=>by
  change (Bool.rec false (Bool.rec false (eqEs l r) (eqV v w)) (sEq x y):Bool)=true at h;induction e:sEq x y with
  |false=>rw[e]at h;exact nb h
  |true=>
   rw[e]at h;change (Bool.rec false (eqEs l r) (eqV v w):Bool)=true at h;induction e2:eqV v w with
   |false=>rw[e2]at h;exact nb h
   |true=>rw[e2]at h;rw[Jw e,eqV_of e2,eqEs_of h]
theorem eqO_of{a b:AO}(h:eqO a b=true):a=b:=by
 cases a with
 |dict es=>
  change (Option.rec false (λfs=>eqEs es fs) (Zi b):Bool)=true at h;induction e:Zi b with
  |none=>rw[e]at h;exact nb h
  |some fs=>rw[e]at h;rw[ZB e,eqEs_of h]
 |list l=>
  change (Option.rec false (λfs=>Ww l fs) (Zc b):Bool)=true at h;induction e:Zc b with
  |none=>rw[e]at h;exact nb h
  |some fs=>rw[e]at h;rw[Zf e,Zq h]
 |tup l=>
  change (Option.rec false (λfs=>Ww l fs) (vTup b):Bool)=true at h;induction e:vTup b with
  |none=>rw[e]at h;exact nb h
  |some fs=>rw[e]at h;rw[Wx e,Zq h]
 |inst c d=>
  change (Option.rec false (λp=>Nat.beq c p.1&&Nat.beq d p.2) (vInst b):Bool)=true at h;induction e:vInst b with
  |none=>rw[e]at h;exact nb h
  |some p=>rw[e]at h;exact Jr h λh1 h2=>by rw[vInst_of e,nq h1,nq h2]
 |_=>exact nb h
def iA(i:Nat):Nat:=Bool.rec (Bool.rec (12+9*i) 16 (Nat.beq i 1)) 11 (Nat.beq i 0)
def cA(i:Nat):Nat:=iA i+2
def kA(i:Nat):Nat:=iA i+3
def arA(i:Nat):Nat:=Bool.rec (Bool.rec (18+9*i) 24 (Nat.beq i 1)) 22 (Nat.beq i 0)
def nmA(i:Nat):AV:=Bool.rec (Bool.rec (.sym 0 (i-2)) (.str "P") (Nat.beq i 1)) (.str "W") (Nat.beq i 0)
def parO(ps:List Nat)(i:Nat):Option Nat:=Bool.rec ps[i-2]? none (Nat.blt i 2)
def kidsF(ps:List Nat)(i:Nat):List Nat:=((JW ps.length).reverse.filter λt=>Option.rec false (λp=>Nat.beq p i) ps[t]?).map (·+2)
def pathF(ps:List Nat)(n:Nat):Nat->List AV:=Nat.rec (motive:=λZ=>Nat->List AV) (λZ=>[]) (λZ ih i=>nmA i::Option.rec [.str (Bool.rec "F-1" "" (Nat.beq i 0))] ih (parO ps i)) n
def pathA(ps:List Nat)(i:Nat):List AV:=pathF ps 7 i
def itemE(ps:List Nat)(i:Nat):List (Str×AV):=[("level",.int (Bool.rec 5 1 (Nat.blt i 2))),("name",nmA i),("picture_text",.none),("usage",.str ""),("sign",.str ""),("is_separate",.bool false),("occurs",.none),("redefines",.str ""),("value",.none),("is_justified",.bool false),("is_blank_zero",.bool false),("conditions",.loc (cA i)),("kids",.loc (kA i)),("parent",Option.rec .none (λp=>.loc (iA p)) (parO ps i)),("renames",.none),("base",.str ""),("offset",.int 0),("size",.int 0),("shape",.none)]
def treeI(ps:List Nat)(i:Nat):List (Nat×AO):=[(iA i-1,.dict (itemE ps i)),(iA i,.inst 202 (iA i-1)),(cA i,.list []),(kA i,.list ((kidsF ps i).map λk=>.loc (iA k))),(arA i,.list (pathA ps i)),(arA i+1,.tup [.loc (iA i),.loc (arA i)])]
def treeIs(ps:List Nat)(n:Nat):List (Nat×AO):=Nat.rec [] (λi ih=>ih++treeI ps i) n
def treeL(ps:List Nat):List (Nat×AO):=[(2,.dict [("working",.loc 5),("linkage",.loc 6),("files",.loc 7),("sorts",.loc 8),("size",.int 0),("indexes",.loc 9)]),(3,.inst 228 2),(5,.list [.loc 11]),(6,.list []),(7,.dict [("F-1",.loc 21)]),(21,.list [.loc 16]),(26,.list ((JW (2+ps.length)).reverse.map λi=>.loc (arA i+1))),(29+9*ps.length,.list [])]++treeIs ps (2+ps.length)
def JY(S:St)(l:List (Nat×AO)):Bool:=List.rec true (λp Z ih=>Prod.rec (λi o=>Bool.rec false ih (Option.rec false (λa=>eqO a o) (S.get i))) p) l
theorem Zx:∀{l:List (Nat×AO)} {S:St},JY S l=true->∀p∈l,S.get p.1=some p.2:=by
 intro v0_;induction v0_ with
 |nil=>
  intro Z Z Z h;exact absurd h Ξ
 |cons z9 l ih=>
  intro S h p hp;obtain ⟨i,o⟩:=z9;change (Bool.rec false (JY S l) (Option.rec false (λa=>eqO a o) (S.get i)):Bool)=true at h;induction e:S.get i with
  |none=>rw[e]at h;exact nb h
  |some a=>
   rw[e]at h;change (Bool.rec false (JY S l) (eqO a o):Bool)=true at h;induction e2:eqO a o with
   |false=>rw[e2]at h;exact nb h
   |true=>
    rw[e2]at h;exact(mc_ hp).elim (λq=>q▸(eqO_of e2)▸e) λq=>ih h p q
def itemAt(j:Nat):Option Nat:=Bool.rec (Bool.rec (ifO (Nat.beq (12+9*((j-12) / 9)) j) (some ((j-12) / 9))) (some 1) (Nat.beq j 16)) (some 0) (Nat.beq j 11)
def parS(S:St)(i:Nat):Option Nat:=obO (gv Zi S (iA i-1)) λes=>obO (look "parent" es) λv=>obO (Zh v) itemAt
def psS(S:St)(T:Nat):Option (List Nat):=Nat.rec (motive:=λZ=>Nat->Option (List Nat)) (λZ=>some []) (λZ ih i=>obO (parS S i) λp=>ifO (Nat.blt p i) (obO (ih (i+1)) λr=>some (p::r))) T 2
def pick(k:Nat)(S:St)(n:Nat):Nat->R:=Nat.rec (motive:=λZ=>Nat->R) (λj=>.ok (.v (.int (Int.ofNat j))) S) (λZ ih j=>.ask (64*k+j) (.ok (.v (.int (Int.ofNat j))) S) (ih (j+1))) n
def dVal(d:Dw)(S:St):R:=Dw.rec (λZ k=>.ok (.v (.int (Int.ofNat k))) S) (λm k=>Bool.rec (.ok (.v (.ix m k)) S) (ifT (Nat.blt 2 m&&Nat.blt m 6&&Nat.beq m (k-8)) (pick k S (m-1) 0)) (Nat.ble 10 k)) d
def dSip(args:List AV)(S:St):R:=two2 args λa b=>ob (Zh a) λi=>ob (gv vTap S i) λds=>List.rec .no (λd r Z=>ob (Zw b) λm=>ifT (decide (m=Int.ofNat d.m)&&JN d.m sipM) (setR S i (.tap r) λS=>dVal d S)) ds
def dOra(a:Nat)(args:List AV)(S:St):R:=ifT (Nat.beq a 802) (dSip args S)
def dCx(P:Params):Cx:={cx0 P with sp:=[802],ora:=dOra}
def dsT(T p0:Nat)(r:List Dw):List Dw:=.c 4 (T-1)::.c 2 p0::.y 3 0::Nat.rec (motive:=λZ=>Nat->List Dw) (λZ=>r) (λZ ih t=>.y (2+t) (10+t)::.y 3 t::ih (t+1)) (T-1) 1
def locB(k:Nat)(o:Option AV):Bool:=Option.rec false (λa=>Option.rec false (λj=>Nat.beq j k) (Zh a)) o
theorem ZG{o:Option AV}(h:locB k o=true):o=some (.loc k):=by
 induction o with
 |none=>exact nb h
 |some a=>
  change (Option.rec false (λj=>Nat.beq j k) (Zh a):Bool)=true at h;induction e:Zh a with
  |none=>rw[e]at h;exact nb h
  |some j=>rw[e]at h;rw[JQ e,nq h]
def chkD(T:Nat)(S:St):Bool:=Option.rec false (λps=>JY S (treeL ps)) (psS S T)&&Option.rec false (λds=>Nat.beq (List.length ds) 30) (gv vTap S 0)&&Option.rec false (λes=>locB 3 (look "data" es)&&locB 26 (look "line" es)&&locB (29+9*T) (look "found" es)&&locB 0 (look "tap" es)) (gv vNs S 1)
def nextB(o:Out):Bool:=Out.rec (λZ=>false) (λZ=>false) (λZ=>false) true (λZ=>false) (λZ=>false) o
def allL(f:Out->St->Bool)(c:R):Bool:=R.rec false (λo S=>f o S) (λZ Z Z a b=>a&&b) c
theorem Zy{f:Out->St->Bool}(h:allL f c=true)(k:∀o S,f o S=true->φ o S):WJ u c φ:=by
 induction c with
 |no=>exact nb h
 |ok o S=>exact k o S h
 |ask i t f iht ihf=>exact Jr h λh1 h2=>⟨λZ=>iht h1,λZ=>ihf h2⟩
def dS0(ds:List Dw):St:=JZ [.tap ds,.ns [("tap",.loc 0)]]
def runD(P:Params)(T p0:Nat):Bool:=allL (λo S=>nextB o&&chkD T S) (Wc (run (dCx P) 40) (frZ (fiP P 807) 1 []) ((fiP P 807).body.take 7) (dS0 (dsT T p0 (Za 30))))
theorem runD_10(P:Params):runD P 1 0=true:=by rfl'
theorem runD_11(P:Params):runD P 1 1=true:=by rfl'
theorem runD_20(P:Params):runD P 2 0=true:=by rfl'
theorem runD_21(P:Params):runD P 2 1=true:=by rfl'
variable {x:Wt G fs}
theorem pick_go{S1:St}{y:Wt G fs}(hy:y.S=S1):∀{n j:Nat},PG x (pick k S1 n j) Q E->x.L<+:y.L->j<=i->i<=j+n->j+n<64->(∀j',j'<64->G.u (64*k+j')=Nat.beq i j')->∀t,Q (.int (Int.ofNat i) t) y.s:=by
 intro v0_;induction v0_ with
 |zero=>
  intro j P p h1 h2 h3 hu t;cases Nat.le_antisymm h1 h2;exact(P y p hy).1 _ _ rfl ⟨t,rfl⟩
 |succ n ih=>
  intro j P p h1 h2 h3 hu t;have P:(G.u (64*k+j)=true->PG x (.ok (.v (.int (Int.ofNat j))) S1) Q E)/\(G.u (64*k+j)=false->PG x (pick k S1 n (j+1)) Q E):=P;induction e:Nat.beq i j with
  |true=>
   cases nq e;exact((P.1 ((hu i (by lia)).trans e)) y p hy).1 _ _ rfl ⟨t,rfl⟩
  |false=>exact ih (P.2 ((hu j (by lia)).trans e)) p (by have:=ε e;lia) (by lia) (by lia) hu t
def ixU(f:Nat->Str)(t:Nat):Bool:=Option.rec false (λy=>decide (f (t / 64)=y)) (JG (t / 64-8))[t%64]?
theorem ixTab_nd(m:Nat)(hm:m=3\/m=4\/m=5)(i j:Nat)(y:Str)(h1:(JG m)[i]?=some y)(h2:(JG m)[j]?=some y):i=j:=by
 have nd:(JG m).Nodup:=by
  rcases hm with rfl|rfl|rfl
  ·exact Zn (by rfl')
  ·exact Zn (by rfl')
  ·exact Zn (by rfl')
 exact(List.getElem?_inj (lt_ h1) nd).mp (h1.trans h2.symm)
theorem ixTab_ln(m:Nat)(hm:m=3\/m=4\/m=5):(JG m).length=m:=by rcases hm with rfl|rfl|rfl<;>rfl
theorem ixU_at{f:Nat->Str}{m:Nat}(hm:m=3\/m=4\/m=5)(hk:m=k-8)(h:(JG m)[i]?=some (f k))(j:Nat)(hj:j<64):ixU f (64*k+j)=Nat.beq i j:=by
 unfold ixU;rw[Nat.mul_add_div (by decide),Nat.div_eq_of_lt hj,Nat.mul_add_mod,Nat.mod_eq_of_lt hj,Nat.add_zero,<-hk];induction e:(JG m)[j]? with
 |none=>
  refine(bf_ λq=>?_).symm;rw[<-nq q]at e;exact no (e.symm.trans h)
 |some y=>
  show decide (f k=y)=Nat.beq i j;induction q:Nat.beq i j with
  |true=>
   rw[nq q]at h;exact decide_eq_true (oi (h.symm.trans e))
  |false=>exact ϡ λz=>ε q (ixTab_nd m hm i j y (z▸h) e)
theorem m345{m:Nat}(h1:2<m)(h2:m<6):m=3\/m=4\/m=5:=JC (P:=λm=>2<m->m=3\/m=4\/m=5) (JC (JC (JC (JC (JC WQ λh=>absurd h (by decide)) λh=>absurd h (by decide)) λh=>absurd h (by decide)) λZ=>.inl rfl) λZ=>.inr (.inl rfl)) (λZ=>.inr (.inr rfl)) m h2 h1
theorem dsip_ora{x:Wt G fs}{args:List AV}{us:List Value}(hu:G.u=ixU G.nm.f)(P:PG x (dSip args x.S) Q E)(p:Pt G.om A x.s (K+100))(hfr:A.frames=some (Jv fs++G.out))(d:Jq G.nm x.L args us):wpAny (Mdl G.om) A (call (.ref 802) us) Q E x.s:=
 sip_core (V:=dVal) P p hfr d λy e z t P D=>by
  induction e with
  |c m k=>exact(P y (ζ _) rfl).1 _ _ rfl ⟨t,Ja (λz=>Value.int z t) D⟩
  |y m k=>
   have P:PG y (Bool.rec (.ok (.v (.ix m k)) y.S) (ifT (Nat.blt 2 m&&Nat.blt m 6&&Nat.beq m (k-8)) (pick k y.S (m-1) 0)) (Nat.ble 10 k)) Q E:=P;induction hk:Nat.ble 10 k with
   |false=>rw[hk]at P;exact D.elim λi0 r=>(P y (ζ _) rfl).1 _ _ rfl ⟨t,i0,Ja (λz=>Value.int z t) r.1,r.2⟩
   |true=>
    rw[hk]at P;refine PG.ifT P λhm P=>Jr hm λhm g3=>Jr hm λg1 g2=>D.elim λi0 r=>?_;have hm3:2<m:=nl g1;have hm6:m<6:=nl g2;have h345:m=3\/m=4\/m=5:=m345 hm3 hm6;have li:i0<m:=by
     have:=(lt_ r.2.1);rw[ixTab_ln m h345]at this;exact this
    rw[r.1];exact pick_go (i:=i0) (y:=y) rfl P (ζ _) (Nat.zero_le _) ((Nat.zero_add (m-1)).symm▸Nat.le_sub_one_of_lt li) ((Nat.zero_add (m-1)).symm▸ϛ (Nat.sub_le m 1) (Nat.lt_trans hm6 (by decide))) (λj' hj=>hu▸ixU_at h345 (nq g3) r.2.1 j' hj) t
theorem runD_30(P:Params):runD P 3 0=true:=by rfl'
theorem runD_31(P:Params):runD P 3 1=true:=by rfl'
theorem runD_40(P:Params):runD P 4 0=true:=by rfl'
theorem runD_41(P:Params):runD P 4 1=true:=by rfl'
theorem runD_all(P:Params)(T:Nat)(h1:1<=T)(h4:T<=4):∀p,p<2->runD P T p=true:=JC (P:=λT=>1<=T->∀p,p<2->runD P T p=true) (JC (JC (JC (JC WQ (λh=>absurd h (Nat.not_succ_le_zero 0))) (λZ=>(JC (P:=λp=>runD P 1 p=true) (JC WQ (runD_10 P)) (runD_11 P)))) (λZ=>(JC (P:=λp=>runD P 2 p=true) (JC WQ (runD_20 P)) (runD_21 P)))) (λZ=>(JC (P:=λp=>runD P 3 p=true) (JC WQ (runD_30 P)) (runD_31 P)))) (λZ=>(JC (P:=λp=>runD P 4 p=true) (JC WQ (runD_40 P)) (runD_41 P))) T (Jh h4) h1
def dtf(ns is:List Str)(k:Nat):Str:=Bool.rec (nrf ns k) (nrf is (k-11)) (Nat.ble 10 k)
theorem dt_draws(P:Params){x y:Int}(T:Tp (N+39) x y){C:Prop}(k:∀TT p0 (f:Nat->Str),1<=TT->TT<=4->p0<2->(∀t,t<TT->f t∈JG 3)->WF f (dsT TT p0 (Za 30)) x y->Tp (dsT TT p0 (Za 30)).length x y->C):C:=
 T.dc P (m:=4) (by decide) λc x1 y1 hc T1 D1=>T1.dc P (m:=2) (by decide) λp0 x2 y2 hp T2 D2=>T2.dy P (.inl rfl) λn0 x3 y3 m0 T3 D3=>by
  have le:∀n,n<=39->Tp n x y:=λn h=>T.le (Jk h (Nat.le_add_left _ _));revert D1;refine JC (P:=λc=>(∀(f:Nat->Str) ds,WF f ds x1 y1->WF f (.c 4 c::ds) x y)->C) (JC (JC (JC WQ ?_) ?_) ?_) ?_ c hc
  ·exactλD1=>k 1 p0 (dtf [n0] []) (Ϙ _) (by decide) hp (JC WQ m0) (D1 _ _ (D2 _ _ (D3 _ _ _ rfl (Zm 30 _ _)))) (le 33 (by decide))
  ·exactλD1=>T3.dy P (.inl rfl) λi1 x4 y4 j1 T4 D4=>T4.dy P (.inl rfl) λn1 x5 y5 m1 T5 D5=>k 2 p0 (dtf [n0,n1] [i1]) (by decide) (by decide) hp (JC (JC WQ m0) m1) (D1 _ _ (D2 _ _ (D3 _ _ _ rfl (D4 _ _ _ rfl (D5 _ _ _ rfl (Zm 30 _ _)))))) (le 35 (by decide))
  ·exactλD1=>T3.dy P (.inl rfl) λi1 x4 y4 j1 T4 D4=>T4.dy P (.inl rfl) λn1 x5 y5 m1 T5 D5=>T5.dy P (.inr (.inl rfl)) λi2 x6 y6 j2 T6 D6=>T6.dy P (.inl rfl) λn2 x7 y7 m2 T7 D7=>k 3 p0 (dtf [n0,n1,n2] [i1,i2]) (by decide) (by decide) hp (JC (JC (JC WQ m0) m1) m2) (D1 _ _ (D2 _ _ (D3 _ _ _ rfl (D4 _ _ _ rfl (D5 _ _ _ rfl (D6 _ _ _ rfl (D7 _ _ _ rfl (Zm 30 _ _)))))))) (le 37 (by decide))
  ·exactλD1=>T3.dy P (.inl rfl) λi1 x4 y4 j1 T4 D4=>T4.dy P (.inl rfl) λn1 x5 y5 m1 T5 D5=>T5.dy P (.inr (.inl rfl)) λi2 x6 y6 j2 T6 D6=>T6.dy P (.inl rfl) λn2 x7 y7 m2 T7 D7=>T7.dy P (.inr (.inr rfl)) λi3 x8 y8 j3 T8 D8=>T8.dy P (.inl rfl) λn3 x9 y9 m3 T9 D9=>k 4 p0 (dtf [n0,n1,n2,n3] [i1,i2,i3]) (by decide) (by decide) hp (JC (JC (JC (JC WQ m0) m1) m2) m3) (D1 _ _ (D2 _ _ (D3 _ _ _ rfl (D4 _ _ _ rfl (D5 _ _ _ rfl (D6 _ _ _ rfl (D7 _ _ _ rfl (D8 _ _ _ rfl (D9 _ _ _ rfl (Zm 30 _ _)))))))))) (le 39 (by decide))
theorem psS_of:∀{T i:Nat} {ps:List Nat},Nat.rec (motive:=λZ=>Nat->Option (List Nat)) (λZ=>some []) (λZ ih i=>obO (parS S i) λp=>ifO (Nat.blt p i) (obO (ih (i+1)) λr=>some (p::r))) T i=some ps->ps.length=T/\∀t p,ps[t]?=some p->p<i+t:=by
 intro T;induction T with
 |zero=>
  intro i ps h;cases h;exact⟨rfl,λt p e=>nomatch e⟩
 |succ T ih=>
  exactλh=>Jo h λp hp h=>Jt h λhl h=>Jo h λr hr h9=>by
   cases h9;have ih:=ih hr;refine⟨Ja (·+1) ih.1,λt q e=>?_⟩
   induction t using Nat.casesAuxOn with
   |zero=>cases e;exact nl hl
   |succ t=>exact Nat.succ_add_eq_add_succ _ t▸ih.2 t q e
structure Wu(ps:List Nat):Prop where
 l1:1<=ps.length
 l4:ps.length<=4
 lt:∀t p,ps[t]?=some p->p<2+t
theorem chkD_of{T:Nat}(h1:1<=T)(h4:T<=4)(h:chkD T S=true){C:Prop}(k:∀ps ds es,Wu ps->ps.length=T->(∀p∈treeL ps,S.get p.1=some p.2)->S.get 0=some (.tap ds)->ds.length=30->S.get 1=some (.ns es)->(look "data" es=some (.loc 3)/\look "line" es=some (.loc 26)/\look "found" es=some (.loc (29+9*T))/\look "tap" es=some (.loc 0))->C):C:=
 Jr h λh h7=>Jr h λh5 h6=>by
  induction e:psS S T with
  |none=>rw[e]at h5;exact nb h5
  |some ps=>
   rw[e]at h5;induction e2:gv vTap S 0 with
   |none=>rw[e2]at h6;exact nb h6
   |some ds=>
    rw[e2]at h6;induction e3:gv vNs S 1 with
    |none=>rw[e3]at h7;exact nb h7
    |some es=>
     rw[e3]at h7;have q:=psS_of e;refine Jz e2 λo2 g2 v2=>Jz e3 λo3 g3 v3=>Jr h7 λh7 h8=>Jr h7 λh7 h9=>Jr h7 λha hb=>k ps ds es ⟨q.1▸h1,q.1▸h4,q.2⟩ q.1 (Zx h5) (by rw[g2,vTap_of v2]) (nq h6) (by rw[g3,vNs_of v3]) ⟨ZG ha,ZG hb,ZG h9,ZG h8⟩
def dtN(f:Nat->Str):Nt:=⟨f,λZ=>0⟩
theorem dt_fi(P:Params):fnP P 807=some (fiP P 807):=by rfl'
theorem dt_ent(P:Params)(r:List Dw)(k:FrA->St->R):enterX false (fiP P 807) [.loc 0] (JZ [.tap r]) k=k (frZ (fiP P 807) 1 []) (dS0 r):=by rfl'
theorem dS0_1(r:List Dw):(dS0 r).get 1=some (.ns [("tap",.loc 0)]):=by rfl'
structure DtA(om:Om)(out:List Env)(s:Shared)(aT:Addr)(K:Nat)(A':Around)(env:Env)(f:Nat->Str)(ps:List Nat)(ds:List Dw)(es:List (Str×AV))(L1 L2:List Addr)(s1 s2:Shared)(S2:St):Prop where
 ok:Wu ps
 nf:∀t,t<ps.length->f t∈JG 3
 F:Fp om A' env out (frZ (fiP om.w.params 807) 1 []) s1 K
 Fr:ZA L1 (frZ (fiP om.w.params 807) 1 []) env
 g:Gin om s1 L1 out
 B1:∃r,Bk om (dtN f) [aT] out s (dS0 r) L1 s1
 B2:Bk om (dtN f) L1 out s1 S2 L2 s2
 tr:∀p∈treeL ps,S2.get p.1=some p.2
 tap:S2.get 0=some (.tap ds)
 tl:ds.length=30
 ns:S2.get 1=some (.ns es)
 lk:look "data" es=some (.loc 3)/\look "line" es=some (.loc 26)/\look "found" es=some (.loc (29+9*ps.length))/\look "tap" es=some (.loc 0)
theorem dt_A(p:Pt om A s (K+301))(hfr:A.frames=some out)(T:JP s.heap aT (N+39))(fre:Fre out [aT])(hb:om.hb.get? aT=none)
  (H:∀env f ps ds es L1 L2 s1 s2 S2 E',DtA om out s aT (K+300) (A.deeper env) env f ps ds es L1 L2 s1 s2 S2->wpAny (Mdl om) (A.deeper env) (execs ((fiP om.w.params 807).body.drop 7) env) (λ(fl:Flow) s'=>Q (match fl with|.ret v=>v|_=>.none) s') E' s2):wpAny (Mdl om) A (call (.ref 807) [.ref aT]) Q E s:=by
 refine T.el λx y t1 t2 n ho T=>dt_draws om.w.params T λTT p0 f h1 h4 hp nf D T2=>?_
 have g:Gin om s [aT] out:=p.gin hfr (List.nodup_cons.mpr ⟨Ξ,ϑ⟩) (λa ha=>(ms_ ha)▸hb) fre
 have d:Jq (dtN f) [aT] [.loc 0] [.ref aT]:=⟨_,_,rfl,⟨aT,rfl,rfl⟩,rfl⟩
 refine goF (nm:=dtN f) (u:=ixU f) (cx:=dCx om.w.params) (S:=JZ [.tap (dsT TT p0 (Za 30))]) (K:=K+300) (l:=1) (cs:=[]) (S0:=dS0 (dsT TT p0 (Za 30))) p hfr g (Beg.of (ObL.cons ho (show OkP om (dtN f) [aT] aT (.tap _) _ from ⟨x,y,t1,t2,n,rfl,T2,D⟩) ObL.nil) (stL rfl)) rfl (λh=>nb h) kn0 (dt_fi _) d (dt_ent _ _) λenv L1 s1 F Fr B1=>?_
 have g1:Gin om s1 L1 out:=g.next B1 B1.nd λZ h=>h
 rw[<-List.take_append_drop 7 (fiP om.w.params 807).body]
 refine goB (n:=40) (k:=150) (nm:=dtN f) (u:=ixU f) (cx:=dCx om.w.params) F.fr F.p.hdl (F.p.room.le (by lia)) g1 ⟨B1.len,B1.all,B1.objs⟩ rfl (λh=>nb h) kn0 (λa args A' fs y us Q' E' hm pt hf' dd P=>?_) Fr rfl rfl ⟨_,dS0_1 _⟩ (Zy (runD_all om.w.params TT h1 h4 p0 hp) λo S2 hc=>Jr hc λhc1 hc2=>?_)
 ·exact PG.ifT P λha P=>nq ha▸dsip_ora (K:=50) rfl P pt hf' dd
 ·have eo:o=.next:=by
   induction o with
   |next=>rfl
   |_=>exact nb hc1
  refine chkD_of h1 h4 hc2 λps ds es ok pl tr tp tl ns lk=>.inl ⟨eo,λL2 s2 B2=>?_⟩
  show wpAny _ _ (execs ((fiP om.w.params 807).body.drop 7) env) _ _ s2
  exact H env f ps ds es L1 L2 s1 s2 S2 _ ⟨ok,λt ht=>nf t (pl▸ht),F,Fr,g1,⟨_,B1⟩,B2,tr,tp,tl,ns,pl▸lk⟩
def nilsF(n:Nat):List AO:=Nat.rec [] (λZ ih=>.list []::ih) n
def d2Ds(r:List Dw)(bits:List Bool):Nat->List Dw:=List.rec (motive:=λZ=>Nat->List Dw) (λZ=>r) (λb Z ih i=>Bool.rec (.c 2 1::ih (i+1)) (.c 2 0::.y 3 i::ih (i+1)) b) bits
def d2T(n:Nat)(b:Nat):List (Nat×AO):=Nat.rec (motive:=λZ=>Nat->List (Nat×AO)) (λZ=>[]) (λZ ih b=>(10+b,.tup [.op (20+b),.op (30+b)])::ih (b+1)) n b
def d2Kn(n:Nat):Kn:={sob:=λk=>JE k ((4,.list (ZD 10 n))::d2T n 0),oatt:=λk x=>ifO (Nat.ble 20 k&&Nat.blt k (20+n)&&sEq x "conditions") (some (.loc (k-18))),fst:=λk=>ifO (Nat.ble 30 k&&Nat.blt k (30+n)) (some (.sym 0 (170+k)))}
def d2Cx(P:Params)(n:Nat):Cx:={cx0 P with kn:=d2Kn n,sp:=[802],ora:=nrOra}
def d2S(bits:List Bool):St:=JZ (.ns [("tap",.loc 1),("line",.op 4),("data",.op 5),("found",.loc (2+bits.length))]::.tap (d2Ds (Za 18) bits 0)::(nilsF bits.length++[.list []]))
def d2R(P:Params)(bits:List Bool):R:=Wc (run (d2Cx P bits.length) 40) (frZ (fiP P 807) 0 []) ((fiP P 807).body.drop 7) (d2S bits)
def d2I(n:Nat)(bits:List Bool):Nat->Nat->List (Nat×AO):=List.rec (motive:=λZ=>Nat->Nat->List (Nat×AO)) (λZ Z=>[]) (λb Z ih i r=>Bool.rec ((2+i,.list [])::ih (i+1) r) ((2+i,.list [.loc (n+8+7*r)])::(n+7+7*r,.dict [("name",.sym 0 i),("rows",.loc (n+6+7*r))])::(n+8+7*r,.inst 155 (n+7+7*r))::(n+10+7*r,.tup [.sym 0 i,.op (30+i)])::ih (i+1) (r+1)) b) bits
def WW(bits:List Bool):Nat:=List.rec 0 (λb Z ih=>Bool.rec ih (ih+1) b) bits
def fndF(n:Nat)(r:Nat):List AV:=((JW r).reverse).map λr=>.loc (n+10+7*r)
def d2L(bits:List Bool):List (Nat×AO):=(2+bits.length,.list (fndF bits.length (WW bits)))::(bits.length+5+7*WW bits,.list (sy0 200 bits.length))::(bits.length+7+7*WW bits,.tup [.op 5,.loc (bits.length+5+7*WW bits),.loc (2+bits.length)])::d2I bits.length bits 0 0
def retL(k:Nat)(o:Out):Bool:=Out.rec (λZ=>false) (λZ=>false) (λZ=>false) false (λa=>locB k (some a)) (λZ=>false) o
def d2B(P:Params)(bits:List Bool):Bool:=allL (λo S=>retL (bits.length+7+7*WW bits) o&&JY S (d2L bits)&&Option.rec false (λds=>Nat.beq (List.length ds) 18) (gv vTap S 1)) (d2R P bits)
def Wa(n:Nat):List (List Bool):=Nat.rec [[]] (λZ ih=>ih.map (true::·)++ih.map (false::·)) n
theorem WP:∀l:List Bool,l∈Wa l.length
 |[]=>.head _
 |true::l=>μ _ (ϕ (WP l))
 |false::l=>ξ _ (ϕ (WP l))
theorem d2_3(P:Params):((Wa 3).all λb=>d2B P b)=true:=by rfl'
variable {j:Nat}{L L2:List Addr}{nm1:Nt}{ps is js:List Nat}{r:List AO}{us:List Value}
def JX(L:List Addr)(js:List Nat):List Addr:=js.map (Js L)
theorem Jy(h:L[i]?=some a):Js L i=a:=by unfold Js;rw[h];rfl
theorem WA(h:i<L.length):L[i]?=some (Js L i):=by rw[Φ h,Jy (Φ h)]
theorem picks_nd(nd:L.Nodup):∀{js:List Nat},js.Nodup->(∀j∈js,j<L.length)->(JX L js).Nodup:=by
 intro v0_;induction v0_ with
 |nil=>
  intro Z Z;exact ϑ
 |cons j js ih=>
  intro h hl;exact List.nodup_cons.mpr ⟨λhm=>(mm_ hm).elim λk r=>(List.nodup_cons.mp h).1 (Ju nd (WA (hl j (.head _))) (r.2▸WA (hl k (.tail _ r.1)))▸r.1),ih (List.nodup_cons.mp h).2 λk hk=>hl k (.tail _ hk)⟩
theorem WM(hl:∀j∈js,j<L.length)(h:a∈JX L js):a∈L:=(mm_ h).elim λk r=>r.2▸Θ (WA (hl k r.1))
theorem Wd(h:js[i]?=some j):(JX L js)[i]?=some (Js L j):=by unfold JX;rw[δ,h];rfl
theorem picks_not(nd:L.Nodup)(hl:∀j∈js,j<L.length)(h:L[i]?=some a)(hn:i∉js):a∉JX L js:=λhm=>(mm_ hm).elim λk r=>hn (Ju nd h (r.2▸WA (hl k r.1))▸r.1)
theorem ObL.nils{L0:List Addr}:∀{is:List Nat},(∀j∈is,∃o,s.heap.get? (Js L2 j)=some o/\OkP om nm L (Js L2 j) (.list []) o)->ObL om nm s L l r->ObL om nm s L (JX L2 is++l) (nilsF is.length++r):=by
 intro v0_;induction v0_ with
 |nil=>
  intro Z h;exact h
 |cons j is ih=>
  intro H h;exact(H j (.head _)).elim λo g=>ObL.cons g.1 g.2 (ih (λk hk=>H k (.tail _ hk)) h)
theorem dens_locs:∀{js:List Nat} {us:List Value},Jq nm L (js.map AV.loc) us->us=js.map λj=>Value.ref (Js L j):=by
 intro v0_;induction v0_ with
 |nil=>
  intro Z d;exact d
 |cons j js ih=>
  intro Z y2_;obtain ⟨w,r,e,d,ds⟩:=y2_;rw[e,ih ds];exact d.loc_ λa h e'=>by rw[e',<-Jy h];rfl
theorem ops_of:∀{js:List Nat} {us:List Value} {b:Nat},us=js.map (λj=>Value.ref (Js L2 j))->(∀i j,js[i]?=some j->nm.op (b+i)=Js L2 j)->Jq nm L (ZD b js.length) us:=by
 intro v0_;induction v0_ with
 |nil=>
  intro Z Z e Z;exact e
 |cons j js ih=>
  intro Z b e h;exact e▸Jq.cons (a:=.op b) (Ja Value.ref (h 0 j rfl).symm) (ih rfl λi q hq=>(Ja nm.op (Nat.succ_add_eq_add_succ _ _)).trans (h (i+1) q hq))
theorem d2_draws(P:Params):∀(n i:Nat) (x y:Int),Tp (2*n+18) x y->∃(bits:List Bool) (cs:List Str),bits.length=n/\cs.length=n/\(∀c∈cs,c∈JG 3)/\∀f:Nat->Str,(∀j c,cs[j]?=some c->f (i+j)=c)->WF f (d2Ds (Za 18) bits i) x y:=by
 intro v0_;induction v0_ with
 |zero=>
  intro i x y Z;exact⟨[],[],rfl,rfl,λc h=>absurd h Ξ,λf Z=>Zm 18 x y⟩
 |succ n ih=>
  intro i x y T;exact(T.le (show 2*n+18+1+1<=2*(n+1)+18 by lia)).dc P (m:=2) (by decide) λb x1 y1 hb T1 D1=>by
   match b,hb with
   |0,_=>
    exact T1.dy P (.inl rfl) λd x2 y2 md T2 D2=>by
     obtain ⟨bits,cs,h1,h2,h3,h4⟩:=ih (i+1) x2 y2 T2;exact⟨true::bits,d::cs,Ja (·+1) h1,Ja (·+1) h2,λc hc=>(mc_ hc).elim (λe=>e▸md) (h3 c),λf hf=>D1 f _ (D2 f i _ (hf 0 d rfl) (h4 f λj c e=>(Ja f (Nat.succ_add_eq_add_succ _ _)).trans (hf (j+1) c e)))⟩
   |1,_=>
    obtain ⟨bits,cs,h1,h2,h3,h4⟩:=ih (i+1) x1 y1 (T1.le (by lia));exact⟨false::bits,"P"::cs,Ja (·+1) h1,Ja (·+1) h2,λc hc=>(mc_ hc).elim (λe=>e▸.head _) (h3 c),λf hf=>D1 f _ (h4 f λj c e=>(Ja f (Nat.succ_add_eq_add_succ _ _)).trans (hf (j+1) c e))⟩
theorem d2Ds_len:∀(bits:List Bool) (i:Nat),(d2Ds (Za 18) bits i).length<=2*bits.length+18
 |[],_=>Nat.le_of_eq (ZS 18)
 |true::bits,i=>by have:=d2Ds_len bits (i+1);show (d2Ds (Za 18) bits (i+1)).length+1+1<=_;rw[Υ];lia
 |false::bits,i=>by have:=d2Ds_len bits (i+1);show (d2Ds (Za 18) bits (i+1)).length+1<=_;rw[Υ];lia
theorem mem_treeIs{p:Nat×AO}:∀{n:Nat},i<n->p∈treeI ps i->p∈treeIs ps n
 |n+1,hi,h=>(Nat.lt_or_eq_of_le (Je hi)).elim (λhi=>μ _ (mem_treeIs hi h)) λe=>e▸ξ _ h
theorem mem_tree{p:Nat×AO}(hi:i<2+ps.length)(h:p∈treeI ps i):p∈treeL ps:=ξ _ (mem_treeIs hi h)
def TrA(om:Om)(h:Heap)(nm:Nt)(L:List Addr)(l:List (Nat×AO)):Prop:=∀p∈l,∃o,L[p.1]?=some (Js L p.1)/\h.get? (Js L p.1)=some o/\OkP om nm L (Js L p.1) p.2 o
theorem DtA.trees{K:Nat}{A':Around}{env:Env}{f:Nat->Str}{ds:List Dw}{es:List (Str×AV)}{L1 L2:List Addr}{s0 s1 s2:Shared}{S2:St}(D:DtA om out s0 aT K A' env f ps ds es L1 L2 s1 s2 S2):TrA om s2.heap (dtN f) L2 (treeL ps):=λp hp=>(D.B2.objs p.1 p.2 (D.tr p hp)).elim λa r=>r.elim λo r=>by
 have e:=Jy r.1;exact⟨o,e.symm▸r.1,e.symm▸r.2.1,e.symm▸r.2.2⟩
theorem upto_len:∀n,(JW n).length=n:=by
 intro v0_;induction v0_ with
 |zero=>
  exact rfl
 |succ n ih=>
  exact Ja (·+1) (ih )
theorem upto_rev:∀{n i:Nat},i<n->(JW n).reverse[i]?=some i
 |n+1,i,h=>by
  show (n::JW n).reverse[i]?=some i;rw[List.reverse_cons];rcases Nat.lt_or_eq_of_le (Je h)with q|rfl
  ·rw[List.getElem?_append_left (by rw[List.length_reverse,upto_len];exact q)];exact upto_rev q
  ·rw[ϝ (by rw[List.length_reverse,upto_len];exact Ϙ _),List.length_reverse,upto_len,Nat.sub_self];rfl
theorem Zv(n:Nat):(JW n).reverse.length=n:=by rw[List.length_reverse,upto_len]
theorem mem_rev(h:i∈(JW n).reverse):i<n:=(mi_ h).elim λj hj=>by
 have hl:=(lt_ hj);rw[Zv]at hl;cases (upto_rev hl).symm.trans hj;exact hl
def jsD(T:Nat):List Nat:=1::0::((JW (2+T)).reverse.map cA++[29+9*T])
theorem jsD_nd:∀T,1<=T->T<=4->(jsD T).Nodup
 |1,_,_=>by decide +kernel
 |2,_,_=>by decide +kernel
 |3,_,_=>by decide +kernel
 |4,_,_=>by decide +kernel
theorem jsD_c{T:Nat}(h:i<2+T):(jsD T)[2+i]?=some (cA i):=by
 show (1::0::((JW (2+T)).reverse.map cA++[29+9*T]))[2+i]?=_;rw[Nat.add_comm 2 i,List.getElem?_cons_succ,List.getElem?_cons_succ,List.getElem?_append_left (by rw[Ω,Zv];exact h),δ,upto_rev h];rfl
def nmS(f:Nat->Str)(i:Nat):Str:=Bool.rec (Bool.rec (f (i-2)) "P" (Nat.beq i 1)) "W" (Nat.beq i 0)
def d2F(f:Nat->Str)(cs:List Str)(k:Nat):Str:=Bool.rec (nrf cs k) (nmS f (k-200)) (Nat.ble 200 k)
def d2Op(L2:List Addr)(k:Nat):Addr:=Bool.rec (Bool.rec (Bool.rec (Js [0,0,0,0,Js L2 26,Js L2 3] k) (Js L2 (arA (k-10)+1)) (Nat.ble 10 k)) (Js L2 (iA (k-20))) (Nat.ble 20 k)) (Js L2 (arA (k-30))) (Nat.ble 30 k)
def d2N(f:Nat->Str)(cs:List Str)(L2:List Addr):Nt:=⟨d2F f cs,d2Op L2⟩
theorem d2Op_a(i:Nat):d2Op L2 (30+i)=Js L2 (arA i):=by unfold d2Op;rw[Zj (Nat.le_add_right 30 i),Ψ]
theorem d2Op_i(h:i<10):d2Op L2 (20+i)=Js L2 (iA i):=by unfold d2Op;rw[ZZ (show 20+i<30 by lia),Zj (Nat.le_add_right 20 i),Ψ]
theorem d2Op_t(h:i<10):d2Op L2 (10+i)=Js L2 (arA i+1):=by unfold d2Op;rw[ZZ (show 10+i<30 by lia),ZZ (show 10+i<20 by lia),Zj (Nat.le_add_right 10 i),Ψ]
theorem d2F_n{f:Nat->Str}{cs:List Str}(i:Nat):d2F f cs (200+i)=nmS f i:=by unfold d2F;rw[Zj (Nat.le_add_right 200 i),Ψ]
theorem nmS_cs{f:Nat->Str}(k:i=0->C)(k1:i=1->C)(k2:i≠0->i≠1->nmS f i=f (i-2)->nmA i=.sym 0 (i-2)->C):C:=by
 induction h0:Nat.beq i 0 with
 |true=>exact k (nq h0)
 |false=>induction h1:Nat.beq i 1 with
  |true=>exact k1 (nq h1)
  |false=>exact k2 (ε h0) (ε h1) (by unfold nmS;rw[h0,h1]) (by unfold nmA;rw[h0,h1])
theorem nmA_den{f:Nat->Str}(e:nm.f k=nmS f i)(d:Den (dtN f) L2 (nmA i) w):Den nm L' (.sym 0 k) w:=
 nmS_cs (i:=i) (f:=f) (λz=>by subst z;exact d.str_ λt ew=>⟨t,ew.trans (Ja (λz=>Value.str z t) e.symm),e.symm▸.tail _ (.tail _ (.tail _ (.head _)))⟩) (λz=>by subst z;exact d.str_ λt ew=>⟨t,ew.trans (Ja (λz=>Value.str z t) e.symm),e.symm▸.head _⟩) λn0 n1 e2 e3=>by
  rw[e3]at d;exact Den.sym_ (nm:=dtN f) (L:=L2) (c:=0) (k:=i-2) d λt ew hp=>⟨t,ew.trans (Ja (λz=>Value.str z t) (e.trans e2).symm),(e.trans e2).symm▸hp⟩
theorem d2T_ok{h:Heap}(H:∀i,i<n->∃o,h.get? (Js L2 (arA i+1))=some o/\OkP om nm1 L2 (Js L2 (arA i+1)) (.tup [.loc (iA i),.loc (arA i)]) o){f:Nat->Str}{cs:List Str}(hn:n<=10):∀{m b:Nat},b+m<=n->Zu om h (d2N f cs L2) own (d2T m b):=by
 intro v0_;induction v0_ with
 |zero=>
  intro Z Z;exact trivial
 |succ m ih=>
  intro b hb;exact(H b (by lia)).elim λo g=>g.2.tup_ λxs k eo dd=>Zu.cons (a:=Js L2 (arA b+1)) (d2Op_t (by lia)) g.1 (λL Z=>by
   rw[eo];refine OkP.tp ?_;rw[dens_locs (js:=[iA b,arA b]) dd];exact⟨_,_,rfl,Ja Value.ref (d2Op_i (by lia)).symm,_,_,rfl,Ja Value.ref (d2Op_a b).symm,rfl⟩) (ih (by lia))
def frI1(T i:Nat):Bool:=JM (JN (iA i) (jsD T))&&JM (JN (iA i-1) (jsD T))&&JM (JN (arA i) (jsD T))&&JM (JN (arA i+1) (jsD T))&&JM (JN (kA i) (jsD T))&&JN (cA i) (jsD T)
theorem frI_all:((JW 5).all λT=>JM (JN 26 (jsD T))&&JM (JN 3 (jsD T))&&JM (JN 2 (jsD T))&&JM (JN 5 (jsD T))&&JM (JN 6 (jsD T))&&JM (JN 7 (jsD T))&&JM (JN 21 (jsD T))&&(JW (2+T)).all λi=>frI1 T i)=true:=by rfl'
theorem JS{l:List Nat}(h:JM (JN a l)=true):a∉l:=λhm=>nb ((JL h).symm.trans (Wn hm))
structure FrI(T i:Nat):Prop where
 a:iA i∉jsD T
 b:iA i-1∉jsD T
 c:arA i∉jsD T
 d:arA i+1∉jsD T
 e:kA i∉jsD T
 f:cA i∈jsD T
structure FrJ(T:Nat):Prop where
 a:26∉jsD T
 b:3∉jsD T
 c:2∉jsD T
 d:5∉jsD T
 e:6∉jsD T
 f:7∉jsD T
 g:21∉jsD T
 i:∀i,i<2+T->FrI T i
theorem frJ{T:Nat}(h:T<=4):FrJ T:=Jr (al_ frI_all T (JD (Jh h))) λh hi=>Jr h λh g=>Jr h λh f=>Jr h λh e=>Jr h λh d=>Jr h λh c=>Jr h λa b=>⟨JS a,JS b,JS c,JS d,JS e,JS f,JS g,λi hl=>Jr (al_ hi i (JD hl)) λh f=>Jr h λh e=>Jr h λh d=>Jr h λh c=>Jr h λa b=>⟨JS a,JS b,JS c,JS d,JS e,JV f⟩⟩
def TrB(om:Om)(h:Heap)(nm:Nt)(L:List Addr)(ps:List Nat):Prop:=TrA om h nm L ((treeL ps).filter λp=>JM (JN p.1 (jsD ps.length)))
theorem TrB.at_{h:Heap}(T:TrB om h nm L ps){p:Nat×AO}(hp:p∈treeL ps)(hn:p.1∉jsD ps.length):∃o,L[p.1]?=some (Js L p.1)/\h.get? (Js L p.1)=some o/\OkP om nm L (Js L p.1) p.2 o:=T p (List.mem_filter.mpr ⟨hp,by
 show JM (JN p.1 (jsD ps.length))=true;induction e:JN p.1 (jsD ps.length)with
 |true=>exact absurd (JV e) hn
 |false=>rfl⟩)
theorem tree_d:(iA i-1,AO.dict (itemE ps i))∈treeI ps i:=.head _
theorem tree_i:(iA i,AO.inst 202 (iA i-1))∈treeI ps i:=.tail _ (.head _)
theorem tree_c:(cA i,AO.list [])∈treeI ps i:=.tail _ (.tail _ (.head _))
theorem tree_k:(kA i,AO.list ((kidsF ps i).map λk=>.loc (iA k)))∈treeI ps i:=.tail _ (.tail _ (.tail _ (.head _)))
theorem tree_a:(arA i,AO.list (pathA ps i))∈treeI ps i:=.tail _ (.tail _ (.tail _ (.tail _ (.head _))))
theorem tree_t:(arA i+1,AO.tup [.loc (iA i),.loc (arA i)])∈treeI ps i:=.tail _ (.tail _ (.tail _ (.tail _ (.tail _ (.head _)))))
theorem tree_l:(26,AO.list ((JW (2+ps.length)).reverse.map λi=>.loc (arA i+1)))∈treeL ps:=.tail _ (.tail _ (.tail _ (.tail _ (.tail _ (.tail _ (.head _))))))
theorem tree_f:(29+9*ps.length,AO.list [])∈treeL ps:=.tail _ (.tail _ (.tail _ (.tail _ (.tail _ (.tail _ (.tail _ (.head _)))))))
def TrI(om:Om)(h:Heap)(nm:Nt)(L:List Addr)(ps:List Nat):Prop:=∀i,i<2+ps.length->∀p∈treeI ps i,p.1∉jsD ps.length->∃o,L[p.1]?=some (Js L p.1)/\h.get? (Js L p.1)=some o/\OkP om nm L (Js L p.1) p.2 o
theorem TrI.at_{h:Heap}(T:TrI om h nm L ps)(hi:i<2+ps.length){p:Nat×AO}(hp:p∈treeI ps i)(hn:p.1∉jsD ps.length):∃o,L[p.1]?=some (Js L p.1)/\h.get? (Js L p.1)=some o/\OkP om nm L (Js L p.1) p.2 o:=T i hi p hp hn
theorem TrI.up{h h':Heap}(T:TrI om h nm L ps)(k:∀b o,h.get? b=some o->h'.get? b=some o):TrI om h' nm L ps:=λi hi p hp hn=>(T i hi p hp hn).imp λo r=>⟨r.1,k _ _ r.2.1,r.2.2⟩
theorem TrB.items{h:Heap}(T:TrB om h nm L ps):TrI om h nm L ps:=λi hi p hp hn=>T.at_ (mem_tree hi hp) hn
theorem TrI.att{h:Heap}{v z:AV}{xn:Str}(T:TrI om h nm1 L2 ps)(ok:Wu ps)(hi:i<2+ps.length)(eop:nm.op k=Js L2 (iA i))(hx:attP 202 xn=true)(hz:look xn (itemE ps i)=some z)(hp:(Zo z).isSome)(H:∀y,Den nm1 L2 z y->∀L,own<+:L->Den nm L v y):∃c d o es nm0 L0 z,h.get? (nm.op k)=some (instObj c d)/\attP c xn=true/\h.get? d=some o/\SD om.w.params es nm0 L0 o/\look xn es=some z/\(Zo z).isSome/\∀y,Den nm0 L0 z y->∀L,own<+:L->Den nm L v y:=by
 have J:=(frJ ok.l4).i i hi;obtain ⟨o,_,g1,g2⟩:=T.at_ hi tree_i J.a;obtain ⟨o',l5,g3,g4⟩:=T.at_ hi tree_d J.b;refine OkP.inst_ g2 λad hd eo=>OkP.dict_ g4 λds hm ed en=>?_;cases hd.symm.trans l5;exact⟨202,_,o',itemE ps i,nm1,L2,z,eop▸eo▸g1,hx,g3,⟨ds,_,ed,en⟩,hz,hp,H⟩
theorem d2_kn{h:Heap}{f:Nat->Str}{cs:List Str}(T:TrB om h (dtN f) L2 ps)(ok:Wu ps)(nf:∀t,t<ps.length->f t∈JG 3):Zp om h (d2N f cs L2) u (JX L2 (jsD ps.length)) (d2Kn (2+ps.length)):={kn0 with
 sob:=λk ao e=>by
  have J:=frJ ok.l4;obtain ⟨o,_,g1,g2⟩:=T.at_ tree_l J.a;have l4:=ok.l4;refine Zu.get (l:=(4,.list (ZD 10 (2+ps.length)))::d2T (2+ps.length) 0) (Zu.cons (a:=Js L2 26) rfl g1 (λL Z=>?_) (d2T_ok (n:=2+ps.length) (nm1:=dtN f) (λi hi=>(T.at_ (mem_tree hi tree_t) (J.i i hi).d).imp λo r=>r.2) (by lia) (by lia))) e;refine OkP.list_ g2 λxs n eo dd=>?_;rw[eo];refine OkP.lst ?_;have e1:((JW (2+ps.length)).reverse.map λi=>AV.loc (arA i+1))=((JW (2+ps.length)).reverse.map λi=>arA i+1).map AV.loc:=by rw[Jb];rfl
  rw[e1]at dd;have:=ops_of (nm:=d2N f cs L2) (L:=L) (b:=10) (dens_locs dd) λi j e=>by
   rw[δ,Option.map_eq_some_iff]at e;obtain ⟨q,e,rfl⟩:=e;have hl:i<2+ps.length:=Zv (2+ps.length)▸(lt_ e);cases (upto_rev hl).symm.trans e;exact d2Op_t (by lia)
  rw[Ω,Zv]at this;exact this
 oatt:=λk x v e=>Jt e λhc e=>Jr hc λhc h3=>Jr hc λh1 h2=>by
  obtain ⟨i,rfl⟩:=Ϟ (nl h1);have hi:i<2+ps.length:=by have:20+i<20+(2+ps.length):=nl h2;lia
  cases e;cases Jw h3;have l4:=ok.l4;refine T.items.att ok hi (d2Op_i (by lia)) (z:=.loc (cA i)) (by rfl') (by rfl') rfl λy dy L hL=>dy.loc_ λa ha ey=>⟨a,?_,ey⟩;rw[show 20+i-18=2+i by lia];exact Jp hL ((Wd (jsD_c hi)).trans (Ja some (Jy ha)))
 fst:=λk v e=>Jt e λhc e=>Jr hc λh1 h2=>by
  obtain ⟨i,rfl⟩:=Ϟ (nl h1);have hi:i<2+ps.length:=by have:30+i<30+(2+ps.length):=nl h2;lia
  cases e;obtain ⟨o,_,g1,g2⟩:=T.at_ (mem_tree hi tree_a) ((frJ ok.l4).i i hi).c;have eop:(d2N f cs L2).op (30+i)=Js L2 (arA i):=d2Op_a i;refine OkP.list_ g2 λxs n eo dd=>?_;have dd:Jq (dtN f) L2 (nmA i::_) xs.toList:=dd;obtain ⟨y,r,e1,d1,_⟩:=dd;refine⟨xs,n,y,eop▸eo▸g1,by rw[<-Array.getElem?_toList,e1];rfl,λL Z=>?_⟩;rw[show 170+(30+i)=200+i by lia];exact nmA_den (d2F_n i) d1}
theorem d2_4(P:Params):((Wa 4).all λb=>d2B P b)=true:=by rfl'
theorem d2_5(P:Params):((Wa 5).all λb=>d2B P b)=true:=by rfl'
theorem d2_6t(P:Params):(((Wa 5).map (true::·)).all λb=>d2B P b)=true:=by rfl'
theorem d2_6f(P:Params):(((Wa 5).map (false::·)).all λb=>d2B P b)=true:=by rfl'
theorem d2_all(P:Params){bits:List Bool}(h3:3<=bits.length)(h6:bits.length<=6):d2B P bits=true:=by
 have hm:=WP bits;have hl:bits.length=3\/bits.length=4\/bits.length=5\/bits.length=6:=by omega
 rcases hl with h|h|h|h<;>rw[h]at hm
 ·exact al_ (d2_3 P) _ hm
 ·exact al_ (d2_4 P) _ hm
 ·exact al_ (d2_5 P) _ hm
 ·exact(ma_ hm).elim (λh=>al_ (d2_6t P) _ h) λh=>al_ (d2_6f P) _ h
variable {aK aI aF aQ aW:Addr}{its:List Str}{x:Int}{d0:Str}
structure Row where
 called:Str
 ys:List Str
 ar:Addr
 tup:Addr
variable {rows:List Row}
def dueL(its:List Str)(ms:List Row)(x:Str)(qs:List Str):Bool:=List.rec false (λZ Z Z=>Bool.rec true (ms.any λr=>JF qs r.ys) (JU x its)) ms
def dueB(its:List Str)(rows:List Row)(x:Str)(qs:List Str):Bool:=dueL its (rows.filter λr=>decide (r.called=x)) x qs
structure RowOk(h:Heap)(r:Row):Prop where
 t:∃xs n t,h.get? r.tup=some ⟨.type "tuple",none,.seq xs n,#[]⟩/\xs.toList=[.str r.called t,.ref r.ar]
 l:∃xs n,h.get? r.ar=some (listOf xs n)/\StrsAre xs.toList r.ys
 ly:r.ys.length<=6
 py:∀y∈r.ys,y∈JR 2
 pc:r.called∈JR 0
structure Lw(om:Om)(h:Heap)(aK aI aF aN aS:Addr)(its:List Str)(rows:List Row):Prop where
 k:∃n,h.get? aK=some ⟨.type "tuple",none,.seq #[.ref aN,.ref aS] n,#[]⟩
 li:∃xs n,h.get? aI=some (listOf xs n)/\StrsAre xs.toList its
 fnd:∃xs n,h.get? aF=some (listOf xs n)/\xs.toList=rows.map λr=>Value.ref r.tup
 row:∀r∈rows,RowOk h r
 len:rows.length<=6
 nq:∀x∈JG 3,∃b1 r,Nq om h aN aS x b1 r/\(b1=false->r=none)/\∀qs:List Str,qs.length<=2->(∀q∈qs,q∈JR 2)->ncV b1 r qs=dueB its rows x qs
 nx:∀x∈(["X","A","B"]:List Str),Nq om h aN aS x false none
theorem DAt.up{H:Heap}{es:List (Str×AV)}{nm0:Nt}{L0:List Addr}(D:DAt om h a es nm0 L0)(k:∀b o,h.get? b=some o->H.get? b=some o):DAt om H a es nm0 L0:=D.imp λo r=>⟨k _ _ r.1,r.2⟩
theorem Nq.up{H:Heap}{x:Str}{b1:Bool}{r:Option (Addr×Rws)}(N:Nq om h aN aS x b1 r)(k:∀b o,h.get? b=some o->H.get? b=some o):Nq om H aN aS x b1 r:=
 ⟨N.nN,N.n.imp λZ r=>r.imp λZ r=>r.imp λZ r=>⟨r.1.up k,r.2⟩,N.nS,N.s.imp λZ r=>r.imp λZ r=>r.imp λZ r=>⟨r.1.up k,r.2⟩,λp e=>{lst:=(N.rw p e).lst.imp λZ r=>r.imp λZ r=>⟨k _ _ r.1,r.2⟩,row:=λq hq=>((N.rw p e).row q hq).imp λZ r=>r.imp λZ r=>⟨k _ _ r.1,r.2⟩,ly:=(N.rw p e).ly,len:=(N.rw p e).len}⟩
theorem Lw.up{H:Heap}(W:Lw om h aK aI aF aN aS its rows)(k:∀b o,h.get? b=some o->H.get? b=some o):Lw om H aK aI aF aN aS its rows where
 k:=W.k.imp λZ e=>k _ _ e
 li:=W.li.imp λZ r=>r.imp λZ r=>⟨k _ _ r.1,r.2⟩
 fnd:=W.fnd.imp λZ r=>r.imp λZ r=>⟨k _ _ r.1,r.2⟩
 row r hr:={W.row r hr with t:=(W.row r hr).t.imp λZ r=>r.imp λZ r=>r.imp λZ r=>⟨k _ _ r.1,r.2⟩,l:=(W.row r hr).l.imp λZ r=>r.imp λZ r=>⟨k _ _ r.1,r.2⟩}
 len:=W.len
 nq x hx:=(W.nq x hx).imp λZ r=>r.imp λZ r=>⟨r.1.up k,r.2⟩
 nx x hx:=(W.nx x hx).up k
def skelS(chk:St->Option Bool)(c:R):Option DT:=R.rec none (λo S=>Out.rec (λZ=>none) (λZ=>none) (λZ=>none) (obO (chk S) λb=>some (.leaf b)) (λZ=>none) (λZ=>none) o) (λi Z Z a b=>obO a λx=>obO b λy=>some (.ask i x y)) c
theorem skelS_leaf{chk:St->Option Bool}{d:DT}(h:skelS chk c=some d)(k:∀S,chk S=some (d.ev u)->φ .next S):WJ u c φ:=by
 induction c generalizing d with
 |no=>exact no h
 |ok o S=>
  induction o with
  |next=>exact Jo h λb hb h=>by cases h;exact k S hb
  |_=>exact no h
 |ask i t f iht ihf=>
  refine Jo (show obO (skelS chk t) (λx=>obO (skelS chk f) λy=>some (.ask i x y))=some d from h) λx hx h=>Jo h λy hy h=>?_;cases h;have e:∀b,u i=b->(DT.ask i x y).ev u=Bool.rec (y.ev u) (x.ev u) b:=λb e=>by show (Bool.rec (y.ev u) (x.ev u) (u i):Bool)=_;rw[e]
  exact⟨λq=>iht hx λS w=>k S (w.trans (Ja some (e true q).symm)),λq=>ihf hy λS w=>k S (w.trans (Ja some (e false q).symm))⟩
def isOp(k:Nat)(o:Option AV):Bool:=Option.rec false (λa=>Option.rec false (λj=>Nat.beq j k) (opV a)) o
theorem Wb{o:Option AV}(h:isOp k o=true):o=some (.op k):=by
 induction o with
 |none=>exact nb h
 |some a=>
  change (Option.rec false (λj=>Nat.beq j k) (opV a):Bool)=true at h;induction e:opV a with
  |none=>rw[e]at h;exact nb h
  |some j=>rw[e]at h;rw[Yc e,nq h]
def isSy(k:Nat)(o:Option AV):Bool:=Option.rec false (λa=>Option.rec false (λp=>Nat.beq p.1 0&&!p.2) (Wh a)&&Option.rec false (λj=>Nat.beq j k) (WG a)) o
theorem isSy_of{o:Option AV}(h:isSy k o=true):o=some (.sym 0 k):=by
 induction o with
 |none=>exact nb h
 |some a=>
  refine Jr h λh1 h2=>?_;induction a with
  |sym c j=>exact Jr (show (Nat.beq c 0&&true)=true from h1) λh3 Z=>by rw[nq h3,nq (show Nat.beq j k=true from h2)]
  |_=>exact nb h2
def cellA(S:St)(i:Nat):Option AV:=obO (gv vCell S i) λv=>v
theorem cellA_of(h:cellA S i=some v):S.get i=some (.cell (some v)):=Jo h λw hw e=>Jz hw λo ho hv=>by rw[ho,vCell_of hv];exact Ja (λz=>some (AO.cell z)) e
def chkB(S:St):Option Bool:=obO (gv vNs S 0) λes=>ifO (isOp 4 (look "knows" es)&&isOp 7 (look "words" es)&&isSy 0 (cellA S 1)&&isOp 6 (cellA S 2)) (obO (look "is_due" es) ZN)
def rowT(r:Nat)(b:Nat):List (Nat×AO):=Nat.rec (motive:=λZ=>Nat->List (Nat×AO)) (λZ=>[]) (λZ ih b=>(10+b,.tup [.sym 0 (200+b),.op (20+b)])::ih (b+1)) r b
def knB(r:Nat):Kn:={sob:=λk=>JE k ((3,.list (ZD 10 r))::rowT r 0),eqs:=λi j=>ifO (Nat.ble 200 i&&Nat.blt i (200+r)&&Nat.beq j 0) (some (.u (i-200))),lmem:=λk i=>ifO (Nat.beq k 2&&Nat.beq i 0) (some (.u 50))}
def oraB(r:Nat)(a:Nat)(args:List AV)(S:St):R:=ifT (Nat.beq a 814) (two2 args λa b=>ob (opV a) λk=>ob (opV b) λj=>ifT (Nat.beq j 6&&Nat.ble 20 k&&Nat.blt (k-20) r) (.ask (80+k) (.ok (.v (.bool true)) S) (.ok (.v (.bool false)) S)))
def cxB(P:Params)(r:Nat):Cx:={cx0 P with kn:=knB r,sp:=[814],ora:=oraB r}
noncomputable abbrev frB(P:Params):FrA:=frZ (fiP P 833) 0 [("qualifiers",2),("name",1)]
def bS:St:=JZ [.ns [("found",.op 3),("items",.op 2),("knows",.op 4),("words",.op 7)],.cell (some (.sym 0 0)),.cell (some (.op 6))]
def lvD(ks:List Nat):Bool->DT:=List.rec (motive:=λZ=>Bool->DT) (λb=>.leaf b) (λk Z ih b=>.ask (100+k) (ih true) (ih b)) ks
def dueD(r:Nat):Nat->List Nat->DT:=Nat.rec (motive:=λZ=>Nat->List Nat->DT) (λZ ks=>List.rec (.leaf false) (λZ Z Z=>.ask 50 (lvD ks false) (.leaf true)) ks) (λZ ih i ks=>.ask i (ih (i+1) (ks++[i])) (ih (i+1) ks)) r
def runB(P:Params)(r:Nat):Option DT:=skelS chkB (Wc (run (cxB P r) 14) (frB P) (((fiP P 833).body.drop 3).take 2) bS)
theorem runB_ok(P:Params):[runB P 0,runB P 1,runB P 2,runB P 3,runB P 4,runB P 5,runB P 6]=[some (dueD 0 0 []),some (dueD 1 0 []),some (dueD 2 0 []),some (dueD 3 0 []),some (dueD 4 0 []),some (dueD 5 0 []),some (dueD 6 0 [])]:=by rfl'
theorem lvD_ev:∀{ks:List Nat} {b:Bool},(lvD ks b).ev u=(b||(ks.map λk=>u (100+k)).any id):=by
 intro v0_;induction v0_ with
 |nil=>
  intro b;exact(Bool.or_false b).symm
 |cons k ks ih=>
  intro b;show (Bool.rec (DT.ev u (lvD ks b)) (DT.ev u (lvD ks true)) (u (100+k)):Bool)=_;rw[ih,ih,List.map_cons,List.any_cons];cases u (100+k)<;>induction b<;>rfl
theorem any_map{f:Row->Bool}:∀ms:List Row,(ms.map f).any id=ms.any f:=by
 intro v0_;induction v0_ with
 |nil=>
  exact rfl
 |cons r ms ih=>
  rw[List.map_cons,List.any_cons,List.any_cons,ih ];rfl
theorem dueD_ev{x:Str}:∀{rs:List Row} {i:Nat} {ks:List Nat} {ms:List Row},(∀j r,rs[j]?=some r->u (i+j)=decide (r.called=x)/\u (100+(i+j))=JF qs r.ys)->u 50=JU x its->(ks.map λk=>u (100+k))=(ms.map λr=>JF qs r.ys)->(dueD rs.length i ks).ev u=dueL its (ms++rs.filter λr=>decide (r.called=x)) x qs:=by
 intro v0_;induction v0_ with
 |nil=>
  intro i ks ms hu h5 hm;rw[List.filter_nil,List.append_nil];induction ks using c_ with
  |nil=>induction ms using c_ with
   |nil=>rfl
   |cons _ _=>exact nomatch hm
  |cons k ks=>induction ms using c_ with
   |nil=>exact nomatch hm
   |cons r ms=>
    show (Bool.rec true (DT.ev u (lvD (k::ks) false)) (u 50):Bool)=Bool.rec true ((r::ms).any λr=>JF qs r.ys) (JU x its);rw[lvD_ev,hm,h5,any_map,Bool.false_or]
 |cons r rs ih=>
  intro i ks ms hu h5 hm;have hu':∀j q,rs[j]?=some q->u (i+1+j)=decide (q.called=x)/\u (100+(i+1+j))=JF qs q.ys:=λj q e=>by
   rw[show i+1+j=i+(j+1)by lia];exact hu (j+1) q e
  have h0:=hu 0 r rfl;rw[Nat.add_zero]at h0;show (Bool.rec (DT.ev u (dueD rs.length (i+1) ks)) (DT.ev u (dueD rs.length (i+1) (ks++[i]))) (u i):Bool)=_;rw[h0.1,ih (ms:=ms) hu' h5 hm,ih (ms:=ms++[r]) hu' h5 (by rw[List.map_append,List.map_append,hm,List.map_singleton,List.map_singleton,h0.2]),List.filter_cons];induction decide (r.called=x)with
  |true=>rw[if_pos rfl,List.append_assoc];rfl
  |false=>rw[if_neg Ϝ]
theorem ZA.re{fi:FnI}{L:List Addr}{l1 l2:Nat}{cs cs2:List (Str×Nat)}(F:ZA L (frZ fi l1 cs) env)(h1:own[l2]?=some env.locals)(h2:∀x i,look x cs2=some i->∃a,own[i]?=some a/\env.cells.lookup x=some a):ZA own (frZ fi l2 cs2) env:=⟨F.k,F.sc,F.gl,F.bi,h1,F.fr,h2⟩
def NsR(nm1:Nt)(L1:List Addr)(es1:List (Str×AV))(nm:Nt)(L:List Addr)(es:List (Str×AV)):Prop:=List.rec True (λp Z ih=>(∃v,look p.1 es1=some v/\v≠.junk/\∀w,Den nm1 L1 v w->Den nm L p.2 w)/\ih) es
theorem NsR.get{nm1:Nt}{L1 L:List Addr}{es1:List (Str×AV)}:∀{es:List (Str×AV)} {x:Str} {v:AV},NsR nm1 L1 es1 nm L es->look x es=some v->∃v1,look x es1=some v1/\v1≠.junk/\∀w,Den nm1 L1 v1 w->Den nm L v w:=by
 intro v0_;induction v0_ with
 |nil=>
  intro Z Z Z e;exact no e
 |cons z9 es ih=>
  intro x v H e;obtain ⟨y,z⟩:=z9;change (Bool.rec (look x es) (some z) (sEq x y):Option AV)=some v at e;induction q:sEq x y with
  |true=>rw[q]at e;cases e;cases Jw q;exact H.1
  |false=>rw[q]at e;exact ih H.2 e
theorem OkP.renN{nm1:Nt}{L1 L:List Addr}{es1 es:List (Str×AV)}(p:OkP om nm1 L1 a (.ns es1) o)(H:NsR nm1 L1 es1 nm L es):OkP om nm L a (.ns es) o:=p.ns_ λm hs hm ok=>⟨hs,m,hm,λx v e Z=>(H.get e).elim λv1 r=>(ok x v1 r.1 r.2.1).imp λw q=>⟨q.1,r.2.2 w q.2⟩⟩
theorem OkP.renC{nm1:Nt}{L1 L:List Addr}{v1 v:AV}(p:OkP om nm1 L1 a (.cell (some v1)) o)(H:∀w,Den nm1 L1 v1 w->Den nm L v w):OkP om nm L a (.cell (some v)) o:=p.cell_ λw e d=>⟨some w,e,w,rfl,H w d⟩
def nrFB(d0:Str)(qs:List Str)(rows:List Row)(k:Nat):Str:=Bool.rec (nrf (d0::qs) k) (nrf (rows.map (·.called)) (k-200)) (Nat.ble 200 k)
def nrOpB(aN aS aI aF aK aQ aW:Addr)(rows:List Row)(k:Nat):Addr:=Bool.rec (Bool.rec (Js [aN,aS,aI,aF,aK,0,aQ,aW] k) (Js (rows.map (·.tup)) (k-10)) (Nat.ble 10 k)) (Js (rows.map (·.ar)) (k-20)) (Nat.ble 20 k)
def nrNB(d0:Str)(qs:List Str)(aN aS aI aF aK aQ aW:Addr)(rows:List Row):Nt:=⟨nrFB d0 qs rows,nrOpB aN aS aI aF aK aQ aW rows⟩
def nrU(d0:Str)(qs its:List Str)(rows:List Row)(k:Nat):Bool:=Bool.rec (Bool.rec (decide (nrf (rows.map (·.called)) k=d0)) (JU d0 its) (Nat.beq k 50)) (Option.rec false (λr=>JF qs r.ys) rows[k-100]?) (Nat.ble 100 k)
theorem nthG{α:Type}{f:α->Addr}{l:List α}{r:α}(e:l[i]?=some r):Js (l.map f) i=f r:=by unfold Js;rw[δ,e];rfl
theorem nrfG{α:Type}{f:α->Str}{l:List α}{r:α}(e:l[i]?=some r):nrf (l.map f) i=f r:=by unfold nrf;rw[δ,e];rfl
theorem nrOp_t{r:Row}(hi:i<10)(e:rows[i]?=some r):nrOpB aN aS aI aF aK aQ aW rows (10+i)=r.tup:=by
 unfold nrOpB;rw[show Nat.ble 20 (10+i)=false from bf_ λh=>absurd (nl h) (by lia),show Nat.ble 10 (10+i)=true from Jc (by lia),Ψ];exact nthG e
theorem nrOp_a{r:Row}(e:rows[i]?=some r):nrOpB aN aS aI aF aK aQ aW rows (20+i)=r.ar:=by
 unfold nrOpB;rw[show Nat.ble 20 (20+i)=true from Jc (by lia),Ψ];exact nthG e
theorem nrF_c{r:Row}(e:rows[i]?=some r):nrFB d0 qs rows (200+i)=r.called:=by
 unfold nrFB;rw[show Nat.ble 200 (200+i)=true from Jc (by lia),Ψ];exact nrfG e
theorem rowT_ok{H:Heap}(len:rows.length<=6):∀{rs:List Row} {b:Nat},(∀i r,rs[i]?=some r->rows[b+i]?=some r/\RowOk H r)->Zu om H (nrNB d0 qs aN aS aI aF aK aQ aW rows) own (rowT rs.length b):=by
 intro v0_;induction v0_ with
 |nil=>
  intro b Z;exact trivial
 |cons r rs ih=>
  intro b h;obtain ⟨e0,R0⟩:=h 0 r rfl;rw[Nat.add_zero]at e0;obtain ⟨xs,n,t,h1,h2⟩:=R0.t;have lb:b<rows.length:=(lt_ e0);refine Zu.cons (a:=r.tup) (nrOp_t (by lia) e0) h1 (λL Z=>OkP.tp ?_) (ih λi q e=>by rw[show b+1+i=b+(i+1)by lia];exact h (i+1) q e);rw[h2];exact Jq.cons (a:=.sym 0 (200+b)) ⟨t,Ja (λz=>Value.str z t) (nrF_c e0).symm,by show nrFB d0 qs rows (200+b)∈JR 0;rw[nrF_c e0];exact R0.pc⟩ (Jq.cons (a:=.op (20+b)) (Ja Value.ref (nrOp_a e0).symm) Jq.nil)
theorem nr_knB{H:Heap}(W:Lw om H aK aI aF aN aS its rows):Zp om H (nrNB d0 qs aN aS aI aF aK aQ aW rows) (nrU d0 qs its rows) own (knB rows.length) where
 sob k ao e:=by
  obtain ⟨xs,n,h1,h2⟩:=W.fnd;refine Zu.get (l:=(3,.list (ZD 10 rows.length))::rowT rows.length 0) (Zu.cons (a:=aF) rfl h1 (λL Z=>OkP.lst ?_) (rowT_ok W.len λi r e=>⟨(Nat.zero_add i).symm▸e,W.row r (Θ e)⟩)) e;have:=dens_ops (nm:=nrNB d0 qs aN aS aI aF aK aQ aW rows) (L:=L) (rws:=rows.map λr=>(r.tup,r.ys)) (us:=xs.toList) (b:=10) (by rw[h2,Jb];rfl) λi p e=>by
   rw[δ,Option.map_eq_some_iff]at e;obtain ⟨r,e,rfl⟩:=e;exact nrOp_t (by have:=(lt_ e);have:=W.len;lia) e
  rw[Ω]at this;exact this
 eqs i j q e:=Jt e λhc e=>Jr hc λhc h3=>Jr hc λh1 h2=>by
  cases e;cases nq h3;obtain ⟨d,rfl⟩:=Ϟ (nl h1);have h2:200+d<200+rows.length:=nl h2;have hr:rows[d]?=some rows[d]:=Φ (by lia);rw[Ψ];show decide (nrFB d0 qs rows (200+d)=d0)=nrU d0 qs its rows d;have lr:=W.len;unfold nrU;rw[nrF_c hr,show Nat.ble 100 d=false from bf_ λh=>absurd (nl h) (by lia),show Nat.beq d 50=false from bf_ λh=>absurd (nq h) (by lia)];show _=decide (nrf (rows.map (·.called)) d=d0)
  rw[nrfG hr]
 mem _ _ _ e:=no e
 lmem k i q e:=Jt e λhc e=>Jr hc λh1 h2=>by
  cases e;cases nq h1;cases nq h2;obtain ⟨xs,n,e1,e2⟩:=W.li;exact⟨xs,n,its,e1,e2,rfl⟩
 same _ _ _ e:=no e
 smem _ _ _ e:=no e
 dget _ _ _ e:=no e
 oatt _ _ _ e:=no e
 fst _ _ e:=no e
 gl _ _ e:=no e
 dk _ _ e:=no e
theorem ixTab_5:∀x∈JG 5,x∈JR 2:=by
 intro x hx;rcases mc_ hx with rfl|hx
 ·exact .head _
 rcases mc_ hx with rfl|hx
 ·exact .tail _ (.tail _ (.tail _ (.head _)))
 rcases mc_ hx with rfl|hx
 ·exact .tail _ (.head _)
 rcases mc_ hx with rfl|hx
 ·exact .tail _ (.tail _ (.tail _ (.tail _ (.head _))))
 rw[ms_ hx];exact .tail _ (.tail _ (.head _))
theorem strs_sy{L:List Addr}{l:List Str}:∀{m b:Nat} {us:List Value},Jq nm L (sy0 b m) us->(∀i,i<m->l[i]?=some (nm.f (b+i)))->l.length=m->StrsAre us l:=by
 intro m;induction m generalizing l with
 |zero=>intro b us d Z hl;rw[show us=[]from d,List.eq_nil_of_length_eq_zero hl];exact .nil
 |succ m ih=>
  intro b us d h hl;obtain ⟨w,r,e,⟨t,ew,_⟩,d⟩:=d;induction l using c_ with
  |nil=>exact nomatch hl
  |cons y l=>
   cases oi (h 0 (Nat.succ_pos m));rw[e,ew];exact .cons _ t (ih d (λi hi=>(h (i+1) (Nat.succ_lt_succ hi)).trans (Ja (λz=>some (nm.f z)) (by lia))) (Nat.succ.inj hl))
theorem dens_of{nm1 nm2:Nt}{L1 L2:List Addr}{m:Nat}(hf:∀k,k<=m->nm2.f k=nm1.f k):∀{r b:Nat} {us:List Value},b+r<=m+1->Jq nm1 L1 (ofF b r) us->Jq nm2 L2 (ofF b r) us:=by
 intro v0_;induction v0_ with
 |zero=>
  intro Z Z Z d;exact d
 |succ r ih=>
  intro b us h y4_;obtain ⟨w1,r1,e1,d1,w2,r2,e2,⟨t,e3,hp⟩,d⟩:=y4_;exact⟨w1,r1,e1,d1,w2,r2,e2,⟨t,e3.trans (Ja (λz=>Value.str z t) (hf b (by lia)).symm),(hf b (by lia)).symm▸hp⟩,ih (by lia) d⟩
structure NrB(om:Om)(out:List Env)(s:Shared)(aT aK aI aF aN aS:Addr)(its:List Str)(rows:List Row)(N K:Nat)(A':Around)(env:Env)(d0:Str)(qs:List Str)(aQ aW cn cq:Addr)(L3:List Addr)(s2 s3:Shared)(S3:St)(es:List (Str×AV)):Prop where
 md:d0∈JG 3
 lq:qs.length<=2
 pq:∀q∈qs,q∈JG 5
 hdl:A'.handled=none
 room:Room A' K
 fr:A'.frames=some (env::out)
 Fr:ZA [env.locals,cn,cq] (frB om.w.params) env
 g:Gin om s2 [env.locals,cn,cq] out
 af:Aft [aT] out s s2
 tap:JP s2.heap aT N
 new:∀a∈[env.locals,cn,cq,aQ,aW],s.heap.get? a=none/\Fre out [a]
 hQ:∃xs n,s2.heap.get? aQ=some ⟨.type "tuple",none,.seq xs n,#[]⟩/\StrsAre xs.toList qs
 hW:∃xs n,s2.heap.get? aW=some (listOf xs n)/\Jq (nrNB d0 qs aN aS aI aF aK aQ aW rows) [] (.sym 0 0::ofF 1 qs.length) xs.toList
 dj:aQ∉[env.locals,cn,cq]/\aW∉[env.locals,cn,cq]/\aT∉[env.locals,cn,cq]
 B3:Bk om (nrNB d0 qs aN aS aI aF aK aQ aW rows) [env.locals,cn,cq] out s2 S3 L3 s3
 n0:S3.get 0=some (.ns es)
 n1:look "knows" es=some (.op 4)/\look "words" es=some (.op 7)/\look "is_due" es=some (.bool (dueB its rows d0 qs))
 n2:S3.get 1=some (.cell (some (.sym 0 0)))
 n3:S3.get 2=some (.cell (some (.op 6)))
theorem chkB_of{b:Bool}(h:chkB S=some b){C:Prop}(k:∀es,S.get 0=some (.ns es)->(look "knows" es=some (.op 4)/\look "words" es=some (.op 7)/\look "is_due" es=some (.bool b))->S.get 1=some (.cell (some (.sym 0 0)))->S.get 2=some (.cell (some (.op 6)))->C):C:=
 Jo h λes hes h=>Jt h λhc h=>Jr hc λhc h4=>Jr hc λhc h3=>Jr hc λh1 h2=>Jo h λv hv hb=>Jz hes λo ho hv'=>by
  cases ZM hb;exact k es (by rw[ho,vNs_of hv']) ⟨Wb h1,Wb h2,hv⟩ (cellA_of (isSy_of h3)) (cellA_of (Wb h4))
theorem nrNB_r(d:Nat):nrOpB aN aS aI aF aK aQ aW rows (20+d)=Js (rows.map (·.ar)) d:=by
 unfold nrOpB;rw[Zj (Nat.le_add_right 20 d),Ψ]
theorem nrU_ll{d:Nat}(hd:d<rows.length):nrU d0 qs its rows (100+d)=JF qs rows[d].ys:=by
 unfold nrU;rw[Zj (Nat.le_add_right 100 d),Ψ,Φ hd]
theorem nr_ll{h0:Heap}{d:Nat}(W:Lw om h0 aK aI aF aN aS its rows)(lq:qs.length<=2)(pq:∀q∈qs,q∈JG 5)(hQ:∃xs n,s.heap.get? aQ=some ⟨.type "tuple",none,.seq xs n,#[]⟩/\StrsAre xs.toList qs)(hd:d<rows.length)(k:∀b o,h0.get? b=some o->s.heap.get? b=some o)(p:Pt om A s (K+150))(hfr:A.frames=some out)(H:∀s',Aft [] out s s'->Q (.bool (nrU d0 qs its rows (80+(20+d)))) s'):wpAny (Mdl om) A (call (.ref 814) [.ref (Js (rows.map (·.ar)) d),.ref aQ]) Q E s:=by
 have R:=W.row rows[d] (ο hd);obtain ⟨xs,n,r1,r2⟩:=R.l;rw[show Js (rows.map (·.ar)) d=rows[d].ar by unfold Js;rw[δ,Φ hd];rfl]
 have e:nrU d0 qs its rows (80+(20+d))=JF qs rows[d].ys:=by rw[<-nrU_ll hd,<-Nat.add_assoc]
 exact ll_ok (K:=K) (ys:=rows[d].ys) (qs:=qs) ⟨⟨xs,n,k _ _ r1,r2⟩,hQ,R.ly,lq,R.py,λq hq=>ixTab_5 q (pq q hq)⟩ p hfr λs' af=>e▸H s' af
theorem nr_B{s0 s1 s2:Shared}{h0:Heap}{K:Nat}{A':Around}{L1 L2:List Addr}{S2:St}{Q':SP Flow}{E':SP Value}(W:Lw om h0 aK aI aF aN aS its rows)(B0:WL h0 out s0)(nT:h0.get? aT=none)(D:NrA om out s0 aT aK aI aF N (K+551) A' env d0 qs L1 L2 s1 s2 S2)
  (H:∀aQ aW cn cq L3 s3 S3 es,NrB om out s0 aT aK aI aF aN aS its rows N (K+551) A' env d0 qs aQ aW cn cq L3 s2 s3 S3 es->wpAny (Mdl om) A' (execs ((fiP om.w.params 833).body.drop 5) env) Q' E' s3):wpAny (Mdl om) A' (execs ((fiP om.w.params 833).body.drop 3) env) Q' E' s2:=by
 have e0:S2.get 0=_:=gets D.S2 (j:=0) rfl rfl
 have e1:S2.get 1=_:=gets D.S2 (j:=1) rfl rfl
 have e2:S2.get 3=_:=gets D.S2 (j:=2) rfl rfl
 have e3:S2.get 5=_:=gets D.S2 (j:=3) rfl rfl
 have e4:S2.get 12=_:=gets D.S2 (j:=4) rfl rfl
 have e5:S2.get (17+2*qs.length)=_:=gets D.S2 (j:=5) rfl rfl
 obtain ⟨cn,hcn,lcn⟩:=D.Fr.cl "name" 3 (by rfl')
 obtain ⟨cq,hcq,lcq⟩:=D.Fr.cl "qualifiers" 5 (by rfl')
 refine D.B2.at_ e4 λaQ oQ hQ hoQ pQ=>D.B2.at_ e5 λaW oW hW hoW pW=>?_
 have hL:L1[1]?=some env.locals:=D.Fr.loc
 have up:∀{i:Nat} {a:Addr},L1[i]?=some a->L2[i]?=some a:=λe=>Jp D.B2.pre e
 have uL:=up hL
 have uN:=up hcn
 have uQ:=up hcq
 have ne:∀{i j:Nat} {a b:Addr},L2[i]?=some a->L2[j]?=some b->Nat.beq i j=false->a≠b:=λh1 h2 h e=>ε h (Ju D.B2.nd h1 (e▸h2))
 have hT:L2[0]?=some aT:=up (Jp D.B1.pre rfl)
 have mem3:∀a∈[env.locals,cn,cq],a∈L1:=all3 (Θ hL) (Θ hcn) (Θ hcq)
 have sub2:∀a∈[env.locals,cn,cq],a∈L2:=λa ha=>D.B2.pre.subset (mem3 a ha)
 have g2:=D.g.next D.B2 (nodup3 (ne uL uN rfl) (ne uL uQ rfl) (ne uN uQ rfl)) sub2
 have af:Aft [aT] out s0 s2:=Aft.trans D.B1 D.B2.aft λa ha=>.inl ha
 have T3:aT∉[env.locals,cn,cq]:=not3 (ne hT uL rfl) (ne hT uN rfl) (ne hT uQ rfl)
 have Q3:∀{j:Nat} {a:Addr},6<=j->L2[j]?=some a->a∉[env.locals,cn,cq]:=fun {j a} hj e=>not3 (ne e uL (beq_f (Nat.ne_of_gt (Ϛ (by decide) hj)))) (ne e uN (beq_f (Nat.ne_of_gt (Ϛ (by decide) hj)))) (ne e uQ (beq_f (Nat.ne_of_gt (Ϛ (by decide) hj))))
 have fre2:∀a∈L2,Fre out [a]:=λa ha=>D.B2.fre.one ha
 have new1:∀a∈L1,a≠aT->s0.heap.get? a=none:=λa ha hn=>(D.B1.old ha).elim (λh=>absurd (ms_ h) hn) id
 have new2:∀{j:Nat} {a:Addr},6<=j->L2[j]?=some a->s0.heap.get? a=none:=fun {j a} hj e=>D.B1.aft.fresh (D.B2.new j a ((D.B1.len.trans (by rfl'):L1.length=6)▸hj) e) (λh=>ne e hT (beq_f (Nat.ne_of_gt (Ϛ (by decide) hj))) (ms_ h)) (fre2 a (Θ e))
 have Bs:WL h0 out s2:=B0.next af λa ha=>(ms_ ha)▸nT
 have nw3:∀a∈[env.locals,cn,cq],h0.get? a=none:=λa ha=>by
  induction e:h0.get? a with
  |none=>rfl
  |some o=>exact no ((new1 a (mem3 a ha) λz=>T3 (z▸ha)).symm.trans (B0.kp a o e))
 have kn:Zp om g2.hF (nrNB d0 qs aN aS aI aF aK aQ aW rows) (nrU d0 qs its rows) [env.locals,cn,cq] (knB rows.length):=nr_knB (W.up λb o e=>g2.kept Bs nw3 e)
 have Fr3:ZA [env.locals,cn,cq] (frB om.w.params) env:=D.Fr.re rfl λx i e=>(look_two (show look x [("qualifiers",2),("name",1)]=some i from e)).elim (λq=>by rw[q.1,q.2];exact⟨cq,rfl,lcq⟩) λq=>by rw[q.1,q.2];exact⟨cn,rfl,lcn⟩
 have b3:Beg om (nrNB d0 qs aN aS aI aF aK aQ aW rows) s2 [env.locals,cn,cq] bS:=
  D.B2.get e1 (up hL) λo1 ho1 p1=>D.B2.get e2 (up hcn) λo2 ho2 p2=>D.B2.get e3 (up hcq) λo3 ho3 p3=>Beg.of (aos:=[.ns [("found",.op 3),("items",.op 2),("knows",.op 4),("words",.op 7)],.cell (some (.sym 0 0)),.cell (some (.op 6))]) (ObL.cons ho1 (p1.renN ⟨⟨_,rfl,nofun,λw d=>d⟩,⟨_,rfl,nofun,λw d=>d⟩,⟨_,rfl,nofun,λw d=>d⟩,⟨.loc (17+2*qs.length),rfl,nofun,λw d=>d.loc_ λa h e=>by cases h.symm.trans hW;exact e⟩,trivial⟩) (ObL.cons ho2 (p2.renC λw d=>d) (ObL.cons ho3 (p3.renC λw d=>d.loc_ λa h e=>by cases h.symm.trans hQ;exact e) ObL.nil))) (stL rfl)
 rw[<-List.take_append_drop 2 ((fiP om.w.params 833).body.drop 3)]
 have hu:∀j r,rows[j]?=some r->nrU d0 qs its rows (0+j)=decide (r.called=d0)/\nrU d0 qs its rows (100+(0+j))=JF qs r.ys:=λj r e=>by
  have lj:=(lt_ e);have l6:=Ϛ lj W.len;rw[Nat.zero_add];refine⟨?_,(nrU_ll lj).trans (Ja (λr:Row=>JF qs r.ys) (List.getElem?_eq_some_iff.mp e).2)⟩;unfold nrU;rw[ZZ (Nat.lt_trans l6 (by decide)),beq_f (Jl (Nat.lt_trans l6 (by decide))),nrfG e]
 have ev:(dueD rows.length 0 []).ev (nrU d0 qs its rows)=dueB its rows d0 qs:=dueD_ev (ms:=[]) hu rfl rfl
 have hQs:∃xs n,s2.heap.get? aQ=some ⟨.type "tuple",none,.seq xs n,#[]⟩/\StrsAre xs.toList qs:=pQ.tup_ λxs n eo dd=>⟨xs,n,eo▸hoQ,strs_sy (nm:=nrN d0 qs aK aI aF) (l:=qs) (b:=1) dd (λi hi=>by
  rw[Φ hi];show some _=some (nrf (d0::qs) (1+i));unfold nrf;rw[Nat.add_comm,List.getElem?_cons_succ,Φ hi];rfl) rfl⟩
 have hWs:∃xs n,s2.heap.get? aW=some (listOf xs n)/\Jq (nrNB d0 qs aN aS aI aF aK aQ aW rows) [] (.sym 0 0::ofF 1 qs.length) xs.toList:=pW.list_ λxs n eo dd=>⟨xs,n,eo▸hoW,by
  obtain ⟨w1,r1,e1,⟨t,e2,hp⟩,d⟩:=dd;exact⟨w1,r1,e1,⟨t,e2,hp⟩,dens_of (m:=2) (λk hk=>by
   show nrFB d0 qs rows k=_;unfold nrFB;rw[show Nat.ble 200 k=false from bf_ λh=>absurd (nl h) (by lia)];rfl) (by have:=D.lq;lia) d⟩⟩
 have tap:JP s2.heap aT N:=D.B2.get e0 hT λo ho p=>JP.ok ho p (ZS N)
 refine goB (n:=14) (k:=160) (nm:=nrNB d0 qs aN aS aI aF aK aQ aW rows) (u:=nrU d0 qs its rows) (cx:=cxB om.w.params rows.length) (S:=bS) D.F.fr D.F.p.hdl (D.F.p.room.le (by lia)) g2 b3 rfl (λh=>nb h) kn (λa args A2 fs y us Q2 E2 hm pt hf2 dd P=>leads_ora (f:=λk=>80+k) (g:=Js (rows.map λr:Row=>r.ar)) (aq:=aQ) P dd (λd=>nrNB_r (aN:=aN) (aS:=aS) (aI:=aI) (aF:=aF) (aK:=aK) (aQ:=aQ) (aW:=aW) (rows:=rows) d) rfl λd hd H=>nr_ll (K:=10) W D.lq D.pq (hQs.elim λxs q=>q.elim λn q=>⟨xs,n,y.r.keep _ _ (g2.frz q.1 (Q3 (by decide) hQ) λZ Z=>nofun),q.2⟩) hd (λb o e=>y.r.keep _ _ (g2.kept Bs nw3 e)) pt hf2 λs' af=>H _ s' rfl af) Fr3 rfl rfl ⟨_,(stL rfl).get 0⟩ (skelS_leaf (seven (f:=λr=>runB om.w.params r) (g:=λr=>some (dueD r 0 [])) (runB_ok _) W.len) λS3 hc=>.inl ⟨rfl,λL3 s3 B3=>?_⟩)
 rw[ev]at hc
 refine chkB_of hc λes n0 n1 n2 n3=>H aQ aW cn cq L3 s3 S3 es ⟨D.md,D.lq,D.pq,D.F.p.hdl,D.F.p.room,D.F.fr,Fr3,g2,af,tap,?_,hQs,hWs,⟨Q3 (by decide) hQ,Q3 (by lia) hW,T3⟩,B3,n0,n1,n2,n3⟩
 have h3:∀b∈[env.locals,cn,cq],s0.heap.get? b=none/\Fre out [b]:=λb hb=>⟨new1 b (mem3 b hb) λz=>T3 (z▸hb),fre2 b (sub2 b hb)⟩
 exactλa ha=>(ma_ (show a∈[env.locals,cn,cq]++[aQ,aW]from ha)).elim (h3 a) λha=>(mc_ ha).elim (λz=>z▸⟨new2 (by decide) hQ,fre2 _ (Θ hQ)⟩) λha=>(ms_ ha)▸⟨new2 (by lia) hW,fre2 _ (Θ hW)⟩
theorem d2S_3(a b:AO):okS (a::b::(nilsF 3++[.list []]))=true:=by rfl'
theorem d2S_4(a b:AO):okS (a::b::(nilsF 4++[.list []]))=true:=by rfl'
theorem d2S_5(a b:AO):okS (a::b::(nilsF 5++[.list []]))=true:=by rfl'
theorem d2S_6(a b:AO):okS (a::b::(nilsF 6++[.list []]))=true:=by rfl'
theorem d2S_ok{n:Nat}(h3:3<=n)(h6:n<=6)(a b:AO):okS (a::b::(nilsF n++[.list []]))=true:=by
 have h:n=3\/n=4\/n=5\/n=6:=by lia
 rcases h with h|h|h|h
 ·rw[h];exact d2S_3 a b
 ·rw[h];exact d2S_4 a b
 ·rw[h];exact d2S_5 a b
 ·rw[h];exact d2S_6 a b
structure DtB(om:Om)(out:List Env)(s s3:Shared)(aT aR:Addr)(f:Nat->Str)(ps:List Nat)(bits:List Bool)(cs:List Str)(L2 L3:List Addr)(S3:St):Prop where
 ok:Wu ps
 nf:∀t,t<ps.length->f t∈JG 3
 lb:bits.length=2+ps.length
 lc:cs.length=2+ps.length
 cf:∀c∈cs,c∈JG 3
 tr:TrB om s3.heap (dtN f) L2 ps
 new:∀a∈L2,a≠aT->s.heap.get? a=none
 fr2:∀a∈L2,Fre out [a]
 hb2:∀a∈L2,om.hb.get? a=none
 nd2:L2.Nodup
 pre:JX L2 (jsD ps.length)<+:L3
 lt:∀j∈jsD ps.length,j<L2.length
 objs:∀i ao,S3.get i=some ao->∃a o,L3[i]?=some a/\s3.heap.get? a=some o/\OkP om (d2N f cs L2) L3 a ao o
 has:∀p∈d2L bits,S3.get p.1=some p.2
 new3:∀i a,3+bits.length<=i->L3[i]?=some a->s.heap.get? a=none/\a∉L2
 fr3:∀a∈L3,Fre out [a]
 hb3:∀a∈L3,om.hb.get? a=none
 nd3:L3.Nodup
 r:L3[bits.length+7+7*WW bits]?=some aR
 af:Aft [aT] out s s3
 tap:JP s3.heap aT 18
 t0:L2[0]?=some aT
theorem dt_B{K:Nat}{A':Around}{env:Env}{f:Nat->Str}{ds:List Dw}{es:List (Str×AV)}{L1 L2:List Addr}{s0 s1 s2:Shared}{S2:St}{Q':SP Flow}{E':SP Value}(D:DtA om out s0 aT (K+300) A' env f ps ds es L1 L2 s1 s2 S2)(freT:Fre out [aT])(hT:s0.heap.get? aT≠none)
  (H:∀s3 aR bits cs L3 S3,DtB om out s0 s3 aT aR f ps bits cs L2 L3 S3->Q' (.ret (.ref aR)) s3):wpAny (Mdl om) A' (execs ((fiP om.w.params 807).body.drop 7) env) Q' E' s2:=by
 obtain ⟨r0,B1⟩:=D.B1
 have T2:=D.trees
 have l1:=D.ok.l1
 have l4:=D.ok.l4
 have J:=frJ D.ok.l4
 have e1:L2[1]?=some env.locals:=Jp D.B2.pre D.Fr.loc
 have e0:L2[0]?=some aT:=Jp D.B2.pre (Jp B1.pre rfl)
 have hl:∀j∈jsD ps.length,j<L2.length:=λj hj=>by
  rcases mc_ hj with rfl|hj
  ·exact(lt_ e1)
  rcases mc_ hj with rfl|hj
  ·exact(lt_ e0)
  refine(ma_ hj).elim (λh=>(mm_ h).elim λi r=>?_) λh=>?_
  ·obtain ⟨o,l,_⟩:=T2 _ (mem_tree (mem_rev r.1) tree_c)
   exact r.2▸(lt_ l)
  ·obtain ⟨o,l,_⟩:=T2 _ tree_f
   exact(ms_ h)▸(lt_ l)
 have ndj:=jsD_nd ps.length l1 l4
 have g2:Gin om s2 (JX L2 (jsD ps.length)) out:=D.g.next D.B2 (picks_nd D.B2.nd ndj hl) λa h=>WM hl h
 have fr2:∀a∈L2,Fre out [a]:=λa ha=>D.B2.fre.one ha
 have T3:TrB om g2.hF (dtN f) L2 ps:=λp hp=>by
  obtain ⟨hp,hn⟩:=List.mem_filter.mp hp;obtain ⟨o,l,q1,q2⟩:=T2 p hp;exact⟨o,l,g2.stays _ o (picks_not D.B2.nd hl l (JS hn)) (fr2 _ (Θ l)) q1,q2⟩
 refine(D.B2.get D.tap e0 λo ho p=>JP.ok ho p D.tl:JP s2.heap aT 30).el λx y t1 t2 n ho TP=>?_
 obtain ⟨bits,cs,lb,lc,cf,DR⟩:=d2_draws om.w.params (2+ps.length) 0 x y (TP.le (by lia))
 have DR2:WF (d2F f cs) (d2Ds (Za 18) bits 0) x y:=DR _ λj c e=>by
  have:=(lt_ e);rw[Nat.zero_add];unfold d2F;rw[ZZ (show j<200 by lia)];show nrf cs j=c;unfold nrf;rw[e];rfl
 have kn:=d2_kn (om:=om) (u:=λZ=>false) (cs:=cs) T3 D.ok D.nf
 have hloc:Js L2 1=env.locals:=Jy e1
 have b3:Beg om (d2N f cs L2) s2 (JX L2 (jsD ps.length)) (d2S bits):=by
  suffices OC:ObL om (d2N f cs L2) s2 (JX L2 (jsD ps.length)) (JX L2 (jsD ps.length)) (.ns [("tap",.loc 1),("line",.op 4),("data",.op 5),("found",.loc (2+bits.length))]::.tap (d2Ds (Za 18) bits 0)::(nilsF bits.length++[.list []]))from Beg.of OC (stL (d2S_ok (by lia) (by lia) _ _))
  have nsr:NsR (dtN f) L2 es (d2N f cs L2) (JX L2 (jsD ps.length)) [("tap",.loc 1),("line",.op 4),("data",.op 5),("found",.loc (2+bits.length))]:=⟨⟨_,D.lk.2.2.2,nofun,λw d=>d.loc_ λa h e=>⟨a,(Wd (i:=1) (j:=0) rfl).trans (Ja some (Jy h)),e⟩⟩,⟨_,D.lk.2.1,nofun,λw d=>d.loc_ λa h e=>e.trans (Ja Value.ref (Jy h).symm)⟩,⟨_,D.lk.1,nofun,λw d=>d.loc_ λa h e=>e.trans (Ja Value.ref (Jy h).symm)⟩,⟨_,D.lk.2.2.1,nofun,λw d=>d.loc_ λa h e=>⟨a,(Wd (i:=2+bits.length) (j:=29+9*ps.length) (by
   show (1::0::((JW (2+ps.length)).reverse.map cA++[29+9*ps.length]))[2+bits.length]?=_;rw[Nat.add_comm 2 bits.length,List.getElem?_cons_succ,List.getElem?_cons_succ,ϝ (by rw[Ω,Zv,lb];exact Ϙ _),Ω,Zv,lb,Nat.sub_self];rfl)).trans (Ja some (Jy h)),e⟩⟩,trivial⟩
  have ee:((JW (2+ps.length)).reverse.map cA).length=bits.length:=by rw[Ω,Zv,lb]
  have OB:=ObL.nils (om:=om) (nm:=d2N f cs L2) (s:=s2) (L:=JX L2 (jsD ps.length)) (L0:=[]) (L2:=L2) (is:=(JW (2+ps.length)).reverse.map cA) (l:=[Js L2 (29+9*ps.length)]) (r:=[.list []]) (λj hj=>(mm_ hj).elim λi r=>by
    obtain ⟨o,l,q1,q2⟩:=T2 _ (mem_tree (mem_rev r.1) tree_c);rw[<-r.2];exact⟨o,q1,q2.list_ λxs n eo dd=>⟨xs,n,eo,dd⟩⟩) (by
    obtain ⟨o,l,q1,q2⟩:=T2 _ tree_f;exact ObL.cons q1 (q2.list_ λxs n eo dd=>⟨xs,n,eo,dd⟩) ObL.nil)
  rw[ee]at OB;have e4:(JX L2 (jsD ps.length)).drop 2=JX L2 ((JW (2+ps.length)).reverse.map cA)++[Js L2 (29+9*ps.length)]:=by
    show (((JW (2+ps.length)).reverse.map cA++[29+9*ps.length]).map (Js L2))=_;rw[List.map_append];rfl
  have e5:JX L2 (jsD ps.length)=Js L2 1::Js L2 0::(JX L2 (jsD ps.length)).drop 2:=rfl;have OC:=D.B2.get D.ns e1 λo1 ho1 p1=>ObL.cons (hloc.symm▸ho1) (hloc.symm▸OkP.renN p1 nsr) (ObL.cons ((Jy e0).symm▸ho) (show OkP om (d2N f cs L2) (JX L2 (jsD ps.length)) (Js L2 0) (.tap (d2Ds (Za 18) bits 0)) _ from ⟨x,y,t1,t2,n,rfl,TP.le (by have:=d2Ds_len bits 0;lia),DR2⟩) (e4.symm▸OB));exact e5.symm▸OC
 have Fr2:ZA (JX L2 (jsD ps.length)) (frZ (fiP om.w.params 807) 0 []) env:=D.Fr.re (Ja some hloc) λx i e=>no e
 have af2:Aft [aT] out s0 s2:=Aft.trans B1 D.B2.aft λa ha=>.inl ha
 have new2:∀a∈L2,a≠aT->s0.heap.get? a=none:=λa ha hn=>(D.B2.old ha).elim (λh=>(B1.old h).elim (λh=>absurd (ms_ h) hn) id) λh=>B1.aft.fresh h (λh=>hn (ms_ h)) (fr2 a ha)
 have live2:∀a∈L2,∃o,s2.heap.get? a=some o:=λa ha=>(mi_ ha).elim λi hi=>(D.B2.all i (D.B2.len▸(lt_ hi))).elim λao e=>D.B2.get e hi λo ho Z=>⟨o,ho⟩
 have kn2:Zp om g2.hF (d2N f cs L2) (λZ=>false) (JX L2 (jsD ps.length)) (d2Cx om.w.params bits.length).kn:=by show Zp _ _ _ _ _ (d2Kn bits.length);rw[lb];exact kn
 have lo:(JX L2 (jsD ps.length)).length=3+bits.length:=by
  show (List.map _ (1::0::((JW (2+ps.length)).reverse.map cA++[29+9*ps.length]))).length=_;rw[Ω,Υ,Υ,ς,Ω,Zv,Jg];lia
 rw[<-List.append_nil ((fiP om.w.params 807).body.drop 7)]
 refine goB (n:=40) (k:=150) (nm:=d2N f cs L2) (u:=λZ=>false) (cx:=d2Cx om.w.params bits.length) D.F.fr D.F.p.hdl (D.F.p.room.le (by lia)) g2 b3 rfl (λh=>nb h) kn2 (λa args A' fs y us Q' E' hm pt hf' dd P=>?_) Fr2 rfl rfl ⟨_,(stL (d2S_ok (by lia) (by lia) _ _)).get 0⟩ (Zy (d2_all om.w.params (bits:=bits) (by lia) (by lia)) λo S3 hc=>Jr hc λhc h3=>Jr hc λh1 h2=>?_)
 ·exact PG.ifT P λha P=>nq ha▸sip_ora (K:=50) P pt hf' dd
 ·have eo:o=.ret (.loc (bits.length+7+7*WW bits)):=by
   induction o with
   |ret a=>exact Ja Out.ret (oi (ZG h1))
   |_=>exact nb h1
  refine .inr ⟨_,eo,λL3 s3 v B3 dv=>dv.loc_ λaR hR ev=>ev▸?_⟩
  induction e2:gv vTap S3 1 with
  |none=>rw[e2]at h3;exact nb h3
  |some ds3=>
   rw[e2]at h3
   refine Jz e2 λao hg hv=>?_
   cases vTap_of hv
   have sub:∀a∈JX L2 (jsD ps.length),a∈L2:=λa h=>WM hl h
   refine H s3 aR bits cs L3 S3 {ok:=D.ok,nf:=D.nf,lb:=lb,lc:=lc,cf:=cf,tr:=λp hp=>?_,new:=new2,fr2:=fr2,hb2:=D.B2.hb,nd2:=D.B2.nd,pre:=B3.pre,lt:=hl,objs:=B3.objs,has:=Zx h2,t0:=e0,new3:=λi a hi ha=>?_,fr3:=λa ha=>B3.fre.one ha,hb3:=B3.hb,nd3:=B3.nd,r:=hR,af:=af2.comp B3.aft λa ha=>?_,tap:=?_}
   ·obtain ⟨hp',hn⟩:=List.mem_filter.mp hp
    obtain ⟨o,l,q1,q2⟩:=T2 p hp';exact⟨o,l,B3.aft.keep _ o (picks_not D.B2.nd hl l (JS hn)) (fr2 _ (Θ l)) q1,q2⟩
   ·have z:=B3.new i a (lo▸hi) ha
    have nL:a∉L2:=λh=>(live2 a h).elim λo e=>no (z.symm.trans e);exact⟨af2.fresh z (λh=>nL ((ms_ h)▸Θ e0)) (B3.fre.one (Θ ha)),nL⟩
   ·by_cases q:a=aT
    ·exact .inl (q▸.head _)
    ·exact .inr (new2 a (sub a ha) q)
   ·have hT3:L3[1]?=some aT:=Jp B3.pre ((Wd (i:=1) (j:=0) rfl).trans (Ja some (Jy e0)))
    exact B3.get hg hT3 λo ho p=>JP.ok ho p (nq h3)
theorem dt_ok(p:Pt om A s (K+301))(hfr:A.frames=some out)(T:JP s.heap aT (N+39))(fre:Fre out [aT])(hb:om.hb.get? aT=none)
  (H:∀f ps bits cs L2 L3 S3 s3 aR,DtB om out s s3 aT aR f ps bits cs L2 L3 S3->Q (.ref aR) s3):wpAny (Mdl om) A (call (.ref 807) [.ref aT]) Q E s:=
 dt_A p hfr T fre hb λenv f ps ds es L1 L2 s1 s2 S2 E' D=>dt_B D fre (λe=>T.el λx y t1 t2 n q Z=>no (e.symm.trans q)) λs3 aR bits cs L3 S3 D3=>H f ps bits cs L2 L3 S3 s3 aR D3
def walkF(ps:List Nat)(n:Nat):List Nat->List Nat:=Nat.rec (motive:=λZ=>List Nat->List Nat) (λZ=>[]) (λZ ih st=>List.rec [] (λx r Z=>x::ih (kidsF ps x++r)) st) n
def ZI(ps:List Nat)(k:Nat):List Nat:=walkF ps 7 [k]
def Ze(ps:List Nat):List Nat:=ZI ps 1++ZI ps 0
def uT(ps:List Nat)(n:Nat)(b:Nat):List (Nat×AO):=Nat.rec (motive:=λZ=>Nat->List (Nat×AO)) (λZ=>[]) (λZ ih b=>(40+b,.list ((kidsF ps b).map λk=>.op (20+k)))::ih (b+1)) n b
def uKn(ps:List Nat):Kn:={sob:=λk=>JE k (uT ps (2+ps.length) 0),oatt:=λk x=>ifO (Nat.ble 20 k&&Nat.blt k (22+ps.length)&&sEq x "kids") (some (.op (k+20)))}
def uCx(P:Params)(ps:List Nat):Cx:={cx0 P with kn:=uKn ps}
def opsO(l:List AV):Option (List Nat):=List.rec (some []) (λa Z ih=>obO (opV a) λk=>obO ih λr=>some (k::r)) l
def lisO(c:R):Option (List Nat):=R.rec none (λo S=>obO (Ya o) λa=>obO (Zh a) λj=>obO (gv Zc S j) opsO) (λZ Z Z Z Z=>none) c
def uRun(P:Params)(ps:List Nat)(k:Nat):Option (List Nat):=lisO (ZF (run (uCx P ps) 40) false (fiP P 246) [.op (20+k)] (JZ []))
def eqN(o:Option (List Nat))(l:List Nat):Bool:=Option.rec false (λr=>eqL r l) o
theorem eqN_of{o:Option (List Nat)}{l:List Nat}(h:eqN o l=true):o=some l:=by
 induction o with
 |none=>exact nb h
 |some r=>rw[Ws (show eqL r l=true from h)]
def permB(l:List Nat)(n:Nat):Bool:=Nat.beq l.length n&&((JW n).all λi=>JN i l)&&l.all λi=>Nat.blt i n
def uB(P:Params)(ps:List Nat):Bool:=eqN (uRun P ps 0) ((ZI ps 0).map (20+·))&&eqN (uRun P ps 1) ((ZI ps 1).map (20+·))&&permB (Ze ps) (2+ps.length)
def Wj(T:Nat):List (List Nat):=Nat.rec (motive:=λZ=>List (List Nat)) [[]] (λt ih=>ih.flatMap λps=>(JW (2+t)).map λp=>ps++[p]) T
theorem u_1(P:Params):((Wj 1).all λps=>uB P ps)=true:=by rfl'
theorem u_2(P:Params):((Wj 2).all λps=>uB P ps)=true:=by rfl'
theorem u_3(P:Params):((Wj 3).all λps=>uB P ps)=true:=by rfl'
theorem shapes_in:∀(T:Nat) (ps:List Nat),ps.length=T->(∀t p,ps[t]?=some p->p<2+t)->ps∈Wj T:=by
 intro v0_;induction v0_ with
 |zero=>
  intro ps h Z;rw[List.eq_nil_of_length_eq_zero h];exact .head _
 |succ T ih=>
  intro ps h hp;rcases List.eq_nil_or_concat ps with rfl|⟨l,b,rfl⟩
  ·exact nomatch h
  ·rw[List.concat_eq_append]at*
   rw[ς,Jg]at h;have hl:l.length=T:=Nat.succ.inj h;have ih:=ih l hl λt p e=>hp t p (by rw[List.getElem?_append_left (lt_ e)];exact e);have hb:b<2+T:=by
    have:=hp l.length b (by rw[ϝ (Ϙ _),Nat.sub_self];rfl);rw[hl]at this;exact this
   exact List.mem_flatMap.mpr ⟨l,ih,List.mem_map.mpr ⟨b,JD hb,rfl⟩⟩
theorem opsO_of:∀{l:List AV} {ks:List Nat},opsO l=some ks->l=ks.map AV.op:=by
 intro v0_;induction v0_ with
 |nil=>
  intro Z h;cases h;rfl
 |cons a l ih=>
  intro ks h;exact Jo h λk hk h=>Jo h λr hr h9=>by cases h9;rw[Yc hk,ih hr];rfl
theorem lis_leaf{ks:List Nat}(h:lisO c=some ks)(k:∀j S,S.get j=some (.list (ks.map AV.op))->φ (.v (.loc j)) S):WJ u c φ:=by
 induction c with
 |no=>exact no h
 |ask _ _ _=>exact no h
 |ok o S=>
  exact Jo (show obO (Ya o) (λa=>obO (Zh a) λj=>obO (gv Zc S j) opsO)=some ks from h) λa ha h=>Jo h λj hj h=>Jo h λl hl h=>Jz hl λao hg hv=>by
   have e:o=.v (.loc j):=by
    induction o with
    |v b=>cases ha;rw[JQ hj]
    |_=>exact no ha
   rw[e];exact k j S (by rw[hg,Zf hv,opsO_of h])
def uOp(L2:List Addr)(k:Nat):Addr:=Bool.rec (Js L2 (iA (k-20))) (Js L2 (kA (k-40))) (Nat.ble 40 k)
def uN(L2:List Addr):Nt:=⟨λZ=>"",uOp L2⟩
theorem uOp_i(h:i<20):uOp L2 (20+i)=Js L2 (iA i):=by unfold uOp;rw[ZZ (show 20+i<40 by lia),Ψ]
theorem uOp_k(i:Nat):uOp L2 (40+i)=Js L2 (kA i):=by unfold uOp;rw[Zj (show 40<=40+i by lia),Ψ]
theorem kidsF_lt(ok:Wu ps)(h:j∈kidsF ps i):j<2+ps.length:=by
 unfold kidsF at h;obtain ⟨t,ht,rfl⟩:=mm_ h;have:=mem_rev (List.mem_filter.mp ht).1;lia
theorem dens_ops2:∀{js:List Nat} {us:List Value},(∀j∈js,j<20)->us=(js.map iA).map (λj=>Value.ref (Js L2 j))->Jq (uN L2) L (js.map λk=>.op (20+k)) us:=by
 intro v0_;induction v0_ with
 |nil=>
  intro Z Z e;exact e
 |cons j js ih=>
  intro Z hl e;exact e▸Jq.cons (a:=.op (20+j)) (Ja Value.ref (uOp_i (hl j (.head _))).symm) (ih (λk hk=>hl k (.tail _ hk)) rfl)
theorem uT_ok(ok:Wu ps)(H:∀i,i<2+ps.length->∃o,h.get? (Js L2 (kA i))=some o/\OkP om nm1 L2 (Js L2 (kA i)) (.list ((kidsF ps i).map λk=>.loc (iA k))) o):∀{m b:Nat},b+m<=2+ps.length->Zu om h (uN L2) own (uT ps m b):=by
 intro v0_;induction v0_ with
 |zero=>
  intro Z Z;exact trivial
 |succ m ih=>
  intro b hb;exact(H b (by lia)).elim λo g=>g.2.list_ λxs k eo dd=>Zu.cons (a:=Js L2 (kA b)) (uOp_k b) g.1 (λL Z=>by
   rw[eo];refine OkP.lst ?_;have e1:((kidsF ps b).map λk=>AV.loc (iA k))=((kidsF ps b).map iA).map AV.loc:=by rw[Jb];rfl
   rw[e1]at dd;exact dens_ops2 (λj hj=>by have:=kidsF_lt ok hj;have:=ok.l4;lia) (dens_locs dd)) (ih (by lia))
theorem u_kn(T:TrI om h nm1 L2 ps)(ok:Wu ps):Zp om h (uN L2) u own (uKn ps):={kn0 with
 sob:=λk ao e=>Zu.get (uT_ok (nm1:=nm1) ok (λi hi=>(T.at_ hi tree_k ((frJ ok.l4).i i hi).e).imp λo r=>r.2) (by lia)) e
 oatt:=λk x v e=>Jt e λhc e=>Jr hc λhc h3=>Jr hc λh1 h2=>by
  obtain ⟨i,rfl⟩:=Ϟ (nl h1);have hi:i<2+ps.length:=by have:20+i<22+ps.length:=nl h2;lia
  cases e;cases Jw h3;have l4:=ok.l4;refine T.att ok hi (uOp_i (by lia)) (z:=.loc (kA i)) (by rfl') (by rfl') rfl λy dy L hL=>dy.loc_ λa ha ey=>?_;show y=.ref (uOp L2 (20+i+20));rw[show 20+i+20=40+i by lia,uOp_k,ey,<-Jy ha]}
theorem u_fi(P:Params):fnP P 246=some (fiP P 246):=by rfl'
theorem dens_opsR:∀{ks:List Nat} {us:List Value},Jq nm L (ks.map AV.op) us->us=ks.map λk=>Value.ref (nm.op k):=by
 intro v0_;induction v0_ with
 |nil=>
  intro Z d;exact d
 |cons _ _ ih=>
  intro Z y2_;obtain ⟨w,r,e,d,ds⟩:=y2_;rw[e,ih ds,show w=_ from d];rfl
structure UB(P:Params)(ps:List Nat):Prop where
 r:∀k,k<2->uRun P ps k=some ((ZI ps k).map (20+·))
 len:(Ze ps).length=2+ps.length
 all:∀i,i<2+ps.length->i∈Ze ps
 lt:∀i∈Ze ps,i<2+ps.length
theorem uB_of{P:Params}(h:uB P ps=true):UB P ps:=by
 unfold uB permB at h;refine Jr h λh h3=>Jr h λh1 h2=>Jr h3 λh3 h5=>Jr h3 λh3 h4=>⟨λk hk=>?_,nq h3,λi hi=>JV (al_ h4 i (JD hi)),λi hi=>nl (al_ h5 i hi)⟩;match k,hk with
 |0,_=>exact eqN_of h1
 |1,_=>exact eqN_of h2
theorem walk_in{k:Nat}(hk:k<2)(h:i∈ZI ps k):i∈Ze ps:=by
 have:k=0\/k=1:=by lia
 rcases this with rfl|rfl
 ·exact ξ _ h
 ·exact μ _ h
theorem u_go{k:Nat}(hk:k<2)(p:Pt om A s (K+141))(hfr:A.frames=some out)(T:TrI om (p.gin0 hfr).hF nm1 L2 ps)(ok:Wu ps)(U:UB om.w.params ps)
  (H:∀s' a,Aft [] out s s'->s.heap.get? a=none->Fre out [a]->(∃xs n,s'.heap.get? a=some (listOf xs n)/\xs.toList=(ZI ps k).map λi=>Value.ref (Js L2 (iA i)))->Q (.ref a) s'):wpAny (Mdl om) A (call (.ref 246) [.ref (Js L2 (iA k))]) Q E s:=by
 have d0:Jq (uN L2) [] [.op (20+k)] [.ref (Js L2 (iA k))]:=⟨_,_,rfl,Ja Value.ref (uOp_i (by lia)).symm,rfl⟩
 have kn:=u_kn (om:=om) (own:=[]) (u:=λZ=>false) T ok
 refine go (n:=40) (nm:=uN L2) (u:=λZ=>false) (own:=[]) (cx:=uCx om.w.params ps) (S:=JZ []) p hfr (p.gin0 hfr) (Beg.of ObL.nil (stL rfl)) rfl (λh=>nb h) kn 0 (by lia) (ora0 λZ=>rfl) (u_fi _) d0 (lis_leaf (U.r k hk) λj S1 e=>⟨_,rfl,λL1 s1 v B dv=>?_⟩)
 refine dv.loc_ λa ha e'=>B.get e ha λo ho q=>q.list_ λxs n eo dd=>?_
 subst e'
 refine H s1 a B.aft (B.new j a (Nat.zero_le _) ha) (B.fre.one (Θ ha)) ⟨xs,n,eo▸ho,?_⟩
 rw[dens_opsR dd,Jb]
 refine List.map_congr_left λi hi=>Ja Value.ref (uOp_i ?_)
 have:=walk_in hk hi
 have:=U.lt i this
 have:=ok.l4
 lia
theorem u_4(P:Params):((Wj 4).all λps=>uB P ps)=true:=by rfl'
theorem u_all(P:Params)(ok:Wu ps):UB P ps:=by
 have hm:=shapes_in ps.length ps rfl ok.lt;have h1:=ok.l1;have h4:=ok.l4;have hl:ps.length=1\/ps.length=2\/ps.length=3\/ps.length=4:=by omega
 refine uB_of ?_;rcases hl with h|h|h|h<;>rw[h]at hm
 ·exact al_ (u_1 P) _ hm
 ·exact al_ (u_2 P) _ hm
 ·exact al_ (u_3 P) _ hm
 ·exact al_ (u_4 P) _ hm
def Jx:List AO:=[.dict [("working",.loc 2),("linkage",.loc 3),("files",.loc 4),("sorts",.op 8),("size",.int 0),("indexes",.op 9)],.inst 228 0,.list [.op 0],.list [],.dict [("F-1",.loc 5)],.list [.op 1]]
def ZJ(l:List AO)(b:Nat):List (Nat×AO):=List.rec (motive:=λZ=>Nat->List (Nat×AO)) (λZ=>[]) (λo Z ih b=>(b,o)::ih (b+1)) l b
def cnKn(bits:List Bool):Kn:={sob:=λk=>ifO (Nat.ble 40 k) (obO (bits[k-40]?) λb=>some (.list (Bool.rec [] [.op (20+k)] b))),oatt:=λk x=>Bool.rec (ifO (Nat.ble 20 k&&Nat.blt k (20+bits.length)&&sEq x "conditions") (some (.op (k+20)))) (ifO (Nat.blt k (60+bits.length)&&sEq x "name") (obO (bits[k-60]?) λb=>ifO b (some (.sym 0 (k-60))))) (Nat.ble 60 k)}
def cnOra(nP nW:Nat)(a:Nat)(args:List AV)(S:St):R:=ifT (Nat.beq a 246) (one1 args λa=>ob (opV a) λk=>Bool.rec (ifT (Nat.beq k 1) (pushV S (.list (ZD 20 nP)))) (pushV S (.list (ZD (20+nP) nW))) (Nat.beq k 0))
def cnCx(P:Params)(nP nW:Nat)(bits:List Bool):Cx:={cx0 P with kn:=cnKn bits,sp:=[246],ora:=cnOra nP nW}
def ksO(S:St)(j:Nat):Option (List Nat):=Option.rec (obO (gv Zi S j) λes=>ifO (JM (neL es)) (some [])) (λl=>some l) (gv vKset S j)
def bitB(bits:List Bool)(k:Nat):Bool:=Option.rec false (λb=>b) bits[k]?
def cnC(bits:List Bool)(o:Out)(S:St):Bool:=Option.rec false (λks=>JY S (ZJ Jx 0)&&((ks.all λk=>bitB bits k)&&(JW bits.length).all λk=>orB (JM (bitB bits k)) (JN k ks))) (obO (Ya o) λa=>obO (Zh a) λj=>ksO S j)
def cnB(P:Params)(nP nW:Nat)(bits:List Bool):Bool:=allL (cnC bits) (ZF (run (cnCx P nP nW bits) 40) false (fiP P 557) [.loc 1] (JZ Jx))
def cnR(p w:Nat):Bool:=Nat.blt 0 p&&Nat.blt 0 w&&Nat.blt 2 (p+w)&&Nat.blt (p+w) 7
def cnP(P:Params)(p:Nat):Bool:=(JW 6).all λw=>orB (JM (cnR p w)) ((Wa (p+w)).all λb=>cnB P p w b)
theorem cn_runs(P:Params):((JW 6).all λp=>cnP P p)=true:=by rfl'
theorem cnR_of{p w:Nat}(h1:1<=p)(h2:1<=w)(h3:3<=p+w)(h4:p+w<=6):cnR p w=true:=by
 unfold cnR;rw[show Nat.blt 0 p=true from Zj h1,show Nat.blt 0 w=true from Zj h2,show Nat.blt 2 (p+w)=true from Zj h3,show Nat.blt (p+w) 7=true from Zj (Nat.succ_le_succ h4)];rfl
theorem cn_at(P:Params)(nP nW:Nat)(h1:1<=nP)(h2:1<=nW)(h3:3<=nP+nW)(h4:nP+nW<=6):((Wa (nP+nW)).all λb=>cnB P nP nW b)=true:=
 orB_of (al_ (al_ (cn_runs P) nP (JD (by lia))) nW (JD (by lia))) (by rw[cnR_of h1 h2 h3 h4];rfl)
theorem cn_all(P:Params){nP nW:Nat}{bits:List Bool}(h1:1<=nP)(h2:1<=nW)(h3:3<=nP+nW)(h4:nP+nW<=6)(hb:bits.length=nP+nW):cnB P nP nW bits=true:=al_ (cn_at P nP nW h1 h2 h3 h4) bits (hb▸WP bits)
structure ItD where
 ia:Addr
 ca:Addr
 c:Option (Str×Addr)
def cB(d:ItD):Bool:=JH d.c
structure ItOk(om:Om)(h:Heap)(d:ItD):Prop where
 l:∃xs n,h.get? d.ca=some (listOf xs n)/\xs.toList=Option.rec [] (λp=>[Value.ref p.2]) d.c
 n:∀p,d.c=some p->p.1∈JR 0/\∃e es nm0 L0,h.get? p.2=some (instObj 155 e)/\DAt om h e es nm0 L0/\∃z,look "name" es=some z/\(Zo z).isSome/\∀y,Den nm0 L0 z y->∃t,y=.str p.1 t
 i:∃e es nm0 L0,h.get? d.ia=some (instObj 202 e)/\DAt om h e es nm0 L0/\∃z,look "conditions" es=some z/\(Zo z).isSome/\∀y,Den nm0 L0 z y->y=.ref d.ca
def condA(d:ItD):Addr:=Option.rec 0 (λp=>p.2) d.c
def condN(d:ItD):Str:=Option.rec "" (λp=>p.1) d.c
def cnOp(nmD:Nt)(its:List ItD)(k:Nat):Addr:=Bool.rec (nmD.op k) (Bool.rec (Js (its.map (·.ia)) (k-20)) (Bool.rec (Js (its.map (·.ca)) (k-40)) (Js (its.map condA) (k-60)) (Nat.ble 60 k)) (Nat.ble 40 k)) (Nat.ble 20 k)
def cnN(nmD:Nt)(its:List ItD):Nt:=⟨λk=>nrf (its.map condN) k,cnOp nmD its⟩
theorem cnOp_i{nmD:Nt}{its:List ItD}{d:ItD}(hi:i<20)(e:its[i]?=some d):cnOp nmD its (20+i)=d.ia:=by
 unfold cnOp;rw[Zj (show 20<=20+i by lia),ZZ (show 20+i<40 by lia),Ψ];exact nthG e
theorem cnOp_c{nmD:Nt}{its:List ItD}{d:ItD}(hi:i<20)(e:its[i]?=some d):cnOp nmD its (40+i)=d.ca:=by
 unfold cnOp;rw[Zj (show 20<=40+i by lia),Zj (show 40<=40+i by lia),ZZ (show 40+i<60 by lia),Ψ];exact nthG e
theorem cnOp_n{nmD:Nt}{its:List ItD}{d:ItD}(e:its[i]?=some d):cnOp nmD its (60+i)=condA d:=by
 unfold cnOp;rw[Zj (show 20<=60+i by lia),Zj (show 40<=60+i by lia),Zj (show 60<=60+i by lia),Ψ];exact nthG e
theorem cn_den{nm:Nt}{L:List Addr}{d:ItD}{j:Nat}(en:nm.op j=condA d):Jq nm L (Bool.rec [] [.op j] (cB d)) (Option.rec [] (λp=>[Value.ref p.2]) d.c):=by
 unfold cB;unfold condA at en;induction ec:d.c with
 |none=>exact rfl
 |some p=>rw[ec]at en;exact Jq.cons (a:=.op j) (Ja Value.ref en.symm) Jq.nil
theorem cn_kn{nmD:Nt}{its:List ItD}(H:∀d∈its,ItOk om h d)(len:its.length<=6):Zp om h (cnN nmD its) u own (cnKn (its.map cB)):={kn0 with
 sob:=λk ao e=>Jt e λhc e=>Jo e λb hb e=>(Ϟ (nl hc)).elim λi ei=>by
  rw[ei]at hb e;rw[Ψ,δ]at hb;refine(Option.map_eq_some_iff.mp hb).elim λd q=>?_;rw[ei,<-oi e,<-q.2];have li:i<20:=Ϛ (lt_ q.1) (Jk len (by decide));exact(H d (Θ q.1)).l.elim λxs r=>r.elim λn r=>⟨_,(Ja h.get? (cnOp_c li q.1)).trans r.1,λL Z=>OkP.lst (r.2▸cn_den ((Ja (cnOp nmD its) (show 20+(40+i)=60+i by lia)).trans (cnOp_n q.1)))⟩
 oatt:=λk x v e=>by
  refine bif_of (b:=Nat.ble 60 k) (show (Bool.rec (ifO (Nat.ble 20 k&&Nat.blt k (20+(its.map cB).length)&&sEq x "conditions") (some (.op (k+20)))) (ifO (Nat.blt k (60+(its.map cB).length)&&sEq x "name") (obO ((its.map cB)[k-60]?) λb=>ifO b (some (.sym 0 (k-60))))) (Nat.ble 60 k):Option AV)=some v from e) (λh60 e=>Jt e λhc e=>Jr hc λZ h3=>Jo e λb hb e=>Jt e λhbt e=>(Ϟ (nl h60)).elim λi ei=>?_) λZ e=>Jt e λhc e=>Jr hc λhc h3=>Jr hc λh1 h2=>(Ϟ (nl h1)).elim λi ei=>?_
  ·rw[ei,Ψ]at hb e
   rw[δ]at hb;refine(Option.map_eq_some_iff.mp hb).elim λd q=>?_;rw[ei,Jw h3,<-oi e];rw[<-q.2]at hbt;unfold cB at hbt;induction ec:d.c with
   |none=>rw[ec]at hbt;exact nb hbt
   |some p=>
    have O:=(H d (Θ q.1)).n p ec;have ef:nrf (its.map condN) i=p.1:=(nrfG q.1).trans (by unfold condN;rw[ec]);exact att_oatt O.2 ((cnOp_n q.1).trans (by unfold condA;rw[ec])) (by rfl') λy dy L Z=>dy.imp λt ey=>⟨ey.trans (Ja (λz=>Value.str z t) ef.symm),show nrf (its.map condN) i∈JR 0 from ef.symm▸O.1⟩
  ·rw[ei]at h2 e
   have li:=Nat.lt_of_add_lt_add_left (nl h2);rw[Ω]at li;have hd:=Φ li;have l20:i<20:=Ϛ li (Jk len (by decide));rw[ei,Jw h3,<-oi e];exact att_oatt (H _ (ο li)).i (cnOp_i l20 hd) (by rfl') λy dy L Z=>dy.trans (Ja Value.ref ((Ja (cnOp nmD its) (show 20+i+20=40+i by lia)).trans (cnOp_c l20 hd)).symm)}
variable {c0 c1:Addr}{x:Wt G fs}
theorem Wt.own0(pt:Pt G.om A x.s K)(hf:A.frames=some (Jv fs++G.out))(hg:x.S.get i=some ao)(ha:x.L[i]?=some a)(hn:∀es,ao≠.ns es)(ho:x.s.heap.get? a=some o):(pt.gin0 hf).hF.get? a=some o:=
 (pt.gin0 hf).stays a o Ξ (x.fre λb hb=>(ms_ hb)▸⟨i,ao,ha,hg,hn⟩) ho
theorem Wt.frz0(pt:Pt G.om A x.s K)(hf:A.frames=some (Jv fs++G.out))(e:G.hF.get? a=some o):(pt.gin0 hf).hF.get? a=some o:=
 (pt.gin0 hf).stays a o Ξ (λe' he b hb hm=>by
  cases ms_ hm;refine(ma_ he).elim (λhe=>(x.frm he).elim λf r=>?_) λhe=>(G.oute e' he).2.elim λp r=>?_
  ·cases r.2.1.symm.trans hb
   exact no ((x.r.new _ (Θ r.2.2.1)).symm.trans e)
  ·cases r.2.symm.trans hb
   exact no ((G.outn p r.1).1.symm.trans e)) (x.r.keep _ _ e)
def rdO(S:St)(r:AV):Option Unit:=obO (Zh r) λi=>obO (gv vInst S i) λp=>ifO (Nat.beq p.1 745) (obO (gv Zi S p.2) λes=>ifO (isOp 0 (look "named" es)&&isOp 1 (look "shared" es)) (some ()))
theorem rd_of(pt:Pt G.om A x.s K)(hf:A.frames=some (Jv fs++G.out))(h:rdO x.S v=some ())(d:Den G.nm x.L v w)(h0:G.nm.op 0=aN)(h1:G.nm.op 1=aS):∃ar,w=.ref ar/\Rdr G.om (pt.gin0 hf).hF ar aN aS:=
 Jo h λi hi h=>Jo h λp hp h=>Jt h λhc h=>Jo h λes hes h=>Jt h λhl Z=>Jr hl λl1 l2=>Jz hp λo1 g1 v1=>Jz hes λo2 g2 v2=>by
  cases JQ hi;have g1:x.S.get i=some (.inst p.1 p.2):=by rw[g1,vInst_of v1]
  have g2:x.S.get p.2=some (.dict es):=by rw[g2,ZB v2]
  rw[nq hc]at g1;exact d.loc_ λar ha e=>x.r.get g1 ha λo ho q=>q.inst_ λad hd eo=>x.r.get g2 hd λo' ho' q'=>q'.dict_ λds' hm ed en=>⟨ar,e,⟨⟨ad,es,G.nm,x.L,Wt.own0 pt hf g1 ha (λZ=>nofun) (eo▸ho),⟨o',Wt.own0 pt hf g2 hd (λZ=>nofun) ho',ds',_,ed,en⟩,⟨_,Wb l1,rfl,λy dy=>h0▸dy⟩,⟨_,Wb l2,rfl,λy dy=>h1▸dy⟩⟩⟩⟩
def qsO(cx:Cx)(S:St)(q:AV):Option (List Nat):=obO (ZP cx S q) symsV
theorem qs_of(pt:Pt G.om A x.s K)(hf:A.frames=some (Jv fs++G.out)){ks:List Nat}(h:qsO G.cx x.S v=some ks)(d:Den G.nm x.L v w)(hst:∀t,v≠.st t):∃aq,w=.ref aq/\∃xs n,(pt.gin0 hf).hF.get? aq=some ⟨.type "tuple",none,.seq xs n,#[]⟩/\StrsAre xs.toList (ks.map G.nm.f):=
 Jo h λl hl hk=>by
  induction v with
  |loc i=>
   exact Jz hl λo hg hv=>d.loc_ λaq ha e=>by
    have hg:x.S.get i=some (.tup l):=by rw[hg,Wx hv]
    exact x.r.get hg ha λo' ho q=>q.tup_ λxs n eo dd=>⟨aq,e,xs,n,Wt.own0 pt hf hg ha (λZ=>nofun) (eo▸ho),syms_of (f:=G.nm.f) hk dd⟩
  |op j=>
   exact Jo hl λo hs hv=>(G.kn.sob j o hs).elim λo' r=>by
    have q:=r.2 x.L x.r.own;rw[Wx hv]at q;exact q.tup_ λxs n eo dd=>⟨G.nm.op j,d,xs,n,Wt.frz0 pt hf (eo▸r.1),syms_of (f:=G.nm.f) hk dd⟩
  |st t=>exact absurd rfl (hst t)
  |_=>exact no hl
def q0:Str:="read_condition.<locals>.<lambda>"
def q1:Str:="read_primary.<locals>.<lambda>"
def CodeQ(q:Str)(o:Obj):Prop:=∃vs t,o.data=.fields vs/\vs[1]?=some (.str q t)
structure TabS(h:Heap)(c0 c1:Addr):Prop where
 t0:h.get? 538=some (PySem.W.tabObj #[rawInt (420:Nat),rawInt (39:Nat),.ref c0])
 t1:h.get? 385=some (PySem.W.tabObj #[rawInt (277:Nat),rawInt (36:Nat),.ref c1])
 d0:∃o,h.get? c0=some o/\CodeQ q0 o
 d1:∃o,h.get? c1=some o/\CodeQ q1 o
 ne:c0≠c1
def codeO(S:St)(i:Nat)(q:Str)(l c:Nat):Option Nat:=obO (gv vTab S i) λt=>obO t λh=>ifO (Nat.beq h.1 l&&Nat.beq h.2.1 c) (obO (gv vCode S h.2.2) λq'=>ifO (sEq q' q) (some h.2.2))
theorem WV{q:Str}{l c j:Nat}(h:codeO S i q l c=some j):S.get i=some (.tab (some (l,c,j)))/\S.get j=some (.code q):=
 Jo h λt ht h=>Jo h λp hp h=>Jt h λhc h=>Jo h λq' hq h=>Jt h λhs h9=>Jr hc λh1 h2=>Jz ht λo g v=>Jz hq λo2 g2 v2=>by
  subst hp;have e1:=nq h1;have e2:=nq h2;have e3:p.2.2=j:=oi h9;have v:=vTab_of v;refine⟨by rw[g,v,<-e1,<-e2,<-e3],?_⟩;rw[<-e3,g2];induction o2 with
  |code q2=>cases v2;rw[Jw hs]
  |_=>exact no v2
def tabsO(fl:Bool)(S:St):Option (Nat×Nat):=obO (codeO S 0 q0 420 39) λi=>obO (codeO S 1 q1 277 36) λj=>ifO (JM (Nat.beq i j)&&Bool.rec (Nat.ble 5 i&&Nat.ble 5 j) (Nat.beq i 2&&Nat.beq j 3) fl) (some (i,j))
def retB(o:Out):Bool:=Out.rec (λZ=>false) (λZ=>false) (λZ=>false) false (λa=>Option.rec false (λb=>b) (ZN a)) (λZ=>false) o
def retT(fl:Bool)(c:R):Bool:=R.rec false (λo S=>retB o&&JH (tabsO fl S)) (λZ Z Z a b=>a&&b) c
theorem retT_leaf{fl:Bool}(h:retT fl c=true)(k:∀S i j,S.get 0=some (.tab (some (420,39,i)))->S.get i=some (.code q0)->S.get 1=some (.tab (some (277,36,j)))->S.get j=some (.code q1)->i≠j->(fl=false->5<=i/\5<=j)->(fl=true->i=2/\j=3)->φ (.ret (.bool true)) S):WJ u c φ:=by
 induction c with
 |no=>exact nb h
 |ok o S=>
  refine Jr h λh1 h2=>?_;induction e:tabsO fl S with
  |none=>rw[e]at h2;exact nb h2
  |some p=>
   refine Jo e λi hi e=>Jo e λj hj e=>Jt e λhn e=>?_;have r:o=.ret (.bool true):=by
    induction o with
    |ret a=>
     change (Option.rec false (λb=>b) (ZN a):Bool)=true at h1;induction q:ZN a with
     |none=>rw[q]at h1;exact nb h1
     |some b=>rw[q]at h1;rw[ZM q,show b=true from h1]
    |_=>exact nb h1
   exact r▸k S i j (WV hi).1 (WV hi).2 (WV hj).1 (WV hj).2 (Jr hn λh3 Z=>ε (JL h3)) (λef=>by subst ef;exact Jr hn λZ h4=>Jr h4 λh5 h6=>⟨nl h5,nl h6⟩) λef=>by subst ef;exact Jr hn λZ h4=>Jr h4 λh5 h6=>⟨nq h5,nq h6⟩
 |ask i t f iht ihf=>exact Jr h λh1 h2=>⟨λZ=>iht h1,λZ=>ihf h2⟩
def tbAO(fl:Bool):List AO:=Bool.rec [.tab none,.tab none] [.tab (some (420,39,2)),.tab (some (277,36,3)),.code q0,.code q1] fl
def tbN(fl:Bool):Nat:=Bool.rec 2 4 fl
def tbL(fl:Bool)(c0 c1:Addr):List Addr:=Bool.rec [538,385] [538,385,c0,c1] fl
def TabP(h:Heap)(fl:Bool)(c0 c1:Addr):Prop:=Bool.rec (h.get? 538=some (PySem.W.tabObj #[])/\h.get? 385=some (PySem.W.tabObj #[])) (TabS h c0 c1) fl
theorem tbs_pre(fl:Bool)(c0 c1:Addr):tbs<+:tbL fl c0 c1++l:=by induction fl<;>exact⟨_,rfl⟩
theorem Bk.tabs{own:List Addr}(B:Bk om nm own out s S' L' s')(h0:L'[0]?=some 538)(h1:L'[1]?=some 385){j k:Nat}(g0:S'.get 0=some (.tab (some (420,39,j))))(g1:S'.get j=some (.code q0))(g2:S'.get 1=some (.tab (some (277,36,k))))(g3:S'.get k=some (.code q1))(hn:j≠k):∃c0 c1,L'[j]?=some c0/\L'[k]?=some c1/\TabS s'.heap c0 c1:=
 B.get g0 h0 λo ho p=>p.elim λc0 r=>B.get g2 h1 λo2 ho2 p2=>p2.elim λc1 r2=>B.get g1 r.1 λo3 ho3 p3=>B.get g3 r2.1 λo4 ho4 p4=>⟨c0,c1,r.1,r2.1,r.2▸ho,r2.2▸ho2,⟨_,ho3,p3⟩,⟨_,ho4,p4⟩,λe=>hn (Ju B.nd r.1 (e▸r2.1))⟩
def knT(m:Nat):Kn:={sob:=λk=>JE k [(4,.tup [.op 0,.op 1]),(6,.tup (sy0 1 m)),(7,.list (.sym 0 0::ofF 1 m))]}
def resA(args:List AV)(S:St):R:=one1 args λa=>Option.rec (ob (Zz a) λx=>ifT (JU x okW) (.ok (.v (.bool false)) S)) (λp=>ifT (Nat.beq p.1 0&&JM p.2) (.ok (.v (.bool false)) S)) (Wh a)
def upF(b:Nat)(m:Nat):List Nat:=Nat.rec (motive:=λZ=>Nat->List Nat) (λZ=>[]) (λZ ih b=>b::ih (b+1)) m b
def isSt(a:AV):Bool:=AV.rec false (λZ=>false) (λZ=>false) (λZ=>false) (λZ=>false) (λZ=>false) (λZ=>false) (λZ=>true) (λZ=>false) false (λZ Z=>false) (λZ Z=>false) (λZ=>false) (λZ Z=>false) a
def ansA(cx:Cx)(ans:List Nat->Option Bool)(S:St)(nm q:AV):R:=ifT (JM (isSt q)) (ob (qsO cx S q) λks=>Option.rec (ob (Zz nm) λx=>ifT (JU x ["X","A","B"]&&JM (neL ks)) (.ok (.v (.bool false)) S)) (λp=>ifT (Nat.beq p.1 0&&JM p.2&&isSy 0 (some nm)) (ob (ans ks) λb=>.ok (.v (.bool b)) S)) (Wh nm))
def oraT(cx:Cx)(ans:List Nat->Option Bool)(a:Nat)(args:List AV)(S:St):R:=Bool.rec (ifT (Nat.beq a 535) (three args λr nm q=>ob (rdO S r) λZ=>ansA cx ans S nm q)) (resA args S) (Nat.beq a 571)
def ansT(m:Nat)(b:Bool)(ks:List Nat):Option Bool:=ifO (eqL ks (upF 1 m)) (some b)
def cxT(P:Params)(m:Nat)(b:Bool):Cx:={P:=P,kn:=knT m,sp:=[571,535],ora:=oraT {cx0 P with kn:=knT m} (ansT m b),lam:=true}
def csT(fl:Bool):List (Str×Nat):=[("qualifiers",tbN fl+2),("name",tbN fl+1)]
def tSL(fl b:Bool):List AO:=tbAO fl++[.ns [("is_due",.bool b),("knows",.op 4),("words",.op 7)],.cell (some (.sym 0 0)),.cell (some (.op 6))]
def runT(P:Params)(fl:Bool)(m:Nat)(b:Bool):Bool:=retT fl (Wc (run (cxT P m b) 120) (frZ (fiP P 833) (tbN fl) (csT fl)) ((fiP P 833).body.drop 5) (JZ (tSL fl b)))
variable {L6:List Addr}{nm2 nmD:Nt}{h':Heap}{d:ItD}{its:List ItD}{P:Params}{es:List (Str×AV)}{vs:List AV}
theorem ItOk.up(H:ItOk om h d)(k:∀b o,h.get? b=some o->h'.get? b=some o):ItOk om h' d where
 l:=H.l.imp λZ r=>r.imp λZ r=>⟨k _ _ r.1,r.2⟩
 n p e:=⟨(H.n p e).1,(H.n p e).2.imp λZ r=>r.imp λZ r=>r.imp λZ r=>r.imp λZ r=>⟨k _ _ r.1,r.2.1.up k,r.2.2⟩⟩
 i:=H.i.imp λZ r=>r.imp λZ r=>r.imp λZ r=>r.imp λZ r=>⟨k _ _ r.1,r.2.1.up k,r.2.2⟩
theorem WU:∀{as:List Addr} {us:List Value} {b:Nat},us=as.map Value.ref->(∀i a,as[i]?=some a->nm.op (b+i)=a)->Jq nm L (ZD b as.length) us:=by
 intro v0_;induction v0_ with
 |nil=>
  intro Z Z e Z;exact e
 |cons a as ih=>
  intro Z b e H;exact e▸Jq.cons (a:=.op b) (Ja Value.ref (H 0 a rfl).symm) (ih rfl λi z hz=>(Ja nm.op (by lia)).trans (H (i+1) z hz))
theorem Den.down(p:L<+:L')(hi:i<L.length)(d:Den nm L' (.loc i) w):Den nm L (.loc i) w:=d.imp λa r=>⟨by
 have e:=Φ hi;rw[e,oi ((Jp p e).symm.trans r.1)],r.2⟩
theorem Ens.re(H:∀p∈es,∀w,Den nm1 L' p.2 w->Den nm L p.2 w):∀{ds:List DictEntry},Ens P nm1 L' es ds->Ens P nm L es ds:=by
 induction es with
 |nil=>exactλe=>e
 |cons p es ih=>exactλ⟨e,r,q,d,t⟩=>⟨e,r,q,⟨d.key,d.hash,H p (.head _) _ d.val⟩,ih (λq hq=>H q (.tail _ hq)) t⟩
theorem Jq.re(H:∀v∈vs,∀w,Den nm1 L' v w->Den nm L v w):∀{us:List Value},Jq nm1 L' vs us->Jq nm L vs us:=by
 induction vs with
 |nil=>exactλe=>e
 |cons v vs ih=>exactλ⟨u,r,q,d,t⟩=>⟨u,r,q,H v (.head _) _ d,ih (λq hq=>H q (.tail _ hq)) t⟩
def lowV(n:Nat)(v:AV):Bool:=AV.rec true (λZ=>true) (λZ=>true) (λZ=>true) (λZ=>true) (λZ=>true) (λZ=>true) (λZ=>true) (λi=>Nat.blt i n) true (λZ Z=>true) (λZ Z=>true) (λZ=>true) (λZ Z=>true) v
theorem lowV_den(p:L<+:L')(h:lowV L.length v=true)(d:Den nm L' v w):Den nm L v w:=by
 induction v with
 |loc i=>exact Den.down p (nl h) d
 |_=>exact d
def allO(pV:AV->Bool)(o:AO):Bool:=AO.rec (λes=>es.all λp=>pV p.2) (λes=>es.all λp=>pV p.2) (λl=>l.all pV) (λl=>l.all pV) (λZ d=>pV (.loc d)) (λZ=>false) (λZ Z Z Z Z Z=>false) (λZ=>false) (λZ=>false) (λZ Z Z=>false) (λZ=>false) (λZ Z=>false) (λZ Z=>false) (λZ Z=>false) (λZ Z=>false) (λZ Z=>false) (λl Z=>pV (.op l)) (λZ Z=>false) (λZ Z Z=>false) (λZ=>false) (λZ=>false) false o
theorem OkP.re{pV:AV->Bool}(H:∀v,pV v=true->∀w,Den nm1 L' v w->Den nm2 L v w)(h:allO pV ao=true)(q:OkP om nm1 L' a ao o):OkP om nm2 L a ao o:=by
 cases ao with
 |ns es=>exact⟨q.1,q.2.imp λm r=>⟨r.1,λx v e hj=>(r.2 x v e hj).imp λw g=>⟨g.1,(look_mem e).elim λy q=>H v (al_ h (y,v) q.2) w g.2⟩⟩⟩
 |lio l k=>exact⟨q.1,(H (.op l) h (.ref (nm1.op l)) rfl)▸q.2⟩
 |dict es=>exact⟨q.1,q.2.imp λds r=>⟨r.1,Ens.re (λe he w d=>H _ (al_ h e he) w d) r.2⟩⟩
 |list vs=>exact q.imp λxs r=>r.imp λn r=>⟨r.1,Jq.re (λe he w d=>H _ (al_ h e he) w d) r.2⟩
 |tup vs=>exact q.imp λxs r=>r.imp λn r=>⟨r.1,Jq.re (λe he w d=>H _ (al_ h e he) w d) r.2⟩
 |inst c d=>exact q.elim λad r=>(H (.loc d) h (.ref ad) ⟨ad,r.1,rfl⟩).elim λa' g=>⟨ad,(Value.ref.inj g.2)▸g.1,r.2⟩
 |_=>exact nb h
theorem OkP.down(p:L<+:L')(h:allO (lowV L.length) ao=true)(q:OkP om nm L' a ao o):OkP om nm L a ao o:=q.re (λv hv w d=>lowV_den p hv d) h
def nmV(q:Nat->Bool)(v:AV):Bool:=AV.rec true (λZ=>true) (λZ=>true) (λZ=>true) (λZ=>true) (λZ=>true) (λZ=>true) (λZ=>true) (λZ=>true) true (λZ Z=>false) (λZ Z=>false) (λk=>q k) (λZ Z=>false) v
theorem nmV_den{q:Nat->Bool}(H:∀k,q k=true->nm2.op k=nm1.op k)(h:nmV q v=true)(d:Den nm1 L v w):Den nm2 L v w:=by
 induction v with
 |op k=>exact Eq.trans d (Ja Value.ref (H k h).symm)
 |sym _ _=>exact nb h
 |hd _ _=>exact nb h
 |ix _ _=>exact nb h
 |_=>exact d
theorem ObL.re{q:Nat->Bool}(H:∀k,q k=true->nm2.op k=nm1.op k):∀{l:List Addr} {aos:List AO},(∀o∈aos,allO (nmV q) o=true)->ObL om nm1 s L l aos->ObL om nm2 s L l aos
 |[],_,_,h=>h
 |_::_,[],_,h=>h.elim
 |_::_,o::r,hn,h=>h.1.elim λob g=>ObL.cons g.1 (g.2.re (λv hv w d=>nmV_den H hv d) (hn o (.head _))) (ObL.re H (λz hz=>hn z (.tail _ hz)) h.2)
theorem PG.sole{args:List AV}{k:AV->R}(P:PG x (one1 args k) Q E)(h:∀a,args=[a]->PG x (k a) Q E->C):C:=by
 induction args using c_ with
 |nil=>exact P.elim
 |cons a r=>induction r using c_ with
  |nil=>exact h a rfl P
  |cons _ _=>exact P.elim
theorem again{aos:List AO}(pre:own<+:L')(B:∀i ao,S'.get i=some ao->∃a o,L'[i]?=some a/\s'.heap.get? a=some o/\OkP om nm L' a ao o)(hl:∀o∈aos,allO (lowV own.length) o=true):∀{l:List Addr} {aos':List AO} {b:Nat},(∀o∈aos',o∈aos)->(∀i a,l[i]?=some a->own[b+i]?=some a)->l.length=aos'.length->(∀p∈ZJ aos' b,S'.get p.1=some p.2)->ObL om nm s' own l aos':=by
 intro l;induction l with
 |nil=>
  intro aos' b Z Z h Z;induction aos' using c_ with
  |nil=>rfl
  |cons _ _=>exact nomatch h
 |cons a l ih=>
  intro aos' b hm ho hn hs;induction aos' using c_ with
  |nil=>exact nomatch hn
  |cons o r=>
   exact(B b o (hs (b,o) (.head _))).elim λa' q=>q.elim λob q=>by
    cases q.1.symm.trans (Jp pre (ho 0 a rfl));exact ObL.cons q.2.1 (q.2.2.down pre (hl o (hm o (.head _)))) (ih (λz hz=>hm z (.tail _ hz)) (λi z e=>by rw[Nat.succ_add_eq_add_succ];exact ho (i+1) z e) (Nat.succ.inj hn) λp hp=>hs p (.tail _ hp))
def condOf(its:List ItD)(x:Str):Prop:=∃d∈its,∃nd,d.c=some (x,nd)
theorem walk_pos(ps:List Nat)(k:Nat):1<=(ZI ps k).length:=Nat.succ_le_succ (Nat.zero_le _)
theorem cn_fi(P:Params):fnP P 557=some (fiP P 557):=by rfl'
theorem datA_ok:okS Jx=true:=by rfl'
theorem Wg(D6:L6.length=6)(pl:L6<+:own)(pre:own<+:L')(B:∀i ao,S'.get i=some ao->∃a o,L'[i]?=some a/\s'.heap.get? a=some o/\OkP om nm L' a ao o)(h:∀p∈ZJ Jx 0,S'.get p.1=some p.2):ObL om nm s' own L6 Jx:=
 again pre B (aos:=Jx) (al_ (by
  have h6:6<=own.length:=D6▸pl.length_le;have e:∀n,(Jx.all λo=>allO (lowV (n+6)) o)=true:=λn=>by rfl'
  exact Nat.sub_add_cancel h6▸e (own.length-6))) (b:=0) (λZ h=>h) (λi z e=>by rw[Nat.zero_add];exact Jp pl e) D6 h
def datQ(k:Nat):Bool:=JN k [0,1,8,9]
theorem Yg(h:datQ k=true):k<20:=nl (al_ (by rfl':([0,1,8,9].all λk=>Nat.blt k 20)=true) k (JV h))
theorem Zl:∀o∈Jx,allO (nmV datQ) o=true:=al_ (by rfl':(Jx.all λo=>allO (nmV datQ) o)=true)
theorem bitB_of(h:bitB (its.map cB) k=true)(hk:k<its.length):∃d nd,its[k]?=some d/\d.c=some (condN d,nd):=by
 have hd:its[k]?=some its[k]:=Φ hk;unfold bitB at h;rw[δ,hd]at h;change cB its[k]=true at h;induction e:(its[k]).c with
 |none=>unfold cB at h;rw[e]at h;exact nb h
 |some p=>exact⟨its[k],p.2,hd,by unfold condN;rw[e]⟩
theorem bitB_to(hd:its[k]?=some d){y:Str}{nd:Addr}(h:d.c=some (y,nd)):bitB (its.map cB) k=true/\condN d=y:=by
 unfold bitB cB condN;rw[δ,hd];show JH d.c=true/\_;rw[h];exact⟨rfl,rfl⟩
structure CnD(om:Om)(h:Heap)(a:Addr)(its:List ItD):Prop where
 ns:(a==sysModules)=false
 keys:∃(ys:List Str) (nm0:Nt) (L0:List Addr),(∃ds,h.get? a=some (dictOf ds ys.length)/\Ens om.w.params nm0 L0 (ys.map λy=>(y,AV.bool true)) ds)/\ys.Nodup/\∀x,x∈ys↔condOf its x
theorem cn_dict{l:List Nat}(hd:ao=.kset l\/(ao=.dict []/\l=[]))(q:OkP om (cnN nmD its) L' a ao o)(ho:h.get? a=some o)(h1:∀k∈l,bitB (its.map cB) k=true)(h2:∀k,k<its.length->bitB (its.map cB) k=true->k∈l):CnD om h a its:=by
 have lt:∀{k},bitB (its.map cB) k=true->k<its.length:=fun {k} e=>by
  by_cases z:k<its.length
  ·exact z
  ·unfold bitB at e
   rw[List.getElem?_eq_none (by rw[Ω];lia)]at e;exact nb e
 have key:∀x,(∃k∈l,(cnN nmD its).f k=x)↔condOf its x:=λx=>⟨λ⟨k,hk,e⟩=>by
  obtain ⟨d,nd,q1,q2⟩:=bitB_of (h1 k hk) (lt (h1 k hk));exact⟨d,Θ q1,nd,by rw[<-e,q2];exact Ja (λz=>some (z,nd)) (nrfG q1).symm⟩,λ⟨d,hm,nd,e⟩=>(mi_ hm).elim λk hk=>by
  have z:=bitB_to hk e;exact⟨k,h2 k (lt z.1) z.1,(nrfG hk).trans z.2⟩⟩
 rcases hd with rfl|⟨rfl,rfl⟩
 ·obtain ⟨ns,ys,ds,eo,en,nd,_,hy⟩:=q
  exact⟨ns,ys,cnN nmD its,L',⟨ds,eo▸ho,en⟩,nd,λx=>(hy x).trans (key x)⟩
 ·obtain ⟨ns,ds,eo,en⟩:=q
  exact⟨ns,[],cnN nmD its,L',⟨ds,eo▸ho,en⟩,ϑ,λx=>⟨λh=>absurd h Ξ,λh=>((key x).mpr h).elim λk r=>absurd r.1 Ξ⟩⟩
theorem idxL_mem{l:List AO}{o:AO}:∀{b i:Nat},l[i]?=some o->(b+i,o)∈ZJ l b:=by
 induction l with
 |nil=>exactλe=>no e
 |cons a l ih=>
  intro b i e;induction i using Nat.casesAuxOn with
  |zero=>cases e;exact .head _
  |succ i=>exact .tail _ ((show b+1+i=b+(i+1)by lia)▸ih (b:=b+1) e)
def newB(o:AO):Bool:=Option.rec (Option.rec false (λes=>JM (neL es)) (Zi o)) (λZ=>true) (vKset o)
theorem dat_idx{ks:List Nat}(s6:∀p∈ZJ Jx 0,S.get p.1=some p.2)(g:S.get j=some ao)(hd:ao=.kset ks\/(ao=.dict []/\ks=[])):6<=j:=by
 by_cases z:j<6
 ·have e:Jx[j]?=some (Jx[j]'z):=Φ z
  have q:S.get (0+j)=some (Jx[j]'z):=s6 _ (idxL_mem (b:=0) e);rw[Nat.zero_add]at q;have hm:Jx[j]'z∈Jx:=ο z;have nb2:newB (Jx[j]'z)=false:=JL (al_ (by rfl':(Jx.all λo=>JM (newB o))=true) _ hm);rw[<-oi (g.symm.trans q)]at nb2;rcases hd with rfl|⟨rfl,_⟩<;>exact nb nb2.symm
 ·lia
theorem cn_part{y:Wt G fs}(hk:k<2)(ok:Wu ps)(T:TrI G.om h0 nm1 L2 ps)(U:UB G.om.w.params ps)(hG:∀b o,h0.get? b=some o->G.hF.get? b=some o)(opi:∀i a,((ZI ps k).map λi=>Js L2 (iA i))[i]?=some a->G.nm.op (n+i)=a)(pt:Pt G.om A y.s 141)(hf2:A.frames=some (Jv fs++G.out))(P:PG y (pushV y.S (.list (ZD n (ZI ps k).length))) Q E):wpAny (Mdl G.om) A (call (.ref 246) [.ref (Js L2 (iA k))]) Q E y.s:=
 u_go (K:=0) hk pt hf2 (TrI.up T λb o e=>Wt.frz0 pt hf2 (hG b o e)) ok U λs' b af hn hf ⟨xs,n,h1,h2⟩=>PG.new P af hn hf h1 (OkP.lst (Ω (λi=>Js L2 (iA i))▸WU (as:=(ZI ps k).map λi=>Js L2 (iA i)) (us:=xs.toList) (by rw[h2,Jb];rfl) opi))
theorem cn_ora{y:Wt G fs}{args:List AV}(ok:Wu ps)(T:TrI G.om h0 nm1 L2 ps)(U:UB G.om.w.params ps)(hG:∀b o,h0.get? b=some o->G.hF.get? b=some o)(e0:G.nm.op 0=Js L2 (iA 0))(e1:G.nm.op 1=Js L2 (iA 1))(opi:∀i a,((Ze ps).map λi=>Js L2 (iA i))[i]?=some a->G.nm.op (20+i)=a)(pt:Pt G.om A y.s 141)(hf2:A.frames=some (Jv fs++G.out))(dd:Jq G.nm y.L args us)(P:PG y (cnOra (ZI ps 1).length (ZI ps 0).length a args y.S) Q E):wpAny (Mdl G.om) A (call (.ref a) us) Q E y.s:=
 PG.ifT P λha P=>P.sole λa1 e P=>P.ob λk hk P=>by
  cases nq ha;cases Yc hk;subst e;refine dd.one λw ew d1=>?_;cases d1;subst ew;have P:PG y (Bool.rec (ifT (Nat.beq k 1) (pushV y.S (.list (ZD 20 (ZI ps 1).length)))) (pushV y.S (.list (ZD (20+(ZI ps 1).length) (ZI ps 0).length))) (Nat.beq k 0)) Q E:=P;induction hk0:Nat.beq k 0 with
  |true=>
   rw[hk0]at P;cases nq hk0;rw[e0];refine cn_part (by decide) ok T U hG (λi z e=>?_) pt hf2 P;rw[Nat.add_assoc];refine opi _ _ ?_;show ((ZI ps 1++ZI ps 0).map _)[_]?=_;rw[List.map_append,ϝ (by rw[Ω];lia),Ω,Ψ];exact e
  |false=>
   rw[hk0]at P;refine PG.ifT P λhk1 P=>?_;cases nq hk1;rw[e1];refine cn_part (by decide) ok T U hG (λi z e=>opi _ _ ?_) pt hf2 P;show ((ZI ps 1++ZI ps 0).map _)[_]?=_;rw[List.map_append,List.getElem?_append_left (lt_ e)];exact e
theorem cn_ok{aD:Addr}(p:Pt om A s (K+282))(hfr:A.frames=some out)(D6:ObL om nmD s L6 L6 Jx)(g:Gin om s L6 out)(l6:L6[1]?=some aD)(B0:WL h0 out s)(nw6:∀a∈L6,h0.get? a=none)(ok:Wu ps)(T:TrI om h0 nm1 L2 ps)(U:UB om.w.params ps)(ei:its.map (·.ia)=(Ze ps).map λi=>Js L2 (iA i))(Hi:∀d∈its,ItOk om h0 d)(e0:nmD.op 0=Js L2 (iA 0))(e1:nmD.op 1=Js L2 (iA 1))
  (H:∀s' a,Aft L6 out s s'->ObL om nmD s' L6 L6 Jx->s.heap.get? a=none->Fre out [a]->CnD om s'.heap a its->Q (.ref a) s'):wpAny (Mdl om) A (call (.ref 557) [.ref aD]) Q E s:=by
 have len:its.length=2+ps.length:=by rw[<-U.len,<-Ω (f:=(·.ia)),ei,Ω]
 have l4:=ok.l4
 have l1:=ok.l1
 have lo:(ZI ps 1).length+(ZI ps 0).length=its.length:=by rw[len,<-U.len];exact(ς ..).symm
 have len6:L6.length=6:=D6.len
 have low:∀k,datQ k=true->(cnN nmD its).op k=nmD.op k:=λk hk=>by
  show cnOp nmD its k=_;unfold cnOp;rw[ZZ (Yg hk)]
 have D6':ObL om (cnN nmD its) s L6 L6 Jx:=D6.re low Zl
 have kn:=cn_kn (om:=om) (nmD:=nmD) (u:=λZ=>false) (own:=L6) (λd hd=>(Hi d hd).up λb o e=>g.kept B0 nw6 e) (by lia)
 have d0:Jq (cnN nmD its) L6 [.loc 1] [.ref aD]:=⟨_,_,rfl,⟨aD,l6,rfl⟩,rfl⟩
 have opi:∀i a,((Ze ps).map λi=>Js L2 (iA i))[i]?=some a->(cnN nmD its).op (20+i)=a:=λi a e=>by
  rw[<-ei,δ,Option.map_eq_some_iff]at e;obtain ⟨d,hd,rfl⟩:=e;have:=(lt_ hd);exact cnOp_i (by lia) hd
 refine go (n:=40) (nm:=cnN nmD its) (u:=λZ=>false) (own:=L6) (cx:=cnCx om.w.params (ZI ps 1).length (ZI ps 0).length (its.map cB)) (S:=JZ Jx) p hfr g (Beg.of D6' (stL datA_ok)) rfl (λh=>nb h) kn 141 (by lia) (λa args A2 fs y us Q2 E2 hm pt hf2 dd P=>cn_ora (y:=y) ok T U (λb o e=>g.kept B0 nw6 e) e0 e1 opi pt hf2 dd P) (cn_fi _) d0
  (Zy (cn_all om.w.params (walk_pos ps 1) (walk_pos ps 0) (by lia) (by lia) (by rw[Ω];exact lo.symm)) λo S1 hc=>?_)
 ·unfold cnC at hc
  induction e:(obO (Ya o) λa=>obO (Zh a) λj=>ksO S1 j)with
  |none=>rw[e]at hc;exact nb hc
  |some ks=>
   rw[e]at hc;refine Jr hc λc1 c2=>Jr c2 λc2 c3=>Jo e λv hv e=>Jo e λj hj e=>?_;have eo:o=.v (.loc j):=by
    induction o with
    |v b=>cases hv;rw[JQ hj]
    |_=>exact no hv
   refine⟨_,eo,λL1 s1 v1 B dv=>dv.loc_ λa ha ev=>ev▸?_⟩;have kd:∃ao,S1.get j=some ao/\(ao=.kset ks\/(ao=.dict []/\ks=[])):=by
    have e:(Option.rec (obO (gv Zi S1 j) λes=>ifO (JM (neL es)) (some [])) (λl=>some l) (gv vKset S1 j):Option (List Nat))=some ks:=e;induction q:gv vKset S1 j with
    |some l=>
     rw[q]at e;cases e;exact Jz q λao h1 h2=>⟨ao,h1,.inl (by revert h2;induction ao<;>first|exact no|exactλh2=>Ja _ (oi h2))⟩
    |none=>
     rw[q]at e;exact Jo e λes hes e=>Jt e λhn e=>Jz hes λao h1 h2=>⟨ao,h1,.inr ⟨by rw[ZB h2,neL_of hn],(oi e).symm⟩⟩
   obtain ⟨ao,gj,hd⟩:=kd;have s6:=Zx c1;have D7:ObL om (cnN nmD its) s1 L6 L6 Jx:=Wg len6 (ζ _) B.pre B.objs s6;have hj6:6<=j:=dat_idx s6 gj hd;refine H s1 a B.aft (D7.re (λk hk=>(low k hk).symm) Zl) (B.new j a (len6.symm▸hj6) ha) (B.fre.one (Θ ha)) (B.get gj ha λob hob q=>cn_dict hd q hob (λk hk=>al_ c2 k hk) λk hk hb=>?_);exact JV (orB_of (al_ c3 k (JD (by rw[Ω];exact hk))) (by rw[hb];rfl))
variable {B:Bd}{x:Sit B}{Q:SP Flow}{r:Cx->Cm->St->R}{t:Expr}{body:List Stmt}
def eachK(cx:Cx)(r:Cm->St->R)(f:FrA)(t:Expr)(i:Nat)(body:List Stmt)(S:St)(kk:St->R):R:=ifT (JM f.hd) (ifT (Wy S i t) (nextR cx S i (λS=>.ok .next S) λv S=>xo selN (r (.asg f t v) S) λZ S=>xF (Wc r f body S) kk))
theorem turn_ok(hr:Hr n r)(m:Rm B n)(ha:x.L[i]?=some ad){kk:St->R}(P:Jn x RF (eachK B.G.cx (r B.G.cx) B.f t i body x.S kk) Q E)(K:∀y:Sit B,x.le y->Jn y RF (kk y.S) Q E->codeAny (Md B) B.A (.forLoop t (.ref ad) body [] B.env) (Zt Q) y.s):codeAny (Md B) B.A (.forLoop t (.ref ad) body [] B.env) (Zt Q) x.s:=
 P.ifT λhh P=>P.ifT λht P=>forStep (next_ok ⟨λx' p P=>P.nextF,λx1 v u p1 d1 P=>hr.asg m d1 (P.xN λx2 p2 P=>xF_ok hr m P (λy p P=>K y (τ (τ p1 p2) p) P) λy u p q=>q)⟩ ht (B.hdl (JL hh)) ha P)
variable {Q:SP Value}{r:List AO}{x:Wt G fs}{args:List AV}
def leafN(ao:AO)(o:Out)(S:St):Bool:=Option.rec false (λj=>(Nat.ble 6 j&&Option.rec false (λa=>eqO a ao) (S.get j))&&JY S (ZJ Jx 0)) (obO (Ya o) Zh)
def leafV(v:AV)(o:Out)(S:St):Bool:=Option.rec false (λa=>eqV a v) (Ya o)&&JY S (ZJ Jx 0)
structure LeafN(ao:AO)(o:Out)(S:St)(j:Nat):Prop where
 e:o=.v (.loc j)
 j6:6<=j
 g:S.get j=some ao
 d:∀p∈ZJ Jx 0,S.get p.1=some p.2
theorem selV_of{o:Out}(h:Ya o=some v):o=.v v:=by
 induction o with
 |v b=>cases h;rfl
 |_=>exact no h
theorem leafN_of{o:Out}(h:leafN ao o S=true):∃j,LeafN ao o S j:=by
 unfold leafN at h;induction e:obO (Ya o) Zh with
 |none=>rw[e]at h;exact nb h
 |some j=>
  rw[e]at h;refine Jo e λa h1 h2=>Jr h λh h4=>Jr h λh3 h=>⟨j,JQ h2▸selV_of h1,nl h3,?_,Zx h4⟩;induction e2:S.get j with
  |none=>rw[e2]at h;exact nb h
  |some a=>rw[e2]at h;exact Ja some (eqO_of h)
theorem leafV_of{o:Out}(h:leafV v o S=true):o=.v v/\∀p∈ZJ Jx 0,S.get p.1=some p.2:=Jr h λh h4=>by
 induction e:Ya o with
 |none=>rw[e]at h;exact nb h
 |some a=>rw[e]at h;exact⟨(selV_of e).trans (Ja Out.v (eqV_of h)),Zx h4⟩
theorem Bk.dat{L1:List Addr}(D6:ObL om nm s L6 L6 Jx)(B:Bk om nm L6 out s S' L1 s')(h:∀p∈ZJ Jx 0,S'.get p.1=some p.2):ObL om nm s' L6 L6 Jx:=Wg D6.len (ζ _) B.pre B.objs h
theorem goN(p:Pt om A s (K+2*n+61+k))(hfr:A.frames=some out)(D6:ObL om nm s L6 L6 Jx)(g:Gin om s L6 out)(hP:cx.P=om.w.params)(lam:cx.lam=false)(kn:Zp om g.hF nm u L6 cx.kn)(ora:Wv (g.gd nm u cx k hP (λh=>nb (lam.symm.trans h)) kn))(hf:fnP om.w.params ad=some (fiP om.w.params ad))(d:Jq nm L6 args us)(hr:allL (leafN ao) (ZF (run cx n) false (fiP om.w.params ad) args (JZ Jx))=true)
  (H:∀s' a L' o,Aft L6 out s s'->ObL om nm s' L6 L6 Jx->s.heap.get? a=none->Fre out [a]->s'.heap.get? a=some o->OkP om nm L' a ao o->Q (.ref a) s'):wpAny (Mdl om) A (call (.ref ad) us) Q E s:=
 go (n:=n) p hfr g (Beg.of D6 (stL datA_ok)) hP (λh=>nb (lam.symm.trans h)) kn k (by lia) ora hf d (Zy hr λo S1 hc=>(leafN_of hc).elim λj q=>⟨_,q.e,λL1 s1 v B dv=>dv.loc_ λa ha ev=>ev▸B.get q.g ha λo ho ok=>H s1 a L1 o B.aft (B.dat D6 q.d) (B.new j a ((show L6.length=6 from D6.len)▸q.j6) ha) (B.fre.one (Θ ha)) ho ok⟩)
theorem goV(p:Pt om A s (K+2*n+61+k))(hfr:A.frames=some out)(D6:ObL om nm s L6 L6 Jx)(g:Gin om s L6 out)(hP:cx.P=om.w.params)(lam:cx.lam=false)(kn:Zp om g.hF nm u L6 cx.kn)(ora:Wv (g.gd nm u cx k hP (λh=>nb (lam.symm.trans h)) kn))(hf:fnP om.w.params ad=some (fiP om.w.params ad))(d:Jq nm L6 args us)(hr:allL (leafV v) (ZF (run cx n) false (fiP om.w.params ad) args (JZ Jx))=true)
  (H:∀s' L' w,Aft L6 out s s'->ObL om nm s' L6 L6 Jx->Den nm L' v w->Q w s'):wpAny (Mdl om) A (call (.ref ad) us) Q E s:=
 go (n:=n) p hfr g (Beg.of D6 (stL datA_ok)) hP (λh=>nb (lam.symm.trans h)) kn k (by lia) ora hf d (Zy hr λo S1 hc=>⟨_,(leafV_of hc).1,λL1 s1 w B dv=>H s1 L1 w B.aft (B.dat D6 (leafV_of hc).2) dv⟩)
def ixK(n k:Nat):Option Nat:=Bool.rec (ifO (Nat.blt k 2) (some k)) (ifO (Nat.blt k (20+n)) (some (k-20))) (Nat.ble 20 k)
def chA(ps:List Nat)(i:Nat)(x:Str):Option AV:=Bool.rec (Bool.rec none (some (Option.rec .none (λp=>.op (20+p)) (parO ps i))) (sEq x "parent")) (some (.sym 0 i)) (sEq x "name")
def chKn(ps:List Nat):Kn:={oatt:=λk x=>obO (ixK (2+ps.length) k) λi=>chA ps i x,same:=λa b=>obO (ixK (2+ps.length) a) λi=>obO (ixK (2+ps.length) b) λj=>some (Nat.beq i j)}
def chCx(P:Params)(ps:List Nat):Cx:={cx0 P with kn:=chKn ps}
def ancF(ps:List Nat)(n:Nat):Nat->List Nat:=Nat.rec (motive:=λZ=>Nat->List Nat) (λZ=>[]) (λZ ih i=>Option.rec [] (λp=>p::ih p) (parO ps i)) n
def anc(ps:List Nat)(i:Nat):List Nat:=ancF ps 7 i
def fileS(ps:List Nat)(i:Nat):Str:=Bool.rec "" "F-1" (JN 1 (i::anc ps i))
def chB(P:Params)(ps:List Nat):Bool:=(JW (2+ps.length)).all λi=>allL (leafN (.list ((anc ps i).map λj=>.sym 0 j))) (ZF (run (chCx P ps) 30) false (fiP P 272) [.op (20+i)] (JZ Jx))&&allL (leafV (.str (fileS ps i))) (ZF (run (chCx P ps) 30) false (fiP P 327) [.loc 1,.op (20+i)] (JZ Jx))
theorem ch_ix{n k i:Nat}(h:ixK n k=some i)(k0:k<2->i=k->C)(k1:i<n->k=20+i->C):C:=by
 unfold ixK at h;induction e:Nat.ble 20 k with
 |true=>
  rw[e]at h;refine Jt h λh1 h=>?_;obtain ⟨j,rfl⟩:=Ϟ (nl e);have h1:20+j<20+n:=nl h1;rw[Ψ]at h;cases h;exact k1 (by lia) rfl
 |false=>rw[e]at h;exact Jt h λh1 h=>by cases h;exact k0 (nl h1) rfl
def chOp(nmD:Nt)(L2:List Addr)(k:Nat):Addr:=Bool.rec (nmD.op k) (Js L2 (iA (k-20))) (Nat.ble 20 k)
def chN(f:Nat->Str)(nmD:Nt)(L2:List Addr):Nt:=⟨nmS f,chOp nmD L2⟩
theorem chOp_i(i:Nat):chOp nmD L2 (20+i)=Js L2 (iA i):=by unfold chOp;rw[Zj (show 20<=20+i by lia),Ψ]
theorem chOp_k(hk:k<20):chOp nmD L2 k=nmD.op k:=by unfold chOp;rw[ZZ hk]
theorem iA_inj(h:iA i=iA j):i=j:=by
 match i,j with
 |0,0=>rfl
 |1,1=>rfl
 |0,1=>exact nomatch h
 |1,0=>exact nomatch h
 |0,j+2=>have h:11=12+9*(j+2):=h;lia
 |1,j+2=>have h:16=12+9*(j+2):=h;lia
 |i+2,0=>have h:12+9*(i+2)=11:=h;lia
 |i+2,1=>have h:12+9*(i+2)=16:=h;lia
 |i+2,j+2=>have h:12+9*(i+2)=12+9*(j+2):=h;lia
theorem ch_op(e0:nmD.op 0=Js L2 (iA 0))(e1:nmD.op 1=Js L2 (iA 1))(hi:ixK (2+n) k=some i)(K:i<2+n->(chN f nmD L2).op k=Js L2 (iA i)->C):C:=
 ch_ix hi (λh e=>by
  subst e;refine K (by lia) ((chOp_k (by lia)).trans ?_);match i,h with
  |0,_=>exact e0
  |1,_=>exact e1) λh e=>K h (e▸chOp_i i)
theorem ch_kn(T:TrI om h (dtN f) L2 ps)(ok:Wu ps)(nf:∀t,t<ps.length->f t∈JG 3)(nd:L2.Nodup)(e0:nmD.op 0=Js L2 (iA 0))(e1:nmD.op 1=Js L2 (iA 1)):Zp om h (chN f nmD L2) u own (chKn ps):={kn0 with
 same:=λa b q e=>Jo e λi hi e=>Jo e λj hj e=>ch_op (f:=f) e0 e1 hi λli ei=>ch_op (f:=f) e0 e1 hj λlj ej=>by
  cases e;have ob:∀{i},i<2+ps.length->L2[iA i]?=some (Js L2 (iA i))/\∃c d,h.get? (Js L2 (iA i))=some (instObj c d):=fun {i} li=>(T.at_ li tree_i ((frJ ok.l4).i i li).a).elim λo g=>⟨g.1,OkP.inst_ g.2.2 λad Z eo=>⟨_,_,eo▸g.2.1⟩⟩;refine⟨?_,?_⟩
  ·rw[ei,ej]
   induction q:Nat.beq i j with
   |true=>exact(decide_eq_true (by rw[nq q])).symm
   |false=>exact(ϡ λ(z:Js L2 (iA i)=Js L2 (iA j))=>ε q (iA_inj (Ju nd (ob li).1 (z▸(ob lj).1)))).symm
  ·rw[ei,ej]
   exact(ob li).2.elim λc r=>r.elim λd r=>(ob lj).2.elim λc' r'=>r'.elim λd' r'=>⟨c,d,c',d',r,r'⟩
 oatt:=λk x v e=>Jo e λi hi e=>ch_op (f:=f) e0 e1 hi λli ei=>by
  unfold chA at e;induction h1:sEq x "name" with
  |true=>
   rw[h1]at e;cases e;cases Jw h1;exact T.att ok li ei (z:=nmA i) (by rfl') (by rfl') (nmS_cs (i:=i) (f:=f) (λe=>by subst e;rfl) (λe=>by subst e;rfl) λZ Z Z e=>by rw[e];rfl) λy dy L hL=>nmA_den rfl dy
  |false=>
   rw[h1]at e;induction h2:sEq x "parent" with
   |false=>rw[h2]at e;exact no e
   |true=>
    rw[h2]at e;cases e;cases Jw h2;refine T.att ok li ei (z:=Option.rec .none (λp=>.loc (iA p)) (parO ps i)) (by rfl') (by rfl') (by cases parO ps i<;>rfl) λy dy L hL=>?_;induction e:parO ps i with
    |none=>rw[e]at dy;exact dy
    |some p=>rw[e]at dy;exact dy.loc_ λa ha ey=>by show y=.ref (chOp nmD L2 (20+p));rw[chOp_i,ey,<-Jy ha]}
theorem na_fi(P:Params):fnP P 272=some (fiP P 272):=by rfl'
theorem fo_fi(P:Params):fnP P 327=some (fiP P 327):=by rfl'
structure ChB(P:Params)(ps:List Nat)(i:Nat):Prop where
 na:allL (leafN (.list ((anc ps i).map λj=>.sym 0 j))) (ZF (run (chCx P ps) 30) false (fiP P 272) [.op (20+i)] (JZ Jx))=true
 fo:allL (leafV (.str (fileS ps i))) (ZF (run (chCx P ps) 30) false (fiP P 327) [.loc 1,.op (20+i)] (JZ Jx))=true
theorem chB_of(h:chB P ps=true)(hi:i<2+ps.length):ChB P ps i:=Jr (al_ h i (JD hi)) λa b=>⟨a,b⟩
variable {aD:Addr}
theorem na_ok(B:ChB om.w.params ps i)(p:Pt om A s (K+121))(hfr:A.frames=some out)(D6:ObL om nmD s L6 L6 Jx)(g:Gin om s L6 out)(B0:WL h0 out s)(nw6:∀a∈L6,h0.get? a=none)(ok:Wu ps)(T:TrI om h0 (dtN f) L2 ps)(nf:∀t,t<ps.length->f t∈JG 3)(nd:L2.Nodup)(e0:nmD.op 0=Js L2 (iA 0))(e1:nmD.op 1=Js L2 (iA 1))
  (H:∀s' a L' o,Aft L6 out s s'->ObL om nmD s' L6 L6 Jx->s.heap.get? a=none->Fre out [a]->s'.heap.get? a=some o->OkP om (chN f nmD L2) L' a (.list ((anc ps i).map λj=>.sym 0 j)) o->Q (.ref a) s'):wpAny (Mdl om) A (call (.ref 272) [.ref (Js L2 (iA i))]) Q E s:=by
 have low:∀k,datQ k=true->(chN f nmD L2).op k=nmD.op k:=λk hk=>chOp_k (Yg hk)
 have kn:=ch_kn (u:=λZ=>false) (own:=L6) (T.up λb o e=>g.kept B0 nw6 e) ok nf nd e0 e1
 exact goN (K:=K) (n:=30) (k:=0) (cx:=chCx om.w.params ps) p hfr (D6.re low Zl) g rfl rfl kn (ora0 λZ=>rfl) (na_fi _) (args:=[.op (20+i)]) ⟨_,_,rfl,Ja Value.ref (chOp_i i).symm,rfl⟩ B.na λs' a L' o af D hn hf ho ok=>H s' a L' o af (D.re (λk hk=>(low k hk).symm) Zl) hn hf ho ok
theorem fo_ok(B:ChB om.w.params ps i)(p:Pt om A s (K+121))(hfr:A.frames=some out)(D6:ObL om nmD s L6 L6 Jx)(g:Gin om s L6 out)(B0:WL h0 out s)(nw6:∀a∈L6,h0.get? a=none)(ok:Wu ps)(T:TrI om h0 (dtN f) L2 ps)(nf:∀t,t<ps.length->f t∈JG 3)(nd:L2.Nodup)(e0:nmD.op 0=Js L2 (iA 0))(e1:nmD.op 1=Js L2 (iA 1))(l6:L6[1]?=some aD)
  (H:∀s' t,Aft L6 out s s'->ObL om nmD s' L6 L6 Jx->Q (.str (fileS ps i) t) s'):wpAny (Mdl om) A (call (.ref 327) [.ref aD,.ref (Js L2 (iA i))]) Q E s:=by
 have low:∀k,datQ k=true->(chN f nmD L2).op k=nmD.op k:=λk hk=>chOp_k (Yg hk)
 have kn:=ch_kn (u:=λZ=>false) (own:=L6) (T.up λb o e=>g.kept B0 nw6 e) ok nf nd e0 e1
 exact goV (K:=K) (n:=30) (k:=0) (cx:=chCx om.w.params ps) p hfr (D6.re low Zl) g rfl rfl kn (ora0 λZ=>rfl) (fo_fi _) (args:=[.loc 1,.op (20+i)]) ⟨_,_,rfl,⟨aD,l6,rfl⟩,_,_,rfl,Ja Value.ref (chOp_i i).symm,rfl⟩ B.fo λs' L' w af D dw=>dw.str_ λt e=>e▸H s' t af (D.re (λk hk=>(low k hk).symm) Zl)
theorem dens_opsI:∀{as:List Addr} {us:List Value} {b:Nat},Jq nm L (ZD b as.length) us->(∀i a,as[i]?=some a->nm.op (b+i)=a)->us=as.map Value.ref:=by
 intro v0_;induction v0_ with
 |nil=>
  intro Z Z e Z;exact e
 |cons a as ih=>
  intro Z b y3_ H;obtain ⟨w,r,e,d,ds⟩:=y3_;rw[e,ih ds λi z hz=>(Ja nm.op (by lia)).trans (H (i+1) z hz),show w=_ from d];exact Ja (·::_) (Ja Value.ref (H 0 a rfl))
def aiCx(P:Params)(nP nW:Nat):Cx:={cx0 P with sp:=[246],ora:=cnOra nP nW}
def aiB(P:Params)(nP nW:Nat):Bool:=allL (leafN (.list (ZD 20 (nP+nW)))) (ZF (run (aiCx P nP nW) 40) false (fiP P 253) [.loc 1] (JZ Jx))
theorem ai_runs(P:Params):((JW 6).all λp=>(JW 6).all λw=>orB (JM (cnR p w)) (aiB P p w))=true:=by rfl'
theorem ai_fi(P:Params):fnP P 253=some (fiP P 253):=by rfl'
def aiOp(nmD:Nt)(as:List Addr)(k:Nat):Addr:=Bool.rec (nmD.op k) (Js as (k-20)) (Nat.ble 20 k)
def itA(L2:List Addr)(ps:List Nat):List Addr:=(Ze ps).map λi=>Js L2 (iA i)
theorem ai_ok(p:Pt om A s (K+282))(hfr:A.frames=some out)(D6:ObL om nmD s L6 L6 Jx)(g:Gin om s L6 out)(l6:L6[1]?=some aD)(B0:WL h0 out s)(nw6:∀a∈L6,h0.get? a=none)(ok:Wu ps)(T:TrI om h0 nm1 L2 ps)(U:UB om.w.params ps)(e0:nmD.op 0=Js L2 (iA 0))(e1:nmD.op 1=Js L2 (iA 1))
  (H:∀s' a,Aft L6 out s s'->ObL om nmD s' L6 L6 Jx->s.heap.get? a=none->Fre out [a]->(∃xs n,s'.heap.get? a=some (listOf xs n)/\xs.toList=(itA L2 ps).map Value.ref)->Q (.ref a) s'):wpAny (Mdl om) A (call (.ref 253) [.ref aD]) Q E s:=by
 have l4:=ok.l4
 have l1:=ok.l1
 have lo:(ZI ps 1).length+(ZI ps 0).length=(itA L2 ps).length:=by unfold itA;rw[Ω];exact(ς ..).symm
 have len:(itA L2 ps).length=2+ps.length:=by unfold itA;rw[Ω,U.len]
 have low:∀k,datQ k=true->aiOp nmD (itA L2 ps) k=nmD.op k:=λk hk=>by unfold aiOp;rw[ZZ (Yg hk)]
 have opi:∀i a,(itA L2 ps)[i]?=some a->aiOp nmD (itA L2 ps) (20+i)=a:=λi a e=>by
  unfold aiOp;rw[Zj (show 20<=20+i by lia),Ψ];exact Jy e
 have w1:=walk_pos ps 1
 have w0:=walk_pos ps 0
 have hc:=cnR_of w1 w0 (by lia) (by lia)
 refine goN (K:=K) (n:=40) (k:=141) (nm:=⟨λZ=>"",aiOp nmD (itA L2 ps)⟩) (u:=λZ=>false) (cx:=aiCx om.w.params (ZI ps 1).length (ZI ps 0).length) p hfr (D6.re low Zl) g rfl rfl kn0 (λa args A2 fs y us Q2 E2 hm pt hf2 dd P=>cn_ora (y:=y) ok T U (λb o e=>g.kept B0 nw6 e) ((low 0 rfl).trans e0) ((low 1 rfl).trans e1) opi pt hf2 dd P) (ai_fi _) (args:=[.loc 1]) ⟨_,_,rfl,⟨aD,l6,rfl⟩,rfl⟩ (orB_of (al_ (al_ (ai_runs om.w.params) _ (JD (by lia))) _ (JD (by lia))) (by rw[hc];rfl)) λs' a L' o af D hn hf ho ok=>?_
 rw[lo]at ok
 exact H s' a af (D.re (λk hk=>(low k hk).symm) Zl) hn hf (ok.list_ λxs n eo dd=>⟨xs,n,eo▸ho,dens_opsI dd opi⟩)
def exsK(r:Cm->St->R)(f:FrA)(kk:St->R)(ss:List Stmt):St->R:=List.rec (motive:=λZ=>St->R) kk (λs Z ih S=>onF (r (.ex f s) S) ih) ss
def headK(cx:Cx)(r:Cm->St->R)(f:FrA)(it:Expr)(chk:Nat->St->Bool)(S:St):R:=onV (r (.ev f it) S) λv S=>iterR cx S v λj S=>ifT (chk j S) (.ok (.vs []) S)
variable {Q:SP Flow}{r:Cx->Cm->St->R}{rest:List Stmt}{kk:St->R}
theorem exs_K(hr:Hr n r)(m:Rm B n):∀{ss:List Stmt} {x:Sit B},Jn x RF (exsK (r B.G.cx) B.f kk ss x.S) Q E->(∀y:Sit B,x.le y->Jn y RF (kk y.S) Q E->wpAny (Md B) B.A (execs rest B.env) Q E y.s)->wpAny (Md B) B.A (execs (ss++rest) B.env) Q E x.s:=by
 intro v0_;induction v0_ with
 |nil=>
  intro x P h;exact h x (Sit.le.refl x) P
 |cons st ss ih=>
  intro x P h;exact wpAny_execs_cons (hr.ex m (Jn.seq (K:=thenO (exsK (r B.G.cx) B.f kk ss)) P λy o p P=>⟨λu ru=>ru.el (λe1 e2=>by subst e1;subst e2;exact ih P λz q=>h z (τ p q)) λa v e1 e2 d=>by subst e1;subst e2;exact P.retF d,λi ad e ha=>by subst e;exact P.exc ha⟩))
variable {f:FrA}{ss:List Stmt}{it:Expr}{pos:Pos}
theorem goH{chk:Nat->St->Bool}(hfr:A.frames=some (env::out))(hdl:A.handled=none)(room:Room A (2*n+60+k))(g:Gin om s own out)(b:Beg om nm s own S)(hP:cx.P=om.w.params)(tb:cx.lam=true->tbs<+:own)(kn:Zp om g.hF nm u own cx.kn)(ora:Wv (g.gd nm u cx k hP tb kn))
  (F:ZA own f env) (hcp:f.cp=false) (hhe:f.he=none) (ns:∃es,S.get f.l=some (.ns es)) (hs:notSet it=true) (P:WJ u (exsK (run cx n) f (headK cx (run cx n) f it chk) ss S) λo Z=>o=.vs [])
  (K:∀S' L' s' j aj,Bk om nm own out s S' L' s'->L'[j]?=some aj->chk j S'=true->codeAny (Mdl om) A (.forLoop t (.ref aj) body [] env) (Zt (Rest (Mdl om) A rest env Q E)) s'):wpAny (Mdl om) A (execs (ss++.For t it body [] pos::rest) env) Q E s:=
 exs_K (B:=g.bd hfr hdl hP tb kn k hcp) (x:=g.sit b hfr hdl hP tb kn k F hcp hhe ns) (r:=λcx=>run cx n) (Wl n) ⟨room,ora⟩ (WJ.post P λo S1 h x' q e=>⟨λw r=>r.el (λz=>nomatch h.symm.trans z) λa' v z=>(nomatch h.symm.trans z),λi z=>nomatch h.symm.trans z⟩) λy q P=>
  wpAny_execs_cons (wpAny_For ((Wl n).ev (B:=g.bd hfr hdl hP tb kn k hcp) ⟨room,ora⟩ (Jn.onV P λx1 a w p1 d1 P=>iterR_ok P d1 λx2 j aj p2 hj P=>own_done (P.ifT λhc Z=>K x2.S x2.L x2.s j aj (g.end_ x2.r) hj hc))) (WN hs))
theorem goT{S1:St}(hfr:A.frames=some (env::out))(hdl:A.handled=none)(room:Room A (2*n+60+k))(g:Gin om s own out)(b:Beg om nm s own S)(hP:cx.P=om.w.params)(tb:cx.lam=true->tbs<+:own)(kn:Zp om g.hF nm u own cx.kn)(ora:Wv (g.gd nm u cx k hP tb kn))
  (F:ZA own f env) (hcp:f.cp=false) (hhe:f.he=none) (ns:∃es,S.get f.l=some (.ns es)) (ha:own[i]?=some ad) (P:∀kk,eachK cx (run cx n) f t i body S kk=kk S1)
  (K:∀L' s',Bk om nm own out s S1 L' s'->codeAny (Mdl om) A (.forLoop t (.ref ad) body [] env) (Zt Q) s'):codeAny (Mdl om) A (.forLoop t (.ref ad) body [] env) (Zt Q) s:=
 turn_ok (B:=g.bd hfr hdl hP tb kn k hcp) (x:=g.sit b hfr hdl hP tb kn k F hcp hhe ns) (r:=λcx=>run cx n) (E:=λZ Z=>False) (kk:=λS=>@ite _ (S=S1) (Classical.propDecidable _) (.ok (.vs []) S) .no) (Wl n) ⟨room,ora⟩ ha (by
  show Jn _ RF (eachK cx (run cx n) f t i body S _) Q _;rw[P,if_pos rfl];exactλx' q e=>⟨λw r=>r.el (λz=>nomatch z) λa' v z=>(nomatch z),λi a z=>nomatch z⟩) λy q P=>by
  by_cases h:y.S=S1
  ·exact K y.L y.s (h▸g.end_ y.r)
  ·rw[if_neg h]at P;exact P.elim
theorem goE{S1:St}(hfr:A.frames=some (env::out))(hdl:A.handled=none)(room:Room A (2*n+60+k))(g:Gin om s own out)(b:Beg om nm s own S)(hP:cx.P=om.w.params)(tb:cx.lam=true->tbs<+:own)(kn:Zp om g.hF nm u own cx.kn)(ora:Wv (g.gd nm u cx k hP tb kn))
  (F:ZA own f env) (hcp:f.cp=false) (hhe:f.he=none) (ns:∃es,S.get f.l=some (.ns es)) (ha:own[i]?=some ad) (P:eachK cx (run cx n) f t i body S (λZ=>.no)=.ok .next S1)
  (K:∀L' s',Bk om nm own out s S1 L' s'->Q .next s'):codeAny (Mdl om) A (.forLoop t (.ref ad) body [] env) (Zt Q) s:=
 turn_ok (B:=g.bd hfr hdl hP tb kn k hcp) (x:=g.sit b hfr hdl hP tb kn k F hcp hhe ns) (r:=λcx=>run cx n) (E:=λZ Z=>False) (kk:=λZ=>.no) (Wl n) ⟨room,ora⟩ ha (by
  show Jn _ RF (eachK cx (run cx n) f t i body S _) Q _;rw[P];exactλx' q e=>⟨λw r=>r.el (λZ z=>z▸K x'.L x'.s (e▸g.end_ x'.r)) λa' v z=>(nomatch z),λi a z=>nomatch z⟩) λy q P=>P.elim
theorem kk_of{c1:R}{g:St->R}{S1:St}(h:xo selN c1 (λZ S=>xF (g S) λS=>.ok (.vs []) S)=.ok (.vs []) S1)(kk:St->R):xo selN c1 (λZ S=>xF (g S) kk)=kk S1:=by
 have h2:∀{c:R},xF c (λS=>.ok (.vs []) S)=.ok (.vs []) S1->xF c kk=kk S1:=fun {c} h=>by
  induction c with
  |no=>exact R.noConfusion h
  |ask _ _ _=>exact R.noConfusion h
  |ok o S=>induction o with
   |next=>have h:R.ok (.vs []) S=.ok (.vs []) S1:=h;cases h;rfl
   |_=>first|exact R.noConfusion h|(have h:R.ok _ S=.ok (.vs []) S1:=h;cases h)
 induction c1 with
 |no=>exact R.noConfusion h
 |ask _ _ _=>exact R.noConfusion h
 |ok o S=>induction o with
  |next=>exact h2 h
  |_=>exact R.noConfusion h
theorem lio_next{l k:Nat}{vs:List AV}{v:AV}{S1:St}{done:St->R}{go:AV->St->R}(h1:S.get i=some (.lio l k))(h2:obO (cx.kn.sob l) Zc=some vs)(h3:vs[k]?=some v)(h4:S.set i (.lio l (k+1))=some S1):nextR cx S i done go=go v S1:=by
 unfold nextR;rw[h1];show ob (obO (cx.kn.sob l) Zc) (λvs=>seqN S i vs k (.lio l (k+1)) done go)=_;rw[h2];show seqN S i vs k (.lio l (k+1)) done go=_;unfold seqN setR;rw[h3,h4];rfl
theorem lio_end{l k:Nat}{vs:List AV}{S1:St}{done:St->R}{go:AV->St->R}(h1:S.get i=some (.lio l k))(h2:obO (cx.kn.sob l) Zc=some vs)(h3:vs[k]?=none)(h4:S.set i .dead=some S1):nextR cx S i done go=done S1:=by
 unfold nextR;rw[h1];show ob (obO (cx.kn.sob l) Zc) (λvs=>seqN S i vs k (.lio l (k+1)) done go)=_;rw[h2];show seqN S i vs k (.lio l (k+1)) done go=_;unfold seqN setR;rw[h3,h4];rfl
variable {Q:SP Value}{r:List AO}
theorem ObL.app{l2:List Addr}:∀{l:List Addr} {aos:List AO},ObL om nm s L l aos->ObL om nm s L l2 r->ObL om nm s L (l++l2) (aos++r)
 |[],_,h,h2=>by cases h;exact h2
 |_::_,[],h,_=>h.elim
 |_::_,_::_,h,h2=>⟨h.1,ObL.app h.2 h2⟩
theorem ObL.mono(p:L<+:L'):∀{l:List Addr} {aos:List AO},ObL om nm s L l aos->ObL om nm s L' l aos
 |[],_,h=>h
 |_::_,[],h=>h.elim
 |_::_,_::_,h=>⟨h.1.imp λo g=>⟨g.1,g.2.mono p⟩,ObL.mono p h.2⟩
theorem Wt.base(x:Wt G fs):WL G.hF (Jv fs++G.out) x.s:=⟨λb o e=>x.r.keep b o e,λa o e e' he b hb hm=>by
 cases ms_ hm;refine(ma_ he).elim (λhe=>(x.frm he).elim λf r=>?_) λhe=>(G.oute e' he).2.elim λp r=>?_
 ·cases r.2.1.symm.trans hb
  exact no ((x.r.new _ (Θ r.2.2.1)).symm.trans e)
 ·cases r.2.symm.trans hb
  exact no ((G.outn p r.1).1.symm.trans e)⟩
structure WK(L6:List Addr)(x:Wt G fs):Prop where
 len:L6.length=6
 pre:L6<+:x.L
 g:∀p∈ZJ Jx 0,x.S.get p.1=some p.2
theorem WK.of(x:Wt G fs)(h6:L6.length=6)(h:L6<+:G.own)(g:JY x.S (ZJ Jx 0)=true):WK L6 x:=⟨h6,τ h x.r.own,Zx g⟩
theorem WK.ob(D:WK L6 x):ObL G.om G.nm x.s L6 L6 Jx:=Wg D.len (ζ _) D.pre x.r.objs D.g
theorem dat_at(h:j<6):∃ao,Jx[j]?=some ao/\∀es,ao≠.ns es:=by
 have e:Jx[j]?=some (Jx[j]'h):=Φ h;refine⟨_,e,λes z=>?_⟩;have q:JH (vNs (Jx[j]'h))=false:=JL (al_ (by rfl':(Jx.all λo=>JM (JH (vNs o)))=true) _ (ο h));rw[z]at q;exact nb q.symm
theorem WK.get(D:WK L6 x)(e:Jx[j]?=some ao):x.S.get j=some ao:=Nat.zero_add j▸D.g (0+j,ao) (idxL_mem (b:=0) e)
theorem WK.gin{k:Nat}(D:WK L6 x)(p:Pt G.om A x.s k)(hfr:A.frames=some (Jv fs++G.out)):Gin G.om x.s L6 (Jv fs++G.out):=
 p.gin hfr (x.r.nd.sublist D.pre.sublist) (λa h=>x.hb (D.pre.subset h)) (x.fre λa h=>(mi_ h).elim λi hi=>(dat_at (D.len▸(lt_ hi))).elim λao q=>⟨i,ao,Jp D.pre hi,D.get q.1,q.2⟩)
theorem WK.nw(D:WK L6 x):∀a∈L6,G.hF.get? a=none:=λa h=>x.r.new a (D.pre.subset h)
theorem WK.back(D:WK L6 x)(D':ObL G.om G.nm s' L6 L6 Jx)(af:Aft L6 (Jv fs++G.out) x.s s')(hL:Ex2 G x.L L')(hn:L'.length=S'.n)(h:∀j,j<x.S.n->S'.get j=x.S.get j)(nw:∀j,x.S.n<=j->j<S'.n->∃ao,S'.get j=some ao/\Obs G s'.heap L' j ao)(big:∀j,S'.n<=j->S'.get j=x.S.get j):Rep G S' L' s':=
 x.after (λa h=>D.pre.subset h) af hL hn (λj=>by
  by_cases q:j<x.S.n
  ·by_cases q6:j<6
   ·exact .inr ((dat_at q6).elim λao z=>⟨ao,(h j q).trans (D.get z.1),(D'.get z.1).elim λa r=>r.elim λo r=>⟨a,o,Jp hL.pre (Jp D.pre r.1),r.2.1,r.2.2.mono (τ D.pre hL.pre)⟩⟩)
   ·exact .inl ⟨h j q,λb hb hm=>q6 ((mi_ hm).elim λi hi=>by
     cases Ju x.r.nd (Jp D.pre hi) hb;exact D.len▸(lt_ hi))⟩
  ·by_cases q2:j<S'.n
   ·exact .inr (nw j (Jf q) q2)
   ·exact .inl ⟨big j (Jf q2),λb hb=>absurd (lt_ hb) (by rw[x.r.len];exact q)⟩) λj h1 h2=>(nw j h1 h2).imp λao r=>r.1
theorem WK.val(D:WK L6 x)(P:PG x (.ok (.v v) x.S) Q E)(D':ObL G.om G.nm s' L6 L6 Jx)(af:Aft L6 (Jv fs++G.out) x.s s')(d:Den G.nm x.L v w):Q w s':=
 (P (x.to (D.back D' af (.of (.inl rfl)) x.r.len (λZ Z=>rfl) (λj h1 h2=>absurd h2 (ϖ h1)) λZ Z=>rfl) (ζ _) λi es e=>⟨es,e⟩) (ζ _) rfl).1 v w rfl d
theorem WK.new(D:WK L6 x)(P:PG x (pushV x.S ao) Q E)(D':ObL G.om G.nm s' L6 L6 Jx)(af:Aft L6 (Jv fs++G.out) x.s s')(hn:x.s.heap.get? ad=none)(hf:Fre (Jv fs++G.out) [ad])(ho:s'.heap.get? ad=some o)(ok:OkP G.om G.nm (x.L++[ad]) ad ao o):Q (.ref ad) s':=
 P.ob λS1 e P=>by
  have C:=St.push_get e;have N:New G x.L ad:=⟨λhL=>x.r.live hL λZ Z o Z Z e Z=>no (hn.symm.trans e),by
   induction e:G.hF.get? ad with
   |none=>rfl
   |some o=>exact no (hn.symm.trans (x.r.keep _ o e)),λp hp e=>(x.r.outs p hp).2.elim λo q=>no (hn.symm.trans (e▸q.1))⟩
  have p:x.L<+:x.L++[ad]:=θ _ _;have q:(x.L++[ad])[x.S.n]?=some ad:=x.r.len▸ZE x.L _;have R:=D.back (S':=S1) (L':=x.L++[ad]) D' af (.of (.inr ⟨_,rfl,N⟩)) (by rw[ς,C.n,x.r.len];rfl) (λj hj=>C.other j (Jl hj)) (λj h1 h2=>by
   cases Nat.le_antisymm (Je (Ϛ h2 (Nat.le_of_eq C.n))) h1;exact⟨ao,C.self,ad,o,q,ho,ok⟩) λj hj=>C.other j (Nat.ne_of_gt (Ϛ (Nat.lt_succ_self _) (Jk (Nat.le_of_eq C.n.symm) hj)))
  exact(P (x.to R p (C.ns λes z=>(x.r.objs _ _ z).el λZ Z r Z Z=>absurd (lt_ r) (by rw[x.r.len];exact Jj _))) p rfl).1 _ _ rfl ⟨ad,q,rfl⟩
theorem Gin.kep(g:Gin om s own out)(e:g.hF.get? b=some o):b∉own/\Fre out [b]/\s.heap.get? b=some o:=by
 have h1:b∉own++g.outm.map (·.1):=λhm=>no ((ZL hm).symm.trans e)
 exact⟨λh=>h1 (μ _ h),λe he a hf hm=>h1 (ξ _ ((g.oute e he).2.elim λq r=>by
  cases r.2.symm.trans hf;exact(ms_ hm)▸ϕ r.1)),hides_sub e⟩
theorem Gin.grow(g:Gin om s own out)(B:Bk om nm own out s S' L' s')(g':Gin om s' own out)(e:g.hF.get? b=some o):g'.hF.get? b=some o:=
 g'.stays b o (g.kep e).1 (g.kep e).2.1 (B.aft.keep b o (g.kep e).1 (g.kep e).2.1 (g.kep e).2.2)
def snEs(ord:List Nat):List (Str×AV):=ord.map λc=>(kyN c,.op (30+c))
structure Cb where
 cd:Option Nat
 inN:Bool
 ord:List Nat
 n:Nat
 m:Nat
def tnOra(m a:Nat)(args:List AV)(S:St):R:=Bool.rec (ifT (Nat.beq a 327) (ifT (Ww args [.loc 1,.op 20]&&JY S (ZJ Jx 0)) (.ok (.v (.sym 2 101)) S))) (ifT (Ww args [.op 20]&&JY S (ZJ Jx 0)) (pushV S (.list (sy0 200 m)))) (Nat.beq a 272)
def tnKn(vs:List AV)(c:Cb):Kn:={
 sob:=λk=>Bool.rec (Bool.rec (obO c.cd λx=>ifO (Nat.beq k (30+x)&&Nat.blt 0 c.n) (some (.list (ZD 40 c.n)))) (some (.list (Option.rec [] (λZ=>[.op 22]) c.cd))) (Nat.beq k 21)) (some (.list vs)) (Nat.beq k 2)
 oatt:=λk y=>Bool.rec (ifO (Nat.beq k 22) (obO c.cd λx=>ifO (sEq y "name") (some (.str (kyN x))))) (Bool.rec (ifO (sEq y "name") (some (.sym 0 100))) (some (.op 21)) (sEq y "conditions")) (Nat.beq k 20)
 smem:=λk y=>ifO (Nat.beq k 3) (obO c.cd λx=>ifO (sEq y (kyN x)) (some c.inN))}
def tnCx(P:Params)(vs:List AV)(c:Cb):Cx:={cx0 P with kn:=tnKn vs c,sp:=[272,327],ora:=tnOra c.m}
def tnS(k:Nat)(ord:List Nat):St:=JZ (Jx++[.ns [("data",.loc 1),("names",.op 3),("found",.loc 8)],.lio 2 k,.dict (snEs ord)])
def forB(s:Stmt):PySem.Expr×List Stmt:=match s with|.For t _ b _ _=>(t,b)|_=>(.Constant .none 0 default,[])
def Zr(P:Params):PySem.Expr×List Stmt:=Option.rec (.Constant .none 0 default,[]) forB (((fiP P 564).body)[2]?)
def tnR(P:Params)(vs:List AV)(c:Cb)(k:Nat):R:=xo selN (run (tnCx P vs c) 40 (.asg (frZ (fiP P 564) 6 []) (Zr P).1 (.op 20)) (tnS (k+1) c.ord)) λZ S=>xF (Wc (run (tnCx P vs c) 40) (frZ (fiP P 564) 6 []) (Zr P).2 S) λS=>.ok (.vs []) S
def insO(x:Nat)(ord:List Nat):List Nat:=Bool.rec (ord++[x]) ord (JN x ord)
def snEsX(x:Nat)(ord:List Nat):List (Str×AV):=(insO x ord).map λy=>(kyN y,Bool.rec (.op (30+y)) (.loc 17) (Nat.beq x y))
def newC(c:Cb):Option Nat:=obO c.cd λx=>ifO c.inN (some x)
def tnL(c:Cb):List (Nat×AO):=Option.rec [(8,.dict (snEs c.ord))] (λx=>[(8,.dict (snEsX x c.ord)),(14,.list (.sym 0 100::(sy0 200 c.m++[.sym 2 101]))),(17,.list (ZD 40 c.n++[.loc 14]))]) (newC c)++ZJ Jx 0
def snNs(S:St):Bool:=Option.rec false (λes=>locB 1 (look "data" es)&&isOp 3 (look "names" es)&&locB 8 (look "found" es)) (gv vNs S 6)
def vs0(o:Out):Bool:=Option.rec false (λl=>List.rec true (λZ Z Z=>false) l) (selVs o)
def tnO(c:Cb)(r:R):Option (Option AO):=R.rec none (λo S=>ifO (vs0 o&&(snNs S&&JY S (tnL c))) (some (S.get 7))) (λZ Z Z Z Z=>none) r
def okC(c:Cb):Bool:=Option.rec (Nat.beq c.n 0) (λx=>Bool.rec (Nat.beq c.n 0) (c.inN&&Nat.blt 0 c.n) (JN x c.ord)) c.cd
def combos:List Cb:=([none,some 0,some 1,some 2].flatMap λcd=>[true,false].flatMap λinN=>ZC.flatMap λord=>(JW 6).flatMap λn=>(JW 5).map λm=>⟨cd,inN,ord,n,m⟩).filter okC
def aiOra(n a:Nat)(args:List AV)(S:St):R:=ifT (Nat.beq a 253) (ifT (Ww args [.loc 1]&&JY S (ZJ Jx 0)) (pushV S (.list (ZD 20 n))))
def sn1Kn(n:Nat):Kn:={oatt:=λk x=>ifO (Nat.ble 20 k&&Nat.blt k (20+n)&&sEq x "name") (some (.sym 0 (k+80)))}
def sn1Cx(P:Params)(n:Nat):Cx:={cx0 P with kn:=sn1Kn n,sp:=[253],ora:=aiOra n}
def sn0S:St:=JZ (Jx++[.ns [("data",.loc 1)]])
def forIt(s:Stmt):PySem.Expr:=match s with|.For _ it _ _ _=>it|_=>.Constant .none 0 default
def snIt(P:Params):PySem.Expr:=Option.rec (.Constant .none 0 default) forIt (((fiP P 564).body)[2]?)
def forP(s:Stmt):Pos:=match s with|.For _ _ _ _ p=>p|_=>default
def snPos(P:Params):Pos:=Option.rec default forP (((fiP P 564).body)[2]?)
def sn1C(n j:Nat)(S:St):Bool:=Nat.beq j 13&&(Option.rec false (λes=>locB 1 (look "data" es)&&locB 8 (look "names" es)&&locB 7 (look "found" es)) (gv vNs S 6)&&(Option.rec false (λp=>Nat.beq p.1 12&&Nat.beq p.2 0) (gv vLit S 13)&&(Option.rec false (λl=>eqL l ((JW n).map (100+·))) (gv vKset S 8)&&JY S ((7,.dict [])::(12,.list (ZD 20 n))::ZJ Jx 0))))
def sn1R(P:Params)(n:Nat):R:=exsK (run (sn1Cx P n) 40) (frZ (fiP P 564) 6 []) (headK (sn1Cx P n) (run (sn1Cx P n) 40) (frZ (fiP P 564) 6 []) (snIt P) (sn1C n)) ((fiP P 564).body.take 2) sn0S
theorem sn1_runs(P:Params):([3,4,5,6].all λn=>allL (λo Z=>vs0 o) (sn1R P n))=true:=by rfl'
theorem sn_ent(P:Params)(k:FrA->St->R):enterX false (fiP P 564) [.loc 1] (JZ Jx) k=k (frZ (fiP P 564) 6 []) sn0S:=by rfl'
theorem sn_fi(P:Params):fnP P 564=some (fiP P 564):=by rfl'
theorem sn_body(P:Params):(fiP P 564).body=(fiP P 564).body.take 2++.For (Zr P).1 (snIt P) (Zr P).2 [] (snPos P)::(fiP P 564).body.drop 3:=by rfl'
theorem tn_hd(P:Params)(k:Nat)(ord:List Nat):(Wy (tnS k ord) 7 (Zr P).1,(tnS k ord).get 7,(tnS k ord).set 7 (.lio 2 (k+1)),JH ((tnS k ord).set 7 .dead))=(true,some (.lio 2 k),some (tnS (k+1) ord),true):=by rfl'
theorem ins_ords:(ZC.all λo=>[0,1,2].all λx=>ZC.any λo'=>eqL (insO x o) o')=true:=by rfl'
variable {t:Tok}
theorem runT_f0t(P:Params):runT P false 0 true=true:=by rfl'
theorem runT_f0f(P:Params):runT P false 0 false=true:=by rfl'
theorem runT_f1t(P:Params):runT P false 1 true=true:=by rfl'
theorem runT_f1f(P:Params):runT P false 1 false=true:=by rfl'
theorem runT_f2t(P:Params):runT P false 2 true=true:=by rfl'
theorem runT_f2f(P:Params):runT P false 2 false=true:=by rfl'
theorem runT_t0t(P:Params):runT P true 0 true=true:=by rfl'
theorem runT_t0f(P:Params):runT P true 0 false=true:=by rfl'
theorem runT_t1t(P:Params):runT P true 1 true=true:=by rfl'
theorem runT_t1f(P:Params):runT P true 1 false=true:=by rfl'
theorem runT_t2t(P:Params):runT P true 2 true=true:=by rfl'
theorem runT_t2f(P:Params):runT P true 2 false=true:=by rfl'
theorem runT_all(P:Params)(fl b:Bool)(hm:m<=2):runT P fl m b=true:=by
 match m,hm with
 |0,_=>
  cases fl<;>cases b
  ·exact runT_f0f P
  ·exact runT_f0t P
  ·exact runT_t0f P
  ·exact runT_t0t P
 |1,_=>
  cases fl<;>cases b
  ·exact runT_f1f P
  ·exact runT_f1t P
  ·exact runT_t1f P
  ·exact runT_t1t P
 |2,_=>
  cases fl<;>cases b
  ·exact runT_f2f P
  ·exact runT_f2t P
  ·exact runT_t2f P
  ·exact runT_t2t P
variable {its:List Str}{f:Nat->Str}{fl:Bool}
theorem ZT{x:Str}:∀{l:List Str},JU x l=true->x∈l:=by
 intro v0_;induction v0_ with
 |nil=>
  intro h;exact nb h
 |cons y l ih=>
  intro h;change (Bool.rec (JU x l) true (sEq y x):Bool)=true at h;induction q:sEq y x with
  |true=>rw[Jw q];exact .head _
  |false=>rw[q]at h;exact .tail _ (ih h)
theorem sub_of{l r:List Str}(h:l.all (λy=>JU y r)=true):∀x∈l,x∈r:=λx hx=>ZT (al_ h x hx)
theorem ok_pos:∀x∈JR 0,x∈okW:=sub_of (by rfl')
theorem XAB_pos:∀x∈(["X","A","B"]:List Str),x∈JR 2:=sub_of (by rfl')
theorem pos02:∀x∈JR 0,x∈JR 2:=sub_of (by rfl')
theorem PG.one_{args:List AV}{k:AV->R}(P:PG x (one1 args k) Q E)(h:∀a,args=[a]->PG x (k a) Q E->C):C:=by
 induction args using c_ with
 |nil=>exact P.elim
 |cons a r=>induction r using c_ with
  |nil=>exact h a rfl P
  |cons _ _=>exact P.elim
theorem PG.three_{args:List AV}{k:AV->AV->AV->R}(P:PG x (three args k) Q E)(h:∀a b c,args=[a,b,c]->PG x (k a b c) Q E->C):C:=by
 induction args using c_ with
 |nil=>exact P.elim
 |cons a r=>exact PG.two_ (args:=r) (k:=k a) P λb c e P=>h a b c (Ja _ e) P
theorem symCls_of{v:AV}{p:Nat×Bool}(h:Wh v=some p)(hb:p.2=false):∃k,v=.sym p.1 k:=by
 induction v with
 |sym c k=>cases h;exact⟨k,rfl⟩
 |hd c k=>cases h;exact nomatch hb
 |_=>exact no h
theorem res_ora{args:List AV}{us:List Value}(hres:∃t,G.om.mg "RESERVED"=some (.str resS t))(P:PG x (resA args x.S) Q E)(p:Pt G.om A x.s (K+100))(hfr:A.frames=some (Jv fs++G.out))(d:Jq G.nm x.L args us):wpAny (Mdl G.om) A (call (.ref 571) us) Q E x.s:=
 P.one_ λa e P6=>by
  subst e;refine d.one λw ew d9=>?_;subst ew;have P:PG x (Option.rec (ob (Zz a) λx'=>ifT (JU x' okW) (.ok (.v (.bool false)) x.S)) (λp=>ifT (Nat.beq p.1 0&&JM p.2) (.ok (.v (.bool false)) x.S)) (Wh a)) Q E:=P6;induction hc:Wh a with
  |none=>
   rw[hc]at P;refine P.ob λy hy P=>P.ifT λhm P9=>?_;cases Zb hy;exact d9.str_ λt e=>e▸res_ok hres (ZT hm) p hfr λs' af=>PG.stay P9 af rfl
  |some q=>
   rw[hc]at P;refine PG.ifT P λhm P9=>Jr hm λh1 h2=>?_;obtain ⟨k,rfl⟩:=symCls_of hc (JL h2);exact d9.sym_ λt e hp=>e▸res_ok hres (ok_pos _ (by rw[<-nq h1];exact hp)) p hfr λs' af=>PG.stay P9 af rfl
theorem nc_ora{args:List AV}{us:List Value}{ans:List Nat->Option Bool}(h0:G.nm.op 0=aN)(h1:G.nm.op 1=aS)(hx:∀y∈(["X","A","B"]:List Str),Nq G.om G.hF aN aS y false none)
  (hn:∀ks b,ans ks=some b->G.nm.f 0∈JR 0->∃b1 r,Nq G.om G.hF aN aS (G.nm.f 0) b1 r/\(b1=false->r=none)/\(ks.map G.nm.f).length<=2/\(∀q∈ks.map G.nm.f,q∈JR 2)/\ncV b1 r (ks.map G.nm.f)=b)
  (P:PG x (three args λr nm q=>ob (rdO x.S r) λZ=>ansA G.cx ans x.S nm q) Q E) (p:Pt G.om A x.s (K+250)) (hfr:A.frames=some (Jv fs++G.out)) (d:Jq G.nm x.L args us):wpAny (Mdl G.om) A (call (.ref 535) us) Q E x.s:=
 P.three_ λr nmA q e P0=>P0.ob λz hz P0=>P0.ifT λhs P0=>P0.ob λks hks P=>by
  rw[e]at d;clear e P0;refine Classical.byContradiction λhN=>?_;obtain ⟨w1,r1,e1,d1,w2,r2,e2,d2,w3,r3,e3,d3,e4⟩:=d;obtain ⟨ar,f1,R⟩:=rd_of p hfr hz d1 h0 h1;obtain ⟨aq,f3,xs,n,q1,q2⟩:=qs_of p hfr hks d3 λt e=>by subst e;exact nb (JL hs).symm
  have eu:us=[.ref ar,w2,.ref aq]:=by rw[e1,e2,e3,e4,f1,f3]
  rw[eu]at hN;clear hs hz d1 d3 e1 e2 e3 e4 f1 f3 eu;change PG x (Option.rec (ob (Zz nmA) λy=>ifT (JU y ["X","A","B"]&&JM (neL ks)) (.ok (.v (.bool false)) x.S)) (λp=>ifT (Nat.beq p.1 0&&JM p.2&&isSy 0 (some nmA)) (ob (ans ks) λb=>.ok (.v (.bool b)) x.S)) (Wh nmA)) Q E at P;induction hc:Wh nmA with
  |none=>
   rw[hc]at P;refine P.ob λy hy P=>P.ifT λhm P=>Jr hm λm1 m2=>?_;rw[Zb hy]at d2;have hk:ks=[]:=by
    induction ks using c_ with
    |nil=>rfl
    |cons _ _=>exact nb m2
   rw[hk]at q2;have my:=ZT m1;exact d2.str_ λt e=>hN (e▸nc_ok (b1:=false) (r:=none) (qs:=[]) p hfr R ((hx y my).up λb o e=>Wt.frz0 p hfr e) (λZ=>rfl) ⟨⟨xs,n,q1,q2⟩,Nat.zero_le _,λZ h=>absurd h Ξ⟩ (XAB_pos y my) λs' af=>PG.stay P af rfl)
  |some cl=>
   rw[hc]at P;refine PG.ifT P λhm P=>P.ob λb hb P=>Jr hm λZ m3=>?_;rw[oi (isSy_of m3)]at d2;refine d2.sym_ λt e hp=>(hn ks b hb hp).elim λb1 q=>q.elim λrr q=>hN ?_;exact e▸nc_ok (b1:=b1) (r:=rr) (qs:=ks.map G.nm.f) p hfr R (q.1.up λb o e=>Wt.frz0 p hfr e) q.2.1 ⟨⟨xs,n,q1,q2⟩,q.2.2.1,q.2.2.2.1⟩ (pos02 _ hp) λs' af=>q.2.2.2.2.symm▸PG.stay P af rfl
theorem Aft.wide{l:List Addr}(a1:Aft own out s s')(h:∀a∈own,a∈l):Aft l out s s':=⟨λb o hb=>a1.keep b o λhm=>hb (h b hm),a1.frs,a1.gens,a1.dr,a1.os⟩
structure TbOk(om:Om)(s:Shared)(out:List Env)(fl:Bool)(c0 c1:Addr):Prop where
 t:TabP s.heap fl c0 c1
 nd:(tbL fl c0 c1).Nodup
 hb:∀a∈tbL fl c0 c1,om.hb.get? a=none
 fr:∀a∈tbL fl c0 c1,Fre out [a]
theorem tab_keep(T:TbOk om s out fl c0 c1)(h:∀a∈tbL fl c0 c1,∀o,s.heap.get? a=some o->s'.heap.get? a=some o):TabP s'.heap fl c0 c1:=by
 induction fl with
 |false=>exact⟨h _ (.head _) _ T.t.1,h _ (.tail _ (.head _)) _ T.t.2⟩
 |true=>
  have t:TabS s.heap c0 c1:=T.t;exact⟨h _ (.head _) _ t.t0,h _ (.tail _ (.head _)) _ t.t1,t.d0.imp λo r=>⟨h _ (.tail _ (.tail _ (.head _))) _ r.1,r.2⟩,t.d1.imp λo r=>⟨h _ (.tail _ (.tail _ (.tail _ (.head _)))) _ r.1,r.2⟩,t.ne⟩
theorem tab_obl{L:List Addr}(T:TabP s.heap fl c0 c1)(hL:tbL fl c0 c1<+:L){r:List AO}(h:ObL om nm s L l r):ObL om nm s L (tbL fl c0 c1++l) (tbAO fl++r):=by
 induction fl with
 |false=>exact ObL.cons T.1 rfl (ObL.cons T.2 rfl h)
 |true=>
  have t:TabS s.heap c0 c1:=T;obtain ⟨o0,g0,q0⟩:=t.d0;obtain ⟨o1,g1,q1⟩:=t.d1;exact ObL.cons t.t0 ⟨c0,Jp hL rfl,rfl⟩ (ObL.cons t.t1 ⟨c1,Jp hL rfl,rfl⟩ (ObL.cons g0 q0 (ObL.cons g1 q1 h)))
theorem tS_ok(fl b:Bool):okS (tSL fl b)=true:=by induction fl<;>induction b<;>rfl'
theorem tS_ns(fl b:Bool):(tSL fl b)[tbN fl]?=some (.ns [("is_due",.bool b),("knows",.op 4),("words",.op 7)]):=by induction fl<;>rfl
theorem csT_of{fl:Bool}{x:Str}{i:Nat}(e:look x (csT fl)=some i):(x="qualifiers"/\i=tbN fl+2)\/(x="name"/\i=tbN fl+1):=by
 change (Bool.rec (Bool.rec none (some (tbN fl+1)) (sEq x "name")) (some (tbN fl+2)) (sEq x "qualifiers"):Option Nat)=some i at e;induction q:sEq x "qualifiers" with
 |true=>rw[q]at e;cases e;exact .inl ⟨Jw q,rfl⟩
 |false=>
  rw[q]at e;change (Bool.rec none (some (tbN fl+1)) (sEq x "name"):Option Nat)=some i at e;induction q2:sEq x "name" with
  |true=>rw[q2]at e;cases e;exact .inr ⟨Jw q2,rfl⟩
  |false=>rw[q2]at e;exact no e
theorem tbL_get(fl:Bool)(c0 c1:Addr)(i:Nat):(tbL fl c0 c1++l)[tbN fl+i]?=l[i]?:=by
 rw[show tbN fl=(tbL fl c0 c1).length by induction fl<;>rfl,ϝ (Nat.le_add_right _ _),Ψ]
theorem eq_upF{ks:List Nat}{m:Nat}{b c:Bool}(h:ansT m b ks=some c):ks=upF 1 m/\b=c:=Jt h λe h=>⟨Ws e,oi h⟩
theorem upF_map{f:Nat->Str}:∀{l:List Str} {b:Nat},(∀i y,l[i]?=some y->f (b+i)=y)->(upF b l.length).map f=l:=by
 intro v0_;induction v0_ with
 |nil=>
  intro Z Z;exact rfl
 |cons y l ih=>
  intro b h;show f b::(upF (b+1) l.length).map f=_;rw[ih λi z e=>(Ja f (Nat.succ_add_eq_add_succ _ _)).trans (h (i+1) z e),show f b=y from h 0 y rfl]
theorem dens_sy{L:List Addr}:∀{qs:List Str} {us:List Value} {b:Nat},StrsAre us qs->(∀i y,qs[i]?=some y->nm.f (b+i)=y)->(∀y∈qs,y∈JR 0)->Jq nm L (sy0 b qs.length) us:=by
 intro qs us b h;induction h generalizing b with
 |nil=>exactλZ Z=>rfl
 |cons y t h ih=>exactλe hp=>Jq.cons (a:=.sym 0 b) ⟨t,Ja (λz=>Value.str z t) (e 0 y rfl).symm,(e 0 y rfl).symm▸hp y (.head _)⟩ (ih (λi z hz=>(Ja nm.f (Nat.succ_add_eq_add_succ b i)).trans (e (i+1) z hz)) λz hz=>hp z (.tail _ hz))
theorem ixTab_50:∀x∈JG 5,x∈JR 0:=sub_of (by rfl')
theorem nrF_q{i:Nat}{y:Str}(lq:qs.length<=2)(e:qs[i]?=some y):nrFB d0 qs rows (1+i)=y:=by
 have li:=(lt_ e);unfold nrFB;rw[show Nat.ble 200 (1+i)=false from bf_ λh=>absurd (nl h) (by lia)];show nrf (d0::qs) (1+i)=y;unfold nrf;rw[Nat.add_comm,List.getElem?_cons_succ,e];rfl
theorem tab_live{h:Heap}(T:TabP h fl c0 c1):∀a∈tbL fl c0 c1,∃o,h.get? a=some o:=by
 induction fl with
 |false=>exactλa ha=>(mc_ ha).elim (λz=>z▸⟨_,T.1⟩) λha=>(ms_ ha)▸⟨_,T.2⟩
 |true=>
  have t:TabS h c0 c1:=T;exactλa ha=>(mc_ ha).elim (λz=>z▸⟨_,t.t0⟩) λha=>all3 (P:=λx=>∃o,h.get? x=some o) ⟨_,t.t1⟩ (t.d0.imp λo r=>r.1) (t.d1.imp λo r=>r.1) a ha
theorem tbL_c{l:List Addr}(e:fl=true):(tbL fl c0 c1++l)[2]?=some c0/\(tbL fl c0 c1++l)[3]?=some c1:=by subst e;exact⟨rfl,rfl⟩
theorem tbL_5{a b c:Addr}(e:fl=false):(tbL fl c0 c1++[a,b,c]).length=5:=by subst e;rfl
theorem tbL_0(fl:Bool){l:List Addr}:(tbL fl c0 c1++l)[0]?=some 538/\(tbL fl c0 c1++l)[1]?=some 385:=by induction fl<;>exact⟨rfl,rfl⟩
theorem rd_ora{y:Wt G fs}{us:List Value}{args:List AV}{r:Nat}{ans:List Nat->Option Bool}(hres:∃t,G.om.mg "RESERVED"=some (.str resS t))(h0:G.nm.op 0=aN)(h1:G.nm.op 1=aS)(hx:∀y∈(["X","A","B"]:List Str),Nq G.om G.hF aN aS y false none)
  (hn:∀ks b,ans ks=some b->G.nm.f 0∈JR 0->∃b1 r,Nq G.om G.hF aN aS (G.nm.f 0) b1 r/\(b1=false->r=none)/\(ks.map G.nm.f).length<=2/\(∀q∈ks.map G.nm.f,q∈JR 2)/\ncV b1 r (ks.map G.nm.f)=b)
  (p:Pt G.om A y.s (K+250)) (hfr:A.frames=some (Jv fs++G.out)) (d:Jq G.nm y.L args us)
  (P:PG y (Bool.rec (motive:=λZ=>R) (ifT (Nat.beq r 535) (three args λr nm q=>ob (rdO y.S r) λZ=>ansA G.cx ans y.S nm q)) (resA args y.S) (Nat.beq r 571)) Q E):wpAny (Mdl G.om) A (call (.ref r) us) Q E y.s:=by
 induction h571:Nat.beq r 571 with
 |true=>rw[h571]at P;rw[nq h571];exact res_ora (K:=K+150) hres P p hfr d
 |false=>
  rw[h571]at P
  exact PG.ifT P λh535 P=>(nq h535)▸nc_ora (K:=K) h0 h1 hx hn P p hfr d
theorem nrT_nq{nmF:Nat->Str}(ef:nmF=nrFB d0 qs rows)(W:Lw om h aK aI aF aN aS its rows)(md:d0∈JG 3)(lq:qs.length<=2)(pq:∀q∈qs,q∈JG 5)(ks:List Nat)(b:Bool)(hb:ansT qs.length (dueB its rows d0 qs) ks=some b):∃b1 r,Nq om h aN aS (nmF 0) b1 r/\(b1=false->r=none)/\(ks.map nmF).length<=2/\(∀q∈ks.map nmF,q∈JR 2)/\ncV b1 r (ks.map nmF)=b:=by
 have em:ks.map nmF=qs:=by rw[(eq_upF hb).1,ef];exact upF_map λi y e=>nrF_q lq e
 have e0:nmF 0=d0:=by rw[ef];rfl
 rw[em,e0];exact(W.nq d0 md).elim λb1 q=>q.elim λr q=>⟨b1,r,q.1,q.2.1,lq,λy hy=>ixTab_5 y (pq y hy),(q.2.2 qs lq λy hy=>ixTab_5 y (pq y hy)).trans (eq_upF hb).2⟩
theorem nr_T{s0 s2 s3:Shared}{A':Around}{L3:List Addr}{S3:St}{es:List (Str×AV)}{cn cq:Addr}{Q':SP Flow}{E':SP Value}(hres:∃t,om.mg "RESERVED"=some (.str resS t))(W:Lw om h0 aK aI aF aN aS its rows)(B0:WL h0 out s0)(nw:∀a∈aT::tbL fl c0 c1,h0.get? a=none)(T:TbOk om s0 out fl c0 c1)(hT:aT∉tbL fl c0 c1)(freT:Fre out [aT])
  (D:NrB om out s0 aT aK aI aF aN aS its rows N (K+551) A' env d0 qs aQ aW cn cq L3 s2 s3 S3 es)
  (H:∀s4 e0 e1,Aft (aT::tbL fl c0 c1) out s0 s4->JP s4.heap aT N->TabS s4.heap e0 e1->(fl=true->e0=c0/\e1=c1)->(fl=false->s0.heap.get? e0=none/\s0.heap.get? e1=none)->Q' (.ret (.bool true)) s4):wpAny (Mdl om) A' (execs ((fiP om.w.params 833).body.drop 5) env) Q' E' s3:=by
 have l0:L3[0]?=some env.locals:=Jp D.B3.pre rfl
 have l1:L3[1]?=some cn:=Jp D.B3.pre rfl
 have l2:L3[2]?=some cq:=Jp D.B3.pre rfl
 have n3:∀a∈[env.locals,cn,cq],s0.heap.get? a=none:=λa ha=>(D.new a (μ [aQ,aW] ha)).1
 have af3:Aft [aT] out s0 s3:=D.af.comp D.B3.aft λa ha=>.inr (n3 a ha)
 have tb3:=tab_live T.t
 have dj:∀a∈tbL fl c0 c1,a∉[env.locals,cn,cq]:=λa ha h=>(tb3 a ha).elim λo e=>no ((n3 a h).symm.trans e)
 have t3:TabP s3.heap fl c0 c1:=tab_keep T λa ha o e=>af3.keep a o (λh=>hT (ms_ h▸ha)) (T.fr a ha) e
 have nd4:(tbL fl c0 c1++[env.locals,cn,cq]).Nodup:=List.nodup_append.mpr ⟨T.nd,D.g.nd,λa ha b hb e=>dj a ha (e▸hb)⟩
 have g3:Gin om s3 L3 out:=D.g.next D.B3 D.B3.nd λZ h=>h
 have g4:Gin om s3 (tbL fl c0 c1++[env.locals,cn,cq]) out:=⟨g3.base,g3.live,g3.gens,g3.dr,g3.os,g3.frs,nd4,λa ha=>(ma_ ha).elim (T.hb a) λh=>D.g.hb a h,λe he a hf hm=>(ma_ hm).elim (λh=>T.fr a h e he a hf (.head _)) λh=>D.g.fre e he a hf h⟩
 have Bs:WL h0 out s3:=B0.next af3 λa ha=>nw a ((ms_ ha)▸.head _)
 have nw4:∀a∈tbL fl c0 c1++[env.locals,cn,cq],h0.get? a=none:=λa ha=>(ma_ ha).elim (λh=>nw a (.tail _ h)) λh=>by
  induction e:h0.get? a with
  |none=>rfl
  |some o=>exact no ((n3 a h).symm.trans (B0.kp a o e))
 have kp3:∀{a:Addr} {o:Obj},s2.heap.get? a=some o->a∉[env.locals,cn,cq]->Fre out [a]->s3.heap.get? a=some o:=λe hn hf=>D.B3.aft.keep _ _ hn hf e
 have frz:∀{a:Addr} {o:Obj},s2.heap.get? a=some o->a∈[aQ,aW]->a∉[env.locals,cn,cq]->g4.hF.get? a=some o:=fun {a o} e ha hn=>by
  have hf:Fre out [a]:=(D.new a (Ji _ (Ji _ (Ji _ ha)))).2;refine g4.stays a o (λhm=>(ma_ hm).elim (λh=>?_) hn) hf (kp3 e hn hf);exact(tb3 a h).elim λo' e'=>no ((D.new a (Ji _ (Ji _ (Ji _ ha)))).1.symm.trans e')
 have hW4:Lw om g4.hF aK aI aF aN aS its rows:=W.up λb o e=>g4.kept Bs nw4 e
 have b:=dueB its rows d0 qs
 have kn:Zp om g4.hF (nrNB d0 qs aN aS aI aF aK aQ aW rows) (λZ=>false) (tbL fl c0 c1++[env.locals,cn,cq]) (knT qs.length):={kn0 with
  sob:=λk ao e=>by
   obtain ⟨n,hk⟩:=hW4.k;obtain ⟨xs,n1,q1,q2⟩:=D.hQ;obtain ⟨zs,n2,w1,w2⟩:=D.hW;refine Zu.get (l:=[(4,.tup [.op 0,.op 1]),(6,.tup (sy0 1 qs.length)),(7,.list (.sym 0 0::ofF 1 qs.length))]) (Zu.cons (a:=aK) rfl hk (λL Z=>OkP.tp ⟨_,_,rfl,rfl,_,_,rfl,rfl,rfl⟩) (Zu.cons (a:=aQ) rfl (frz q1 (.head _) D.dj.1) (λL Z=>OkP.tp ?_) (Zu.cons (a:=aW) rfl (frz w1 (.tail _ (.head _)) D.dj.2.1) (λL Z=>OkP.lst (Jq.mono (List.nil_prefix) w2)) trivial))) e;exact dens_sy q2 (λi y e=>nrF_q D.lq e) λq hq=>ixTab_50 q (D.pq q hq)}
 have b4:Beg om (nrNB d0 qs aN aS aI aF aK aQ aW rows) s3 (tbL fl c0 c1++[env.locals,cn,cq]) (JZ (tSL fl (dueB its rows d0 qs))):=
  D.B3.get D.n0 l0 λo1 ho1 p1=>D.B3.get D.n2 l1 λo2 ho2 p2=>D.B3.get D.n3 l2 λo3 ho3 p3=>Beg.of (aos:=tSL fl (dueB its rows d0 qs)) (tab_obl (r:=[.ns [("is_due",.bool (dueB its rows d0 qs)),("knows",.op 4),("words",.op 7)],.cell (some (.sym 0 0)),.cell (some (.op 6))]) t3 (θ _ _) (ObL.cons ho1 (p1.renN ⟨⟨_,D.n1.2.2,nofun,λw d=>d⟩,⟨_,D.n1.1,nofun,λw d=>d⟩,⟨_,D.n1.2.1,nofun,λw d=>d⟩,trivial⟩) (ObL.cons ho2 (p2.renC λw d=>d) (ObL.cons ho3 (p3.renC λw d=>d) ObL.nil)))) (stL (tS_ok _ _))
 have Fr4:ZA (tbL fl c0 c1++[env.locals,cn,cq]) (frZ (fiP om.w.params 833) (tbN fl) (csT fl)) env:=D.Fr.re (tbL_get fl c0 c1 0) λx i e=>by
  obtain ⟨a1,ha1,q1⟩:=D.Fr.cl "qualifiers" 2 (by rfl');obtain ⟨a2,ha2,q2⟩:=D.Fr.cl "name" 1 (by rfl');refine(csT_of e).elim (λq=>?_) λq=>?_
  ·rw[q.1,q.2];exact⟨cq,tbL_get fl c0 c1 2,q1.trans ha1.symm⟩
  ·rw[q.1,q.2];exact⟨cn,tbL_get fl c0 c1 1,q2.trans ha2.symm⟩
 rw[<-List.append_nil ((fiP om.w.params 833).body.drop 5)]
 refine goB (n:=120) (k:=250) (nm:=nrNB d0 qs aN aS aI aF aK aQ aW rows) (u:=λZ=>false) (cx:=cxT om.w.params qs.length (dueB its rows d0 qs)) (S:=JZ (tSL fl (dueB its rows d0 qs))) D.fr D.hdl (D.room.le (by lia)) g4 b4 rfl (λZ=>tbs_pre fl c0 c1) kn (λa args A2 fs y us Q2 E2 hm pt hf2 dd P=>rd_ora (K:=0) (y:=y) (ans:=ansT qs.length (dueB its rows d0 qs)) hres rfl rfl hW4.nx (λks b hb Z=>nrT_nq rfl hW4 D.md D.lq D.pq ks b hb) pt hf2 dd P) Fr4 rfl rfl ⟨_,((stL (tS_ok _ _)).get _).trans (tS_ns _ _)⟩ (retT_leaf (runT_all om.w.params fl (dueB its rows d0 qs) D.lq) λS4 i j g0 g1 g2 g3' hij hf ht=>.inr ⟨.bool true,rfl,λL4 s4 v B4 dv=>?_⟩)
 cases dv
 obtain ⟨e0,e1,i0,i1,TS⟩:=B4.tabs (Jp B4.pre (tbL_0 fl).1) (Jp B4.pre (tbL_0 fl).2) g0 g1 g2 g3' hij
 have af4:Aft (aT::tbL fl c0 c1) out s0 s4:=(af3.wide (l:=aT::tbL fl c0 c1) λa ha=>(ms_ ha)▸.head _).comp B4.aft λa ha=>(ma_ ha).elim (λh=>.inl (.tail _ h)) λh=>.inr (n3 a h)
 have hT4:aT∉tbL fl c0 c1++[env.locals,cn,cq]:=λh=>(ma_ h).elim hT D.dj.2.2
 have tap4:JP s4.heap aT N:=D.tap.keep λo e=>B4.aft.keep _ _ hT4 freT (kp3 e D.dj.2.2 freT)
 have nw:fl=false->∀{i:Nat} {a:Addr},5<=i->L4[i]?=some a->s0.heap.get? a=none:=λef {i a} hi e=>
  have n4:=B4.new i a (by rw[tbL_5 ef];exact hi) e
  af3.fresh n4 (λhm=>D.tap.el λx y t1 t2 n q Z=>no (n4.symm.trans (kp3 ((ms_ hm)▸q) ((ms_ hm)▸D.dj.2.2) ((ms_ hm)▸freT)))) (B4.fre.one (Θ e))
 exact H s4 e0 e1 af4 tap4 TS (λef=>⟨oi (((ht ef).1▸i0).symm.trans (Jp B4.pre (tbL_c ef).1)),oi (((ht ef).2▸i1).symm.trans (Jp B4.pre (tbL_c ef).2))⟩) λef=>⟨nw ef (hf ef).1 i0,nw ef (hf ef).2 i1⟩
theorem nr_ok(hres:∃t,om.mg "RESERVED"=some (.str resS t))(p:Pt om A s (K+552))(hfr:A.frames=some out)(W:Lw om h0 aK aI aF aN aS its rows)(B0:WL h0 out s)(nw:∀a∈aT::tbL fl c0 c1,h0.get? a=none)(T:TbOk om s out fl c0 c1)(hT:aT∉tbL fl c0 c1)(freT:Fre out [aT])(hbT:om.hb.get? aT=none)(tap:JP s.heap aT (N+4))
  (H:∀s4 e0 e1,Aft (aT::tbL fl c0 c1) out s s4->JP s4.heap aT N->TabS s4.heap e0 e1->(fl=true->e0=c0/\e1=c1)->(fl=false->s.heap.get? e0=none/\s.heap.get? e1=none)->Q (.bool true) s4):wpAny (Mdl om) A (call (.ref 833) [.ref aT,.ref aK,.ref aI,.ref aF]) Q E s:=
 nr_A (K:=K+351) p hfr tap freT hbT λenv d0 qs L1 L2 s1 s2 S2 E' D=>nr_B W B0 (nw aT (.head _)) D λaQ aW cn cq L3 s3 S3 es D3=>nr_T hres W B0 nw T hT freT D3 H
end Internal
namespace Internal
structure SnP where
 om:Om
 out:List Env
 f:Nat->Str
 nmD:Nt
 L2:List Addr
 L6:List Addr
 ps:List Nat
 it:Nat->ItD
 aNs:Addr
 aIt:Addr
 aF:Addr
 aN:Addr
 aI:Addr
 s0:Shared
def SnP.own(X:SnP):List Addr:=X.L6++[X.aNs,X.aIt,X.aF]
def SnP.n(X:SnP):Nat:=2+X.ps.length
def SnP.names(X:SnP):List Str:=(Ze X.ps).map (nmS X.f)
structure SnF(X:SnP):Prop where
 ok:Wu X.ps
 nf:∀t,t<X.ps.length->X.f t∈JG 3
 nd:X.L2.Nodup
 e0:X.nmD.op 0=Js X.L2 (iA 0)
 e1:X.nmD.op 1=Js X.L2 (iA 1)
 U:UB X.om.w.params X.ps
 B:∀i,i<X.n->ChB X.om.w.params X.ps i
 ia:∀i,i<X.n->(X.it i).ia=Js X.L2 (iA i)
 l6:X.L6.length=6
structure NmsD(om:Om)(h:Heap)(a:Addr)(names:List Str):Prop where
 ns:(a==sysModules)=false
 d:∃(ys:List Str) (nm0:Nt) (L0:List Addr) (ds:List DictEntry),h.get? a=some (dictOf ds ys.length)/\Ens om.w.params nm0 L0 (ys.map λy=>(y,AV.bool true)) ds/\∀y,y∈ys↔y∈names
structure SnH(X:SnP)(h:Heap):Prop where
 T:TrI X.om h (dtN X.f) X.L2 X.ps
 Hi:∀i,i<X.n->ItOk X.om h (X.it i)
 nms:NmsD X.om h X.aN X.names
 lst:∃xs n,h.get? X.aI=some (listOf xs n)/\xs.toList=(itA X.L2 X.ps).map Value.ref
variable {X:SnP}{h h':Heap}{k n i j x:Nat}{fr:Nat->Addr}{rw:Rws}{c:Cb}{nm:Nt}{L own:List Addr}{u:Nat->Bool}{v w:Value}{a:Addr}{us:List Value}{av:AV}{G:Gd}{fs:List (FrA×Env)}{y:Wt G fs}
theorem SnH.up(H:SnH X h)(k:∀b o,h.get? b=some o->h'.get? b=some o):SnH X h':=
 ⟨H.T.up k,λi hi=>(H.Hi i hi).up k,⟨H.nms.ns,H.nms.d.imp λZ r=>r.imp λZ r=>r.imp λZ r=>r.imp λZ r=>⟨k _ _ r.1,r.2⟩⟩,H.lst.imp λZ r=>r.imp λZ r=>⟨k _ _ r.1,r.2⟩⟩
theorem Rw.up{rws:Rws}(R:Rw h a rws)(k:∀b o,h.get? b=some o->h'.get? b=some o):Rw h' a rws:=⟨R.lst.imp λZ r=>r.imp λZ r=>⟨k _ _ r.1,r.2⟩,λq hq=>(R.row q hq).imp λZ r=>r.imp λZ r=>⟨k _ _ r.1,r.2⟩,R.ly,R.len⟩
def snOp(X:SnP)(fr:Nat->Addr)(k:Nat):Addr:=Option.rec (X.nmD.op k) (λa=>a) (JE k [(2,X.aI),(3,X.aN),(30,fr 0),(31,fr 1),(32,fr 2)])
def snN(X:SnP)(fr:Nat->Addr):Nt:=⟨λZ=>"",snOp X fr⟩
def tnOp(X:SnP)(fr:Nat->Addr)(i:Nat)(rw:List Addr)(k:Nat):Addr:=Bool.rec (Bool.rec (Option.rec (snOp X fr k) (λa=>a) (JE k [(20,Js X.L2 (iA i)),(21,(X.it i).ca),(22,condA (X.it i))])) (Js rw (k-40)) (Nat.ble 40 k)) (Js (itA X.L2 X.ps) (k-600)) (Nat.ble 600 k)
def tnF(X:SnP)(i:Nat)(k:Nat):Str:=Bool.rec (Bool.rec (nmS X.f i) (fileS X.ps i) (Nat.beq k 101)) (nrf ((anc X.ps i).map (nmS X.f)) (k-200)) (Nat.ble 200 k)
def tnN(X:SnP)(fr:Nat->Addr)(i:Nat)(rw:List Addr):Nt:=⟨tnF X i,tnOp X fr i rw⟩
def vsT(X:SnP)(k:Nat):List AV:=(ZD 600 X.n).set k (.op 20)
theorem tnOp_r{r:List Addr}(h:i<500):tnOp X fr n r (40+i)=Js r i:=by unfold tnOp;rw[ZZ (show 40+i<600 by lia),Zj (show 40<=40+i by lia),Ψ]
theorem tnOp_v{r:List Addr}(i:Nat):tnOp X fr n r (600+i)=Js (itA X.L2 X.ps) i:=by unfold tnOp;rw[Zj (show 600<=600+i by lia),Ψ]
theorem Jq.set_:∀{vs:List AV} {us:List Value} {k:Nat},Jq nm L vs us->us[k]?=some w->Den nm L av w->Jq nm L (vs.set k av) us:=by
 intro vs;induction vs with
 |nil=>exactλe Z Z=>e
 |cons v vs ih=>
  intro us k d hk d';exact d.elim λu d=>d.elim λr d=>by
   rw[d.1]at hk ⊢;induction k using Nat.casesAuxOn with
   |zero=>exact⟨_,_,rfl,oi hk▸d',d.2.2⟩
   |succ k=>exact⟨_,_,rfl,d.2.1,ih d.2.2 hk d'⟩
theorem sEq_comm(y z:Str):sEq y z=sEq z y:=by
 induction e:sEq z y with
 |true=>cases Jw e;exact e
 |false=>exact bf_ λq=>by cases Jw q;exact nb (e.symm.trans q)
theorem look_keys{y:Str}{b:AV}:∀{ys:List Str},JH (look y (ys.map λz=>(z,b)))=JU y ys:=by
 intro v0_;induction v0_ with
 |nil=>
  exact rfl
 |cons z ys ih=>
  show JH (Bool.rec (look y (ys.map λz=>(z,b))) (some b) (sEq y z))=Bool.rec (JU y ys) true (sEq z y);rw[sEq_comm];induction sEq z y with
  |true=>rfl
  |false=>exact ih
theorem anyS_iff{y:Str}{l r:List Str}(h:y∈l↔y∈r):JU y l=JU y r:=by
 induction e:JU y r with
 |true=>exact WX (h.mpr (ZT e))
 |false=>exact bf_ λq=>nb (e.symm.trans (WX (h.mp (ZT q))))
structure CbOk(X:SnP)(h:Heap)(fr:Nat->Addr)(i:Nat)(rw:Rws)(c:Cb):Prop where
 cd:(c.cd=none/\(X.it i).c=none)\/∃x nd,x<3/\c.cd=some x/\(X.it i).c=some (kyN x,nd)/\c.inN=JU (kyN x) X.names/\(0<c.n->Rw h (fr x) rw/\rw.length=c.n)
 m:c.m=(anc X.ps i).length
theorem ordI_get(hk:(Ze X.ps)[k]?=some i):(itA X.L2 X.ps)[k]?=some (Js X.L2 (iA i)):=by unfold itA;rw[δ,hk];rfl
theorem itA_len(F:SnF X):(itA X.L2 X.ps).length=X.n:=by unfold itA;rw[Ω,F.U.len];rfl
theorem CbOk.get(C:CbOk X h fr i rw c)(hx:c.cd=some x){P:Prop}(k:∀nd,x<3->(X.it i).c=some (kyN x,nd)->c.inN=JU (kyN x) X.names->(0<c.n->Rw h (fr x) rw/\rw.length=c.n)->P):P:=
 C.cd.elim (λq=>no (q.1.symm.trans hx)) λq=>q.elim λx' q=>q.elim λnd q=>by
  cases oi (q.2.1.symm.trans hx);exact k nd q.1 q.2.2.1 q.2.2.2.1 q.2.2.2.2
theorem tnOp_x{r:List Addr}(h:x<3):tnOp X fr i r (30+x)=fr x:=by
 match x,h with
 |0,_=>rfl
 |1,_=>rfl
 |2,_=>rfl
theorem tn_kn(F:SnF X)(H:SnH X h)(hk:(Ze X.ps)[k]?=some i)(C:CbOk X h fr i rw c):Zp X.om h (tnN X fr i (rw.map (·.1))) u own (tnKn (vsT X k) c):=by
 have hi:i<X.n:=F.U.lt i (Θ hk);have O:=H.Hi i hi;refine {kn0 with sob:=λq ao e=>?_,oatt:=λq y v9 e=>?_,smem:=λq y b e=>?_}
 ·refine bif_of (b:=Nat.beq q 2) (show (Bool.rec (Bool.rec (obO c.cd λx=>ifO (Nat.beq q (30+x)&&Nat.blt 0 c.n) (some (.list (ZD 40 c.n)))) (some (.list (Option.rec [] (λZ=>[.op 22]) c.cd))) (Nat.beq q 21)) (some (.list (vsT X k))) (Nat.beq q 2):Option AO)=some ao from e) (λe2 e=>?_) λZ e=>bif_of e (λe2 e=>?_) λZ e=>Jo e λx hx e=>Jt e λe2 e=>Jr e2 λe2 e5=>C.get hx λnd q1 q2 q3 q4=>?_
  ·rw[nq e2,<-oi e]
   exact H.lst.elim λxs r=>r.elim λn r=>⟨_,r.1,λL Z=>OkP.lst (Jq.set_ (w:=.ref (Js X.L2 (iA i))) (itA_len F▸WU r.2 λj z e=>(tnOp_v j).trans (Jy e)) (by rw[r.2,δ,ordI_get hk];rfl) rfl)⟩
  ·rw[nq e2,<-oi e]
   refine O.l.elim λxs r=>r.elim λn r=>⟨_,r.1,λL Z=>OkP.lst ?_⟩;rw[r.2];refine C.cd.elim (λq=>?_) λq=>q.elim λx q=>q.elim λnd q=>?_
   ·rw[q.1,q.2];rfl
   ·rw[q.2.1,q.2.2.1]
    exact⟨_,_,rfl,Ja Value.ref (show nd=condA (X.it i)by unfold condA;rw[q.2.2.1]),rfl⟩
  ·rw[nq e2,<-oi e]
   have R:=q4 (nl e5);exact R.1.lst.elim λxs r=>r.elim λn r=>⟨_,(Ja h.get? (tnOp_x (X:=X) (fr:=fr) (i:=i) (r:=rw.map λp:Addr×List Str=>p.1) q1)).trans r.1,λL Z=>OkP.lst (R.2▸dens_ops r.2 λj p e=>(tnOp_r (Ϛ (lt_ e) (Jk R.1.len (by decide)))).trans (nthA_map e))⟩
 ·refine Jt (show ifO (Nat.beq q 3) (obO c.cd λx=>ifO (sEq y (kyN x)) (some c.inN))=some b from e) λe2 e=>Jo e λx hx e=>Jt e λe3 e=>C.get hx λnd q1 q2 q3 q4=>?_
  rw[nq e2,Jw e3,<-oi e];exact⟨H.nms.ns,H.nms.d.elim λys r=>r.elim λnm0 r=>r.elim λL0 r=>r.elim λds r=>⟨_,_,nm0,L0,r.1,⟨ds,_,rfl,r.2.1⟩,look_keys.trans ((anyS_iff (r.2.2 _)).trans q3.symm)⟩⟩
 ·refine bif_of (b:=Nat.beq q 20) (show (Bool.rec (ifO (Nat.beq q 22) (obO c.cd λx=>ifO (sEq y "name") (some (.str (kyN x))))) (Bool.rec (ifO (sEq y "name") (some (.sym 0 100))) (some (.op 21)) (sEq y "conditions")) (Nat.beq q 20):Option AV)=some v9 from e) (λe2 e=>bif_of e (λe3 e=>?_) λZ e=>Jt e λe3 e=>?_) λZ e=>Jt e λe2 e=>Jo e λx hx e=>Jt e λe3 e=>C.get hx λnd p1 p2 p3 p4=>?_
  ·rw[nq e2,Jw e3,<-oi e]
   exact att_oatt O.i (F.ia i hi).symm (by rfl') λy dy L Z=>dy
  ·rw[nq e2,Jw e3,<-oi e]
   exact H.T.att F.ok hi (z:=nmA i) rfl (by rfl') (by rfl') (nmS_cs (i:=i) (f:=X.f) (λe=>by subst e;rfl) (λe=>by subst e;rfl) λZ Z Z e=>by rw[e];rfl) λy dy L hL=>nmA_den rfl dy
  ·rw[nq e2,Jw e3,<-oi e]
   have e5:condA (X.it i)=nd:=by unfold condA;rw[p2]
   exact att_oatt (O.n _ p2).2 e5 (by rfl') λy dy L Z=>dy
theorem dens_sy0{nm1:Nt}{L1:List Addr}:∀{js:List Nat} {us:List Value} {b:Nat},Jq nm1 L1 (js.map λj=>.sym 0 j) us->(∀i j,js[i]?=some j->nm.f (b+i)=nm1.f j)->Jq nm L (sy0 b js.length) us:=by
 intro v0_;induction v0_ with
 |nil=>
  intro Z Z e Z;exact e
 |cons j js ih=>
  intro Z b y3_ H;obtain ⟨w,r,e,d,ds⟩:=y3_;exact e▸Jq.cons (a:=.sym 0 b) (Den.sym_ (nm:=nm1) (L:=L1) (c:=0) (k:=j) d λt ew hp=>⟨t,ew.trans (Ja (λz=>Value.str z t) (H 0 j rfl).symm),(show nm.f b=nm1.f j from H 0 j rfl)▸hp⟩) (ih ds λi z hz=>(Ja nm.f (by lia)).trans (H (i+1) z hz))
theorem fileS_pos(ps:List Nat)(i:Nat):fileS ps i∈JR 2:=by
 unfold fileS;induction JN 1 (i::anc ps i)with
 |true=>exact .tail _ (.tail _ (.tail _ (.tail _ (.head _))))
 |false=>exact .tail _ (.tail _ (.tail _ (.tail _ (.tail _ (.head _)))))
variable {nm1 nm2:Nt}{L1:List Addr}{K:Nat}{s s':Shared}{cx:Cx}
theorem tnF_a(q:Nat):tnF X i (200+q)=nrf ((anc X.ps i).map (nmS X.f)) q:=by unfold tnF;rw[Zj (show 200<=200+q by lia),Ψ]
theorem tn_ora{g:Gin X.om s own X.out}{r:List Addr}{hP:cx.P=X.om.w.params}{tb:cx.lam=true->tbs<+:own}{kn:Zp X.om g.hF (tnN X fr i r) u own cx.kn}(hc:cx.ora=tnOra (anc X.ps i).length)(F:SnF X)(H:SnH X g.hF)(hi:i<X.n)(ho:X.L6<+:own):Wv (g.gd (tnN X fr i r) u cx (K+121) hP tb kn):=λa args A fs y us Q E hm pt hf dd P=>by
 have P:PG y (Bool.rec (ifT (Nat.beq a 327) (ifT (Ww args [.loc 1,.op 20]&&JY y.S (ZJ Jx 0)) (.ok (.v (.sym 2 101)) y.S))) (ifT (Ww args [.op 20]&&JY y.S (ZJ Jx 0)) (pushV y.S (.list (sy0 200 (anc X.ps i).length)))) (Nat.beq a 272)) Q E:=by
  have e:(g.gd (tnN X fr i r) u cx (K+121) hP tb kn).cx.ora=tnOra (anc X.ps i).length:=hc;rw[e]at P;exact P
 induction h1:Nat.beq a 272 with
 |true=>
  rw[h1]at P;cases nq h1;refine PG.ifT P λhb P9=>Jr hb λhb1 hb2=>?_;have D:=WK.of y F.l6 ho hb2;cases Zq hb1;refine dd.one λw1 ew d1=>?_;subst ew;cases d1;exact na_ok (K:=K) (F.B i hi) pt hf D.ob (D.gin pt hf) y.base D.nw F.ok H.T F.nf F.nd F.e0 F.e1 λs' a L' o af D' hn hf ho ok=>D.new P9 D' af hn hf ho (ok.list_ λxs n eo dd=>eo▸OkP.lst (dens_sy0 (b:=200) dd λq j e=>(tnF_a q).trans (nrfG e)))
 |false=>
  rw[h1]at P;refine PG.ifT P λh2 P=>PG.ifT P λhb P9=>Jr hb λhb1 hb2=>?_;cases nq h2;have D:=WK.of y F.l6 ho hb2;cases Zq hb1;refine dd.two λw1 w2 ew d1 d2=>?_;subst ew;cases d2;refine d1.loc_ λad had e=>?_;subst e;have l1:X.L6[1]?=some ad:=by
   have z:=Φ (show 1<X.L6.length by rw[F.l6];decide);exact z.trans ((Jp D.pre z).symm.trans had)
  exact fo_ok (K:=K) (F.B i hi) pt hf D.ob (D.gin pt hf) y.base D.nw F.ok H.T F.nf F.nd F.e0 F.e1 l1 λs' t af D'=>D.val P9 D' af ⟨t,rfl,fileS_pos _ _⟩
def pathS(X:SnP)(i:Nat):List Str:=nmS X.f i::((anc X.ps i).map (nmS X.f)++[fileS X.ps i])
def rowX(X:SnP)(x i:Nat):Option (List Str):=obO (X.it i).c λp=>ifO (sEq p.1 (kyN x)&&JU (kyN x) X.names) (some (pathS X i))
def rowsX(X:SnP)(x k:Nat):List (List Str):=((Ze X.ps).take k).filterMap (rowX X x)
theorem rowsX_s(hk:(Ze X.ps)[k]?=some i):rowsX X x (k+1)=rowsX X x k++(rowX X x i).toList:=by
 unfold rowsX;rw[List.take_add_one,hk,List.filterMap_append];refine Ja (_++·) ?_
 show List.filterMap (rowX X x) [i]=_;induction e:rowX X x i with
 |none=>rw[List.filterMap_cons_none e];rfl
 |some r=>rw[List.filterMap_cons_some e];rfl
theorem rowsX_le:(rowsX X x k).length<=k:=Jk (List.length_filterMap_le _ _) (List.length_take_le _ _)
theorem rowsX_in(h:rowsX X x k≠[]):JU (kyN x) X.names=true:=by
 obtain ⟨r,hr⟩:=List.exists_mem_of_ne_nil _ h;obtain ⟨i,_,e⟩:=List.mem_filterMap.mp hr;exact Jo e λp Z e=>Jt e λhb Z=>Jr hb λZ h2=>h2
theorem poss02{y:Str}(h:y∈JR 0):y∈JR 2:=μ (["","X","A","B"]:List Str) h
theorem strs_app{us vs:List Value}{ys zs:List Str}(h:StrsAre us ys)(h2:StrsAre vs zs):StrsAre (us++vs) (ys++zs):=by
 induction h with
 |nil=>exact h2
 |cons y t _ ih=>exact .cons y t ih
theorem Jq.split:∀{l r:List AV} {us:List Value},Jq nm L (l++r) us->∃u1 u2,us=u1++u2/\Jq nm L l u1/\Jq nm L r u2:=by
 intro v0_;induction v0_ with
 |nil=>
  intro Z us d;exact⟨[],us,rfl,rfl,d⟩
 |cons _ _ ih=>
  intro Z Z y3_;obtain ⟨w,r,e,d,ds⟩:=y3_;exact(ih ds).elim λu1 q=>q.elim λu2 q=>⟨w::u1,u2,e.trans (Ja (w::·) q.1),⟨w,u1,rfl,d,q.2.1⟩,q.2.2⟩
theorem strs_js{f':Nat->Str}:∀{js:List Nat} {us:List Value} {b:Nat},Jq nm L (sy0 b js.length) us->(∀i j,js[i]?=some j->nm.f (b+i)=f' j)->StrsAre us (js.map f')/\∀y∈js.map f',y∈JR 2:=by
 intro v0_;induction v0_ with
 |nil=>
  intro us Z d Z;exact⟨(show us=[]from d)▸.nil,λy h=>absurd h Ξ⟩
 |cons j js ih=>
  intro us b y3_ H;obtain ⟨w,r,e,⟨t,ew,hp⟩,ds⟩:=y3_;have ih:=ih ds λi z hz=>(Ja nm.f (by lia)).trans (H (i+1) z hz);rw[show nm.f b=f' j from H 0 j rfl]at ew hp;exact⟨e▸ew▸.cons _ t ih.1,λy hy=>(mc_ hy).elim (λz=>z▸poss02 hp) (ih.2 y)⟩
theorem path_ok{r:List Addr}(d:Jq (tnN X fr i r) L (.sym 0 100::(sy0 200 (anc X.ps i).length++[.sym 2 101])) us):StrsAre us (pathS X i)/\∀y∈pathS X i,y∈JR 2:=by
 obtain ⟨w,r,e,⟨t,ew,hp⟩,ds⟩:=d;obtain ⟨u1,u2,e2,d1,d2⟩:=Jq.split ds;refine d2.one λw2 e3 dw=>?_;obtain ⟨t2,ew2,hp2⟩:=dw;have q:=strs_js (f':=nmS X.f) d1 λq j e=>(tnF_a q).trans (nrfG e);refine⟨?_,λy hy=>?_⟩
 ·rw[e,e2,ew,e3,ew2]
  exact .cons _ t (strs_app q.1 (.cons _ t2 .nil))
 ·refine(mc_ hy).elim (λz=>z▸poss02 hp) λhy=>(ma_ hy).elim (q.2 y) λhy=>?_
  rw[ms_ hy];exact hp2
theorem anc_all:((JW 5).all λT=>(Wj T).all λps=>(JW (2+T)).all λi=>Nat.blt (anc ps i).length 5)=true:=by rfl'
theorem anc_le(F:SnF X)(hi:i<X.n):(anc X.ps i).length<=4:=Je (nl (al_ (al_ (al_ anc_all _ (JD (Jh F.ok.l4))) _ (shapes_in _ _ rfl F.ok.lt)) _ (JD hi)))
theorem Ens.map_{P:Params}{g1 g2:Nat->AV}:∀{l:List Nat} {ds:List DictEntry},(∀c∈l,∀w,Den nm1 L1 (g1 c) w->Den nm2 L (g2 c) w)->Ens P nm1 L1 (l.map λc=>(kyN c,g1 c)) ds->Ens P nm2 L (l.map λc=>(kyN c,g2 c)) ds:=by
 intro v0_;induction v0_ with
 |nil=>
  intro Z Z e;exact e
 |cons c l ih=>
  intro Z H y3_;obtain ⟨e,r,q,d,t⟩:=y3_;exact⟨e,r,q,⟨d.key,d.hash,H c (.head _) _ d.val⟩,ih (λz hz=>H z (.tail _ hz)) t⟩
theorem OkP.map_{om:Om}{o:Obj}{g1 g2:Nat->AV}{l:List Nat}(H:∀c∈l,∀w,Den nm1 L1 (g1 c) w->Den nm2 L (g2 c) w)(p:OkP om nm1 L1 a (.dict (l.map λc=>(kyN c,g1 c))) o):OkP om nm2 L a (.dict (l.map λc=>(kyN c,g2 c))) o:=
 p.dict_ λds hs eo en=>⟨hs,ds,eo.trans (Ja (dictOf ds) (by rw[Ω,Ω])),Ens.map_ H en⟩
theorem tn_runs(P:Params)(vs:List AV)(k:Nat):combos.map (λc=>tnO c (tnR P vs c k))=List.replicate 1135 (some (some (.lio 2 (k+1)))):=by rfl'
def snL(k:Nat)(ord:List Nat):List AO:=Jx++[.ns [("data",.loc 1),("names",.op 3),("found",.loc 8)],.lio 2 k,.dict (snEs ord)]
def snV:List (Str×AV):=[("data",.loc 1),("names",.op 3),("found",.loc 8)]
structure SnI(X:SnP)(k:Nat)(s:Shared)(ord:List Nat)(fr:Nat->Addr)(rws:Nat->Rws):Prop where
 g:Gin X.om s X.own X.out
 h:SnH X g.hF
 ob:ObL X.om (snN X fr) s X.own X.own (snL k ord)
 o:ord∈ZC
 has:∀x,x<3->(x∈ord↔rws x≠[])
 rw:∀x∈ord,Rw g.hF (fr x) (rws x)
 rs:∀x,x<3->(rws x).map (·.2)=rowsX X x k
 af:Aft X.L6 X.out X.s0 s
variable {fr':Nat->Addr}{rws:Nat->Rws}{L':List Addr}{ord:List Nat}{A:Around}{env:Env}{Q:SP Flow}{S1:St}{p:Str×Addr}
theorem ord_ok(ord:List Nat)(k:Nat):okS (snL k ord)=true:=by rfl'
theorem own_at(h6:X.L6.length=6):X.own[6]?=some X.aNs/\X.own[7]?=some X.aIt/\X.own[8]?=some X.aF/\X.own.length=9:=by
 unfold SnP.own;refine⟨?_,?_,?_,by rw[ς,h6];rfl⟩<;>(rw[ϝ (by rw[h6];decide),h6];rfl)
theorem snOp_c(h:x<3):snOp X fr (30+x)=fr x:=by
 match x,h with
 |0,_=>rfl
 |1,_=>rfl
 |2,_=>rfl
theorem tnOp_c{r:List Addr}(h:x<3):tnOp X fr n r (30+x)=fr x:=by
 match x,h with
 |0,_=>rfl
 |1,_=>rfl
 |2,_=>rfl
theorem tnOp_d{r:List Addr}(h:datQ k=true):(snN X fr').op k=(tnN X fr n r).op k:=by
 have h:k∈[0,1,8,9]:=JV h;rcases mc_ h with rfl|h
 ·rfl
 rcases mc_ h with rfl|h
 ·rfl
 rcases mc_ h with rfl|h
 ·rfl
 rw[ms_ h];rfl
def stQ(k:Nat):Bool:=JN k [2,3,30,31,32]||datQ k
theorem stQ_eq{r:List Addr}(h:stQ k=true):(snN X fr).op k=(tnN X fr n r).op k:=(Bool.or_eq_true_iff.mp h).elim (λh=>by
 have h:k∈[2,3,30,31,32]:=JV h;rcases mc_ h with rfl|h
 ·rfl
 rcases mc_ h with rfl|h
 ·rfl
 rcases mc_ h with rfl|h
 ·rfl
 rcases mc_ h with rfl|h
 ·rfl
 rw[ms_ h];rfl) tnOp_d
theorem ord_q(k:Nat):(ZC.all λo=>(snL k o).all λao=>allO (nmV stQ) ao)=true:=by rfl'
theorem ins_mem{y:Nat}:y∈insO x ord↔y∈ord\/y=x:=by
 unfold insO;induction e:JN x ord with
 |true=>exact⟨.inl,λh=>h.elim id λz=>by rw[z];exact JV e⟩
 |false=>exact List.mem_append.trans ⟨λh=>h.imp id ms_,λh=>h.imp id List.mem_singleton.mpr⟩
theorem ins_in(h:ord∈ZC)(hx:x<3):insO x ord∈ZC:=by
 have q:=al_ (al_ ins_ords _ h) x (lt3 hx);obtain ⟨o',h1,h2⟩:=List.any_eq_true.mp q;exact(Ws h2)▸h1
theorem opsF_len:∀{m b:Nat},(ZD b m).length=m:=by
 intro v0_;induction v0_ with
 |zero=>
  intro Z;exact rfl
 |succ m ih=>
  intro b;exact Ja (·+1) (ih (b:=b+1))
theorem tn_at(P:Params)(vs:List AV)(k:Nat)(hc:c∈combos){C:Prop}(K:∀S1,tnR P vs c k=.ok (.vs []) S1->snNs S1=true->JY S1 (tnL c)=true->S1.get 7=some (.lio 2 (k+1))->C):C:=by
 have h:tnO c (tnR P vs c k)=some (some (.lio 2 (k+1))):=List.eq_of_mem_replicate (tn_runs P vs k▸ϕ (f:=λc=>tnO c (tnR P vs c k)) hc);induction e:tnR P vs c k with
 |no=>rw[e]at h;exact no h
 |ask _ _ _=>rw[e]at h;exact no h
 |ok o S1=>
  rw[e]at h;refine Jt h λhb h=>Jr hb λh1 h2=>Jr h2 λh2 h3=>K S1 ?_ h2 h3 (oi h);rw[e];induction o with
  |vs l=>induction l using c_ with
   |nil=>rfl
   |cons _ _=>exact nb h1
  |_=>exact nb h1
theorem sn_core(F:SnF X)(I:SnI X k s ord fr rws)(hfr:A.frames=some (env::X.out))(hdl:A.handled=none)(room:Room A (140+(K+121)))(Fr:ZA X.own (frZ (fiP X.om.w.params 564) 6 []) env)(hk:(Ze X.ps)[k]?=some i)(C:CbOk X I.g.hF fr i rw c)(hc:c∈combos)(eo:c.ord=ord)
  (N:∀S1 L' s',Bk X.om (tnN X fr i (rw.map (·.1))) X.own X.out s S1 L' s'->snNs S1=true->JY S1 (tnL c)=true->S1.get 7=some (.lio 2 (k+1))->codeAny (Mdl X.om) A (.forLoop (Zr X.om.w.params).1 (.ref X.aIt) (Zr X.om.w.params).2 [] env) (Zt Q) s') :
  codeAny (Mdl X.om) A (.forLoop (Zr X.om.w.params).1 (.ref X.aIt) (Zr X.om.w.params).2 [] env) (Zt Q) s:=
 tn_at X.om.w.params (vsT X k) k hc λS1 hr h1 h2 h3=>by
  have O:=own_at F.l6;have hi:i<X.n:=F.U.lt i (Θ hk);have kn:=tn_kn (u:=λZ=>false) (own:=X.own) F I.h hk C;subst eo;have hd:=tn_hd X.om.w.params k c.ord;have e1:=Ja Prod.fst hd;have e2:=Ja (λp=>p.2.1) hd;have e3:=Ja (λp=>p.2.2.1) hd;have hlen:k<(ZD 600 X.n).length:=by
   rw[opsF_len];have:=(lt_ hk);rw[F.U.len]at this;exact this
  have ob:ObL X.om (tnN X fr i (rw.map (·.1))) s X.own X.own (snL k c.ord):=by
   refine I.ob.re (q:=stQ) (λq hq=>?_) λao ha=>al_ (al_ (ord_q k) _ I.o) ao ha;exact(stQ_eq hq).symm
  refine goT (n:=40) (k:=K+121) (cx:=tnCx X.om.w.params (vsT X k) c) (nm:=tnN X fr i (rw.map (·.1))) (u:=λZ=>false) (own:=X.own) (S:=tnS k c.ord) (i:=7) (S1:=S1) hfr hdl room I.g (Beg.of ob (stL (ord_ok _ _))) rfl (λh=>nb h) kn (tn_ora (K:=K) (Ja tnOra C.m) F I.h hi (θ _ _)) Fr rfl rfl ⟨snV,(stL (ord_ok _ _)).get 6⟩ O.2.1 (λkk=>?_) λL' s' B=>N S1 L' s' B h1 h2 h3
  have hv:(vsT X k)[k]?=some (.op 20):=List.getElem?_set_self hlen;show ifT true (ifT (Wy (tnS k c.ord) 7 (Zr X.om.w.params).1) (nextR (tnCx X.om.w.params (vsT X k) c) (tnS k c.ord) 7 _ _))=_;rw[show Wy (tnS k c.ord) 7 (Zr X.om.w.params).1=true from e1];show nextR (tnCx X.om.w.params (vsT X k) c) (tnS k c.ord) 7 _ _=_;rw[lio_next (cx:=tnCx X.om.w.params (vsT X k) c) (vs:=vsT X k) e2 rfl hv e3];exact kk_of hr kk
variable {rws':Nat->Rws}{L6:List Addr}{s0:Shared}{ord':List Nat}{out:List Env}
theorem Aft.then_(a1:Aft L6 out s0 s)(a2:Aft own out s s')(hl:∀a∈own,a∈L6\/s0.heap.get? a=none):Aft L6 out s0 s' where
 keep b o hb hf e:=a2.keep b o (λhm=>(hl b hm).elim hb λz=>no (z.symm.trans e)) hf (a1.keep b o hb hf e)
 frs e he a m o h1 h2 h3:=(a1.frs e he a m o h1 h2 h3).elim λo' q=>a2.frs e he a m o' h1 q.1 q.2
 gens:=a2.gens.trans a1.gens
 dr:=a2.dr.trans a1.dr
 os:=a2.os.trans a1.os
theorem snNs_of(h:snNs S1=true):∃es,S1.get 6=some (.ns es)/\look "data" es=some (.loc 1)/\look "names" es=some (.op 3)/\look "found" es=some (.loc 8):=by
 unfold snNs at h;induction e:gv vNs S1 6 with
 |none=>rw[e]at h;exact nb h
 |some es=>
  rw[e]at h;refine Jr h λh h3=>Jr h λh1 h2=>Jz e λao g v=>⟨es,?_,ZG h1,Wb h2,ZG h3⟩;rw[g];induction ao with
  |ns es'=>cases v;rfl
  |_=>exact no v
theorem sn_next(F:SnF X)(nw:∀a∈X.own,a∈X.L6\/X.s0.heap.get? a=none)(I:SnI X k s ord fr rws)(B:Bk X.om nm X.own X.out s S1 L' s')(hd:∀q,datQ q=true->(snN X fr').op q=nm.op q)(h2:nm.op 2=X.aI)(h3:nm.op 3=X.aN)(hn:snNs S1=true)(hL:∀p∈ZJ Jx 0,S1.get p.1=some p.2)(h7:S1.get 7=some (.lio 2 (k+1))){es:List (Str×AV)}(h8:S1.get 8=some (.dict es))(hm:∀o,OkP X.om nm L' X.aF (.dict es) o->OkP X.om (snN X fr') X.own X.aF (.dict (snEs ord')) o)
  (o:ord'∈ZC) (has:∀x,x<3->(x∈ord'↔rws' x≠[])) (rw:∀g':Gin X.om s' X.own X.out,∀x∈ord',Rw g'.hF (fr' x) (rws' x)) (rs:∀x,x<3->(rws' x).map (·.2)=rowsX X x (k+1)):SnI X (k+1) s' ord' fr' rws':=by
 have O:=own_at F.l6
 have g':Gin X.om s' X.own X.out:=I.g.next B I.g.nd λa h=>B.pre.subset h
 refine⟨g',I.h.up λb o e=>I.g.grow B g' e,?_,o,has,rw g',rs,I.af.then_ B.aft nw⟩
 have D:ObL X.om (snN X fr') s' X.own X.L6 Jx:=(Wg F.l6 (θ _ _) B.pre B.objs hL).re (q:=datQ) hd Zl
 refine D.app ?_
 obtain ⟨es6,g6,l1,l2,l3⟩:=snNs_of hn
 refine B.get g6 (Jp B.pre O.1) λo6 ho6 p6=>B.get h7 (Jp B.pre O.2.1) λo7 ho7 p7=>B.get h8 (Jp B.pre O.2.2.1) λo8 ho8 p8=>ObL.cons ho6 (OkP.renN p6 ⟨⟨_,l1,nofun,λw d=>Den.down B.pre (by rw[O.2.2.2];decide) d⟩,⟨_,l2,nofun,λw d=>Eq.trans d (Ja Value.ref h3)⟩,⟨_,l3,nofun,λw d=>Den.down B.pre (by rw[O.2.2.2];decide) d⟩,trivial⟩) (ObL.cons ho7 ⟨p7.1,p7.2.trans (by rw[h2];rfl)⟩ (ObL.cons ho8 (hm _ p8) ObL.nil))
theorem tnL_of(h:JY S1 (tnL c)=true):(∀p∈ZJ Jx 0,S1.get p.1=some p.2)/\((newC c=none/\S1.get 8=some (.dict (snEs c.ord)))\/∃x,newC c=some x/\S1.get 8=some (.dict (snEsX x c.ord))/\S1.get 14=some (.list (.sym 0 100::(sy0 200 c.m++[.sym 2 101])))/\S1.get 17=some (.list (ZD 40 c.n++[.loc 14]))):=by
 have q:=Zx h;unfold tnL at q;refine⟨λp hp=>q p (ξ _ hp),?_⟩;induction e:newC c with
 |none=>rw[e]at q;exact .inl ⟨rfl,q (8,_) (μ _ (.head _))⟩
 |some x=>rw[e]at q;exact .inr ⟨x,rfl,q (8,_) (μ _ (.head _)),q (14,_) (μ _ (.tail _ (.head _))),q (17,_) (μ _ (.tail _ (.tail _ (.head _))))⟩
theorem sn_same(F:SnF X)(nw:∀a∈X.own,a∈X.L6\/X.s0.heap.get? a=none)(I:SnI X k s ord fr rws){r:List Addr}(B:Bk X.om (tnN X fr i r) X.own X.out s S1 L' s')(hk:(Ze X.ps)[k]?=some i)(hn:snNs S1=true)(hL:∀p∈ZJ Jx 0,S1.get p.1=some p.2)(h7:S1.get 7=some (.lio 2 (k+1)))(h8:S1.get 8=some (.dict (snEs ord)))(hr:∀x,x<3->rowX X x i=none):SnI X (k+1) s' ord fr rws:=
 sn_next F nw I B (λq hq=>tnOp_d hq) rfl rfl hn hL h7 h8 (λo p=>OkP.map_ (g1:=λc=>.op (30+c)) (g2:=λc=>.op (30+c)) (λc hc w d=>(show w=_ from d).trans (Ja Value.ref ((tnOp_c (Zd I.o hc)).trans (snOp_c (Zd I.o hc)).symm))) p) I.o I.has (λg' x hx=>(I.rw x hx).up λb o e=>I.g.grow B g' e) λx hx=>by
  rw[rowsX_s hk,hr x hx,I.rs x hx];exact(List.append_nil _).symm
def updA(x:Nat)(a:Addr)(fr:Nat->Addr)(y:Nat):Addr:=Bool.rec (fr y) a (Nat.beq x y)
def updR(x:Nat)(r:Rws)(rws:Nat->Rws)(y:Nat):Rws:=Bool.rec (rws y) r (Nat.beq x y)
theorem sn_new(F:SnF X)(nw:∀a∈X.own,a∈X.L6\/X.s0.heap.get? a=none)(I:SnI X k s ord fr rws)(hx:x<3)(B:Bk X.om (tnN X fr i ((rws x).map (·.1))) X.own X.out s S1 L' s')(hk:(Ze X.ps)[k]?=some i)(hn:snNs S1=true)(hL:∀p∈ZJ Jx 0,S1.get p.1=some p.2)(h7:S1.get 7=some (.lio 2 (k+1)))(h8:S1.get 8=some (.dict (snEsX x ord)))(h14:S1.get 14=some (.list (.sym 0 100::(sy0 200 (anc X.ps i).length++[.sym 2 101]))))(h17:S1.get 17=some (.list (ZD 40 (rws x).length++[.loc 14])))(hr:∀y,y<3->rowX X y i=Bool.rec none (some (pathS X i)) (Nat.beq x y)):∃fr' rws',SnI X (k+1) s' (insO x ord) fr' rws':=by
 have O:=own_at F.l6;have hi:i<X.n:=F.U.lt i (Θ hk);have lk:k<2+X.ps.length:=F.U.len▸(lt_ hk);have l4:=F.ok.l4;have lr:(rws x).length<=k:=by rw[<-Ω (f:=(·.2)),I.rs x hx];exact rowsX_le
 refine B.at_ h14 λa14 o14 l14 ho14 p14=>B.at_ h17 λa17 o17 l17 ho17 p17=>⟨updA x a17 fr,updR x (rws x++[(a14,pathS X i)]) rws,?_⟩;have oI:=ins_in I.o hx;have ux:∀{y},Nat.beq x y=true->updA x a17 fr y=a17/\updR x (rws x++[(a14,pathS X i)]) rws y=rws x++[(a14,pathS X i)]:=fun {y} e=>by unfold updA updR;rw[e];exact⟨rfl,rfl⟩
 have un:∀{y},Nat.beq x y=false->updA x a17 fr y=fr y/\updR x (rws x++[(a14,pathS X i)]) rws y=rws y:=fun {y} e=>by unfold updA updR;rw[e];exact⟨rfl,rfl⟩
 have io:∀{y},Nat.beq x y=false->y∈insO x ord->y∈ord:=fun {y} e h=>(ins_mem.mp h).elim id λz=>absurd z.symm (ε e);refine sn_next F nw I B (λq hq=>tnOp_d hq) rfl rfl hn hL h7 h8 (λo p=>OkP.map_ (λy hy w d=>?_) p) oI (λy hy=>?_) (λg' y hy=>?_) λy hy=>?_
 ·have ly:=Zd oI hy
  show w=Value.ref (snOp X _ (30+y));rw[snOp_c ly];induction e:Nat.beq x y with
  |true=>
   rw[e]at d;rw[(ux e).1];exact d.loc_ λa ha ew=>ew.trans (Ja Value.ref (oi (ha.symm.trans l17)))
  |false=>
   rw[e]at d;rw[(un e).1];exact(show w=_ from d).trans (Ja Value.ref (tnOp_c ly))
 ·induction e:Nat.beq x y with
  |true=>
   rw[(ux e).2,<-nq e];exact⟨λZ h=>(nomatch (List.append_eq_nil_iff.mp h).2),λZ=>ins_mem.mpr (.inr rfl)⟩
  |false=>
   rw[(un e).2,<-I.has y hy];exact⟨io e,λh=>ins_mem.mpr (.inl h)⟩
 ·induction e:Nat.beq x y with
  |false=>
   rw[(un e).1,(un e).2];exact(I.rw y (io e hy)).up λb o e=>I.g.grow B g' e
  |true=>
   rw[(ux e).1,(ux e).2];have st:∀{j a o},9<=j->L'[j]?=some a->s'.heap.get? a=some o->g'.hF.get? a=some o:=fun {j a o} hj hl ho=>g'.stays a o (λhm=>(mi_ hm).elim λq hq=>by
    have:=Ju B.nd hl (Jp B.pre hq);have:=(lt_ hq);rw[O.2.2.2]at this;lia) (B.fre.one (Θ hl)) ho
   have pq:∀{P:Addr×List Str->Prop},(∀p∈rws x,Rw I.g.hF (fr x) (rws x)->P p)->P (a14,pathS X i)->∀p∈rws x++[(a14,pathS X i)],P p:=λh1 h2 p hp=>(ma_ hp).elim (λhp=>h1 p hp (I.rw x ((I.has x hx).mpr λz=>by rw[z]at hp;exact absurd hp Ξ))) λhp=>(ms_ hp)▸h2;refine p14.list_ λxs14 n14 e14 d14=>p17.list_ λxs17 n17 e17 d17=>?_;have pk:=path_ok d14;obtain ⟨u1,u2,e2,d1,d2⟩:=Jq.split d17;refine⟨⟨xs17,n17,st (by decide) l17 (e17▸ho17),?_⟩,pq (λp hp R=>(R.row p hp).imp λxs q=>q.imp λn q=>⟨I.g.grow B g' q.1,q.2⟩) ⟨xs14,n14,st (by decide) l14 (e14▸ho14),pk.1⟩,pq (λp hp R=>R.ly p hp) ⟨?_,pk.2⟩,?_⟩
   ·rw[e2,List.map_append]
    have q1:u1=((rws x).map (·.1)).map Value.ref:=dens_opsI (as:=(rws x).map (·.1)) (b:=40) (by rw[Ω];exact d1) λj a e=>(tnOp_r (by have:=(lt_ e);rw[Ω]at this;lia)).trans (Jy e)
    rw[q1,Jb];refine d2.one λw ew dw=>dw.loc_ λa ha e'=>?_;cases l14.symm.trans ha;rw[ew,e'];rfl
   ·have:=anc_le F hi
    show ((anc X.ps i).map (nmS X.f)++[fileS X.ps i]).length+1<=6;rw[ς,Ω,Jg];lia
   ·rw[ς,Jg];lia
 ·rw[rowsX_s hk,hr y hy]
  induction e:Nat.beq x y with
  |true=>
   rw[(ux e).2,<-nq e,List.map_append,I.rs x hx];rfl
  |false=>rw[(un e).2,I.rs y hy];exact(List.append_nil _).symm
variable {m:Nat}{cd:Option Nat}{b:Bool}
theorem combo_in(hcd:cd=none\/∃x,x<3/\cd=some x)(ho:ord∈ZC)(hn:n<6)(hm:m<5)(ok:okC ⟨cd,b,ord,n,m⟩=true):(⟨cd,b,ord,n,m⟩:Cb)∈combos:=
 List.mem_filter.mpr ⟨List.mem_flatMap.mpr ⟨cd,hcd.elim (λe=>e▸.head _) λ⟨x,hx,e⟩=>e▸.tail _ (ϕ (f:=some) (lt3 hx)),List.mem_flatMap.mpr ⟨b,by induction b<;>first|exact .head _|exact .tail _ (.head _),List.mem_flatMap.mpr ⟨ord,ho,List.mem_flatMap.mpr ⟨n,JD hn,List.mem_map.mpr ⟨m,JD hm,rfl⟩⟩⟩⟩⟩,ok⟩
theorem kyN_of{y:Str}(h:y∈JG 3):∃x,x<3/\y=kyN x:=by
 rcases mc_ h with rfl|h
 ·exact⟨0,by decide,rfl⟩
 rcases mc_ h with rfl|h
 ·exact⟨1,by decide,rfl⟩
 rw[ms_ h];exact⟨2,by decide,rfl⟩
structure SnC(X:SnP)(A:Around)(env:Env)(K:Nat):Prop where
 F:SnF X
 nw:∀a∈X.own,a∈X.L6\/X.s0.heap.get? a=none
 ic:∀i,i<X.n->∀p,(X.it i).c=some p->p.1∈JG 3
 fr:A.frames=some (env::X.out)
 hdl:A.handled=none
 room:Room A (140+(K+121))
 Fr:ZA X.own (frZ (fiP X.om.w.params 564) 6 []) env
theorem sn_turn(W:SnC X A env K)(I:SnI X k s ord fr rws)(hk:(Ze X.ps)[k]?=some i)
  (N:∀s' ord' fr' rws',SnI X (k+1) s' ord' fr' rws'->codeAny (Mdl X.om) A (.forLoop (Zr X.om.w.params).1 (.ref X.aIt) (Zr X.om.w.params).2 [] env) (Zt Q) s') :
  codeAny (Mdl X.om) A (.forLoop (Zr X.om.w.params).1 (.ref X.aIt) (Zr X.om.w.params).2 [] env) (Zt Q) s:=by
 have F:=W.F
 have hi:i<X.n:=F.U.lt i (Θ hk)
 have lk:k<2+X.ps.length:=F.U.len▸(lt_ hk)
 have l4:=F.ok.l4
 have la:=Jh (anc_le F hi)
 induction ec:(X.it i).c with
 |none=>
  refine sn_core (rw:=[]) (c:=⟨none,true,ord,0,(anc X.ps i).length⟩) F I W.fr W.hdl W.room W.Fr hk ⟨.inl ⟨rfl,ec⟩,rfl⟩ (combo_in (.inl rfl) I.o (by decide) la rfl) rfl λS1 L' s' B h1 h2 h7=>?_
  obtain ⟨hL,h8⟩:=tnL_of h2
  exact h8.elim (λh8=>N _ _ _ _ (sn_same F W.nw I B hk h1 hL h7 h8.2 λx Z=>by unfold rowX;rw[ec];rfl)) λh8=>h8.elim λx h8=>no h8.1
 |some p=>
  obtain ⟨y,nd⟩:=p
  obtain ⟨x,hx,rfl⟩:=kyN_of (W.ic i hi _ ec)
  have lr:(rws x).length<6:=by
   have:(rws x).length<=k:=by rw[<-Ω (f:=(·.2)),I.rs x hx];exact rowsX_le
   lia
  have hin:rws x≠[]->JU (kyN x) X.names=true:=λh=>rowsX_in (k:=k) λz=>h (List.map_eq_nil_iff.mp ((I.rs x hx).trans z))
  have ok:okC ⟨some x,JU (kyN x) X.names,ord,(rws x).length,(anc X.ps i).length⟩=true:=by
   show (Bool.rec (Nat.beq (rws x).length 0) (JU (kyN x) X.names&&Nat.blt 0 (rws x).length) (JN x ord):Bool)=true;induction em:JN x ord with
   |true=>
    have h:=(I.has x hx).mp (JV em);rw[hin h];exact Zj (List.length_pos_iff.mpr h)
   |false=>
    have h:rws x=[]:=Classical.byContradiction λh=>nb (em.symm.trans (Wn ((I.has x hx).mpr h)));rw[h];rfl
  have er:∀y,y<3->rowX X y i=Bool.rec none (ifO (JU (kyN y) X.names) (some (pathS X i))) (Nat.beq x y):=λy hy=>by
   unfold rowX;rw[ec];show ifO (sEq (kyN x) (kyN y)&&JU (kyN y) X.names) _=_;rw[kyN_eq hx hy];cases Nat.beq x y<;>rfl
  refine sn_core (rw:=rws x) (c:=⟨some x,JU (kyN x) X.names,ord,(rws x).length,(anc X.ps i).length⟩) F I W.fr W.hdl W.room W.Fr hk ⟨.inr ⟨x,nd,hx,rfl,ec,rfl,λh=>⟨I.rw x ((I.has x hx).mpr (List.length_pos_iff.mp h)),rfl⟩⟩,rfl⟩ (combo_in (.inr ⟨x,hx,rfl⟩) I.o lr la ok) rfl λS1 L' s' B h1 h2 h7=>?_
  obtain ⟨hL,h8⟩:=tnL_of h2
  have en:newC ⟨some x,JU (kyN x) X.names,ord,(rws x).length,(anc X.ps i).length⟩=ifO (JU (kyN x) X.names) (some x):=rfl
  induction ea:JU (kyN x) X.names with
  |false=>
   rw[en,ea]at h8
   refine h8.elim (λh8=>N _ _ _ _ (sn_same F W.nw I B hk h1 hL h7 h8.2 λy hy=>?_)) λh8=>h8.elim λx h8=>no h8.1
   rw[er y hy]
   induction e:Nat.beq x y with
   |false=>rfl
   |true=>rw[<-nq e,ea];rfl
  |true=>
   rw[en,ea]at h8
   refine h8.elim (λh8=>no h8.1.symm) λh8=>h8.elim λx' h8=>?_
   cases h8.1
   obtain ⟨fr',rws',I'⟩:=sn_new F W.nw I hx B hk h1 hL h7 h8.2.1 h8.2.2.1 h8.2.2.2 λy hy=>by
    rw[er y hy];induction e:Nat.beq x y with
    |false=>rfl
    |true=>rw[<-nq e,ea];rfl
   exact N _ _ _ _ I'
theorem sn_loop(W:SnC X A env K)(N:∀s ord fr rws,SnI X X.n s ord fr rws->codeAny (Mdl X.om) A (.forLoop (Zr X.om.w.params).1 (.ref X.aIt) (Zr X.om.w.params).2 [] env) (Zt Q) s):∀(d k:Nat) (s:Shared) (ord:List Nat) (fr:Nat->Addr) (rws:Nat->Rws),k+d=X.n->SnI X k s ord fr rws->codeAny (Mdl X.om) A (.forLoop (Zr X.om.w.params).1 (.ref X.aIt) (Zr X.om.w.params).2 [] env) (Zt Q) s:=by
 intro v0_;induction v0_ with
 |zero=>
  intro k s ord fr rws e I;exact N s ord fr rws (e▸I)
 |succ d ih=>
  intro k s ord fr rws e I;have hk:k<(Ze X.ps).length:=by rw[W.F.U.len];show k<X.n;lia
  exact sn_turn W I (Φ hk) λs' ord' fr' rws' I'=>ih (k+1) s' ord' fr' rws' (by lia) I'
def seKn(n:Nat):Kn:={sob:=λk=>ifO (Nat.beq k 2) (some (.list (ZD 600 n)))}
def seCx(P:Params)(n:Nat):Cx:={cx0 P with kn:=seKn n}
def tnD(ord:List Nat):St:=JZ (Jx++[.ns snV,.dead,.dict (snEs ord)])
theorem se_ok(ord:List Nat):okS (Jx++[.ns snV,.dead,.dict (snEs ord)])=true:=by rfl'
theorem se_set(k:Nat)(ord:List Nat):(tnS k ord).set 7 .dead=some (tnD ord):=by rfl'
theorem se_dat(ord:List Nat):JY (tnD ord) (ZJ Jx 0)=true:=by rfl'
theorem se_run(P:Params)(ord:List Nat):Wc (run (cx0 P) 20) (frZ (fiP P 564) 6 []) ((fiP P 564).body.drop 3) (tnD ord)=.ok (.ret (.loc 8)) (tnD ord):=by rfl'
theorem se_kn(F:SnF X)(H:SnH X h):Zp X.om h (tnN X fr 0 []) u own (seKn X.n):={kn0 with
 sob:=λq ao e=>Jt e λe2 e=>by
  cases e;cases nq e2;obtain ⟨xs,n,h1,h2⟩:=H.lst;exact⟨_,h1,λL Z=>OkP.lst (itA_len F▸WU h2 λj z e=>(tnOp_v j).trans (Jy e))⟩}
structure SnR(X:SnP)(s:Shared)(ord:List Nat)(fr:Nat->Addr)(rws:Nat->Rws):Prop where
 o:ord∈ZC
 has:∀x,x<3->(x∈ord↔rws x≠[])
 rw:∃hF:Heap,(∀b o,hF.get? b=some o->s.heap.get? b=some o/\Fre X.out [b])/\∀x∈ord,Rw hF (fr x) (rws x)
 rs:∀x,x<3->(rws x).map (·.2)=rowsX X x X.n
 af:Aft X.L6 X.out X.s0 s
 dat:ObL X.om X.nmD s X.L6 X.L6 Jx
 fre:Fre X.out [X.aF]
 ns:(X.aF==sysModules)=false
 d:∃L,DAt X.om s.heap X.aF (snEs ord) (snN X fr) L
theorem snN_d{q:Nat}(h:datQ q=true):X.nmD.op q=(snN X fr).op q:=by
 have h:q∈[0,1,8,9]:=JV h;rcases mc_ h with rfl|h
 ·rfl
 rcases mc_ h with rfl|h
 ·rfl
 rcases mc_ h with rfl|h
 ·rfl
 rw[ms_ h];rfl
theorem sn_end(W:SnC X A env K)(I:SnI X X.n s ord fr rws){Q:SP Flow}{E:SP Value}(H:∀s',SnR X s' ord fr rws->Q (.ret (.ref X.aF)) s'):
  codeAny (Mdl X.om) A (.forLoop (Zr X.om.w.params).1 (.ref X.aIt) (Zr X.om.w.params).2 [] env) (Zt (Rest (Mdl X.om) A ((fiP X.om.w.params 564).body.drop 3) env Q E)) s:=by
 have F:=W.F
 have O:=own_at F.l6
 have hd:=tn_hd X.om.w.params X.n ord
 have ob:ObL X.om (tnN X fr 0 []) s X.own X.own (snL X.n ord):=I.ob.re (q:=stQ) (λq hq=>(stQ_eq hq).symm) λao ha=>al_ (al_ (ord_q X.n) _ I.o) ao ha
 refine goE (n:=20) (k:=0) (cx:=seCx X.om.w.params X.n) (nm:=tnN X fr 0 []) (u:=λZ=>false) (own:=X.own) (S:=tnS X.n ord) (i:=7) (S1:=tnD ord) W.fr W.hdl (W.room.le (by lia)) I.g (Beg.of ob (stL (ord_ok _ _))) rfl (λh=>nb h) (se_kn F I.h) (ora0 λZ=>rfl) W.Fr rfl rfl ⟨snV,(stL (ord_ok _ _)).get 6⟩ O.2.1 ?_ λL' s' B=>?_
 ·show ifT true (ifT (Wy (tnS X.n ord) 7 (Zr X.om.w.params).1) (nextR (seCx X.om.w.params X.n) (tnS X.n ord) 7 _ _))=_
  rw[show Wy (tnS X.n ord) 7 (Zr X.om.w.params).1=true from Ja Prod.fst hd];show nextR (seCx X.om.w.params X.n) (tnS X.n ord) 7 _ _=_;rw[lio_end (cx:=seCx X.om.w.params X.n) (vs:=ZD 600 X.n) (Ja (λp=>p.2.1) hd) rfl (List.getElem?_eq_none (Nat.le_of_eq opsF_len)) (se_set _ _)]
 ·have g':Gin X.om s' L' X.out:=I.g.next B B.nd λa h=>h
  show wpAny _ _ (execs ((fiP X.om.w.params 564).body.drop 3) env) Q E s';rw[<-List.append_nil ((fiP X.om.w.params 564).body.drop 3)];refine goB (n:=20) (k:=0) (cx:=cx0 X.om.w.params) (nm:=tnN X fr 0 []) (u:=λZ=>false) (own:=L') (S:=tnD ord) W.fr W.hdl (W.room.le (by lia)) g' ⟨B.len,B.all,B.objs⟩ rfl nolam kn0 (ora0 λZ=>rfl) (W.Fr.mono B.pre) rfl rfl ⟨snV,(stL (se_ok _)).get 6⟩ ?_;rw[se_run];refine .inr ⟨_,rfl,λL2 s2 v B2 dv=>dv.loc_ λa ha ev=>?_⟩;have p2:=τ B.pre B2.pre;cases ha.symm.trans (Jp p2 O.2.2.1);subst ev;have kp:∀{b o},I.g.hF.get? b=some o->s2.heap.get? b=some o:=fun {b o} e=>B2.aft.keep b o (B.out_ (I.g.kep e).1 (I.g.kep e).2.2) (I.g.kep e).2.1 (B.aft.keep b o (I.g.kep e).1 (I.g.kep e).2.1 (I.g.kep e).2.2);refine B2.get ((stL (se_ok ord)).get 8) ha λo ho p=>H s2 ⟨I.o,I.has,⟨I.g.hF,λb o e=>⟨kp e,(I.g.kep e).2.1⟩,I.rw⟩,I.rs,I.af.then_ (Aft.trans B B2.aft λa h=>.inl h) W.nw,?_,B2.fre.one (Θ ha),p.1,?_⟩
  ·exact(Wg F.l6 (ζ _) (τ (θ _ _) p2) B2.objs (Zx (se_dat ord))).re (q:=datQ) (λq hq=>(snN_d (fr:=fr) hq).trans (tnOp_d hq)) Zl
  ·exact(OkP.map_ (g1:=λc=>.op (30+c)) (g2:=λc=>.op (30+c)) (L:=X.own) (nm2:=snN X fr) (λc hc w d=>(show w=_ from d).trans (Ja Value.ref ((tnOp_c (Zd I.o hc)).trans (snOp_c (Zd I.o hc)).symm))) p).dict_ λds Z eo en=>⟨X.own,o,ho,ds,_,eo,en⟩
variable {om:Om}{L2:List Addr}{nmD:Nt}{b c:Addr}{ps:List Nat}{f:Nat->Str}{S':St}
theorem own_nd(nd:L'.Nodup)(pre:L6<+:L')(h6:L6.length=6)(ha:L'[6]?=some a)(hb:L'[13]?=some b)(hc:L'[7]?=some c):(L6++[a,b,c]).Nodup:=by
 have dj:∀{i a},6<=i->L'[i]?=some a->a∉L6:=fun {i a} hi h hm=>(mi_ hm).elim λq hq=>by
  have:=Ju nd h (Jp pre hq);have:=(lt_ hq);lia
 have ne:∀{i j a b},i≠j->L'[i]?=some a->L'[j]?=some b->a≠b:=fun {i j a b} hij h1 h2 z=>hij (Ju nd h1 (z▸h2));refine List.nodup_append.mpr ⟨nd.sublist pre.sublist,List.nodup_cons.mpr ⟨λh=>?_,List.nodup_cons.mpr ⟨λh=>?_,List.nodup_cons.mpr ⟨Ξ,ϑ⟩⟩⟩,λx hx y hy z=>?_⟩
 ·exact(mc_ h).elim (ne (by decide) ha hb) λh=>ne (by decide) ha hc (ms_ h)
 ·exact ne (by decide) hb hc (ms_ h)
 ·subst z
  rcases mc_ hy with rfl|hy
  ·exact dj (by decide) ha hx
  rcases mc_ hy with rfl|hy
  ·exact dj (by decide) hb hx
  exact dj (by decide) hc (ms_ hy▸hx)
def sn1N(f:Nat->Str)(nmD:Nt)(L2:List Addr)(ps:List Nat):Nt:=⟨λk=>nrf ((Ze ps).map (nmS f)) (k-100),aiOp nmD (itA L2 ps)⟩
theorem sn1_op(hj:(Ze ps)[j]?=some i):aiOp nmD (itA L2 ps) (20+j)=Js L2 (iA i):=by
 unfold aiOp;rw[Zj (show 20<=20+j by lia),Ψ];exact Jy (by unfold itA;rw[δ,hj];rfl)
theorem sn1_f(hj:(Ze ps)[j]?=some i):(sn1N f nmD L2 ps).f (100+j)=nmS f i:=by
 show nrf ((Ze ps).map (nmS f)) (100+j-100)=_;rw[Ψ];exact nrfG hj
theorem sn1_kn(T:TrI om h (dtN f) L2 ps)(ok:Wu ps)(nf:∀t,t<ps.length->f t∈JG 3)(lt:∀i∈Ze ps,i<2+ps.length):Zp om h (sn1N f nmD L2 ps) u own (sn1Kn (Ze ps).length):={kn0 with
 oatt:=λk x v e=>Jt e λhc e=>Jr hc λhc h3=>Jr hc λh1 h2=>by
  obtain ⟨j,rfl⟩:=Ϟ (nl h1);have hj:j<(Ze ps).length:=by have:20+j<20+(Ze ps).length:=nl h2;lia
  have hg:=Φ hj;have hi:=lt _ (ο hj);generalize (Ze ps)[j]=i at hg hi;cases e;cases Jw h3;exact T.att ok hi (sn1_op hg) (z:=nmA i) (by rfl') (by rfl') (nmS_cs (i:=i) (f:=f) (λe=>by subst e;rfl) (λe=>by subst e;rfl) λZ Z Z e=>by rw[e];rfl) λy dy L hL=>nmA_den (by rw[show 20+j+80=100+j by lia];exact sn1_f hg) dy}
structure Sn1C(n:Nat)(j:Nat)(S:St):Prop where
 j:j=13
 ns:∃es,S.get 6=some (.ns es)/\look "data" es=some (.loc 1)/\look "names" es=some (.loc 8)/\look "found" es=some (.loc 7)
 li:S.get 13=some (.lit 12 0)
 ks:S.get 8=some (.kset ((JW n).map (100+·)))
 fd:S.get 7=some (.dict [])
 its:S.get 12=some (.list (ZD 20 n))
 d:∀p∈ZJ Jx 0,S.get p.1=some p.2
theorem sn1C_of(h:sn1C n j S'=true):Sn1C n j S':=Jr h λhj h=>Jr h λh1 h=>Jr h λh2 h=>Jr h λh3 h4=>by
 have q:=Zx h4;refine⟨nq hj,?_,?_,?_,q _ (.head _),q _ (.tail _ (.head _)),λp hp=>q p (.tail _ (.tail _ hp))⟩
 ·induction e:gv vNs S' 6 with
  |none=>rw[e]at h1;exact nb h1
  |some es=>
   rw[e]at h1;refine Jr h1 λh h3=>Jr h λh1 h2=>Jz e λao g v=>⟨es,?_,ZG h1,ZG h2,ZG h3⟩;rw[g];induction ao with
   |ns es'=>cases v;rfl
   |_=>exact no v
 ·induction e:gv vLit S' 13 with
  |none=>rw[e]at h2;exact nb h2
  |some p=>
   rw[e]at h2;refine Jr h2 λh1 h2=>Jz e λao g v=>?_;rw[g];induction ao with
   |lit l k=>
    cases v;have e1:l=12:=nq h1;have e2:k=0:=nq h2;rw[e1,e2]
   |_=>exact no v
 ·induction e:gv vKset S' 8 with
  |none=>rw[e]at h3;exact nb h3
  |some l=>
   rw[e]at h3;refine Jz e λao g v=>?_;rw[g];induction ao with
   |kset l'=>cases v;rw[Ws h3]
   |_=>exact no v
variable {s1:Shared}{h0:Heap}{it:Nat->ItD}
structure SnQ(om:Om)(f:Nat->Str)(nmD:Nt)(L2 L6:List Addr)(ps:List Nat)(it:Nat->ItD)(h0:Heap):Prop where
 ok:Wu ps
 nf:∀t,t<ps.length->f t∈JG 3
 nd:L2.Nodup
 e0:nmD.op 0=Js L2 (iA 0)
 e1:nmD.op 1=Js L2 (iA 1)
 U:UB om.w.params ps
 B:∀i,i<2+ps.length->ChB om.w.params ps i
 ia:∀i,i<2+ps.length->(it i).ia=Js L2 (iA i)
 ic:∀i,i<2+ps.length->∀p,(it i).c=some p->p.1∈JG 3
 l6:L6.length=6
 T:TrI om h0 (dtN f) L2 ps
 Hi:∀i,i<2+ps.length->ItOk om h0 (it i)
theorem own3{l:List Addr}{P:Addr->Prop}(h:∀a∈l,P a)(ha:P a)(hb:P b)(hc:P c):∀x∈l++[a,b,c],P x:=λx hx=>(ma_ hx).elim (h x) λhx=>(mc_ hx).elim (λe=>e▸ha) λhx=>(mc_ hx).elim (λe=>e▸hb) λhx=>(ms_ hx)▸hc
theorem sn_st(Y:SnQ om f nmD L2 L6 ps it h0)(B0:WL h0 out s)(nw6:∀a∈L6,h0.get? a=none)(g1:Gin om s1 L1 out)(B1:Bk om (sn1N f nmD L2 ps) L6 out s sn0S L1 s1)(Fr:ZA L1 (frZ (fiP om.w.params 564) 6 []) env)(B2:Bk om (sn1N f nmD L2 ps) L1 out s1 S' L' s')(C:Sn1C (Ze ps).length j S')(hfr:A.frames=some (env::out))(hdl:A.handled=none)(room:Room A (140+(K+121))){C':Prop}
  (N:∀aNs aIt aF aN aI,L'[13]?=some aIt->s.heap.get? aF=none->SnC ⟨om,out,f,nmD,L2,L6,ps,it,aNs,aIt,aF,aN,aI,s⟩ A env K->SnI ⟨om,out,f,nmD,L2,L6,ps,it,aNs,aIt,aF,aN,aI,s⟩ 0 s' [] (λZ=>0) (λZ=>[])->C'):C':=by
 have pre:L6<+:L':=τ B1.pre B2.pre
 obtain ⟨es,g6,n1,n2,n3⟩:=C.ns
 have l1:L1.length=7:=B1.len
 refine B2.at_ g6 λa6 o6 l6 ho6 p6=>B2.at_ C.li λa13 o13 l13 ho13 p13=>B2.at_ C.fd λa7 o7 l7 ho7 p7=>B2.at_ C.ks λa8 o8 l8 ho8 p8=>B2.at_ C.its λa12 o12 l12 ho12 p12=>?_
 have nw:∀{i a},6<=i->L'[i]?=some a->s.heap.get? a=none:=fun {i a} hi hl=>by
  by_cases q:i<7
  ·have e:=Φ (l1▸q)
   cases (Jp B2.pre e).symm.trans hl;exact B1.new i _ (Y.l6▸hi) e
  ·induction e:s.heap.get? a with
   |none=>rfl
   |some o=>
    exact no ((B2.new i a (l1▸Jf q) hl).symm.trans (B1.aft.keep a o (λhm=>(mi_ hm).elim λq hq=>by
     have:=Ju B2.nd hl (Jp pre hq);have:=(lt_ hq);rw[Y.l6]at this;lia) (B2.fre.one (Θ hl)) e))
 have dj:∀{i a},6<=i->L'[i]?=some a->a∉L6:=fun {i a} hi h hm=>(mi_ hm).elim λq hq=>by
  have:=Ju B2.nd h (Jp pre hq);have:=(lt_ hq);rw[Y.l6]at this;lia
 let X:SnP:=⟨om,out,f,nmD,L2,L6,ps,it,a6,a13,a7,a8,a12,s⟩
 have O:X.own[6]?=some a6/\X.own[7]?=some a13/\X.own[8]?=some a7/\X.own.length=9:=own_at (X:=X) Y.l6
 have no_:∀{i a},6<=i->L'[i]?=some a->i≠6->i≠13->i≠7->a∉X.own:=fun {i a} hi h h1 h2 h3 hm=>own3 (P:=λx=>a≠x) (λx hx z=>dj hi h (z▸hx)) (λz=>h1 (Ju B2.nd h (z▸l6))) (λz=>h2 (Ju B2.nd h (z▸l13))) (λz=>h3 (Ju B2.nd h (z▸l7))) a hm rfl
 have g':Gin X.om s' X.own X.out:=g1.next B2 (own_nd B2.nd pre Y.l6 l6 l13 l7) (own3 (λa h=>pre.subset h) (Θ l6) (Θ l13) (Θ l7))
 have af:Aft L6 out s s':=Aft.trans B1 B2.aft λa h=>.inl h
 have B3:WL h0 out s':=B0.next af nw6
 have nwX:∀a∈X.own,a∈L6\/s.heap.get? a=none:=own3 (λZ h=>.inl h) (.inr (nw (by decide) l6)) (.inr (nw (by decide) l13)) (.inr (nw (by decide) l7))
 have up:∀b o,h0.get? b=some o->g'.hF.get? b=some o:=λb o e=>g'.kept B3 (λa hm=>(nwX a hm).elim (nw6 a) λz=>by
  induction e:h0.get? a with
  |none=>rfl
  |some o=>exact no (z.symm.trans (B0.kp a o e))) e
 have d1:∀w,Den (sn1N f nmD L2 ps) L' (.loc 1) w->Den (snN X λZ=>0) X.own (.loc 1) w:=λw d=>d.loc_ λa ha ew=>by
  have z:=Φ (show 1<L6.length by rw[Y.l6];decide);cases (Jp pre z).symm.trans ha;exact⟨_,Jp (θ _ _) z,ew⟩
 refine N a6 a13 a7 a8 a12 l13 (nw (by decide) l7) ⟨⟨Y.ok,Y.nf,Y.nd,Y.e0,Y.e1,Y.U,Y.B,Y.ia,Y.l6⟩,nwX,Y.ic,hfr,hdl,room,Fr.re (O.1.trans (l6.symm.trans (Jp B2.pre Fr.loc))) λx i e=>no e⟩ ⟨g',⟨Y.T.up up,λi hi=>(Y.Hi i hi).up up,?_,?_⟩,?_,.head _,λx Z=>⟨λh=>absurd h Ξ,λh=>absurd rfl h⟩,λx h=>absurd h Ξ,λx Z=>rfl,af⟩
 ·obtain ⟨ns,ys,ds,eo,en,_,_,hy⟩:=p8
  refine⟨ns,ys,_,_,ds,g'.stays a8 _ (no_ (by decide) l8 (by decide) (by decide) (by decide)) (B2.fre.one (Θ l8)) (eo▸ho8),en,λy=>(hy y).trans ⟨λ⟨q,hq,e⟩=>?_,λhm=>?_⟩⟩
  ·obtain ⟨j,hj,rfl⟩:=mm_ hq
   have hg:=Φ (mem_rev (List.mem_reverse.mpr hj));exact e▸(sn1_f hg)▸ϕ (ο _)
  ·obtain ⟨i,hi,e⟩:=mm_ hm
   obtain ⟨j,hj⟩:=mi_ hi;exact⟨100+j,List.mem_map.mpr ⟨j,JD (lt_ hj),rfl⟩,(sn1_f hj).trans e⟩
 ·refine p12.list_ λxs n eo dd=>⟨xs,n,g'.stays a12 _ (no_ (by decide) l12 (by decide) (by decide) (by decide)) (B2.fre.one (Θ l12)) (eo▸ho12),?_⟩
  have e:(Ze ps).length=(itA L2 ps).length:=by unfold itA;rw[Ω]
  rw[e]at dd;exact dens_opsI dd λi a ha=>by
   unfold itA at ha;rw[δ,Option.map_eq_some_iff]at ha;obtain ⟨q,hq,e⟩:=ha;exact(sn1_op hq).trans e
 ·have D:ObL om (snN X λZ=>0) s' X.own X.L6 Jx:=((Wg Y.l6 (ζ _) pre B2.objs C.d).re (q:=datQ) (λq hq=>by
   refine Eq.trans (snN_d (X:=X) (fr:=λZ=>0) hq).symm ?_;show nmD.op q=aiOp nmD (itA L2 ps) q;unfold aiOp;rw[ZZ (Yg hq)]) Zl).mono (θ _ _)
  refine D.app (ObL.cons ho6 (OkP.renN p6 ⟨⟨_,n1,nofun,d1⟩,⟨_,n2,nofun,λw d=>d.loc_ λa ha ew=>ew.trans (Ja Value.ref (oi (ha.symm.trans l8)))⟩,⟨_,n3,nofun,λw d=>d.loc_ λa ha ew=>⟨a,O.2.2.1.trans (l7.symm.trans ha),ew⟩⟩,trivial⟩) (ObL.cons ho13 ?_ (ObL.cons ho7 ⟨p7.1,p7.2.imp λds r=>⟨r.1,r.2⟩⟩ ObL.nil)))
  obtain ⟨al,hl,h1,h2⟩:=p13
  cases hl.symm.trans l12
  exact⟨h1,h2⟩
variable {Q E:SP Value}{aD:Addr}
theorem sn1_ora{g:Gin om s own out}{cx:Cx}{hP:cx.P=om.w.params}{tb:cx.lam=true->tbs<+:own}{kn:Zp om g.hF (sn1N f nmD L2 ps) u own cx.kn}(hc:cx.ora=aiOra (Ze ps).length)(Y:SnQ om f nmD L2 L6 ps it h0)(up:∀b o,h0.get? b=some o->g.hF.get? b=some o)(ho:L6<+:own):Wv (g.gd (sn1N f nmD L2 ps) u cx (K+282) hP tb kn):=λa args A fs y us Q E hm pt hf dd P=>by
 have P:PG y (ifT (Nat.beq a 253) (ifT (Ww args [.loc 1]&&JY y.S (ZJ Jx 0)) (pushV y.S (.list (ZD 20 (Ze ps).length))))) Q E:=by
  have e:(g.gd (sn1N f nmD L2 ps) u cx (K+282) hP tb kn).cx.ora=aiOra (Ze ps).length:=hc;rw[e]at P;exact P
 refine PG.ifT P λha P=>PG.ifT P λhb P9=>Jr hb λhb1 hb2=>?_;cases nq ha;have D:=WK.of y Y.l6 ho hb2;cases Zq hb1;refine dd.one λw1 ew d1=>?_;subst ew;refine d1.loc_ λad had e=>?_;subst e;have l1:L6[1]?=some ad:=by
  have z:=Φ (show 1<L6.length by rw[Y.l6];decide);exact z.trans ((Jp D.pre z).symm.trans had)
 have lo:∀k,datQ k=true->aiOp nmD (itA L2 ps) k=nmD.op k:=λk hk=>by unfold aiOp;rw[ZZ (Yg hk)]
 refine ai_ok (K:=K) pt hf D.ob (D.gin pt hf) l1 y.base D.nw Y.ok (TrI.up Y.T up) Y.U ((lo 0 rfl).trans Y.e0) ((lo 1 rfl).trans Y.e1) λs' a af D' hn hf ⟨xs,n,h1,h2⟩=>D.new P9 D' af hn hf h1 (OkP.lst ?_);have e:(Ze ps).length=(itA L2 ps).length:=by unfold itA;rw[Ω]
 rw[e];exact WU h2 λi a ha=>by
  unfold itA at ha;rw[δ,Option.map_eq_some_iff]at ha;obtain ⟨q,hq,e⟩:=ha;exact(sn1_op hq).trans e
theorem sn_ok(p:Pt om A s (K+423))(hfr:A.frames=some out)(D6:ObL om nmD s L6 L6 Jx)(g:Gin om s L6 out)(l6:L6[1]?=some aD)(B0:WL h0 out s)(nw6:∀a∈L6,h0.get? a=none)(Y:SnQ om f nmD L2 L6 ps it h0)
  (H:∀aNs aIt aF aN aI s' ord fr rws,s.heap.get? aF=none->SnR ⟨om,out,f,nmD,L2,L6,ps,it,aNs,aIt,aF,aN,aI,s⟩ s' ord fr rws->Q (.ref aF) s'):wpAny (Mdl om) A (call (.ref 564) [.ref aD]) Q E s:=by
 have D1:ObL om (sn1N f nmD L2 ps) s L6 L6 Jx:=D6.re (q:=datQ) (λq hq=>by
  show aiOp nmD (itA L2 ps) q=nmD.op q;unfold aiOp;rw[ZZ (Yg hq)]) Zl
 refine goF (nm:=sn1N f nmD L2 ps) (u:=λZ=>false) (cx:=cx0 om.w.params) (S:=JZ Jx) (K:=K+422) p hfr g (Beg.of D1 (stL datA_ok)) rfl nolam kn0 (sn_fi _) (args:=[.loc 1]) ⟨_,_,rfl,⟨aD,l6,rfl⟩,rfl⟩ (sn_ent _) λenv L1 s1 F Fr B1=>?_
 rw[sn_body]
 have g1:Gin om s1 L1 out:=g.next B1 B1.nd λZ h=>h
 have l1:L1.length=7:=B1.len
 have up:∀b o,h0.get? b=some o->g1.hF.get? b=some o:=λb o e=>g1.kept (B0.next B1.aft nw6) (λa hm=>by
  by_cases q:a∈L6
  ·exact nw6 a q
  ·refine(mi_ hm).elim λi hi=>?_
   by_cases z:i<6
   ·have e:=Φ (Y.l6.symm▸z)
    exact absurd (oi ((Jp B1.pre e).symm.trans hi)▸ο _) q
   ·induction e:h0.get? a with
    |none=>rfl
    |some o=>exact no ((B1.new i a (Y.l6.symm▸Jf z) hi).symm.trans (B0.kp a o e))) e
 have lo:(Ze ps).length∈[3,4,5,6]:=by
  have l4:=Y.ok.l4;have l1:=Y.ok.l1;rw[Y.U.len];have:ps.length=1\/ps.length=2\/ps.length=3\/ps.length=4:=by lia
  rcases this with h|h|h|h<;>rw[h]<;>decide
 have kn1:=sn1_kn (u:=λZ=>false) (own:=L1) (nmD:=nmD) (TrI.up Y.T up) Y.ok Y.nf λi hi=>Y.U.lt i hi
 refine goH (n:=40) (k:=K+282) (cx:=sn1Cx om.w.params (Ze ps).length) (nm:=sn1N f nmD L2 ps) (u:=λZ=>false) (S:=sn0S) (chk:=sn1C (Ze ps).length) F.fr F.p.hdl (F.p.room.le (by lia)) g1 ⟨B1.len,B1.all,B1.objs⟩ rfl (λh=>nb h) kn1 (sn1_ora (K:=K) rfl Y up B1.pre) Fr rfl rfl ⟨_,(stL (by rfl':okS (Jx++[AO.ns [("data",.loc 1)]])=true)).get 6⟩ (by rfl') (Zy (al_ (sn1_runs om.w.params) _ lo) λo S h=>?_) λS' L' s' j aj B2 hj hc=>?_
 ·induction o with
  |vs l=>induction l using c_ with
   |nil=>rfl
   |cons _ _=>exact nb h
  |_=>exact nb h
 ·have C:=sn1C_of hc
  cases C.j;refine sn_st (K:=K) Y B0 nw6 g1 B1 Fr B2 C F.fr F.p.hdl (F.p.room.le (by lia)) λaNs aIt aF aN aI l13 nF W I=>?_;cases hj.symm.trans l13;exact sn_loop W (λs2 ord fr rws I2=>sn_end W I2 λs3 R=>H aNs aj aF aN aI s3 ord fr rws nF R) _ 0 _ _ _ _ (Nat.zero_add _) I
end Internal
namespace Internal
variable {om:Om}{s s3:Shared}{i j k n:Nat}{out:List Env}{L L2 L3:List Addr}{S3:St}{a aT aR:Addr}{w:Value}{ao:AO}{ps:List Nat}{o:Obj}{h:Heap}{f:Nat->Str}{bits:List Bool}{cs:List Str}{ds:List DictEntry}
def rowIx(bits:List Bool):Nat->Nat->List (Nat×Nat):=List.rec (motive:=λZ=>Nat->Nat->List (Nat×Nat)) (λZ Z=>[]) (λb Z ih i r=>Bool.rec (ih (i+1) r) ((i,r)::ih (i+1) (r+1)) b) bits
def rIx(bits:List Bool):List (Nat×Nat):=rowIx bits 0 0
def hasL(l:List (Nat×AO))(k:Nat)(o:AO):Bool:=Option.rec false (λa=>eqO a o) (JE k l)
def dtI(bits:List Bool)(i:Nat):Bool:=Option.rec (hasL (d2L bits) (2+i) (.list [])) (λr=>hasL (d2L bits) (2+i) (.list [.loc (bits.length+8+7*r)])&&(hasL (d2L bits) (bits.length+7+7*r) (.dict [("name",.sym 0 i),("rows",.loc (bits.length+6+7*r))])&&(hasL (d2L bits) (bits.length+8+7*r) (.inst 155 (bits.length+7+7*r))&&hasL (d2L bits) (bits.length+10+7*r) (.tup [.sym 0 i,.op (30+i)])))) (JE i (rIx bits))
def dtC(bits:List Bool):Bool:=((d2L bits).all λp=>Nat.ble 2 p.1)&&(Ww (fndF bits.length (WW bits)) ((rIx bits).map λp=>.loc (bits.length+10+7*p.2))&&(((JW bits.length).all λi=>dtI bits i)&&((rIx bits).all λp=>Nat.blt p.1 bits.length&&Option.rec false (λr=>Nat.beq r p.2) (JE p.1 (rIx bits)))))
theorem dtC_all:((Wa 3++Wa 4++Wa 5++Wa 6).all λb=>dtC b)=true:=by rfl'
theorem hasL_of{l:List (Nat×AO)}(h:hasL l k ao=true):(k,ao)∈l:=by
 unfold hasL at h;induction e:JE k l with
 |none=>rw[e]at h;exact nb h
 |some a=>rw[e]at h;exact eqO_of h▸We e
structure DtC(bits:List Bool):Prop where
 two:∀p∈d2L bits,2<=p.1
 fnd:fndF bits.length (WW bits)=(rIx bits).map λp=>.loc (bits.length+10+7*p.2)
 no:∀i,i<bits.length->JE i (rIx bits)=none->(2+i,AO.list [])∈d2L bits
 l:∀i r,i<bits.length->JE i (rIx bits)=some r->(2+i,AO.list [.loc (bits.length+8+7*r)])∈d2L bits
 d:∀i r,i<bits.length->JE i (rIx bits)=some r->(bits.length+7+7*r,AO.dict [("name",.sym 0 i),("rows",.loc (bits.length+6+7*r))])∈d2L bits
 i:∀i r,i<bits.length->JE i (rIx bits)=some r->(bits.length+8+7*r,AO.inst 155 (bits.length+7+7*r))∈d2L bits
 t:∀i r,i<bits.length->JE i (rIx bits)=some r->(bits.length+10+7*r,AO.tup [.sym 0 i,.op (30+i)])∈d2L bits
 r:∀p∈rIx bits,p.1<bits.length/\JE p.1 (rIx bits)=some p.2
theorem dtC_of(h3:3<=bits.length)(h6:bits.length<=6):DtC bits:=by
 have hm:bits∈Wa 3++Wa 4++Wa 5++Wa 6:=by
  have h:bits.length=3\/bits.length=4\/bits.length=5\/bits.length=6:=by lia
  have q:=WP bits;rcases h with h|h|h|h<;>rw[h]at q
  ·exact μ _ (μ _ (μ _ q))
  ·exact μ _ (μ _ (ξ _ q))
  ·exact μ _ (ξ _ q)
  ·exact ξ _ q
 refine Jr (al_ dtC_all bits hm) λh0 h=>Jr h λh1 h=>Jr h λh2 h3=>?_;have di:∀i,i<bits.length->dtI bits i=true:=λi hi=>al_ h2 i (JD hi);have k4:∀{i r},i<bits.length->JE i (rIx bits)=some r->_/\_/\_/\_:=fun {i r} hi e=>by
  have h:=di i hi;unfold dtI at h;rw[e]at h;exact Jr h λa h=>Jr h λb h=>Jr h λc d=>⟨hasL_of a,hasL_of b,hasL_of c,hasL_of d⟩
 refine⟨λp hp=>nl (al_ h0 p hp),Zq h1,λi hi e=>?_,λi r hi e=>(k4 hi e).1,λi r hi e=>(k4 hi e).2.1,λi r hi e=>(k4 hi e).2.2.1,λi r hi e=>(k4 hi e).2.2.2,λp hp=>Jr (al_ h3 p hp) λa b=>⟨nl a,?_⟩⟩
 ·have h:=di i hi
  unfold dtI at h;rw[e]at h;exact hasL_of h
 ·induction e:JE p.1 (rIx bits)with
  |none=>rw[e]at b;exact nb b
  |some r=>rw[e]at b;rw[nq b]
def itD(bits:List Bool)(cs:List Str)(L2 L3:List Addr)(i:Nat):ItD:=⟨Js L2 (iA i),Js L2 (cA i),obO (JE i (rIx bits)) λr=>some (nrf cs i,Js L3 (bits.length+8+7*r))⟩
def six:List Nat:=[2,3,5,6,7,21]
def dL6(L2:List Addr):List Addr:=JX L2 six
def dL7(L2:List Addr):List Addr:=JX L2 (0::six)
def DtUp(s3:Shared)(L2 L3:List Addr)(h:Heap):Prop:=∀b o,b∉dL7 L2->(b∈L2\/b∈L3)->s3.heap.get? b=some o->h.get? b=some o
theorem six_all:((JW 6).all λi=>[iA i-1,iA i,cA i,kA i,arA i,arA i+1].all λk=>JM (JN k (0::six)))=true:=by rfl'
theorem six_js:((JW 5).all λT=>((jsD T).drop 2).all λk=>JM (JN k (0::six)))=true:=by rfl'
theorem six_lt(h:j∈0::six):j<22:=nl (al_ (by rfl':((0::six).all λk=>Nat.blt k 22)=true) j h)
theorem tree_fst{p:Nat×AO}(h:p∈treeI ps i):p.1∈[iA i-1,iA i,cA i,kA i,arA i,arA i+1]:=ϕ (f:=Prod.fst) h
variable (D:DtB om out s s3 aT aR f ps bits cs L2 L3 S3)
include D
theorem DtB.c:DtC bits:=by
 have:=D.ok.l1;have:=D.ok.l4;have:=D.lb;exact dtC_of (by lia) (by lia)
theorem DtB.six_ok:∀j∈0::six,j<L2.length:=λj hj=>by
 obtain ⟨o,l,_⟩:=D.tr.at_ (p:=(26,.list ((JW (2+ps.length)).reverse.map λi=>.loc (arA i+1)))) tree_l (frJ D.ok.l4).a;have h1:=(lt_ l);have:=six_lt hj;lia
theorem DtB.no6(h:L2[k]?=some a)(hk:k∉0::six):a∉dL7 L2:=picks_not D.nd2 D.six_ok h hk
theorem DtB.tri(U:DtUp s3 L2 L3 h):TrI om h (dtN f) L2 ps:=λi hi p hp hn=>(D.tr.items i hi p hp hn).imp λo r=>⟨r.1,U _ _ (D.no6 r.1 (JS (al_ (al_ six_all i (JD (by have:=D.ok.l4;lia))) _ (tree_fst hp)))) (.inl (Θ r.1)) r.2.1,r.2.2⟩
theorem DtB.no3(h:L3[k]?=some a)(h2:2<=k):a∉dL7 L2:=by
 by_cases q:k<(jsD ps.length).length
 ·have e:=Φ q
  cases (Jp D.pre (Wd (L:=L2) e)).symm.trans h;refine D.no6 (WA (D.lt _ (ο q))) (JS (al_ (al_ six_js _ (JD (Jh D.ok.l4))) _ (List.mem_iff_getElem?.mpr ⟨k-2,?_⟩)));rw[List.getElem?_drop,Nat.add_sub_of_le h2];exact e
 ·have hl:(jsD ps.length).length=3+bits.length:=by
   rw[D.lb];show ((JW (2+ps.length)).reverse.map cA++[29+9*ps.length]).length+1+1=_;rw[ς,Ω,Zv,Jg];exact Nat.add_comm _ 3
  exactλhm=>(D.new3 k a (hl▸Jf q) h).2 (WM D.six_ok hm)
theorem DtB.at_(U:DtUp s3 L2 L3 h)(hm:(k,ao)∈d2L bits):∃o,L3[k]?=some (Js L3 k)/\h.get? (Js L3 k)=some o/\OkP om (d2N f cs L2) L3 (Js L3 k) ao o:=(D.objs k ao (D.has _ hm)).elim λa r=>r.elim λo r=>by
 have e:=Jy r.1;exact⟨o,e.symm▸r.1,e.symm▸U _ _ (D.no3 r.1 (D.c.two _ hm)) (.inr (Θ r.1)) r.2.1,e.symm▸r.2.2⟩
theorem DtB.cs_in(hi:i<2+ps.length):nrf cs i∈JG 3:=by
 have h:i<cs.length:=D.lc▸hi;unfold nrf;rw[Φ h];exact D.cf _ (ο h)
omit D in
theorem ixp{y:Str}(h:y∈JG 3):y∈JR 0:=by
 rcases mc_ h with rfl|h
 ·exact .head _
 rcases mc_ h with rfl|h
 ·exact .tail _ (.head _)
 rw[ms_ h];exact .tail _ (.tail _ (.head _))
omit D in
theorem d2F_lo(hi:i<200):d2F f cs i=nrf cs i:=by unfold d2F;rw[ZZ (show i<200 from hi)]
theorem DtB.it(U:DtUp s3 L2 L3 h)(hi:i<2+ps.length):ItOk om h (itD bits cs L2 L3 i):=by
 have hb:i<bits.length:=D.lb.symm▸hi;have l4:=D.ok.l4;have J:=(frJ D.ok.l4).i i hi;have C:=D.c;have T:=D.tri U;have c2:L3[2+i]?=some (Js L2 (cA i)):=Jp D.pre (Wd (jsD_c hi));have I:∃e es nm0 L0,h.get? (Js L2 (iA i))=some (instObj 202 e)/\DAt om h e es nm0 L0/\∃z,look "conditions" es=some z/\(Zo z).isSome/\∀y,Den nm0 L0 z y->y=.ref (Js L2 (cA i)):=by
  obtain ⟨o,_,g1,g2⟩:=T.at_ hi tree_i J.a;obtain ⟨o',l5,g3,g4⟩:=T.at_ hi tree_d J.b;refine OkP.inst_ g2 λad hd eo=>OkP.dict_ g4 λds hm ed en=>?_;cases hd.symm.trans l5;exact⟨_,itemE ps i,dtN f,L2,eo▸g1,⟨o',g3,ds,_,ed,en⟩,.loc (cA i),by rfl',rfl,λy dy=>dy.loc_ λa ha ey=>by rw[ey,<-Jy ha]⟩
 induction e:JE i (rIx bits)with
 |none=>
  have ec:(itD bits cs L2 L3 i).c=none:=by unfold itD;rw[e];rfl
  obtain ⟨o,q1,q2,q3⟩:=D.at_ U (C.no i hb e);rw[show Js L3 (2+i)=Js L2 (cA i)from oi (q1.symm.trans c2)]at q2;exact⟨q3.list_ λxs n eo dd=>⟨xs,n,eo▸q2,by rw[ec];exact dd⟩,λp h=>no (ec.symm.trans h),I⟩
 |some r=>
  have ec:(itD bits cs L2 L3 i).c=some (nrf cs i,Js L3 (bits.length+8+7*r)):=by unfold itD;rw[e];rfl
  obtain ⟨o,q1,q2,q3⟩:=D.at_ U (C.l i r hb e);rw[show Js L3 (2+i)=Js L2 (cA i)from oi (q1.symm.trans c2)]at q2;obtain ⟨o4,r1,r2,r3⟩:=D.at_ U (C.i i r hb e);obtain ⟨o5,t1,t2,t3⟩:=D.at_ U (C.d i r hb e);refine⟨q3.list_ λxs n eo dd=>⟨xs,n,eo▸q2,?_⟩,λp h=>?_,I⟩
  ·rw[ec]
   exact dd.one λw ew dw=>dw.loc_ λa ha e'=>by rw[ew,e',<-Jy ha]
  ·cases ec.symm.trans h
   refine⟨ixp (D.cs_in hi),OkP.inst_ r3 λad hd eo=>OkP.dict_ t3 λds hm ed en=>?_⟩;cases hd.symm.trans t1;exact⟨_,_,d2N f cs L2,L3,eo▸r2,⟨o5,t2,ds,_,ed,en⟩,.sym 0 i,by rfl',rfl,λy ⟨t,ey,_⟩=>⟨t,by rw[ey,<-d2F_lo (f:=f) (cs:=cs) (show i<200 by lia)];rfl⟩⟩
end Internal
namespace Internal
variable {om:Om}{s s3:Shared}{i j n:Nat}{out:List Env}{L L1 L2 L3:List Addr}{nm nm1 nmD:Nt}{S3:St}{a aT aR:Addr}{w:Value}{ps:List Nat}{o:Obj}{h:Heap}{f:Nat->Str}{bits:List Bool}{cs:List Str}{P:Params}
def EsR(nm1:Nt)(L1:List Addr)(nm:Nt)(L:List Addr)(l:List (Str×AV)):List (Str×AV)->Prop:=List.rec (motive:=λZ=>List (Str×AV)->Prop) (λr=>r=[]) (λp Z ih r=>List.rec False (λq r Z=>(p.1=q.1/\∀w,Den nm1 L1 p.2 w->Den nm L q.2 w)/\ih r) r) l
theorem EsR.ens:∀{l r:List (Str×AV)} {ds:List DictEntry},EsR nm1 L1 nm L l r->Ens P nm1 L1 l ds->Ens P nm L r ds/\l.length=r.length:=by
 intro l;induction l with
 |nil=>
  intro r ds h e;cases h;exact⟨e,rfl⟩
 |cons p l ih=>
  intro r ds h e;induction r using c_ with
  |nil=>exact h.elim
  |cons q r=>
   exact e.elim λe0 e=>e.elim λd0 x=>⟨⟨e0,d0,x.1,⟨h.1.1▸x.2.1.key,h.1.1▸x.2.1.hash,h.1.2 _ x.2.1.val⟩,(ih h.2 x.2.2).1⟩,Ja (·+1) (ih h.2 x.2.2).2⟩
theorem EsR.ok{l r:List (Str×AV)}(q:OkP om nm1 L1 a (.dict l) o)(h:EsR nm1 L1 nm L l r):OkP om nm L a (.dict r) o:=q.dict_ λds hs eo en=>⟨hs,ds,(EsR.ens h en).2▸eo,(EsR.ens h en).1⟩
variable (D:DtB om out s s3 aT aR f ps bits cs L2 L3 S3)
include D
theorem DtB.dat(e0:nmD.op 0=Js L2 11)(e1:nmD.op 1=Js L2 16)(e8:nmD.op 8=Js L2 8)(e9:nmD.op 9=Js L2 9):ObL om nmD s3 (dL6 L2) (dL6 L2) Jx:=by
 have J:=frJ D.ok.l4;have lc:∀{i j w},(dL6 L2)[i]?=some (Js L2 j)->Den (dtN f) L2 (.loc j) w->Den nmD (dL6 L2) (.loc i) w:=fun {i j w} hi d=>d.loc_ λa ha ew=>⟨a,hi.trans (Ja some (Jy ha)),ew⟩;have op:∀{i j w},nmD.op i=Js L2 j->Den (dtN f) L2 (.loc j) w->Den nmD (dL6 L2) (.op i) w:=fun {i j w} hi d=>d.loc_ λa ha ew=>ew.trans (Ja Value.ref ((Jy ha).symm.trans hi.symm));obtain ⟨o1,_,a1,b1⟩:=D.tr.at_ (p:=(2,.dict [("working",.loc 5),("linkage",.loc 6),("files",.loc 7),("sorts",.loc 8),("size",.int 0),("indexes",.loc 9)])) (.head _) J.c;obtain ⟨o2,_,a2,b2⟩:=D.tr.at_ (p:=(3,.inst 228 2)) (.tail _ (.head _)) J.b;obtain ⟨o3,_,a3,b3⟩:=D.tr.at_ (p:=(5,.list [.loc 11])) (.tail _ (.tail _ (.head _))) J.d;obtain ⟨o4,_,a4,b4⟩:=D.tr.at_ (p:=(6,.list [])) (.tail _ (.tail _ (.tail _ (.head _)))) J.e;obtain ⟨o5,_,a5,b5⟩:=D.tr.at_ (p:=(7,.dict [("F-1",.loc 21)])) (.tail _ (.tail _ (.tail _ (.tail _ (.head _))))) J.f;obtain ⟨o6,_,a6,b6⟩:=D.tr.at_ (p:=(21,.list [.loc 16])) (.tail _ (.tail _ (.tail _ (.tail _ (.tail _ (.head _)))))) J.g
 refine ObL.cons a1 (EsR.ok b1 ⟨⟨rfl,λw d=>lc (i:=2) rfl d⟩,⟨rfl,λw d=>lc (i:=3) rfl d⟩,⟨rfl,λw d=>lc (i:=4) rfl d⟩,⟨rfl,λw d=>op e8 d⟩,⟨rfl,λw d=>d⟩,⟨rfl,λw d=>op e9 d⟩,rfl⟩) (ObL.cons a2 (b2.elim λad r=>(lc (i:=0) (j:=2) (w:=.ref ad) rfl ⟨ad,r.1,rfl⟩).elim λz g=>⟨ad,(Value.ref.inj g.2)▸g.1,r.2⟩) (ObL.cons a3 (b3.list_ λxs n e dd=>⟨xs,n,e,dd.imp λw r=>r.imp λr q=>⟨q.1,op e0 q.2.1,q.2.2⟩⟩) (ObL.cons a4 (b4.list_ λxs n e dd=>⟨xs,n,e,dd⟩) (ObL.cons a5 (EsR.ok b5 ⟨⟨rfl,λw d=>lc (i:=5) rfl d⟩,rfl⟩) (ObL.cons a6 (b6.list_ λxs n e dd=>⟨xs,n,e,dd.imp λw r=>r.imp λr q=>⟨q.1,op e1 q.2.1,q.2.2⟩⟩) ObL.nil)))))
end Internal
namespace Internal
variable {om:Om}{s s3:Shared}{i j k n:Nat}{out:List Env}{L L' L2 L3:List Addr}{nm:Nt}{S3:St}{a aT aR:Addr}{w:Value}{ao:AO}{ps:List Nat}{o:Obj}{us:List Value}{h:Heap}{f:Nat->Str}{bits:List Bool}{cs:List Str}
def pathN(f:Nat->Str)(ps:List Nat)(i:Nat):List Str:=nmS f i::((anc ps i).map (nmS f)++[fileS ps i])
theorem pathA_all:((JW 5).all λT=>(Wj T).all λps=>(JW (2+T)).all λi=>Ww (pathA ps i) (nmA i::((anc ps i).map nmA++[.str (fileS ps i)]))&&((anc ps i).all λj=>Nat.blt j (2+T))&&Nat.blt (anc ps i).length 5)=true:=by rfl'
structure PathA(ps:List Nat)(i:Nat):Prop where
 e:pathA ps i=nmA i::((anc ps i).map nmA++[.str (fileS ps i)])
 lt:∀j∈anc ps i,j<2+ps.length
 le:(anc ps i).length<=4
theorem pathA_of(ok:Wu ps)(hi:i<2+ps.length):PathA ps i:=
 Jr (al_ (al_ (al_ pathA_all _ (JD (Jh ok.l4))) _ (shapes_in _ _ rfl ok.lt)) _ (JD hi)) λh c=>Jr h λa b=>⟨Zq a,λj hj=>nl (al_ b j hj),Je (nl c)⟩
theorem nmA_str(hi:i<2+ps.length)(nf:∀t,t<ps.length->f t∈JG 3)(d:Den (dtN f) L (nmA i) w):(∃t,w=.str (nmS f i) t)/\nmS f i∈JR 0:=
 (nmA_den (nm:=⟨nmS f,λZ=>0⟩) (k:=i) (L':=[]) rfl d).elim λt r=>⟨⟨t,r.1⟩,r.2⟩
theorem path_strs(ok:Wu ps)(nf:∀t,t<ps.length->f t∈JG 3)(hi:i<2+ps.length)(d:Jq (dtN f) L (pathA ps i) us):StrsAre us (pathN f ps i)/\(∀y∈pathN f ps i,y∈JR 2)/\(pathN f ps i).length<=6:=by
 have A:=pathA_of ok hi;rw[A.e]at d;obtain ⟨w,r,e,d0,ds⟩:=d;obtain ⟨u1,u2,e2,d1,d2⟩:=Jq.split ds;refine d2.one λw2 e3 dw=>dw.str_ λt2 e4=>?_;obtain ⟨⟨t0,q0⟩,p0⟩:=nmA_str hi nf d0;have key:∀{js:List Nat} {us:List Value},(∀j∈js,j<2+ps.length)->Jq (dtN f) L (js.map nmA) us->StrsAre us (js.map (nmS f))/\∀y∈js.map (nmS f),y∈JR 2:=fun {js}=>by
  induction js with
  |nil=>intro us Z d;exact⟨(show us=[]from d)▸.nil,λy h=>absurd h Ξ⟩
  |cons j js ih=>
   intro us hl ⟨w,r,e,d,ds⟩;have q:=ih (λk hk=>hl k (.tail _ hk)) ds;obtain ⟨⟨t,q0⟩,p0⟩:=nmA_str (hl j (.head _)) nf d;exact⟨e▸q0▸.cons _ t q.1,λy hy=>(mc_ hy).elim (λz=>z▸poss02 p0) (q.2 y)⟩
 have q:=key A.lt d1;refine⟨?_,λy hy=>?_,?_⟩
 ·rw[e,e2,q0,e3,e4]
  exact .cons _ t0 (strs_app q.1 (.cons _ t2 .nil))
 ·refine(mc_ hy).elim (λz=>z▸poss02 p0) λhy=>(ma_ hy).elim (q.2 y) λhy=>?_
  rw[ms_ hy];exact fileS_pos _ _
 ·have:=A.le
  show ((anc ps i).map (nmS f)++[fileS ps i]).length+1<=6;rw[ς,Ω,Jg];lia
def JK(f:Nat->Str)(ps:List Nat)(bits:List Bool)(cs:List Str)(L2 L3:List Addr):List Row:=(rIx bits).map λp=>⟨nrf cs p.1,pathN f ps p.1,Js L2 (arA p.1),Js L3 (bits.length+10+7*p.2)⟩
def itsD(f:Nat->Str)(n:Nat):List Str:=((JW n).reverse).map (nmS f)
theorem itsD_mem{y:Str}:y∈itsD f n↔∃i,i<n/\nmS f i=y:=List.mem_map.trans ⟨λ⟨i,hi,e⟩=>⟨i,mem_rev hi,e⟩,λ⟨i,hi,e⟩=>⟨i,List.mem_reverse.mpr (JD hi),e⟩⟩
variable (D:DtB om out s s3 aT aR f ps bits cs L2 L3 S3)
include D
theorem DtB.row(U:DtUp s3 L2 L3 h):∀r∈JK f ps bits cs L2 L3,RowOk h r:=λr hr=>by
 obtain ⟨p,hp,rfl⟩:=mm_ hr;have C:=D.c;obtain ⟨hb,hl⟩:=C.r p hp;have hi:p.1<2+ps.length:=D.lb▸hb;obtain ⟨o,q1,q2,q3⟩:=D.at_ U (C.t _ _ hb hl);obtain ⟨o2,_,g1,g2⟩:=(D.tri U).at_ hi tree_a ((frJ D.ok.l4).i _ hi).c;refine g2.list_ λxs n eo dd=>?_;have S:=path_strs D.ok D.nf hi dd;refine⟨q3.tup_ λzs m ez dz=>dz.two λw1 w2 ew ⟨t,e1,_⟩ d2=>⟨zs,m,t,ez▸q2,?_⟩,⟨xs,n,eo▸g1,S.1⟩,S.2.2,S.2.1,ixp (D.cs_in hi)⟩;have l4:=D.ok.l4;cases d2;rw[ew,e1,show (d2N f cs L2).f p.1=nrf cs p.1 from d2F_lo (by lia),show (d2N f cs L2).op (30+p.1)=Js L2 (arA p.1)from d2Op_a _]
theorem DtB.fnd(U:DtUp s3 L2 L3 h):∃xs n,h.get? (Js L3 (2+bits.length))=some (listOf xs n)/\xs.toList=(JK f ps bits cs L2 L3).map λr=>Value.ref r.tup:=by
 obtain ⟨o,q1,q2,q3⟩:=D.at_ U (k:=2+bits.length) (ao:=.list (fndF bits.length (WW bits))) (.head _);refine q3.list_ λxs n eo dd=>⟨xs,n,eo▸q2,?_⟩;have e1:((rIx bits).map λp=>AV.loc (bits.length+10+7*p.2))=((rIx bits).map λp=>bits.length+10+7*p.2).map AV.loc:=by rw[Jb];rfl
 rw[D.c.fnd,e1]at dd;rw[dens_locs dd];unfold JK;rw[Jb,Jb];rfl
theorem DtB.li(U:DtUp s3 L2 L3 h):∃xs n,h.get? (Js L3 (bits.length+5+7*WW bits))=some (listOf xs n)/\StrsAre xs.toList (itsD f bits.length):=by
 obtain ⟨o,q1,q2,q3⟩:=D.at_ U (k:=bits.length+5+7*WW bits) (ao:=.list (sy0 200 bits.length)) (.tail _ (.head _));refine q3.list_ λxs n eo dd=>⟨xs,n,eo▸q2,?_⟩;have e:bits.length=(JW bits.length).reverse.length:=(Zv _).symm;have dd:Jq (d2N f cs L2) L3 (sy0 200 (JW bits.length).reverse.length) xs.toList:=e▸dd;exact(strs_js (f':=nmS f) dd λq j hq=>by
  have hl:q<bits.length:=Zv bits.length▸(lt_ hq);cases (upto_rev hl).symm.trans hq;exact d2F_n _).1
theorem DtB.len:(JK f ps bits cs L2 L3).length<=6:=by
 have C:=D.c;have h1:(JK f ps bits cs L2 L3).length=WW bits:=by
  have:=Ja List.length C.fnd;unfold fndF at this;rw[Ω,Zv,Ω]at this;unfold JK;rw[Ω];exact this.symm
 have key:∀b:List Bool,WW b<=b.length:=λb=>by
  induction b with
  |nil=>exact Ϙ _
  |cons b r ih=>induction b with
   |true=>exact Nat.succ_le_succ ih
   |false=>exact Nat.le_succ_of_le ih
 have:=key bits;have:=D.lb;have:=D.ok.l4;lia
end Internal
namespace Internal
def callH(cx:Cx)(r:Cm->St->R)(f:FrA)(fe:PySem.Expr)(es:List PySem.Expr)(chk:AV->List AV->St->Bool)(S:St):R:=onV (r (.ev f fe) S) λa S=>onVs (evs r f es S) λl S=>ifT (calleeOk S a&&chk a l S) (.ok (.vs (a::l)) S)
def tupH(cx:Cx)(r:Cm->St->R)(f:FrA)(e1 fe:PySem.Expr)(es:List PySem.Expr)(chk:AV->AV->List AV->St->Bool)(S:St):R:=onV (r (.ev f e1) S) λv S=>callH cx r f fe es (chk v) S
variable {B:Bd}{x:Sit B}{n:Nat}{α:Type}{ρ:Sit B->Out->α->Prop}{Q:SP α}{Q1:SP Value}{E:SP Value}{r:Cx->Cm->St->R}{es:List PySem.Expr}{e1 e t:PySem.Expr}{z:Str}{p0 p1 p2:Pos}{ct k:Nat}
theorem callH_ok{chk:AV->List AV->St->Bool}(hr:Hr n r)(m:Rm B n)(hn:noStar es=true)(P:Jn x ρ (callH B.G.cx (r B.G.cx) B.f (.Name z p0) es chk x.S) Q E)
  (K:∀(y:Sit B) a l fv us,x.le y->y.D a fv->y.Ds l us->chk a l y.S=true->wpAny (Md B) B.A (call fv us) Q1 E y.s):wpAny (Md B) B.A (eval (.Call (.Name z p0) es [] p1) B.env) Q1 E x.s:=by
 show wpAny _ _ (do callWith p1 (<-eval (.Name z p0) B.env) [] (backTo p1 (starEach es B.env)) (backToKw p1 (keywordEach [] B.env))) _ _ _
 exact Γ (hr.ev m (P.onV λy a u q d P=>callW_ok (x:=y) hn d (evs_ok hr m (Jn.onVs P λy1 l us q1 d1 P=>P.ifT λhc Z=>Jr hc λh1 h2=>⟨⟨y1,q1,rfl,h1⟩,K y1 a l u us (τ q q1) (Den.mono q1 d) d1 h2⟩))))
theorem tupH_ok{chk:AV->AV->List AV->St->Bool}(hr:Hr n r)(m:Rm B n)(h1:WI e1=false)(hn:noStar es=true)(P:Jn x ρ (tupH B.G.cx (r B.G.cx) B.f e1 (.Name z p0) es chk x.S) Q E)
  (K:∀(y:Sit B) v w a l fv us,x.le y->y.D v w->y.D a fv->y.Ds l us->chk v a l y.S=true->wpAny (Md B) B.A (call fv us) (λw2 s=>Q1 (.ref s.heap.objs.size) {s with heap:=s.heap.push {cls:=.type "tuple",data:=.seq #[w,w2]}}) E y.s):wpAny (Md B) B.A (eval (.Tuple [e1,.Call (.Name z p0) es [] p1] ct p2) B.env) Q1 E x.s:=by
 refine wpAny_Tuple ?_
 rw[star_cons h1]
 refine spliced_cons (hr.ev m (P.onV λy v w q d P=>?_))
 rw[star_cons rfl]
 exact spliced_cons (callH_ok hr m hn P λy1 a l fv us q1 d1 ds hc=>ι (K y1 v w a l fv us (τ q q1) (Den.mono q1 d) d1 ds hc) (λw2 s h=>spliced_nil ⟨by rw[PySem.sizeLine_eq];exact nl rfl,h⟩) λZ Z h=>h)
theorem asgC_ok{Q:SP Flow}(h1:pureOf (swapsWithSole [t] e p1.line (ZY B.f.sc))=some false)(h2:pureOf (swappedStores [t] e (ZY B.f.sc))=some none)(hs:noStar [t]=true)(x:Sit B)(H:wpAny (Md B) B.A (eval e B.env) (λv s=>wpAny (Md B) B.A (assign t B.env v) (λZ s=>Q .next s) E s) E x.s):wpAny (Md B) B.A (exec (.Assign [t] e p1) B.env) Q E x.s:=by
 have sc:=x.top.sc;refine wpAny_Assign_stores (ι H (λv s h=>?_) λZ Z h=>h) (by rw[sole_env0,sc,of_pureOf h1]) (by rw[swap_env0,sc,of_pureOf h2]);rw[each_eq hs];exact h
def e0_:PySem.Expr:=.Constant .none 0 default
structure AsP where
 t:PySem.Expr
 e:PySem.Expr
 p:Pos
def asP(o:Option Stmt):AsP:=match o with
 |some (.Assign [t] e p)=>⟨t,e,p⟩
 |_=>⟨e0_,e0_,default⟩
structure CaP where
 f:Str
 p0:Pos
 as:List PySem.Expr
 p:Pos
def caP(e:PySem.Expr):CaP:=match e with
 |.Call (.Name f p0) as [] p=>⟨f,p0,as,p⟩
 |_=>⟨"",default,[],default⟩
def CaP.e9(c:CaP):PySem.Expr:=.Call (.Name c.f c.p0) c.as [] c.p
structure TuP where
 a:PySem.Expr
 b:PySem.Expr
 k:Nat
 p:Pos
def tuP(e:PySem.Expr):TuP:=match e with
 |.Tuple [a,b] k p=>⟨a,b,k,p⟩
 |_=>⟨e0_,e0_,0,default⟩
def lwB(P:Params):List Stmt:=(fiP P 845).body
def lwS(P:Params)(i:Nat):AsP:=asP (lwB P)[i]?
def lwC(P:Params):CaP:=caP (lwS P 1).e
def lwT(P:Params):TuP:=tuP (lwS P 2).e
def lwD(P:Params):CaP:=caP (lwT P).b
theorem lw_body(P:Params):lwB P=(lwB P).take 1++.Assign [(lwS P 1).t] (lwC P).e9 (lwS P 1).p::.Assign [(lwS P 2).t] (.Tuple [(lwT P).a,(lwD P).e9] (lwT P).k (lwT P).p) (lwS P 2).p::(lwB P).drop 3:=by rfl'
theorem lw_asg(P:Params):(pureOf (swapsWithSole [(lwS P 1).t] (lwC P).e9 (lwS P 1).p.line (ZY (fiP P 845).sc)),pureOf (swappedStores [(lwS P 1).t] (lwC P).e9 (ZY (fiP P 845).sc)),pureOf (swapsWithSole [(lwS P 2).t] (.Tuple [(lwT P).a,(lwD P).e9] (lwT P).k (lwT P).p) (lwS P 2).p.line (ZY (fiP P 845).sc)),pureOf (swappedStores [(lwS P 2).t] (.Tuple [(lwT P).a,(lwD P).e9] (lwT P).k (lwT P).p) (ZY (fiP P 845).sc)))=(some false,some none,some false,some none):=by rfl'
theorem lw_star(P:Params):(noStar [(lwS P 1).t],noStar [(lwS P 2).t],noStar (lwC P).as,noStar (lwD P).as,WI (lwT P).a)=(true,true,true,true,false):=by rfl'
theorem lw_fi(P:Params):fnP P 845=some (fiP P 845):=by rfl'
def lwF(P:Params)(l:Nat):FrA:=frZ (fiP P 845) l []
def laOra(a:Nat)(args:List AV)(S:St):R:=ifT (Nat.beq a 795) (ifT (Ww args [.op 9]) (pushV S (.tap (Za 60))))
def laCx(P:Params):Cx:={cx0 P with sp:=[795],ora:=laOra}
def laS:St:=JZ [.ns [("script",.op 9)]]
def stB(k:Nat)(a:AV):Bool:=AV.rec false (λZ=>false) (λZ=>false) (λZ=>false) (λZ=>false) (λZ=>false) (λZ=>false) (λa=>Nat.beq a k) (λZ=>false) false (λZ Z=>false) (λZ Z=>false) (λZ=>false) (λZ Z=>false) a
theorem stB_of{k:Nat}{a:AV}(h:stB k a=true):a=.st k:=by revert h;induction a<;>first|exact nb|exactλh=>Ja AV.st (nq h)
def laK(a:AV)(l:List AV)(S:St):Bool:=stB 807 a&&(Ww l [.loc 1]&&(Option.rec false (λds=>Nat.beq (List.length ds) 60) (gv vTap S 1)&&Option.rec false (λes=>locB 1 (look "tap" es)) (gv vNs S 0)))
def laR(P:Params):R:=exsK (run (laCx P) 30) (lwF P 0) (callH (laCx P) (run (laCx P) 30) (lwF P 0) (.Name (lwC P).f (lwC P).p0) (lwC P).as laK) ((lwB P).take 1) laS
def vsB(o:Out):Bool:=JH (selVs o)
theorem la_run(P:Params):allL (λo Z=>vsB o) (laR P)=true:=by rfl'
theorem la_ent(P:Params)(k:FrA->St->R):enterX false (fiP P 845) [.op 9] (JZ []) k=k (lwF P 0) laS:=by rfl'
set_option exponentiation.threshold 2000
variable {om:Om}{A:Around}{s s':Shared}{K i m:Nat}{out:List Env}{own L' l:List Addr}{nm:Nt}{u:Nat->Bool}{S:St}{c:R}{φ:Out->St->Prop}{Q:SP Value}{a b aS:Addr}{cs:List Int}
def stepI(lv c:Int):Int:=lv*1201+4*Int.fmod (if c<0 then -c else c) (10 ^ 40)+Bool.rec 0 1 (decide (c<0))
def levF(l:List Int):Int:=(l.take 24).foldl stepI 41
def two0(l:List AV):Option Int:=List.rec none (λa r Z=>obO (Zw a) λx=>List.rec none (λb r Z=>obO (Zw b) λy=>ifO (decide (y=0)) (List.rec (some x) (λZ Z Z=>none) r)) r) l
def tapRes(c:R):Option Int:=R.rec none (λo S=>obO (Ya o) λa=>obO (Zh a) λj=>obO (gv Zc S j) two0) (λZ Z Z Z Z=>none) c
def tapCx(P:Params)(l:List AV):Cx:={cx0 P with kn:={sob:=λk=>JE k [(0,.list l)]}}
def tapC(P:Params)(l:List AV):R:=ZF (run (tapCx P l) 60) false (fiP P 795) [.op 0] (JZ [])
def lstN(k:Nat)(c:Nat->Int):List AV:=Nat.rec (motive:=λZ=>(Nat->Int)->List AV) (λZ=>[]) (λZ ih c=>.int (c 0)::ih λi=>c (i+1)) k c
def lstI(k:Nat)(c:Nat->Int):List Int:=Nat.rec (motive:=λZ=>(Nat->Int)->List Int) (λZ=>[]) (λZ ih c=>c 0::ih λi=>c (i+1)) k c
def JI(P:Params)(c:Nat->Int)(k:Nat):Option Int:=tapRes (tapC P (lstN k c))
def JJ(c:Nat->Int)(k:Nat):Option Int:=some (levF (lstI k c))
def at8{α:Type}(f:Nat->α)(b:Nat):List α:=[f b,f (b+1),f (b+2),f (b+3),f (b+4),f (b+5),f (b+6),f (b+7)]
theorem at8_of{α:Type}{f g:Nat->α}{b:Nat}(h:at8 f b=at8 g b){i:Nat}(hi:i<8):f (b+i)=g (b+i):=by
 exact JC (P:=λi=>f (b+i)=g (b+i)) (JC (JC (JC (JC (JC (JC (JC WQ (oi (Ja (λz=>z[0]?) h))) (oi (Ja (λz=>z[1]?) h))) (oi (Ja (λz=>z[2]?) h))) (oi (Ja (λz=>z[3]?) h))) (oi (Ja (λz=>z[4]?) h))) (oi (Ja (λz=>z[5]?) h))) (oi (Ja (λz=>z[6]?) h))) (oi (Ja (λz=>z[7]?) h)) i hi
theorem tapK_0(P:Params)(c:Nat->Int):[JI P c 0,JI P c 1,JI P c 2,JI P c 3,JI P c 4,JI P c 5,JI P c 6,JI P c 7]=[JJ c 0,JJ c 1,JJ c 2,JJ c 3,JJ c 4,JJ c 5,JJ c 6,JJ c 7]:=by rfl'
theorem tapK_1(P:Params)(c:Nat->Int):[JI P c 8,JI P c 9,JI P c 10,JI P c 11,JI P c 12,JI P c 13,JI P c 14,JI P c 15]=[JJ c 8,JJ c 9,JJ c 10,JJ c 11,JJ c 12,JJ c 13,JJ c 14,JJ c 15]:=by rfl'
theorem tapK_2(P:Params)(c:Nat->Int):[JI P c 16,JI P c 17,JI P c 18,JI P c 19,JI P c 20,JI P c 21,JI P c 22,JI P c 23]=[JJ c 16,JJ c 17,JJ c 18,JJ c 19,JJ c 20,JJ c 21,JJ c 22,JJ c 23]:=by rfl'
theorem tapK_3(P:Params)(c:Nat->Int):[JI P c 24,JI P c 25,JI P c 26,JI P c 27,JI P c 28,JI P c 29,JI P c 30,JI P c 31]=[JJ c 24,JJ c 25,JJ c 26,JJ c 27,JJ c 28,JJ c 29,JJ c 30,JJ c 31]:=by rfl'
theorem tapK_4(P:Params)(c:Nat->Int):[JI P c 32,JI P c 33,JI P c 34,JI P c 35,JI P c 36,JI P c 37,JI P c 38,JI P c 39]=[JJ c 32,JJ c 33,JJ c 34,JJ c 35,JJ c 36,JJ c 37,JJ c 38,JJ c 39]:=by rfl'
theorem tapK_5(P:Params)(c:Nat->Int):[JI P c 40,JI P c 41,JI P c 42,JI P c 43,JI P c 44,JI P c 45,JI P c 46,JI P c 47]=[JJ c 40,JJ c 41,JJ c 42,JJ c 43,JJ c 44,JJ c 45,JJ c 46,JJ c 47]:=by rfl'
theorem tapK_6(P:Params)(c:Nat->Int):[JI P c 48,JI P c 49,JI P c 50,JI P c 51,JI P c 52,JI P c 53,JI P c 54,JI P c 55]=[JJ c 48,JJ c 49,JJ c 50,JJ c 51,JJ c 52,JJ c 53,JJ c 54,JJ c 55]:=by rfl'
theorem tapK_7(P:Params)(c:Nat->Int):[JI P c 56,JI P c 57,JI P c 58,JI P c 59,JI P c 60,JI P c 61,JI P c 62,JI P c 63]=[JJ c 56,JJ c 57,JJ c 58,JJ c 59,JJ c 60,JJ c 61,JJ c 62,JJ c 63]:=by rfl'
theorem tap_at(P:Params)(c:Nat->Int):∀k,k<64->JI P c k=JJ c k:=λk hk=>by
 have:∃b i,k=8*b+i/\i<8/\b<8:=⟨k / 8,k%8,(Nat.div_add_mod k 8).symm,Nat.mod_lt k (by decide),Nat.div_lt_of_lt_mul hk⟩;obtain ⟨b,i,rfl,hi,hb⟩:=this;exact JC (P:=λb=>JI P c (8*b+i)=JJ c (8*b+i)) (JC (JC (JC (JC (JC (JC (JC WQ (at8_of (f:=JI P c) (g:=JJ c) (b:=0) (tapK_0 P c) hi)) (at8_of (f:=JI P c) (g:=JJ c) (b:=8) (tapK_1 P c) hi)) (at8_of (f:=JI P c) (g:=JJ c) (b:=16) (tapK_2 P c) hi)) (at8_of (f:=JI P c) (g:=JJ c) (b:=24) (tapK_3 P c) hi)) (at8_of (f:=JI P c) (g:=JJ c) (b:=32) (tapK_4 P c) hi)) (at8_of (f:=JI P c) (g:=JJ c) (b:=40) (tapK_5 P c) hi)) (at8_of (f:=JI P c) (g:=JJ c) (b:=48) (tapK_6 P c) hi)) (at8_of (f:=JI P c) (g:=JJ c) (b:=56) (tapK_7 P c) hi) b hb
theorem lstN_of:∀(cs:List Int) (c:Nat->Int),(∀i x,cs[i]?=some x->c i=x)->lstN cs.length c=cs.map AV.int/\lstI cs.length c=cs:=by
 intro v0_;induction v0_ with
 |nil=>
  intro Z Z;exact⟨rfl,rfl⟩
 |cons x cs ih=>
  intro c h;have ih:=ih (λi=>c (i+1)) λi y e=>h (i+1) y e;have h0:=h 0 x rfl;exact⟨by show AV.int (c 0)::lstN cs.length (λi=>c (i+1))=_;rw[ih.1,h0];rfl,by show c 0::lstI cs.length (λi=>c (i+1))=_;rw[ih.2,h0]⟩
theorem tap_all(P:Params)(h:cs.length<64):tapRes (tapC P (cs.map AV.int))=some (levF cs):=by
 have hk:=tap_at P (λi=>(cs[i]?).getD 0) cs.length h;obtain ⟨h1,h2⟩:=lstN_of cs (λi=>(cs[i]?).getD 0) λi x e=>by show (cs[i]?).getD 0=x;rw[e];rfl
 unfold JI JJ at hk;rw[h1,h2]at hk;exact hk
def itB(n:Nat):Int->Int:=Nat.rec (motive:=λZ=>Int->Int) (λb=>b) (λZ ih b=>ih (b*1201+4*10 ^ 40)) n
theorem stepI_b{lv c:Int}(h:0<=lv):0<=stepI lv c/\stepI lv c<=lv*1201+4*10 ^ 40:=by
 unfold stepI;have e:Int.fmod (if c<0 then -c else c) (10 ^ 40)=(if c<0 then -c else c)%(10 ^ 40):=Int.fmod_eq_emod_of_nonneg _ (by decide);have a:0<=(if c<0 then -c else c)%(10 ^ 40):=Int.emod_nonneg _ (by decide);have b:(if c<0 then -c else c)%(10 ^ 40)<10 ^ 40:=Int.emod_lt_of_pos _ (by decide);rw[e];generalize (if c<0 then -c else c)%(10 ^ 40)=m at a b;have z:(Bool.rec 0 1 (decide (c<0)):Int)=0\/(Bool.rec 0 1 (decide (c<0)):Int)=1:=by cases decide (c<0)<;>simp
 generalize (Bool.rec 0 1 (decide (c<0)):Int)=z0 at z;lia
theorem itB_ge:∀(n:Nat) (l:List Int) (lv b:Int),l.length<=n->0<=lv->lv<=b->0<=l.foldl stepI lv/\l.foldl stepI lv<=itB n b:=by
 intro n;induction n with
 |zero=>
  intro l lv b h h0 h1;rw[List.length_eq_zero_iff.mp (Nat.le_zero.mp h)];exact⟨h0,h1⟩
 |succ n ih=>
  intro l lv b h h0 h1;have w:lv*1201+4*10 ^ 40<=b*1201+4*10 ^ 40:=Int.add_le_add_right (Int.mul_le_mul_of_nonneg_right h1 (by decide)) _;induction l using c_ with
  |nil=>exact ih [] lv (b*1201+4*10 ^ 40) (Nat.zero_le _) h0 (by lia)
  |cons c l=>exact ih l (stepI lv c) (b*1201+4*10 ^ 40) (Nat.le_of_succ_le_succ h) (stepI_b h0).1 (Int.le_trans (stepI_b h0).2 w)
theorem levF_b(cs:List Int):0<=levF cs/\levF cs<2 ^ 700:=by
 obtain ⟨a,b⟩:=itB_ge 24 (cs.take 24) 41 41 (by rw[List.length_take];lia) (by decide) (Int.le_refl _);exact⟨a,Int.lt_of_le_of_lt b (by decide +kernel)⟩
theorem two0_of{l:List AV}{x:Int}(h:two0 l=some x):l=[.int x,.int 0]:=by
 induction l using c_ with
 |nil=>exact no h
 |cons a r=>
  exact Jo h λy hy h=>by
   induction r using c_ with
   |nil=>exact no h
   |cons b r=>
    exact Jo h λz hz h=>Jt h λe h=>by
     induction r using c_ with
     |nil=>rw[JO hy,JO hz,κ e,oi h]
     |cons _ _=>exact no h
theorem tap_leaf{x:Int}(h:tapRes c=some x)(k:∀j S,S.get j=some (.list [.int x,.int 0])->φ (.v (.loc j)) S):WJ u c φ:=by
 induction c with
 |no=>exact no h
 |ask _ _ _=>exact no h
 |ok o S=>
  exact Jo (show obO (Ya o) (λa=>obO (Zh a) λj=>obO (gv Zc S j) two0)=some x from h) λa ha h=>Jo h λj hj h=>Jo h λl hl h=>Jz hl λao hg hv=>by
   have e:o=.v (.loc j):=by
    induction o with
    |v b=>cases ha;rw[JQ hj]
    |_=>exact no ha
   rw[e];exact k j S (by rw[hg,Zf hv,two0_of h])
theorem tap_fi(P:Params):fnP P 795=some (fiP P 795):=by rfl'
theorem dens_ints{nm nm':Nt}{L L':List Addr}:∀{cs:List Int} {us:List Value},Jq nm L (cs.map AV.int) us->Jq nm' L' (cs.map AV.int) us:=by
 intro v0_;induction v0_ with
 |nil=>
  intro Z d;exact d
 |cons _ _ ih=>
  intro Z y2_;obtain ⟨w,r,e,d,ds⟩:=y2_;exact⟨w,r,e,d,ih ds⟩
theorem tap_ok(p:Pt om A s (K+250))(hfr:A.frames=some out){xs:Array Value}(h1:s.heap.get? aS=some (listOf xs n))(d1:Jq ⟨λZ=>"",λZ=>0⟩ [] (cs.map AV.int) xs.toList)(hl:cs.length<64)
  (H:∀s' a,Aft [] out s s'->s.heap.get? a=none->om.hb.get? a=none->Fre out [a]->JP s'.heap a 60->Q (.ref a) s'):wpAny (Mdl om) A (call (.ref 795) [.ref aS]) Q E s:=by
 have g:=p.gin0 hfr
 have d0:Jq ⟨λZ=>"",λZ=>aS⟩ [] [.op 0] [.ref aS]:=⟨_,_,rfl,rfl,rfl⟩
 have kn:Zp om g.hF ⟨λZ=>"",λZ=>aS⟩ (λZ=>false) [] (tapCx om.w.params (cs.map AV.int)).kn:={kn0 with
  sob:=λk ao e=>by
   rcases ms_ (We (show JE k [(0,AO.list (cs.map AV.int))]=some ao from e))with e1
   obtain ⟨rfl,rfl⟩:=Prod.mk.inj e1;exact⟨_,g.frz h1 Ξ (λZ Z=>nofun),λL Z=>OkP.lst (dens_ints d1)⟩}
 refine go (n:=60) (nm:=⟨λZ=>"",λZ=>aS⟩) (u:=λZ=>false) (own:=[]) (cx:=tapCx om.w.params (cs.map AV.int)) (S:=JZ []) p hfr g (Beg.of ObL.nil (stL rfl)) rfl (λh=>nb h) kn 0 (by lia) (ora0 λZ=>rfl) (tap_fi _) d0 (tap_leaf (tap_all om.w.params hl) λj S1 e=>⟨_,rfl,λL1 s1 v B dv=>?_⟩)
 refine dv.loc_ λa ha e'=>B.get e ha λo ho q=>q.list_ λys n' eo dd=>Jq.two dd λu1 u2 eu e1 e2=>e1.int_ λt1 f1=>e2.int_ λt2 f2=>?_
 subst e'
 have hx:ys=#[.int (levF cs) t1,.int 0 t2]:=Array.toList_inj.mp (by rw[eu,f1,f2])
 have ma:=Θ ha
 exact H s1 a B.aft (B.new j a (Nat.zero_le _) ha) (B.hb a ma) (B.fre.one ma) ⟨levF cs,0,t1,t2,n',by rw[ho,eo,hx],(levF_b cs).1,(levF_b cs).2,Int.le_refl _,by decide⟩
variable {a:AV}{l:List AV}
structure LaK(S:St):Prop where
 t:∃ds,S.get 1=some (.tap ds)/\ds.length=60
 ns:∃es,S.get 0=some (.ns es)/\look "tap" es=some (.loc 1)
theorem laK_of(h:laK a l S=true):a=.st 807/\l=[.loc 1]/\LaK S:=Jr h λh1 h=>Jr h λh2 h=>Jr h λh3 h4=>⟨stB_of h1,Zq h2,by
  induction e:gv vTap S 1 with
  |none=>rw[e]at h3;exact nb h3
  |some ds=>
   rw[e]at h3;exact Jz e λao g v=>⟨ds,by rw[g];revert v;induction ao<;>first|exact no|exactλv=>Ja (λz=>some (AO.tap z)) (oi v),nq h3⟩,by
  induction e:gv vNs S 0 with
  |none=>rw[e]at h4;exact nb h4
  |some es=>
   rw[e]at h4;exact Jz e λao g v=>⟨es,by rw[g];revert v;induction ao<;>first|exact no|exactλv=>Ja (λz=>some (AO.ns z)) (oi v),ZG h4⟩⟩
theorem Bk.trans{nm nm2:Nt}{own L1 L':List Addr}{S1 S':St}{s1 s':Shared}(B:Bk om nm own out s S1 L1 s1)(B2:Bk om nm2 L1 out s1 S' L' s'):Bk om nm2 own out s S' L' s' where
 pre:=τ B.pre B2.pre
 nd:=B2.nd
 len:=B2.len
 all:=B2.all
 objs:=B2.objs
 new i a hi ha:=by
  by_cases q:i<L1.length
  ·have e:=Φ q
   exact B.new i a hi (e.trans ((Jp B2.pre e).symm.trans ha))
  ·induction e:s.heap.get? a with
   |none=>rfl
   |some o=>exact no ((B2.new i a (Jf q) ha).symm.trans (B.aft.keep a o (λhm=>(mi_ hm).elim λj hj=>absurd (lt_ hj) (ϖ (Ju B2.nd ha (Jp B2.pre (Jp B.pre hj))▸hi))) (B2.fre.one (Θ ha)) e))
 fre:=B2.fre
 hb:=B2.hb
 aft:=Aft.trans B B2.aft λa h=>.inl h
def lwR1(P:Params):List Stmt:=.Assign [(lwS P 2).t] (.Tuple [(lwT P).a,(lwD P).e9] (lwT P).k (lwT P).p) (lwS P 2).p::(lwB P).drop 3
def QF(Q:SP Value)(fl:Flow)(s:Shared):Prop:=Q (match fl with
 |.ret v=>v
 |_=>.none) s
structure LwP(A:Around)(env:Env)(out:List Env)(K:Nat):Prop where
 fr:A.frames=some (env::out)
 hdl:A.handled=none
 room:Room A K
theorem law_A(p:Pt om A s (K+673))(hfr:A.frames=some out){xs:Array Value}(h1:s.heap.get? aS=some (listOf xs n))(hS:Fre out [aS])(d1:Jq ⟨λZ=>"",λZ=>0⟩ [] (cs.map AV.int) xs.toList)(hl:cs.length<64)
  (H:∀(A':Around) (EF:SP Value) env aT L1 s1 S1,LwP A' env out (K+672)->Gin om s1 L1 out->Bk om ⟨λZ=>"",λZ=>aS⟩ [] out s S1 L1 s1->ZA L1 (lwF om.w.params 0) env->L1[1]?=some aT->LaK S1->Pt om A' s1 (K+552)->wpAny (Mdl om) A' (call (.ref 807) [.ref aT]) (λv s2=>wpAny (Mdl om) A' (assign (lwS om.w.params 1).t env v) (λZ s3=>wpAny (Mdl om) A' (execs (lwR1 om.w.params) env) (QF Q) EF s3) EF s2) EF s1):wpAny (Mdl om) A (call (.ref 845) [.ref aS]) Q E s:=by
 have g0:=p.gin0 hfr
 refine goF (nm:=⟨λZ=>"",λZ=>aS⟩) (u:=λZ=>false) (cx:=cx0 om.w.params) (S:=JZ []) (K:=K+672) p hfr g0 (Beg.of ObL.nil (stL rfl)) rfl nolam kn0 (lw_fi _) (args:=[.op 9]) ⟨_,_,rfl,rfl,rfl⟩ (la_ent _) λenv L0 s0 F Fr B0=>?_
 show wpAny _ _ (execs (lwB om.w.params) env) _ _ _
 rw[lw_body]
 have g1:Gin om s0 L0 out:=g0.next B0 B0.nd λZ h=>h
 have hF:g1.hF.get? aS=some (listOf xs n):=g1.stays aS _ (B0.out_ Ξ h1) hS (B0.aft.keep aS _ Ξ hS h1)
 have ora:Wv (g1.gd ⟨λZ=>"",λZ=>aS⟩ (λZ=>false) (laCx om.w.params) (K+552) rfl (λh=>nb h) kn0):=λa args A fs y us Q E hm pt hf dd P=>by
  refine PG.ifT P λha P=>PG.ifT P λhb P9=>?_;rw[Zq hb]at dd;refine dd.op1 λr eu dr=>?_;rw[eu,show r=[]from dr,nq ha];refine tap_ok (K:=K+302) pt hf (y.r.keep _ _ hF) d1 hl λs' a af hn _ hf ⟨x,z,t1,t2,m,ho,T⟩=>PG.new P9 af hn hf ho ⟨x,z,t1,t2,m,rfl,?_,Zm _ _ _⟩;rw[ZS];exact T
 let B:Bd:=g1.bd (f:=lwF om.w.params 0) (nm:=⟨λZ=>"",λZ=>aS⟩) (u:=λZ=>false) (cx:=laCx om.w.params) F.fr F.p.hdl rfl (λh=>nb h) kn0 (K+552) rfl
 have m:Rm B 30:=⟨F.p.room.le (by show 2*30+60+(K+552)<=_;lia),ora⟩
 let x0:Sit B:=g1.sit (u:=λZ=>false) (cx:=laCx om.w.params) (nm:=⟨λZ=>"",λZ=>aS⟩) (S:=laS) ⟨B0.len,B0.all,B0.objs⟩ F.fr F.p.hdl rfl (λh=>nb h) kn0 (K+552) Fr rfl rfl ⟨_,(stL (by rfl':okS [AO.ns [("script",.op 9)]]=true)).get 0⟩
 refine exs_K (x:=x0) (r:=λcx=>run cx 30) (Wl 30) m (WJ.post (Zy (la_run om.w.params) λo S h=>(h:(λo (_:St)=>vsB o=true) o S)) λo S1 h x' q e=>?_) λy q P=>?_
 ·induction o with
  |vs l=>exact⟨λw r=>r.el (λz=>nomatch z) λa' v z=>(nomatch z),λi z=>nomatch z⟩
  |_=>exact nb h
 ·have ha:=lw_asg om.w.params
  have hs:=lw_star om.w.params;refine wpAny_execs_cons (asgC_ok (Ja Prod.fst ha) (Ja (λp=>p.2.1) ha) (Ja Prod.fst hs) y (callH_ok (Wl 30) m (Ja (λp=>p.2.2.1) hs) P λy1 a l fv us q1 da dl hc=>?_));obtain ⟨e1,e2,K1⟩:=laK_of hc;rw[e1]at da;rw[e2]at dl;refine dl.loc1 λaT r hT eu dr=>?_;rw[eu,show fv=_ from da,show r=[]from dr];exact H _ _ env aT y1.L y1.s y1.S ⟨F.fr,F.p.hdl,F.p.room⟩ (g1.next (g1.end_ y1.r) y1.r.nd λZ h=>h) (B0.trans (g1.end_ y1.r)) ((y1.ok _ (.head _)).1) hT K1 (y1.pt m rfl)
def symN(r:Nat):List Nat:=Nat.rec (motive:=λZ=>Nat->List Nat) (λZ=>[]) (λZ ih b=>b::ih (b+1)) r 200
def lbOra(r:Nat)(a:Nat)(args:List AV)(S:St):R:=ifT (Nat.beq a 557) (ifT (Ww args [.loc 1]&&JY S (ZJ Jx 0)) (pushV S (.kset (symN r))))
def lbCx(P:Params)(r:Nat):Cx:={cx0 P with sp:=[557],ora:=lbOra r,kn:={sob:=λk=>ifO (Nat.beq k 5) (some (.tup [.loc 1,.op 2,.op 3]))}}
def lbL:List AO:=Jx++[.ns [("tap",.op 4)]]
def lbK(r:Nat)(v a:AV)(l:List AV)(S:St):Bool:=locB 7 (some v)&&(stB 564 a&&(Ww l [.loc 1]&&(JY S (ZJ Jx 0)&&(Option.rec false (λl=>eqL l (symN r)) (gv vKset S 7)&&Option.rec false (λes=>isOp 4 (look "tap" es)&&(isOp 2 (look "items" es)&&isOp 3 (look "found" es))) (gv vNs S 6)))))
def lbR(P:Params)(r:Nat):R:=xo selN (run (lbCx P r) 30 (.asg (lwF P 6) (lwS P 1).t (.op 5)) (JZ lbL)) λZ S=>tupH (lbCx P r) (run (lbCx P r) 30) (lwF P 6) (lwT P).a (.Name (lwD P).f (lwD P).p0) (lwD P).as (lbK r) S
theorem lb_run(P:Params):((JW 7).all λr=>allL (λo Z=>vsB o) (lbR P r))=true:=by rfl'
theorem lb_ok:okS lbL=true:=by rfl'
structure LbK(r:Nat)(S:St):Prop where
 d:JY S (ZJ Jx 0)=true
 ks:S.get 7=some (.kset (symN r))
 ns:∃es,S.get 6=some (.ns es)/\look "tap" es=some (.op 4)/\look "items" es=some (.op 2)/\look "found" es=some (.op 3)
variable {r:Nat}{env:Env}{a:Addr}{v w:AV}{f:Nat->Str}
theorem lbK_of(h:lbK r v w l S=true):v=.loc 7/\w=.st 564/\l=[.loc 1]/\LbK r S:=Jr h λh0 h=>Jr h λh1 h=>Jr h λh2 h=>Jr h λh3 h=>Jr h λh4 h5=>⟨oi (ZG h0),stB_of h1,Zq h2,h3,by
  induction e:gv vKset S 7 with
  |none=>rw[e]at h4;exact nb h4
  |some l=>
   rw[e]at h4;exact Jz e λao g v=>by rw[g,<-Ws h4];revert v;induction ao<;>first|exact no|exactλv=>Ja (λz=>some (AO.kset z)) (oi v),by
  induction e:gv vNs S 6 with
  |none=>rw[e]at h5;exact nb h5
  |some es=>
   rw[e]at h5;exact Jr h5 λh5 h6=>Jr h6 λh6 h7=>Jz e λao g v=>⟨es,by rw[g];revert v;induction ao<;>first|exact no|exactλv=>Ja (λz=>some (AO.ns z)) (oi v),Wb h5,Wb h6,Wb h7⟩⟩
theorem Pt.aft(p:Pt om A s k)(hfr:A.frames=some (env::out))(af:Aft own (env::out) s s')(ho:∀a∈own,om.hb.get? a=none/\a∉tbs):Pt om A s' k:=by
 have frs:FrsOk om s (env::out):=p.fr.elim λo r=>oi (r.1.symm.trans hfr)▸r.2;have frs':FrsOk om s' (env::out):=λe he=>⟨(frs e he).1,(frs e he).2.elim λa r=>r.elim λm r=>r.elim λo r=>(af.frs e he a m o r.1 r.2.1 r.2.2.1).elim λo' q=>⟨a,m,o',r.1,q.1,q.2,r.2.2.2⟩⟩;exact⟨λb o e=>af.keep b o (λhm=>no ((ho b hm).1.symm.trans e)) (Fre.of_size frs (ϱ e)) (p.base b o e),λt ht=>(p.live t ht).imp λo e=>af.keep t o (λhm=>(ho t hm).2 ht) (Fre.of_size frs (om.tbl t ht)) e,(frs' env (.head _)).2.elim λa r=>r.elim λm r=>r.elim λo r=>Jk r.2.2.2 (Nat.le_of_lt (ϱ r.2.1)),af.gens.trans p.gens,af.dr.trans p.dr,af.os.trans p.os,p.room,p.hdl,_,hfr,frs'⟩
theorem Pt.nw(p:Pt om A s k)(h:s.heap.get? a=none):om.hb.get? a=none/\a∉tbs:=⟨by
 induction e:om.hb.get? a with
 |none=>rfl
 |some o=>exact no (h.symm.trans (p.base _ _ e)),λht=>(p.live a ht).elim λo e=>no (h.symm.trans e)⟩
variable {A':Around}{s1 s3 s5:Shared}{x:Nat}{L L2 L3:List Addr}{aT aR aN aF:Addr}{ps:List Nat}{bits:List Bool}{cs:List Str}{o:Obj}{ord:List Nat}{fr:Nat->Addr}{rws:Nat->Rws}
theorem Aft.under(a1:Aft [] out s s1)(a2:Aft own (env::out) s1 s')(ho:∀a∈own,s.heap.get? a=none)(he:env.frame=some env.locals)(hl:s.heap.get? env.locals=none):Aft [] out s s' where
 keep b o _ hf e:=a2.keep b o (λhm=>no ((ho b hm).symm.trans e)) (λe' hm a ha hb=>(mc_ hm).elim (λz=>by
  subst z;cases he.symm.trans ha;rw[ms_ hb]at hl;exact no (hl.symm.trans e)) λhm=>hf e' hm a ha hb) (a1.keep b o Ξ hf e)
 frs e' hm a m o h1 h2 h3:=(a1.frs e' hm a m o h1 h2 h3).elim λo' q=>a2.frs e' (.tail _ hm) a m o' h1 q.1 q.2
 gens:=a2.gens.trans a1.gens
 dr:=a2.dr.trans a1.dr
 os:=a2.os.trans a1.os
theorem Aft.next(a1:Aft [] out s s1)(a2:Aft own out s1 s')(ho:∀a∈own,s.heap.get? a=none):Aft [] out s s':=a1.then_ a2 λa h=>.inr (ho a h)
theorem Wr(he:env.frame=some env.locals)(h:Fre (env::out) [b]):b≠env.locals/\Fre out [b]:=⟨λz=>h env (.head _) _ he (z▸.head _),λe hm=>h e (.tail _ hm)⟩
theorem fre_to(he:env.frame=some env.locals)(hn:b≠env.locals)(h:Fre out [b]):Fre (env::out) [b]:=λe hm a ha hb=>(mc_ hm).elim (λz=>by
 subst z;cases he.symm.trans ha;exact hn (ms_ hb).symm) λhm=>h e hm a ha hb
def lbT(bits:List Bool)(L2 L3:List Addr)(aT aR:Addr):List (Nat×Addr):=[(0,Js L2 11),(1,Js L2 16),(8,Js L2 8),(9,Js L2 9),(2,Js L3 (bits.length+5+7*WW bits)),(3,Js L3 (2+bits.length)),(4,aT),(5,aR)]
def lbN(bits:List Bool)(cs:List Str)(L2 L3:List Addr)(aT aR:Addr):Nt:=⟨λk=>nrf ((rIx bits).map λp=>nrf cs p.1) (k-200),λk=>Option.rec 0 (λa=>a) (JE k (lbT bits L2 L3 aT aR))⟩
structure LwC(om:Om)(A':Around)(out:List Env)(env:Env)(s:Shared)(aT aN aF:Addr)(f:Nat->Str)(ps:List Nat)(bits:List Bool)(cs:List Str)(L2 L3:List Addr)(s3 s5:Shared)(K:Nat)(ord:List Nat)(fr:Nat->Addr)(rws:Nat->Rws):Prop where
 p:Pt om A' s5 (K+552)
 af:Aft [] out s s5
 nT:s.heap.get? aT=none
 fT:Fre (env::out) [aT]
 nE:s.heap.get? env.locals=none
 fE:Fre out [env.locals]
 he:env.frame=some env.locals
 ns:∃o nm,s5.heap.get? env.locals=some o/\OkP om nm [] env.locals (.ns [("items",.op 2),("found",.op 3),("tap",.op 4)]) o/\nm.op 2=Js L3 (bits.length+5+7*WW bits)/\nm.op 3=Js L3 (2+bits.length)/\nm.op 4=aT
 tap:JP s5.heap aT 18
 up:∀b o,b∉dL7 L2->(b∈L2\/b∈L3)->s3.heap.get? b=some o->s5.heap.get? b=some o/\s.heap.get? b=none/\b≠aT/\Fre (env::out) [b]
 nsN:(aN==sysModules)=false
 dN:∃(ys:List Str) (ds:List DictEntry) (nm0:Nt) (L0:List Addr),s5.heap.get? aN=some (dictOf ds ys.length)/\Ens om.w.params nm0 L0 (ys.map λy=>(y,AV.bool true)) ds/\ys.Nodup/\∀y,y∈ys↔∃p∈rIx bits,nrf cs p.1=y
 nN:s.heap.get? aN=none
 tN:aN≠aT
 fN:Fre (env::out) [aN]
 o:ord∈ZC
 has:∀x,x<3->(x∈ord↔rws x≠[])
 rw:∃hF:Heap,(∀b o,hF.get? b=some o->s5.heap.get? b=some o/\Fre (env::out) [b])/\∀x∈ord,Rw hF (fr x) (rws x)
 rs:∀x,x<3->(rws x).map (·.2)=rowsX ⟨om,[],f,⟨λZ=>"",λZ=>0⟩,L2,[],ps,itD bits cs L2 L3,0,0,0,0,0,s⟩ x (2+ps.length)
 nsF:(aF==sysModules)=false
 dF:∃nm L,DAt om s5.heap aF (snEs ord) nm L/\∀x,x<3->nm.op (30+x)=fr x
 nF:s.heap.get? aF=none
 tF:aF≠aT
 fF:Fre (env::out) [aF]
variable {S3:St}{h:Heap}{us:List Value}
theorem dL6_7(h:a∈dL6 L2):a∈dL7 L2:=.tail _ h
theorem rIx_len(D:DtB om (env::out) s1 s3 aT aR f ps bits cs L2 L3 S3):(rIx bits).length<7:=by
 have:=D.len;unfold JK at this;rw[Ω]at this;lia
theorem lb_kn(D:DtB om (env::out) s1 s3 aT aR f ps bits cs L2 L3 S3)(U:DtUp s3 L2 L3 h)(ho:dL6 L2<+:own):Zp om h (lbN bits cs L2 L3 aT aR) u own {sob:=λk=>ifO (Nat.beq k 5) (some (.tup [.loc 1,.op 2,.op 3]))}:={kn0 with
 sob:=λq ao e=>Jt e λh1 e=>by
  cases e;cases nq h1;obtain ⟨o,q1,q2,q3⟩:=D.at_ U (k:=bits.length+7+7*WW bits) (ao:=.tup [.op 5,.loc (bits.length+5+7*WW bits),.loc (2+bits.length)]) (.tail _ (.tail _ (.head _)));rw[Jy D.r]at q2;refine q3.tup_ λxs n eo dd=>⟨_,eo▸q2,λL hL=>OkP.tp ?_⟩;obtain ⟨w0,r0,e0,d0,w1,r1,e1,d1,w2,r2,e2,d2,e3⟩:=dd;refine d1.loc_ λa1 h1 g1=>d2.loc_ λa2 h2 g2=>?_;refine⟨w0,r0,e0,⟨Js L2 3,Jp hL (Jp ho rfl),d0⟩,w1,r1,e1,?_,w2,r2,e2,?_,e3⟩
  ·exact g1.trans (Ja Value.ref (Jy h1).symm)
  ·exact g2.trans (Ja Value.ref (Jy h2).symm)}
theorem symN_r(r:Nat):∀b:Nat,(Nat.rec (motive:=λZ=>Nat->List Nat) (λZ=>[]) (λZ ih b=>b::ih (b+1)) r b:List Nat)=List.range' b r:=by
 induction r with
 |zero=>exactλZ=>rfl
 |succ r ih=>exactλb=>Ja (b::·) (ih (b+1))
theorem symN_mem{k:Nat}(h:k∈symN r):200<=k/\k<200+r:=List.mem_range'_1.mp (symN_r r 200▸h)
theorem mem_symN{k:Nat}(h1:200<=k)(h2:k<200+r):k∈symN r:=(show symN r=_ from symN_r r 200)▸List.mem_range'_1.mpr ⟨h1,h2⟩
theorem key_mem{g:Nat×Nat->Str}{y:Str}{l:List (Nat×Nat)}:(∃k∈symN l.length,nrf (l.map g) (k-200)=y)↔∃p∈l,g p=y:=⟨λ⟨k,hk,e⟩=>by
 have:=symN_mem hk;have hl:k-200<l.length:=Nat.sub_lt_left_of_lt_add this.1 this.2;exact⟨l[k-200],ο hl,(nrfG (Φ hl)).symm.trans e⟩,λ⟨p,hp,e⟩=>(mi_ hp).elim λj hj=>⟨200+j,mem_symN (Nat.le_add_right _ _) (Nat.add_lt_add_left (lt_ hj) 200),by rw[Ψ,nrfG hj];exact e⟩⟩
theorem cond_iff(D:DtB om (env::out) s1 s3 aT aR f ps bits cs L2 L3 S3)(Up:UB om.w.params ps){y:Str}:condOf ((Ze ps).map (itD bits cs L2 L3)) y↔∃p∈rIx bits,nrf cs p.1=y:=⟨λ⟨d,hd,nd,e⟩=>by
 obtain ⟨i,hi,rfl⟩:=mm_ hd;exact Jo (y:=JE i (rIx bits)) (k:=λr=>some (nrf cs i,Js L3 (bits.length+8+7*r))) e λr hr e2=>⟨(i,r),We hr,Ja Prod.fst (oi e2)⟩,λ⟨p,hp,e⟩=>by
 obtain ⟨h1,h2⟩:=D.c.r p hp;refine⟨itD bits cs L2 L3 p.1,ϕ (Up.all _ (D.lb▸h1)),Js L3 (bits.length+8+7*p.2),?_⟩;unfold itD;rw[h2,<-e];rfl⟩
theorem lb_ora{g:Gin om s3 own out}{cx:Cx}{hP:cx.P=om.w.params}{tb:cx.lam=true->tbs<+:own}{kn:Zp om g.hF (lbN bits cs L2 L3 aT aR) u own cx.kn}(hc:cx.ora=lbOra (rIx bits).length)(D:DtB om (env::out) s1 s3 aT aR f ps bits cs L2 L3 S3)(U:DtUp s3 L2 L3 g.hF)(ho:dL6 L2<+:own):Wv (g.gd (lbN bits cs L2 L3 aT aR) u cx (K+552) hP tb kn):=λa args A fs y us Q E hm pt hf dd P=>by
 have P:PG y (ifT (Nat.beq a 557) (ifT (Ww args [.loc 1]&&JY y.S (ZJ Jx 0)) (pushV y.S (.kset (symN (rIx bits).length))))) Q E:=by
  have e:(g.gd (lbN bits cs L2 L3 aT aR) u cx (K+552) hP tb kn).cx.ora=lbOra (rIx bits).length:=hc;rw[e]at P;exact P
 refine PG.ifT P λha P=>PG.ifT P λhb P9=>Jr hb λhb1 hb2=>?_;cases nq ha;have W:=WK.of y (L6:=dL6 L2) rfl ho hb2;cases Zq hb1;refine dd.one λw1 ew d1=>?_;subst ew;refine d1.loc_ λad had e=>?_;subst e;have Up:=u_all om.w.params D.ok;have l1:(dL6 L2)[1]?=some ad:=(show (dL6 L2)[1]?=some (Js L2 3)from rfl).trans ((Jp W.pre (show (dL6 L2)[1]?=some (Js L2 3)from rfl)).symm.trans had);refine cn_ok (K:=K+270) (its:=(Ze ps).map (itD bits cs L2 L3)) pt hf W.ob (W.gin pt hf) l1 y.base W.nw D.ok (D.tri U) Up (by rw[Jb];rfl) (λd hd=>by
  obtain ⟨i,hi,rfl⟩:=mm_ hd;exact D.it U (Up.lt i hi)) rfl rfl λs' a af D' hn hf C=>?_
 obtain ⟨ys,nm0,L0,⟨ds,ho,en⟩,nd,hy⟩:=C.keys;have hy2:∀z,z∈ys↔∃k∈symN (rIx bits).length,(lbN bits cs L2 L3 aT aR).f k=z:=λz=>((hy z).trans (cond_iff D Up)).trans key_mem.symm;refine W.new P9 D' af hn hf ho ⟨C.ns,ys,ds,rfl,Ens.re (λp hp w d=>?_) en,nd,?_,hy2⟩
 ·obtain ⟨z,_,rfl⟩:=mm_ hp
  exact d
 ·have:ys ⊆ (symN (rIx bits).length).map (lbN bits cs L2 L3 aT aR).f:=λz hz=>((hy2 z).mp hz).elim λk q=>q.2▸ϕ q.1
  have:=List.Nodup.length_le_of_subset nd this;rwa [Ω]at this
theorem ch_1(P:Params):((Wj 1).all λps=>chB P ps)=true:=by rfl'
theorem ch_2(P:Params):((Wj 2).all λps=>chB P ps)=true:=by rfl'
theorem ch_3(P:Params):((Wj 3).all λps=>chB P ps)=true:=by rfl'
theorem ch_4(P:Params):((Wj 4).all λps=>chB P ps)=true:=by rfl'
theorem ch_all(P:Params)(ok:Wu ps):chB P ps=true:=by
 have hm:=shapes_in ps.length ps rfl ok.lt;have h1:=ok.l1;have h4:=ok.l4;have hl:ps.length=1\/ps.length=2\/ps.length=3\/ps.length=4:=by omega
 rcases hl with h|h|h|h<;>rw[h]at hm
 ·exact al_ (ch_1 P) _ hm
 ·exact al_ (ch_2 P) _ hm
 ·exact al_ (ch_3 P) _ hm
 ·exact al_ (ch_4 P) _ hm
variable {K0:Nat}{L1:List Addr}{nmA:Nt}{EF:SP Value}{S1:St}
structure LwM(om:Om)(A':Around)(out:List Env)(env:Env)(s s1 s3:Shared)(aT:Addr)(L2 L3:List Addr)(K:Nat):Prop where
 W:LwP A' env out (K+672)
 p:Pt om A' s3 (K+552)
 af:Aft [] out s s3
 nT:s.heap.get? aT=none
 fT:Fre (env::out) [aT]
 nE:s.heap.get? env.locals=none
 fE:Fre out [env.locals]
 he:env.frame=some env.locals
 hbE:om.hb.get? env.locals=none
 fr:ZA [env.locals] (lwF om.w.params 0) env
 ns:∃o nm L,s3.heap.get? env.locals=some o/\L[1]?=some aT/\OkP om nm L env.locals (.ns [("tap",.loc 1)]) o
 n2:∀b∈L2,b≠aT->s.heap.get? b=none
 n3:∀b∈L3,b≠aT->s.heap.get? b=none
theorem law_M(p0:Pt om A s K0)(W:LwP A' env out (K+672))(B1:Bk om nmA [] out s S1 L1 s1)(Fr:ZA L1 (lwF om.w.params 0) env)(hT:L1[1]?=some aT)(K1:LaK S1)(p1:Pt om A' s1 (K+552))(D:DtB om (env::out) s1 s3 aT aR f ps bits cs L2 L3 S3):LwM om A' out env s s1 s3 aT L2 L3 K:=by
 have he:env.frame=some env.locals:=(Fr.fr rfl).1;have l0:L1[0]?=some env.locals:=Fr.loc;have nE:=B1.new 0 _ (Nat.zero_le _) l0;have nT:=B1.new 1 _ (Nat.zero_le _) hT;have ne:aT≠env.locals:=λz=>by have:=Ju B1.nd hT (z▸l0);lia
 have ho:∀a∈[aT],s.heap.get? a=none:=λa ha=>(ms_ ha)▸nT;have n1:∀b,s1.heap.get? b=none->Fre (env::out) [b]->s.heap.get? b=none:=λb h hf=>by
  induction e:s.heap.get? b with
  |none=>rfl
  |some o=>exact no (h.symm.trans (B1.aft.keep b o Ξ (Wr he hf).2 e))
 have n2:∀b∈L2,b≠aT->s.heap.get? b=none:=λb hb hn=>n1 b (D.new b hb hn) (D.fr2 b hb);refine⟨W,p1.aft W.fr D.af λa ha=>p0.nw (ho a ha),Aft.under B1.aft D.af ho he nE,nT,fre_to he ne (B1.fre.one (Θ hT)),nE,B1.fre.one (Θ l0),he,B1.hb _ (Θ l0),Fr.re (l2:=0) rfl λx i e=>no e,?_,n2,λb hb hn=>?_⟩
 ·obtain ⟨es,g,hl⟩:=K1.ns
  refine B1.get g l0 λo ho p=>p.ns_ λm hs hm ok=>(D.af.frs env (.head _) _ m o he ho hm).elim λo' q=>⟨o',nmA,L1,q.1,hT,OkP.renN (es1:=es) ⟨hs,m,q.2,ok⟩ ⟨⟨_,hl,nofun,λw d=>d⟩,trivial⟩⟩
 ·refine(mi_ hb).elim λi hi=>?_
  by_cases q:3+bits.length<=i
  ·exact n1 b (D.new3 i b q hi).1 (D.fr3 b hb)
  ·refine n2 b ?_ hn
   have hl:i<(JX L2 (jsD ps.length)).length:=by
    unfold JX;rw[Ω];show i<((JW (2+ps.length)).reverse.map cA++[29+9*ps.length]).length+1+1;rw[ς,Ω,Zv,Jg,<-D.lb];lia
   have e:=Φ hl;cases (Jp D.pre e).symm.trans hi;exact WM D.lt (ο hl)
theorem law_B(p0:Pt om A s K0)(M:LwM om A' out env s s1 s3 aT L2 L3 K)(D:DtB om (env::out) s1 s3 aT aR f ps bits cs L2 L3 S3)
  (H:∀aN aF s5 ord fr rws,LwC om A' out env s aT aN aF f ps bits cs L2 L3 s3 s5 K ord fr rws->wpAny (Mdl om) A' (assign (lwS om.w.params 2).t env (.ref s5.heap.objs.size)) (λZ s'=>wpAny (Mdl om) A' (execs ((lwB om.w.params).drop 3) env) (QF Q) EF s') EF {s5 with heap:=s5.heap.push {cls:=.type "tuple",data:=.seq #[.ref aN,.ref aF]}}) :
  wpAny (Mdl om) A' (assign (lwS om.w.params 1).t env (.ref aR)) (λZ s'=>wpAny (Mdl om) A' (execs (lwR1 om.w.params) env) (QF Q) EF s') EF s3:=by
 have he:=M.he
 have n2:∀b∈L2,b≠env.locals:=λb hb=>(Wr he (D.fr2 b hb)).1
 have n3:∀b∈L3,b≠env.locals:=λb hb=>(Wr he (D.fr3 b hb)).1
 have sub:∀b∈dL6 L2,b∈L2:=λb hb=>WM (λj hj=>D.six_ok j (.tail _ hj)) hb
 have o7:(dL6 L2++[env.locals])[6]?=some env.locals:=rfl
 have hno:∀b,b∉dL7 L2->(b∈L2\/b∈L3)->b∉dL6 L2++[env.locals]:=λb h1 h2 hm=>(ma_ hm).elim (λh=>h1 (dL6_7 h)) λh=>h2.elim (n2 b) (n3 b) (ms_ h)
 have hfr:∀b,(b∈L2\/b∈L3)->Fre (env::out) [b]:=λb h=>h.elim (D.fr2 b) (D.fr3 b)
 have nwO:∀a∈dL6 L2++[env.locals],s.heap.get? a=none:=λa hm=>(ma_ hm).elim (λh=>M.n2 a (sub a h) λz=>absurd (mm_ h) λ⟨j,hj,e⟩=>by
  have:=Ju D.nd2 D.t0 ((z▸e)▸WA (D.six_ok j (.tail _ hj)));subst this;exact absurd hj (JS (by rfl'))) λh=>(ms_ h)▸M.nE
 have frs:FrsOk om s3 out:=λe hm=>M.p.fr.elim λo r=>by
  cases r.1.symm.trans M.W.fr;exact r.2 e (.tail _ hm)
 have g3:Gin om s3 (dL6 L2++[env.locals]) out:=⟨M.p.base,M.p.live,M.p.gens,M.p.dr,M.p.os,frs,List.nodup_append.mpr ⟨picks_nd D.nd2 (by decide) λj hj=>D.six_ok j (.tail _ hj),List.nodup_cons.mpr ⟨Ξ,ϑ⟩,λa ha b hb=>(ms_ hb)▸n2 a (sub a ha)⟩,λa ha=>(p0.nw (nwO a ha)).1,λe hm a hf hx=>(ma_ hx).elim (λh=>(Wr he (D.fr2 a (sub a h))).2 e hm a hf (.head _)) λh=>M.fE e hm a hf h⟩
 have U3:DtUp s3 L2 L3 g3.hF:=λb o h1 h2 e=>g3.stays b o (hno b h1 h2) (Wr he (hfr b h2)).2 e
 obtain ⟨oE,nmE,LE,hoE,hTE,pE⟩:=M.ns
 have ob:ObL om (lbN bits cs L2 L3 aT aR) s3 (dL6 L2++[env.locals]) (dL6 L2++[env.locals]) lbL:=((D.dat rfl rfl rfl rfl).mono (θ _ _)).app (ObL.cons hoE (OkP.renN pE ⟨⟨_,rfl,nofun,λw d=>d.loc_ λa ha e=>e.trans (Ja Value.ref (oi (ha.symm.trans hTE)))⟩,trivial⟩) ObL.nil)
 have kn:=lb_kn (u:=λZ=>false) D U3 (θ (dL6 L2) [env.locals])
 have Fr6:ZA (dL6 L2++[env.locals]) (lwF om.w.params 6) env:=M.fr.re o7 λx i e=>no e
 have hr:=Wl 30
 let B:Bd:=g3.bd (f:=lwF om.w.params 6) (nm:=lbN bits cs L2 L3 aT aR) (u:=λZ=>false) (cx:=lbCx om.w.params (rIx bits).length) M.W.fr M.W.hdl rfl (λh=>nb h) kn (K+552) rfl
 have m:Rm B 30:=⟨M.W.room.le (by show 2*30+60+(K+552)<=_;lia),lb_ora (K:=K) rfl D U3 (θ _ _)⟩
 let x0:Sit B:=g3.sit (u:=λZ=>false) (cx:=lbCx om.w.params (rIx bits).length) (Beg.of ob (stL lb_ok)) M.W.fr M.W.hdl rfl (λh=>nb h) kn (K+552) Fr6 rfl rfl ⟨_,(stL lb_ok).get 6⟩
 have ha:=lw_asg om.w.params
 have hs:=lw_star om.w.params
 refine hr.asg (x:=x0) m (v:=.op 5) (show Value.ref aR=Value.ref ((lbN bits cs L2 L3 aT aR).op 5)from rfl) (Jn.xN (ρ:=RF) (Q:=λZ Z=>True) (E:=EF) (WJ.post (Zy (al_ (lb_run om.w.params) _ (JD (rIx_len D))) λo S h=>(h:(λo (_:St)=>vsB o=true) o S)) λo S1 h x' q e=>?_) λy0 q0 P=>?_)
 ·induction o with
  |vs l=>exact⟨λw r=>r.el (λz=>nomatch z) λa' v z=>(nomatch z),λi z=>nomatch z⟩
  |_=>exact nb h
 ·refine wpAny_execs_cons (asgC_ok (Ja (λp=>p.2.2.1) ha) (Ja (λp=>p.2.2.2) ha) (Ja (λp=>p.2.1) hs) y0 (tupH_ok hr m (Ja (λp=>p.2.2.2.2) hs) (Ja (λp=>p.2.2.2.1) hs) P λy v w a l fv us q dv da dl hc=>?_))
  obtain ⟨e1,e2,e3,C⟩:=lbK_of hc;rw[e1]at dv;rw[e2]at da;rw[e3]at dl;refine dv.loc_ λaN hN ew=>dl.loc1 λaD r hD eu dr=>?_;rw[ew,eu,show fv=_ from da,show r=[]from dr];clear da dv dl dr e1 e2 e3 hc q;have B:=g3.end_ y.r;have Dt:=WK.of y.wt (L6:=dL6 L2) rfl (θ _ _) C.d;have l1:(dL6 L2)[1]?=some aD:=(show (dL6 L2)[1]?=some (Js L2 3)from rfl).trans ((Jp Dt.pre (show (dL6 L2)[1]?=some (Js L2 3)from rfl)).symm.trans hD);have Up:=u_all om.w.params D.ok;have py:=y.pt m rfl;have afy:Aft [] out s y.s:=M.af.next B.aft nwO;have n0:∀b,y.s.heap.get? b=none->Fre out [b]->s.heap.get? b=none:=λb h hf=>by
   induction e:s.heap.get? b with
   |none=>rfl
   |some o=>exact no (h.symm.trans (afy.keep b o Ξ hf e))
  have n0':∀b,s3.heap.get? b=none->Fre out [b]->s.heap.get? b=none:=λb h hf=>by
   induction e:s.heap.get? b with
   |none=>rfl
   |some o=>exact no (h.symm.trans (M.af.keep b o Ξ hf e))
  have tL:aT∈dL7 L2:=List.mem_map.mpr ⟨0,.head _,Jy D.t0⟩;have t6:aT∉dL6 L2:=picks_not D.nd2 (λj hj=>D.six_ok j (.tail _ hj)) D.t0 (JS (by rfl'));refine D.tap.el λtx ty tt1 tt2 tn tho tT=>?_;have fTo:=Wr he M.fT;have tO:aT∉dL6 L2++[env.locals]:=λhm=>(ma_ hm).elim t6 λh=>fTo.1 (ms_ h);have thy:=B.aft.keep aT _ tO fTo.2 tho;have l6y:y.L[6]?=some env.locals:=Jp B.pre o7;have ne7:aN≠env.locals:=λz=>by have:=Ju B.nd hN (l6y.trans (Ja some z.symm));lia
  have fNo:Fre out [aN]:=B.fre.one (Θ hN);have n6:aN∉dL6 L2:=λh=>(mi_ h).elim λj hj=>by
   have:=Ju B.nd hN (Jp Dt.pre hj);have:=(lt_ hj);have:(dL6 L2).length=6:=rfl;lia
  have nN3:=B.new 7 aN (Ϙ 7) hN;refine sn_ok (K:=K+129) (h0:=g3.hF) (it:=itD bits cs L2 L3) py M.W.fr Dt.ob (Dt.gin py M.W.fr) l1 y.wt.base Dt.nw ⟨D.ok,D.nf,D.nd2,rfl,rfl,Up,λi hi=>chB_of (ch_all _ D.ok) hi,λi hi=>rfl,λi hi p e=>Jo (y:=JE i (rIx bits)) (k:=λr=>some (nrf cs i,Js L3 (bits.length+8+7*r))) e λr hr e2=>(oi e2)▸D.cs_in hi,rfl,D.tri U3,λi hi=>D.it U3 hi⟩ λaNs aIt aF aN' aI s5 ord fr rws nF R=>H aN aF s5 ord fr rws ?_;have fFo:=Wr he R.fre;obtain ⟨es6,g6,k1,k2,k3⟩:=C.ns;refine {
   p:=py.aft M.W.fr R.af λa ha=>p0.nw (nwO a (μ _ ha))
   af:=afy.under R.af (λa ha=>nwO a (μ _ ha)) he M.nE
   nT:=M.nT,fT:=M.fT,nE:=M.nE,fE:=M.fE,he:=he
   ns:=B.get g6 l6y λo ho p=>p.ns_ λmm hs hm ok=>(R.af.frs env (.head _) _ mm o he ho hm).elim λo' q=>⟨o',lbN bits cs L2 L3 aT aR,q.1,OkP.renN (es1:=es6) ⟨hs,mm,q.2,ok⟩ ⟨⟨_,k2,nofun,λw d=>d⟩,⟨_,k3,nofun,λw d=>d⟩,⟨_,k1,nofun,λw d=>d⟩,trivial⟩,rfl,rfl,rfl⟩
   tap:=⟨tx,ty,tt1,tt2,tn,R.af.keep aT _ t6 M.fT thy,tT⟩
   up:=λb o h1 h2 e=>⟨R.af.keep b o (λh=>h1 (dL6_7 h)) (hfr b h2) (B.aft.keep b o (hno b h1 h2) (Wr he (hfr b h2)).2 e),h2.elim (λh=>M.n2 b h λz=>h1 (z▸tL)) λh=>M.n3 b h λz=>h1 (z▸tL),λz=>h1 (z▸tL),hfr b h2⟩
   nsN:=B.get C.ks hN λo ho p=>p.1
   dN:=B.get C.ks hN λo ho p=>p.2.elim λys p=>p.elim λds p=>⟨ys,ds,_,_,R.af.keep aN _ n6 (fre_to he ne7 fNo) (p.1▸ho),p.2.1,p.2.2.1,λz=>(p.2.2.2.2 z).trans key_mem⟩
   nN:=n0' aN nN3 fNo
   tN:=λz=>no ((z▸nN3).symm.trans tho)
   fN:=fre_to he ne7 fNo
   o:=R.o,has:=R.has,rw:=R.rw,rs:=R.rs,nsF:=R.ns
   dF:=R.d.elim λL d=>⟨_,L,d,λx hx=>snOp_c hx⟩
   nF:=n0 aF nF fFo.2
   tF:=λz=>no ((z▸nF).symm.trans thy)
   fF:=R.fre}
end Internal
namespace Internal
variable {om:Om}{s s1 s3:Shared}{i k x:Nat}{out:List Env}{env:Env}{L2 L3:List Addr}{S3:St}{aT aR a:Addr}{ps:List Nat}{f:Nat->Str}{bits:List Bool}{cs qs:List Str}{ord:List Nat}{fr:Nat->Addr}{rws:Nat->Rws}{y:Str}{P:List Str->Bool}
def lwX(om:Om)(f:Nat->Str)(L2:List Addr)(ps:List Nat)(it:Nat->ItD)(s:Shared):SnP:=⟨om,[],f,⟨λZ=>"",λZ=>0⟩,L2,[],ps,it,0,0,0,0,0,s⟩
def RowsP(f:Nat->Str)(ps:List Nat)(bits:List Bool)(cs:List Str)(y:Str)(P:List Str->Bool):Prop:=∃p∈rIx bits,nrf cs p.1=y/\P (pathN f ps p.1)=true
theorem any_rows:(((JK f ps bits cs L2 L3).filter λr=>decide (r.called=y)).any λr=>P r.ys)=true↔RowsP f ps bits cs y P:=List.any_eq_true.trans ⟨λ⟨r,hr,h⟩=>by
 obtain ⟨h1,h2⟩:=List.mem_filter.mp hr;obtain ⟨p,hp,rfl⟩:=mm_ h1;exact⟨p,hp,κ h2,h⟩,λ⟨p,hp,e,h⟩=>⟨⟨nrf cs p.1,pathN f ps p.1,Js L2 (arA p.1),Js L3 (bits.length+10+7*p.2)⟩,List.mem_filter.mpr ⟨ϕ (f:=λp:Nat×Nat=>(⟨nrf cs p.1,pathN f ps p.1,Js L2 (arA p.1),Js L3 (bits.length+10+7*p.2)⟩:Row)) hp,decide_eq_true e⟩,h⟩⟩
variable (D:DtB om (env::out) s1 s3 aT aR f ps bits cs L2 L3 S3)(U:UB om.w.params ps)
include D U
theorem any_shared(hx:x<3):((rowsX (lwX om f L2 ps (itD bits cs L2 L3) s) x (2+ps.length)).any P)=true↔JU (kyN x) (itsD f bits.length)=true/\RowsP f ps bits cs (kyN x) P:=by
 have en:JU (kyN x) ((Ze ps).map (nmS f))=JU (kyN x) (itsD f bits.length):=anyS_iff (by
  rw[itsD_mem,List.mem_map];exact⟨λ⟨i,hi,e⟩=>⟨i,D.lb.symm▸U.lt i hi,e⟩,λ⟨i,hi,e⟩=>⟨i,U.all i (D.lb▸hi),e⟩⟩)
 have et:rowsX (lwX om f L2 ps (itD bits cs L2 L3) s) x (2+ps.length)=(Ze ps).filterMap (rowX (lwX om f L2 ps (itD bits cs L2 L3) s) x):=by
  show ((Ze ps).take (2+ps.length)).filterMap _=_;rw[List.take_of_length_le (Nat.le_of_eq U.len)]
 rw[et];refine List.any_eq_true.trans ⟨λ⟨r,hr,h⟩=>?_,λ⟨hn,p,hp,e,h⟩=>?_⟩
 ·obtain ⟨i,hi,e⟩:=List.mem_filterMap.mp hr
  refine Jo (y:=(itD bits cs L2 L3 i).c) (k:=λp=>ifO (sEq p.1 (kyN x)&&JU (kyN x) ((Ze ps).map (nmS f))) (some (pathN f ps i))) e λp hp e=>Jt e λhb e=>Jr hb λh1 h2=>?_;cases e;refine Jo (y:=JE i (rIx bits)) (k:=λr=>some (nrf cs i,Js L3 (bits.length+8+7*r))) hp λr hr e2=>⟨en▸h2,(i,r),We hr,?_,h⟩;cases e2;exact Jw h1
 ·obtain ⟨h1,h2⟩:=D.c.r p hp
  refine⟨pathN f ps p.1,List.mem_filterMap.mpr ⟨p.1,U.all _ (D.lb▸h1),?_⟩,h⟩;show obO (obO (JE p.1 (rIx bits)) λr=>some (nrf cs p.1,Js L3 (bits.length+8+7*r))) (λq=>ifO (sEq q.1 (kyN x)&&JU (kyN x) ((Ze ps).map (nmS f))) (some (pathN f ps p.1)))=_;rw[h2,en];show ifO (sEq (nrf cs p.1) (kyN x)&&JU (kyN x) (itsD f bits.length)) (some (pathN f ps p.1))=_;rw[e,Wk,hn];rfl
theorem law_plain(hx:x<3)(has:x∈ord↔rws x≠[])(rs:(rws x).map (·.2)=rowsX (lwX om f L2 ps (itD bits cs L2 L3) s) x (2+ps.length)):∃(b1:Bool) (r:Option (Addr×Rws)),(b1=true↔∃p∈rIx bits,nrf cs p.1=kyN x)/\((r=none/\x∉ord)\/(r=some (fr x,rws x)/\x∈ord))/\(b1=false->r=none)/\∀qs:List Str,ncV b1 r qs=dueB (itsD f bits.length) (JK f ps bits cs L2 L3) (kyN x) qs:=by
 have aS:∀P:List Str->Bool,((rws x).any λq=>P q.2)=true↔JU (kyN x) (itsD f bits.length)=true/\RowsP f ps bits cs (kyN x) P:=λP=>by
  rw[<-any_shared (s:=s) D U hx,<-rs,List.any_map];exact Iff.rfl
 have ne:x∈ord↔JU (kyN x) (itsD f bits.length)=true/\∃p∈rIx bits,nrf cs p.1=kyN x:=has.trans ⟨λh=>by
  obtain ⟨q,hq⟩:=List.exists_mem_of_ne_nil _ h;have z:=(aS λZ=>true).mp (List.any_eq_true.mpr ⟨q,hq,rfl⟩);exact⟨z.1,z.2.imp λp g=>⟨g.1,g.2.1⟩⟩,λ⟨h1,p,hp,e⟩ z=>by
  have:=(aS λZ=>true).mpr ⟨h1,p,hp,e,rfl⟩;rw[z]at this;exact nb this⟩
 have dn:∀qs:List Str,dueB (itsD f bits.length) (JK f ps bits cs L2 L3) (kyN x) qs=dueL (itsD f bits.length) ((JK f ps bits cs L2 L3).filter λr=>decide (r.called=kyN x)) (kyN x) qs:=λZ=>rfl;by_cases hc:∃p∈rIx bits,nrf cs p.1=kyN x
 ·have hm:∃r rest,((JK f ps bits cs L2 L3).filter λr=>decide (r.called=kyN x))=r::rest:=by
   have:=(any_rows (f:=f) (ps:=ps) (L2:=L2) (L3:=L3) (P:=λZ=>true)).mpr (hc.imp λp g=>⟨g.1,g.2,rfl⟩);induction e:(JK f ps bits cs L2 L3).filter λr=>decide (r.called=kyN x)using List.casesOn with
   |nil=>rw[e]at this;exact nb this
   |cons r rest=>exact⟨r,rest,rfl⟩
  have due:∀qs:List Str,dueB (itsD f bits.length) (JK f ps bits cs L2 L3) (kyN x) qs=(Bool.rec true (((JK f ps bits cs L2 L3).filter λr=>decide (r.called=kyN x)).any λr=>JF qs r.ys) (JU (kyN x) (itsD f bits.length)):Bool):=λqs=>by
   rw[dn];obtain ⟨r,rest,e⟩:=hm;rw[e];rfl
  induction hn:JU (kyN x) (itsD f bits.length)with
  |false=>
   rw[hn]at due ne;exact⟨true,none,⟨λZ=>hc,λZ=>rfl⟩,.inl ⟨rfl,λh=>nb (ne.mp h).1⟩,λh=>nb h.symm,λqs=>(due qs).symm⟩
  |true=>
   rw[hn]at due ne aS;have ho:=ne.mpr ⟨rfl,hc⟩;refine⟨true,some (fr x,rws x),⟨λZ=>hc,λZ=>rfl⟩,.inr ⟨rfl,ho⟩,λh=>nb h.symm,λqs=>?_⟩;rw[due];show (List.rec true (λZ Z Z=>(rws x).any λq=>JF qs q.2) (rws x):Bool)=((JK f ps bits cs L2 L3).filter λr=>decide (r.called=kyN x)).any λr=>JF qs r.ys;have e:(List.rec true (λZ Z Z=>(rws x).any λq=>JF qs q.2) (rws x):Bool)=(rws x).any λq=>JF qs q.2:=by
    induction e:rws x using c_ with
    |nil=>exact absurd e (has.mp ho)
    |cons _ _=>rfl
   rw[e];exact Bool.eq_iff_iff.mpr ((aS (JF qs)).trans (Iff.trans ⟨λh=>h.2,λh=>⟨rfl,h⟩⟩ (any_rows (P:=JF qs)).symm))
 ·refine⟨false,none,⟨λh=>nb h,λh=>absurd h hc⟩,.inl ⟨rfl,λh=>hc (ne.mp h).2⟩,λZ=>rfl,λqs=>?_⟩
  rw[dn];induction e:(JK f ps bits cs L2 L3).filter λr=>decide (r.called=kyN x)using List.casesOn with
  |nil=>rfl
  |cons r rest=>
   have hr:r∈(JK f ps bits cs L2 L3).filter λr=>decide (r.called=kyN x):=e▸List.Mem.head _;obtain ⟨h1,h2⟩:=List.mem_filter.mp hr;obtain ⟨p,hp,rfl⟩:=mm_ h1;exact absurd ⟨p,hp,κ h2⟩ hc
end Internal
namespace Internal
def tapN(S:St):Option Nat:=obO (gv vTap S 3) λds=>some (List.length ds)
def isKn(S:St)(a:AV):Bool:=Option.rec false (λl=>Ww l [.op 0,.op 1]) (obO (Zh a) λj=>gv vTup S j)
def tabsS(S:St):Option (Nat×Nat):=obO (codeO S 0 q0 420 39) λi=>obO (codeO S 1 q1 277 36) λk=>ifO (JM (Nat.beq i k)) (some (i,k))
def isTab0(S:St)(i:Nat):Bool:=Option.rec false (λt=>Option.rec true (λZ=>false) t) (gv vTab S i)
def sipT(S:St)(n m:Nat):Option St:=ifO (Nat.ble m n) (S.set 3 (.tap (Za (n-m))))
def newT(S:St):Option St:=ifO (isTab0 S 0&&isTab0 S 1) (obO (S.push (.code q0)) λS1=>obO (S1.push (.code q1)) λS2=>obO (S2.set 0 (.tab (some (420,39,S.n)))) λS3=>S3.set 1 (.tab (some (277,36,S.n+1))))
def yesR(o:Option St):R:=ob o λS=>.ok (.v (.bool true)) S
def lcOra(a:Nat)(args:List AV)(S:St):R:=ob (tapN S) λn=>Bool.rec (ifT (Nat.beq a 840) (two2 args λt k=>ifT (eqV t (.loc 3)&&isKn S k) (ob (tabsS S) λZ=>yesR (sipT S n 3)))) (List.rec .no (λt r Z=>List.rec .no (λk r Z=>ifT (eqV t (.loc 3)&&(isKn S k&&Ww r [.op 2,.op 3])) (Option.rec (yesR (obO (newT S) λS=>sipT S n 4)) (λZ=>yesR (sipT S n 4)) (tabsS S))) r) args) (Nat.beq a 833)
def lcT(r:Nat)(b:Nat):List (Nat×AO):=Nat.rec (motive:=λZ=>Nat->List (Nat×AO)) (λZ=>[]) (λZ ih b=>(10+b,.tup [.sym 0 (200+b),.op (20+b)])::ih (b+1)) r b
def lcKn(r:Nat)(o o2:List Nat):Kn:={sob:=λk=>JE k ((0,.dict (o.map λx=>(kyN x,.bool true)))::(3,.list (ZD 10 r))::lcT r 0),dk:=λks=>ifO (eqL ks (symN r)) (some (o2.map kyN))}
def lcCx(P:Params)(r:Nat)(o o2:List Nat):Cx:={cx0 P with sp:=[833,840],ora:=lcOra,kn:=lcKn r o o2}
def lcL:List AO:=[.tab none,.tab none,.ns [("items",.op 2),("found",.op 3),("tap",.loc 3)],.tap (Za 18)]
def lcR(P:Params)(r:Nat)(o o2:List Nat):R:=onV (pushV (JZ lcL) (.tup [.op 0,.op 1])) λv S=>xo selN (run (lcCx P r o o2) 30 (.asg (lwF P 2) (lwS P 2).t v) S) λZ S=>Wc (run (lcCx P r o o2) 30) (lwF P 2) ((lwB P).drop 3) S
def lcC(o:Out)(S:St):Bool:=JH (gv vTab S 0)&&(JH (gv vTab S 1)&&Out.rec (λZ=>false) (λZ=>false) (λZ=>false) false (λa=>Option.rec false (λb=>b) (ZN a)) (λZ=>false) o)
def lcP(P:Params)(o o2:List Nat)(r:Nat):Bool:=orB (JM (eqL (Wz o) (Wz o2))) (allL lcC (lcR P r o o2))
variable {k:Nat}{cx:Cx}{S:St}{c:R}{a:Addr}{v:AV}{w:Value}{t:Tok}{h:Heap}{ds:List Dw}
def clKn:Kn:={sob:=λk=>JE k [(4,.tup [.op 0,.op 1])]}
def oraC(cx:Cx)(a:Nat)(args:List AV)(S:St):R:=Bool.rec (oraT cx (λZ=>none) a args S) (oraSip args S) (Nat.beq a 802)
def cxC(P:Params):Cx:={P:=P,kn:=clKn,sp:=[571,535,802],ora:=oraC {cx0 P with kn:=clKn},lam:=true}
def clDs(k w:Nat)(r:List Dw):List Dw:=.c 11 k::.y 4 0::.c 4 w::r
def clSL(ds:List Dw):List AO:=tbAO true++[.tap ds]
def JA(P:Params)(k w:Nat)(r:List Dw):Option (Out×List (Option AO)):=sel [0,1,2,3,4] (ZF (run (cxC P) 120) false (fiP P 840) [.loc 4,.op 4] (JZ (clSL (clDs k w r))))
def JB(r:List Dw):Option (Out×List (Option AO)):=some (.v (.bool true),[some (.tab (some (420,39,2))),some (.tab (some (277,36,3))),some (.code q0),some (.code q1),some (.tap r)])
theorem cl_0_0(P:Params)(r:List Dw):JA P 0 0 r=JB r:=by rfl'
theorem cl_0_1(P:Params)(r:List Dw):JA P 0 1 r=JB r:=by rfl'
theorem cl_0_2(P:Params)(r:List Dw):JA P 0 2 r=JB r:=by rfl'
theorem cl_0_3(P:Params)(r:List Dw):JA P 0 3 r=JB r:=by rfl'
theorem cl_1_0(P:Params)(r:List Dw):JA P 1 0 r=JB r:=by rfl'
theorem cl_1_1(P:Params)(r:List Dw):JA P 1 1 r=JB r:=by rfl'
theorem cl_1_2(P:Params)(r:List Dw):JA P 1 2 r=JB r:=by rfl'
theorem cl_1_3(P:Params)(r:List Dw):JA P 1 3 r=JB r:=by rfl'
theorem cl_2_0(P:Params)(r:List Dw):JA P 2 0 r=JB r:=by rfl'
theorem cl_2_1(P:Params)(r:List Dw):JA P 2 1 r=JB r:=by rfl'
theorem cl_2_2(P:Params)(r:List Dw):JA P 2 2 r=JB r:=by rfl'
theorem cl_2_3(P:Params)(r:List Dw):JA P 2 3 r=JB r:=by rfl'
theorem cl_3_0(P:Params)(r:List Dw):JA P 3 0 r=JB r:=by rfl'
theorem cl_3_1(P:Params)(r:List Dw):JA P 3 1 r=JB r:=by rfl'
theorem cl_3_2(P:Params)(r:List Dw):JA P 3 2 r=JB r:=by rfl'
theorem cl_3_3(P:Params)(r:List Dw):JA P 3 3 r=JB r:=by rfl'
theorem cl_4_0(P:Params)(r:List Dw):JA P 4 0 r=JB r:=by rfl'
theorem cl_4_1(P:Params)(r:List Dw):JA P 4 1 r=JB r:=by rfl'
theorem cl_4_2(P:Params)(r:List Dw):JA P 4 2 r=JB r:=by rfl'
theorem cl_4_3(P:Params)(r:List Dw):JA P 4 3 r=JB r:=by rfl'
theorem cl_5_0(P:Params)(r:List Dw):JA P 5 0 r=JB r:=by rfl'
theorem cl_5_1(P:Params)(r:List Dw):JA P 5 1 r=JB r:=by rfl'
theorem cl_5_2(P:Params)(r:List Dw):JA P 5 2 r=JB r:=by rfl'
theorem cl_5_3(P:Params)(r:List Dw):JA P 5 3 r=JB r:=by rfl'
theorem cl_6_0(P:Params)(r:List Dw):JA P 6 0 r=JB r:=by rfl'
theorem cl_6_1(P:Params)(r:List Dw):JA P 6 1 r=JB r:=by rfl'
theorem cl_6_2(P:Params)(r:List Dw):JA P 6 2 r=JB r:=by rfl'
theorem cl_6_3(P:Params)(r:List Dw):JA P 6 3 r=JB r:=by rfl'
theorem cl_7_0(P:Params)(r:List Dw):JA P 7 0 r=JB r:=by rfl'
theorem cl_7_1(P:Params)(r:List Dw):JA P 7 1 r=JB r:=by rfl'
theorem cl_7_2(P:Params)(r:List Dw):JA P 7 2 r=JB r:=by rfl'
theorem cl_7_3(P:Params)(r:List Dw):JA P 7 3 r=JB r:=by rfl'
theorem cl_8_0(P:Params)(r:List Dw):JA P 8 0 r=JB r:=by rfl'
theorem cl_8_1(P:Params)(r:List Dw):JA P 8 1 r=JB r:=by rfl'
theorem cl_8_2(P:Params)(r:List Dw):JA P 8 2 r=JB r:=by rfl'
theorem cl_8_3(P:Params)(r:List Dw):JA P 8 3 r=JB r:=by rfl'
theorem cl_9_0(P:Params)(r:List Dw):JA P 9 0 r=JB r:=by rfl'
theorem cl_9_1(P:Params)(r:List Dw):JA P 9 1 r=JB r:=by rfl'
theorem cl_9_2(P:Params)(r:List Dw):JA P 9 2 r=JB r:=by rfl'
theorem cl_9_3(P:Params)(r:List Dw):JA P 9 3 r=JB r:=by rfl'
theorem cl_10_0(P:Params)(r:List Dw):JA P 10 0 r=JB r:=by rfl'
theorem cl_10_1(P:Params)(r:List Dw):JA P 10 1 r=JB r:=by rfl'
theorem cl_10_2(P:Params)(r:List Dw):JA P 10 2 r=JB r:=by rfl'
theorem cl_10_3(P:Params)(r:List Dw):JA P 10 3 r=JB r:=by rfl'
theorem cl_w0(P:Params)(r:List Dw):∀w,w<4->JA P 0 w r=JB r
 |0,_=>cl_0_0 P r
 |1,_=>cl_0_1 P r
 |2,_=>cl_0_2 P r
 |3,_=>cl_0_3 P r
theorem cl_w1(P:Params)(r:List Dw):∀w,w<4->JA P 1 w r=JB r
 |0,_=>cl_1_0 P r
 |1,_=>cl_1_1 P r
 |2,_=>cl_1_2 P r
 |3,_=>cl_1_3 P r
theorem cl_w2(P:Params)(r:List Dw):∀w,w<4->JA P 2 w r=JB r
 |0,_=>cl_2_0 P r
 |1,_=>cl_2_1 P r
 |2,_=>cl_2_2 P r
 |3,_=>cl_2_3 P r
theorem cl_w3(P:Params)(r:List Dw):∀w,w<4->JA P 3 w r=JB r
 |0,_=>cl_3_0 P r
 |1,_=>cl_3_1 P r
 |2,_=>cl_3_2 P r
 |3,_=>cl_3_3 P r
theorem cl_w4(P:Params)(r:List Dw):∀w,w<4->JA P 4 w r=JB r
 |0,_=>cl_4_0 P r
 |1,_=>cl_4_1 P r
 |2,_=>cl_4_2 P r
 |3,_=>cl_4_3 P r
theorem cl_w5(P:Params)(r:List Dw):∀w,w<4->JA P 5 w r=JB r
 |0,_=>cl_5_0 P r
 |1,_=>cl_5_1 P r
 |2,_=>cl_5_2 P r
 |3,_=>cl_5_3 P r
theorem cl_w6(P:Params)(r:List Dw):∀w,w<4->JA P 6 w r=JB r
 |0,_=>cl_6_0 P r
 |1,_=>cl_6_1 P r
 |2,_=>cl_6_2 P r
 |3,_=>cl_6_3 P r
theorem cl_w7(P:Params)(r:List Dw):∀w,w<4->JA P 7 w r=JB r
 |0,_=>cl_7_0 P r
 |1,_=>cl_7_1 P r
 |2,_=>cl_7_2 P r
 |3,_=>cl_7_3 P r
theorem cl_w8(P:Params)(r:List Dw):∀w,w<4->JA P 8 w r=JB r
 |0,_=>cl_8_0 P r
 |1,_=>cl_8_1 P r
 |2,_=>cl_8_2 P r
 |3,_=>cl_8_3 P r
theorem cl_w9(P:Params)(r:List Dw):∀w,w<4->JA P 9 w r=JB r
 |0,_=>cl_9_0 P r
 |1,_=>cl_9_1 P r
 |2,_=>cl_9_2 P r
 |3,_=>cl_9_3 P r
theorem cl_w10(P:Params)(r:List Dw):∀w,w<4->JA P 10 w r=JB r
 |0,_=>cl_10_0 P r
 |1,_=>cl_10_1 P r
 |2,_=>cl_10_2 P r
 |3,_=>cl_10_3 P r
theorem cl_all(P:Params)(r:List Dw):∀k,k<11->∀w,w<4->JA P k w r=JB r:=JC (P:=λk=>∀w,w<4->JA P k w r=JB r) (JC (JC (JC (JC (JC (JC (JC (JC (JC (JC WQ (cl_w0 P r)) (cl_w1 P r)) (cl_w2 P r)) (cl_w3 P r)) (cl_w4 P r)) (cl_w5 P r)) (cl_w6 P r)) (cl_w7 P r)) (cl_w8 P r)) (cl_w9 P r)) (cl_w10 P r)
variable {om:Om}{A:Around}{s:Shared}{K n N m:Nat}{out:List Env}{l:List Addr}{nm:Nt}{u:Nat->Bool}{Q E:SP Value}{b aN aS aT aK aI aF c0 c1:Addr}{o:Obj}{ao:AO}{aos:List AO}{t1 t2:Tok}{G:Gd}{fs:List (FrA×Env)}{its:List Str}{h0:Heap}{d0:Str}{rows:List Row}{x:Wt G fs}{fl:Bool}
theorem cl_fi(P:Params):fnP P 840=some (fiP P 840):=by rfl'
theorem cl_st(ds:List Dw):okS (clSL ds)=true:=by rfl'
def clN(d:Str)(aN aS aK:Addr):Nt:=⟨λZ=>d,λk=>Js [aN,aS,0,0,aK] k⟩
theorem cl_ora{y:Wt G fs}{us:List Value}{args:List AV}{r:Nat}(hres:∃t,G.om.mg "RESERVED"=some (.str resS t))(h0:G.nm.op 0=aN)(h1:G.nm.op 1=aS)(hx:∀y∈(["X","A","B"]:List Str),Nq G.om G.hF aN aS y false none)
  (p:Pt G.om A y.s (K+250)) (hfr:A.frames=some (Jv fs++G.out)) (d:Jq G.nm y.L args us)
  (P:PG y (Bool.rec (motive:=λZ=>R) (Bool.rec (motive:=λZ=>R) (ifT (Nat.beq r 535) (three args λr nm q=>ob (rdO y.S r) λZ=>ansA G.cx (λZ=>none) y.S nm q)) (resA args y.S) (Nat.beq r 571)) (oraSip args y.S) (Nat.beq r 802)) Q E):wpAny (Mdl G.om) A (call (.ref r) us) Q E y.s:=by
 induction h8:Nat.beq r 802 with
 |true=>rw[h8]at P;rw[nq h8];exact sip_ora (K:=K+150) P p hfr d
 |false=>rw[h8]at P;exact rd_ora hres h0 h1 hx (λks b hb Z=>no hb) p hfr d P
theorem cl_ok(hres:∃t,om.mg "RESERVED"=some (.str resS t))(p:Pt om A s (K+551))(hfr:A.frames=some out)(W:Lw om h0 aK aI aF aN aS its rows)(B0:WL h0 out s)(nw:∀a∈aT::tbL true c0 c1,h0.get? a=none)(T:TbOk om s out true c0 c1)(hT:aT∉tbL true c0 c1)(freT:Fre out [aT])(hbT:om.hb.get? aT=none)(tap:JP s.heap aT (N+3))
  (H:∀s4,Aft (aT::tbL true c0 c1) out s s4->JP s4.heap aT N->TabS s4.heap c0 c1->Q (.bool true) s4):wpAny (Mdl om) A (call (.ref 840) [.ref aT,.ref aK]) Q E s:=by
 refine tap.el λx y t1 t2 n ho T0=>T0.dc om.w.params (m:=11) (by decide) λk x1 y1 hk T1 D1=>T1.dy om.w.params (.inr (.inl rfl)) λd x2 y2 md T2 D2=>T2.dc om.w.params (m:=4) (by decide) λw x3 y3 hw T3 D3=>?_
 have nd:(tbL true c0 c1++[aT]).Nodup:=List.nodup_append.mpr ⟨T.nd,List.nodup_cons.mpr ⟨Ξ,ϑ⟩,λa ha b hb e=>hT ((ms_ hb)▸e▸ha)⟩
 have g:Gin om s (tbL true c0 c1++[aT]) out:=p.gin hfr nd (λa ha=>(ma_ ha).elim (T.hb a) λh=>(ms_ h)▸hbT) λe he a hf hm=>(ma_ hm).elim (λh=>T.fr a h e he a hf (.head _)) λh=>freT e he a hf h
 have nw4:∀a∈tbL true c0 c1++[aT],h0.get? a=none:=λa ha=>(ma_ ha).elim (λh=>nw a (.tail _ h)) λh=>nw a ((ms_ h)▸.head _)
 have hW4:Lw om g.hF aK aI aF aN aS its rows:=W.up λb o e=>g.kept B0 nw4 e
 have kn:Zp om g.hF (clN d aN aS aK) (λZ=>false) (tbL true c0 c1++[aT]) clKn:={kn0 with
  sob:=λk ao e=>by
   obtain ⟨n,hk⟩:=hW4.k;exact Zu.get (l:=[(4,.tup [.op 0,.op 1])]) (Zu.cons (a:=aK) rfl hk (λL Z=>OkP.tp ⟨_,_,rfl,rfl,_,_,rfl,rfl,rfl⟩) trivial) e}
 have d0:Jq (clN d aN aS aK) (tbL true c0 c1++[aT]) [.loc 4,.op 4] [.ref aT,.ref aK]:=⟨_,_,rfl,⟨aT,rfl,rfl⟩,_,_,rfl,rfl,rfl⟩
 have b4:Beg om (clN d aN aS aK) s (tbL true c0 c1++[aT]) (JZ (clSL (clDs k w (Za N)))):=Beg.of (aos:=clSL (clDs k w (Za N))) (tab_obl (fl:=true) (r:=[.tap (clDs k w (Za N))]) T.t (θ _ _) (ObL.cons ho (show OkP om (clN d aN aS aK) _ aT (.tap _) _ from ⟨x,y,t1,t2,n,rfl,T0.le (by show (Za N).length+3<=_;rw[ZS];lia),D1 _ _ (D2 _ _ _ rfl (D3 _ _ (Zm N _ _)))⟩) ObL.nil)) (stL (cl_st _))
 refine go (n:=120) (nm:=clN d aN aS aK) (u:=λZ=>false) (cx:=cxC om.w.params) p hfr g b4 rfl (λZ=>tbs_pre true c0 c1) kn 250 (by lia) (λa args A2 fs y us Q2 E2 hm pt hf2 dd P=>cl_ora (K:=0) (y:=y) hres rfl rfl hW4.nx pt hf2 dd P) (cl_fi _) d0 (sel_leaf (cl_all om.w.params (Za N) k hk w hw) λS1 hg=>⟨.bool true,rfl,λL1 s1 v B dv=>?_⟩)
 cases dv
 have e0:S1.get 0=some (.tab (some (420,39,2))):=gets hg (j:=0) rfl rfl
 have e1:S1.get 1=some (.tab (some (277,36,3))):=gets hg (j:=1) rfl rfl
 have e2:S1.get 2=some (.code q0):=gets hg (j:=2) rfl rfl
 have e3:S1.get 3=some (.code q1):=gets hg (j:=3) rfl rfl
 have e4:S1.get 4=some (.tap (Za N)):=gets hg (j:=4) rfl rfl
 obtain ⟨f0,f1,i0,i1,TS⟩:=B.tabs (Jp B.pre rfl) (Jp B.pre rfl) e0 e2 e1 e3 (by decide)
 have TS:=oi (i0.symm.trans (Jp B.pre rfl))▸oi (i1.symm.trans (Jp B.pre rfl))▸TS
 refine H s1 (B.aft.wide λa ha=>(ma_ ha).elim (λh=>.tail _ h) λh=>(ms_ h)▸.head _) ?_ TS
 exact B.get e4 (Jp B.pre rfl) λo ho p=>JP.ok ho p (ZS N)
variable {s4:Shared}{i j:Nat}{own' L':List Addr}{e0 e1 ad:Addr}{S':St}
theorem Wt.newOf(x:Wt G fs)(hn:x.s.heap.get? ad=none):New G x.L ad:=⟨λhL=>x.r.live hL λZ Z o Z Z e Z=>no (hn.symm.trans e),by
 induction e:G.hF.get? ad with
 |none=>rfl
 |some o=>exact no (hn.symm.trans (x.r.keep _ o e)),λp hp e=>(x.r.outs p hp).2.elim λo q=>no (hn.symm.trans (e▸q.1))⟩
structure LcE(x:Wt G fs)(L':List Addr)(S':St)(aT e0 e1:Addr)(i k N:Nat):Prop where
 g3:S'.get 3=some (.tap (Za N))
 g0:S'.get 0=some (.tab (some (420,39,i)))
 g1:S'.get 1=some (.tab (some (277,36,k)))
 gi:S'.get i=some (.code q0)
 gk:S'.get k=some (.code q1)
 oth:∀j,j≠3->j≠0->j≠1->j≠i->j≠k->S'.get j=x.S.get j
 l0:L'[0]?=some 538
 l1:L'[1]?=some 385
 l3:L'[3]?=some aT
 li:L'[i]?=some e0
 lk:L'[k]?=some e1
theorem LcE.obs(W:LcE x L' S' aT e0 e1 i k N)(T:JP s4.heap aT N)(tS:TabS s4.heap e0 e1)(hj:j=3\/j=0\/j=1\/j=i\/j=k):∃ao,S'.get j=some ao/\Obs G s4.heap L' j ao/\∀es,ao≠.ns es:=by
 rcases hj with rfl|rfl|rfl|rfl|rfl
 ·obtain ⟨a,b,t1,t2,n,ho,q⟩:=T
  exact⟨_,W.g3,⟨aT,_,W.l3,ho,a,b,t1,t2,n,rfl,(ZS N).symm▸q,Zm _ _ _⟩,nofun⟩
 ·exact⟨_,W.g0,⟨538,_,W.l0,tS.t0,e0,W.li,rfl⟩,nofun⟩
 ·exact⟨_,W.g1,⟨385,_,W.l1,tS.t1,e1,W.lk,rfl⟩,nofun⟩
 ·exact tS.d0.elim λo q=>⟨_,W.gi,⟨e0,o,W.li,q.1,q.2⟩,nofun⟩
 ·exact tS.d1.elim λo q=>⟨_,W.gk,⟨e1,o,W.lk,q.1,q.2⟩,nofun⟩
theorem LcE.fin(W:LcE x L' S' aT e0 e1 i k N)(P:PG x (.ok (.v (.bool true)) S') Q E)(hL:Ex2 G x.L L')(hn:L'.length=S'.n)(af:Aft own' (Jv fs++G.out) x.s s4)(hown:∀a∈own',a∈x.L)(hcov:∀j b,x.L[j]?=some b->b∈own'->j=3\/j=0\/j=1\/j=i\/j=k)(hx:∀j es,x.S.get j=some (.ns es)->¬(j=3\/j=0\/j=1\/j=i\/j=k))(T:JP s4.heap aT N)(tS:TabS s4.heap e0 e1)(all:∀j,x.S.n<=j->j<S'.n->j=i\/j=k):Q (.bool true) s4:=by
 have oth:∀{j},¬(j=3\/j=0\/j=1\/j=i\/j=k)->S'.get j=x.S.get j:=fun {j} h=>W.oth j (λz=>h (.inl z)) (λz=>h (.inr (.inl z))) (λz=>h (.inr (.inr (.inl z)))) (λz=>h (.inr (.inr (.inr (.inl z))))) λz=>h (.inr (.inr (.inr (.inr z))));have R:=x.after (S':=S') hown af hL hn (λj=>(Classical.em (j=3\/j=0\/j=1\/j=i\/j=k)).elim (λh=>.inr ((W.obs T tS h).imp λao q=>⟨q.1,q.2.1⟩)) λh=>.inl ⟨oth h,λb hb hm=>h (hcov j b hb hm)⟩) λj h1 h2=>(W.obs T tS (.inr (.inr (.inr (all j h1 h2))))).imp λao q=>q.1;exact(P (x.to R hL.pre λj es e=>⟨es,(oth (hx j es e)).trans e⟩) hL.pre rfl).1 (.bool true) _ rfl rfl
variable {r:Nat}{own:List Addr}{l:List AV}{y:Wt G fs}{js:List Nat}
def LwR(om:Om)(h:Heap)(aI aF aN aS:Addr)(its:List Str)(rows:List Row):Prop:=∀h' aK,(∀b o,h.get? b=some o->h'.get? b=some o)->(∃n,h'.get? aK=some ⟨.type "tuple",none,.seq #[.ref aN,.ref aS] n,#[]⟩)->Lw om h' aK aI aF aN aS its rows
structure Pl(y:Wt G fs)(js:List Nat):Prop where
 nd:js.Nodup
 at_:∀j∈js,∃ao,y.S.get j=some ao/\∀es,ao≠.ns es
theorem Pl.lt(p:Pl y js):∀j∈js,j<y.L.length:=λj hj=>(p.at_ j hj).elim λao q=>(y.r.objs j ao q.1).elim λa r=>r.elim λo r=>(lt_ r.1)
theorem Pl.sub(p:Pl y js):∀a∈JX y.L js,a∈y.L:=λa h=>WM p.lt h
theorem Pl.fre(p:Pl y js):Fre (Jv fs++G.out) (JX y.L js):=y.fre λa h=>(mm_ h).elim λj q=>(p.at_ j q.1).elim λao z=>⟨j,ao,q.2▸WA (p.lt j q.1),z.1,z.2⟩
theorem Pl.cov(p:Pl y js)(hj:y.L[j]?=some a)(h:a∈JX y.L js):j∈js:=(mm_ h).elim λi q=>Ju y.r.nd hj (q.2▸WA (p.lt i q.1))▸q.1
theorem lc_lw(R:LwR G.om G.hF aI aF aN aS its rows)(pt:Pt G.om A y.s k)(hf:A.frames=some (Jv fs++G.out))(p:Pl y js)(hK:y.L[j]?=some aK)(gK:y.S.get j=some (.tup [.op 0,.op 1]))(hj:j∉js)(n0:G.nm.op 0=aN)(n1:G.nm.op 1=aS):∃h0,Lw G.om h0 aK aI aF aN aS its rows/\WL h0 (Jv fs++G.out) y.s/\∀a∈JX y.L js,h0.get? a=none:=by
 have g':Gin G.om y.s (JX y.L js) (Jv fs++G.out):=pt.gin hf (picks_nd y.r.nd p.nd p.lt) (λa h=>y.hb (p.sub a h)) p.fre;refine⟨g'.hF,R _ aK (λb o e=>g'.kept y.base (λa h=>y.r.new a (p.sub a h)) e) ?_,⟨λb o e=>(g'.kep e).2.2,λb o e=>(g'.kep e).2.1⟩,λa h=>ZL (μ _ h)⟩;refine(y.r.objs j _ gK).elim λa r=>r.elim λo r=>r.2.2.tup_ λxs n eo dd=>dd.two λw1 w2 ew d1 d2=>⟨n,?_⟩;cases r.1.symm.trans hK;cases d1;cases d2;rw[n0,n1]at ew;have ex:xs=#[.ref aN,.ref aS]:=Array.toList_inj.mp ew;subst ex;exact g'.stays a _ (λh=>hj (p.cov hK h)) (y.fre λb hb=>⟨j,_,(ms_ hb)▸hK,gK,nofun⟩) (eo▸r.2.1)
theorem tabs_true(l0:y.L[0]?=some 538)(l1:y.L[1]?=some 385)(g0:y.S.get 0=some (.tab (some (420,39,i))))(gi:y.S.get i=some (.code q0))(g1:y.S.get 1=some (.tab (some (277,36,k))))(gk:y.S.get k=some (.code q1))(hn:i≠k):∃c0 c1,y.L[i]?=some c0/\y.L[k]?=some c1/\TabS y.s.heap c0 c1:=by
 obtain ⟨a0,o0,h0,q0,p0⟩:=y.r.objs 0 _ g0;obtain ⟨a1,o1,h1,q1,p1⟩:=y.r.objs 1 _ g1;obtain ⟨a2,o2,h2,q2,p2⟩:=y.r.objs i _ gi;obtain ⟨a3,o3,h3,q3,p3⟩:=y.r.objs k _ gk;cases l0.symm.trans h0;cases l1.symm.trans h1;obtain ⟨c0,r0,e0⟩:=p0;obtain ⟨c1,r1,e1⟩:=p1;cases h2.symm.trans r0;cases h3.symm.trans r1;exact⟨a2,a3,h2,h3,e0▸q0,e1▸q1,⟨o2,q2,p2⟩,⟨o3,q3,p3⟩,λe=>hn (Ju y.r.nd h2 (e▸h3))⟩
theorem isTab0_of(h:isTab0 S i=true):S.get i=some (.tab none):=by
 unfold isTab0 at h;induction e:gv vTab S i with
 |none=>rw[e]at h;exact nb h
 |some t=>
  rw[e]at h;induction t with
  |some _=>exact nb h
  |none=>exact Jz e λao g v=>by rw[g];revert v;induction ao<;>first|exact no|exactλv=>Ja (λz=>some (AO.tab z)) (oi v)
structure TabY(y:Wt G fs)(i k:Nat):Prop where
 g0:y.S.get 0=some (.tab (some (420,39,i)))
 gi:y.S.get i=some (.code q0)
 g1:y.S.get 1=some (.tab (some (277,36,k)))
 gk:y.S.get k=some (.code q1)
 ne:i≠k
theorem tabsS_of{p:Nat×Nat}(h:tabsS y.S=some p):TabY y p.1 p.2:=Jo h λi hi h=>Jo h λk hk h=>Jt h λhb h=>by
 cases h;have q0:=WV hi;have q1:=WV hk;exact⟨q0.1,q0.2,q1.1,q1.2,ε (JL hb)⟩
theorem TabY.pl(T:TabY y i k){ds:List Dw}(g3:y.S.get 3=some (.tap ds)):Pl y [3,0,1,i,k]:=by
 have ne:∀{a b:Nat} {p q:AO},y.S.get a=some p->y.S.get b=some q->p≠q->a≠b:=λh1 h2 h z=>h (oi (h1.symm.trans (z▸h2)));have h3i:=ne g3 T.gi nofun;have h3k:=ne g3 T.gk nofun;have h0i:=ne T.g0 T.gi nofun;have h0k:=ne T.g0 T.gk nofun;have h1i:=ne T.g1 T.gi nofun;have h1k:=ne T.g1 T.gk nofun;have hik:=T.ne;refine⟨?_,λj hj=>?_⟩
 ·exact List.nodup_cons.mpr ⟨λh=>(mc_ h).elim (by decide) (not3 (by decide) h3i h3k),List.nodup_cons.mpr ⟨not3 (by decide) h0i h0k,nodup3 h1i h1k hik⟩⟩
 ·rcases mc_ hj with rfl|hj
  ·exact⟨_,g3,nofun⟩
  rcases mc_ hj with rfl|hj
  ·exact⟨_,T.g0,nofun⟩
  rcases mc_ hj with rfl|hj
  ·exact⟨_,T.g1,nofun⟩
  rcases mc_ hj with rfl|hj
  ·exact⟨_,T.gi,nofun⟩
  rw[ms_ hj];exact⟨_,T.gk,nofun⟩
theorem tapN_of(h:tapN S=some n):∃ds,S.get 3=some (.tap ds)/\ds.length=n:=Jo h λds hd h=>by
 cases h;exact Jz hd λao g v=>⟨ds,by rw[g];revert v;induction ao<;>first|exact no|exactλv=>Ja (λz=>some (AO.tap z)) (oi v),rfl⟩
theorem isKn_of(h:isKn S v=true):∃j,v=.loc j/\S.get j=some (.tup [.op 0,.op 1]):=by
 unfold isKn at h;induction e:obO (Zh v) λj=>gv vTup S j with
 |none=>rw[e]at h;exact nb h
 |some l=>
  rw[e]at h;exact Jo e λj hj e=>Jz e λao g vv=>⟨j,JQ hj,by rw[g,<-Zq h];revert vv;induction ao<;>first|exact no|exactλvv=>Ja (λz=>some (AO.tup z)) (oi vv)⟩
theorem tap_of{ds:List Dw}(g3:y.S.get 3=some (.tap ds))(l3:y.L[3]?=some aT):JP y.s.heap aT ds.length:=(y.r.objs 3 _ g3).elim λa r=>r.elim λo r=>by
 cases l3.symm.trans r.1;exact JP.ok r.2.1 r.2.2 rfl
theorem JP.le{N M:Nat}(T:JP h a N)(hl:M<=N):JP h a M:=T.el λx y t1 t2 n e q=>⟨x,y,t1,t2,n,e,q.le hl⟩
variable {aE:Addr}{S1:St}{args:List AV}{us:List Value}{C:Prop}
theorem js5{i k:Nat}(h:j∈[3,0,1,i,k]):j=3\/j=0\/j=1\/j=i\/j=k:=(mc_ h).imp id λh=>(mc_ h).imp id λh=>(mc_ h).imp id λh=>(mc_ h).imp id ms_
structure LcY(y:Wt G fs)(aT aN aS aI aF:Addr)(its:List Str)(rows:List Row):Prop where
 lr:LwR G.om G.hF aI aF aN aS its rows
 l0:y.L[0]?=some 538
 l1:y.L[1]?=some 385
 l3:y.L[3]?=some aT
 n0:G.nm.op 0=aN
 n1:G.nm.op 1=aS
 n2:G.nm.op 2=aI
 n3:G.nm.op 3=aF
theorem lc_true(Y:LcY y aT aN aS aI aF its rows)(T:TabY y i k)(g3:y.S.get 3=some (.tap ds))(pt:Pt G.om A y.s K)(hf:A.frames=some (Jv fs++G.out))(hK:y.L[j]?=some aK)(gK:y.S.get j=some (.tup [.op 0,.op 1]))(P:PG y (yesR (sipT y.S ds.length m)) Q E)
  (H:∀c0 c1 h0,Lw G.om h0 aK aI aF aN aS its rows->WL h0 (Jv fs++G.out) y.s->(∀a∈aT::tbL true c0 c1,h0.get? a=none)->TbOk G.om y.s (Jv fs++G.out) true c0 c1->aT∉tbL true c0 c1->Fre (Jv fs++G.out) [aT]->G.om.hb.get? aT=none->JP y.s.heap aT (ds.length-m+m)->(∀s4,Aft (aT::tbL true c0 c1) (Jv fs++G.out) y.s s4->JP s4.heap aT (ds.length-m)->TabS s4.heap c0 c1->Q (.bool true) s4)->C):C:=
 P.ob λS' e P9=>Jt e λhb e=>by
  have hm:=nl hb;obtain ⟨c0,c1,li,lk,tS⟩:=tabs_true Y.l0 Y.l1 T.g0 T.gi T.g1 T.gk T.ne;have p:=T.pl g3;have ej:j∉[3,0,1,i,k]:=λh=>by
   rcases js5 h with rfl|rfl|rfl|rfl|rfl
   ·exact nomatch g3.symm.trans gK
   ·exact nomatch T.g0.symm.trans gK
   ·exact nomatch T.g1.symm.trans gK
   ·exact nomatch T.gi.symm.trans gK
   ·exact nomatch T.gk.symm.trans gK
  obtain ⟨h0,W,B,nw⟩:=lc_lw Y.lr pt hf p hK gK ej Y.n0 Y.n1;have eo:JX y.L [3,0,1,i,k]=aT::tbL true c0 c1:=by
   show [Js y.L 3,Js y.L 0,Js y.L 1,Js y.L i,Js y.L k]=[aT,538,385,c0,c1];rw[Jy Y.l3,Jy Y.l0,Jy Y.l1,Jy li,Jy lk]
  have nd:=eo▸picks_nd y.r.nd p.nd p.lt;have sub:=eo▸p.sub;have fre:=eo▸p.fre;have G3:=St.set_get e;have n3:=List.nodup_cons.mp p.nd;have hi:i≠3:=λz=>n3.1 (z▸.tail _ (.tail _ (.head _)));have hk:k≠3:=λz=>n3.1 (z▸.tail _ (.tail _ (.tail _ (.head _))));refine H c0 c1 h0 W B (eo▸nw) ⟨tS,(List.nodup_cons.mp nd).2,λa ha=>y.hb (sub a (.tail _ ha)),λa ha=>fre.one (.tail _ ha)⟩ (List.nodup_cons.mp nd).1 (fre.one (.head _)) (y.hb (sub aT (.head _))) ((tap_of g3 Y.l3).le (by lia)) λs4 af t4 tS4=>?_;exact LcE.fin (L':=y.L) ⟨G3.self,(G3.other 0 (by decide)).trans T.g0,(G3.other 1 (by decide)).trans T.g1,(G3.other i hi).trans T.gi,(G3.other k hk).trans T.gk,λj h Z Z Z Z=>G3.other j h,Y.l0,Y.l1,Y.l3,li,lk⟩ P9 (.of (.inl rfl)) (y.r.len.trans G3.n.symm) af (λa ha=>sub a ha) (λj b hb hm=>js5 (p.cov hb (eo.symm▸hm))) (λj es e h=>(p.at_ j (by
    rcases h with rfl|rfl|rfl|rfl|rfl
    ·exact .head _
    ·exact .tail _ (.head _)
    ·exact .tail _ (.tail _ (.head _))
    ·exact .tail _ (.tail _ (.tail _ (.head _)))
    ·exact .tail _ (.tail _ (.tail _ (.tail _ (.head _)))))).elim λao q=>q.2 es (oi (q.1.symm.trans e))) t4 tS4 λj h1 h2=>absurd h2 (ϖ (G3.n▸h1))
theorem lc_false(Y:LcY y aT aN aS aI aF its rows)(g3:y.S.get 3=some (.tap ds))(pt:Pt G.om A y.s K)(hf:A.frames=some (Jv fs++G.out))(hK:y.L[j]?=some aK)(gK:y.S.get j=some (.tup [.op 0,.op 1]))(P:PG y (yesR (obO (newT y.S) λS=>sipT S ds.length m)) Q E)
  (H:∀h0,Lw G.om h0 aK aI aF aN aS its rows->WL h0 (Jv fs++G.out) y.s->(∀a∈aT::tbL false 0 0,h0.get? a=none)->TbOk G.om y.s (Jv fs++G.out) false 0 0->aT∉tbL false 0 0->Fre (Jv fs++G.out) [aT]->G.om.hb.get? aT=none->JP y.s.heap aT (ds.length-m+m)->(∀s4 e0 e1,Aft (aT::tbL false 0 0) (Jv fs++G.out) y.s s4->JP s4.heap aT (ds.length-m)->TabS s4.heap e0 e1->y.s.heap.get? e0=none->y.s.heap.get? e1=none->Q (.bool true) s4)->C):C:=
 P.ob λS' e P9=>Jo e λS4 h4 e=>Jt e λhb e=>Jt h4 λht h4=>Jo h4 λS1 e1' h4=>Jo h4 λS2 e2' h4=>Jo h4 λS3 e3' h4=>Jr ht λt0 t1=>by
  have hm:=nl hb;have g0:=isTab0_of t0;have g1:=isTab0_of t1;have p:Pl y [3,0,1]:=⟨by decide,λj hj=>by
   rcases mc_ hj with rfl|hj
   ·exact⟨_,g3,nofun⟩
   rcases mc_ hj with rfl|hj
   ·exact⟨_,g0,nofun⟩
   rw[ms_ hj];exact⟨_,g1,nofun⟩⟩
  have ej:j∉[3,0,1]:=λh=>by
   rcases mc_ h with rfl|h
   ·exact nomatch g3.symm.trans gK
   rcases mc_ h with rfl|h
   ·exact nomatch g0.symm.trans gK
   rw[ms_ h]at gK;exact nomatch g1.symm.trans gK
  obtain ⟨h0,W,B,nw⟩:=lc_lw Y.lr pt hf p hK gK ej Y.n0 Y.n1;have eo:JX y.L [3,0,1]=aT::tbL false 0 0:=by
   show [Js y.L 3,Js y.L 0,Js y.L 1]=[aT,538,385];rw[Jy Y.l3,Jy Y.l0,Jy Y.l1]
  have nd:=eo▸picks_nd y.r.nd p.nd p.lt;have sub:=eo▸p.sub;have fre:=eo▸p.fre;have tb:TabP y.s.heap false 0 0:=by
   obtain ⟨a0,o0,h0,q0,p0⟩:=y.r.objs 0 _ g0;obtain ⟨a1,o1,h1,q1,p1⟩:=y.r.objs 1 _ g1;cases Y.l0.symm.trans h0;cases Y.l1.symm.trans h1;exact⟨(show o0=_ from p0)▸q0,(show o1=_ from p1)▸q1⟩
  refine H h0 W B (eo▸nw) ⟨tb,(List.nodup_cons.mp nd).2,λa ha=>y.hb (sub a (.tail _ ha)),λa ha=>fre.one (.tail _ ha)⟩ (List.nodup_cons.mp nd).1 (fre.one (.head _)) (y.hb (sub aT (.head _))) ((tap_of g3 Y.l3).le (by lia)) λs4 e0 e1 af t4 tS4 n0 n1=>?_;have C1:=St.push_get e1';have C2:=St.push_get e2';have C3:=St.set_get e3';have C4:=St.set_get h4;have C5:=St.set_get e;have ln:=y.r.len;have l3:=(lt_ Y.l3);have m1:=C1.n;have m2:=C2.n;have m3:=C3.n;have m4:=C4.n;have m5:=C5.n;have N0:=y.newOf n0;have N1:=y.newOf n1;have pre:y.L<+:y.L++[e0,e1]:=θ _ _;have li:(y.L++[e0,e1])[y.S.n]?=some e0:=by rw[ϝ (by lia),ln,Nat.sub_self];rfl
  have lk:(y.L++[e0,e1])[y.S.n+1]?=some e1:=by rw[ϝ (by lia),ln,Ψ];rfl
  refine LcE.fin (i:=y.S.n) (k:=y.S.n+1) (L':=y.L++[e0,e1]) (N:=ds.length-m) ⟨C5.self,(C5.other 0 (by lia)).trans ((C4.other 0 (by lia)).trans C3.self),(C5.other 1 (by lia)).trans C4.self,(C5.other _ (by lia)).trans ((C4.other _ (by lia)).trans ((C3.other _ (by lia)).trans ((C2.other _ (by lia)).trans C1.self))),(C5.other _ (by lia)).trans ((C4.other _ (by lia)).trans ((C3.other _ (by lia)).trans (m1▸C2.self))),λj h3 h0 h1 hi hk=>(C5.other j h3).trans ((C4.other j h1).trans ((C3.other j h0).trans ((C2.other j (by lia)).trans (C1.other j hi)))),Jp pre Y.l0,Jp pre Y.l1,Jp pre Y.l3,li,lk⟩ P9 ⟨pre,λh=>List.nodup_append.mpr ⟨h,List.nodup_cons.mpr ⟨λz=>tS4.ne (ms_ z),List.nodup_cons.mpr ⟨Ξ,ϑ⟩⟩,λa ha b hb z=>?_⟩,λa ha=>(ma_ ha).imp id λha=>(mc_ ha).elim (λz=>by rw[z];exact N0) λha=>by rw[ms_ ha];exact N1⟩ ?_ af (λa ha=>sub a ha) (λj b hb hm=>(mc_ (p.cov hb (eo.symm▸hm))).imp id λh=>(mc_ h).imp id λh=>.inl (ms_ h)) (λj es e h=>?_) t4 tS4 λj h1 h2=>by lia
  ·subst z
   exact(mc_ hb).elim (λz=>N0.L (z▸ha)) λhb=>N1.L ((ms_ hb)▸ha)
  ·rw[ς]
   show y.L.length+2=_;lia
  ·rcases h with rfl|rfl|rfl|rfl|rfl
   ·exact nomatch g3.symm.trans e
   ·exact nomatch g0.symm.trans e
   ·exact nomatch g1.symm.trans e
   ·exact absurd (y.r.objs _ _ e).choose_spec.choose_spec.1 (λz=>by have:=(lt_ z);lia)
   ·exact absurd (y.r.objs _ _ e).choose_spec.choose_spec.1 (λz=>by have:=(lt_ z);lia)
theorem lc833_of{F:R}(P:PG y (List.rec (motive:=λZ=>R) .no (λt r Z=>List.rec (motive:=λZ=>R) .no (λk r Z=>ifT (eqV t (.loc 3)&&(isKn S k&&Ww r [.op 2,.op 3])) F) r) args) Q E)(k:∀v,args=[.loc 3,v,.op 2,.op 3]->isKn S v=true->PG y F Q E->C):C:=by
 induction args using c_ with
 |nil=>exact P.elim
 |cons t r=>induction r using c_ with
  |nil=>exact P.elim
  |cons v r=>exact PG.ifT P λhb P=>Jr hb λh1 hb=>Jr hb λh2 h3=>k v (by rw[eqV_of h1,Zq h3]) h2 P
theorem LcY.go4(Y:LcY y aT aN aS aI aF its rows)(hres:∃t,G.om.mg "RESERVED"=some (.str resS t))(hn:tapN y.S=some n)(gk:G.k=K+552)(pt:Pt G.om A y.s (K+552))(hf:A.frames=some (Jv fs++G.out))(hK:y.L[j]?=some aK)(gK:y.S.get j=some (.tup [.op 0,.op 1]))(P:PG y (Option.rec (motive:=λZ=>Internal.R) (yesR (obO (newT y.S) λS=>sipT S n 4)) (λZ=>yesR (sipT y.S n 4)) (tabsS y.S)) Q E):
  wpAny (Mdl G.om) A (call (.ref 833) [.ref aT,.ref aK,.ref aI,.ref aF]) Q E y.s:=by
 obtain ⟨ds,g3,rfl⟩:=tapN_of hn
 induction ht:tabsS y.S with
 |some p=>
  rw[ht]at P
  exact lc_true Y (tabsS_of ht) g3 pt hf hK gK P λc0 c1 h0 W B nw T hT fT hbT tap H=>nr_ok (K:=K) hres pt hf W B nw T hT fT hbT tap λs4 e0 e1 af t4 tS h1 Z=>H s4 af t4 ((h1 rfl).1▸(h1 rfl).2▸tS)
 |none=>
  rw[ht]at P
  exact lc_false Y g3 pt hf hK gK P λh0 W B nw T hT fT hbT tap H=>nr_ok (K:=K) hres pt hf W B nw T hT fT hbT tap λs4 e0 e1 af t4 tS Z h2=>H s4 e0 e1 af t4 tS (h2 rfl).1 (h2 rfl).2
theorem LcY.go3(Y:LcY y aT aN aS aI aF its rows)(hres:∃t,G.om.mg "RESERVED"=some (.str resS t))(hn:tapN y.S=some n)(gk:G.k=K+552)(pt:Pt G.om A y.s (K+552))(hf:A.frames=some (Jv fs++G.out))(hK:y.L[j]?=some aK)(gK:y.S.get j=some (.tup [.op 0,.op 1]))(P:PG y (ob (tabsS y.S) λZ=>yesR (sipT y.S n 3)) Q E):
  wpAny (Mdl G.om) A (call (.ref 840) [.ref aT,.ref aK]) Q E y.s:=by
 obtain ⟨ds,g3,rfl⟩:=tapN_of hn
 exact P.ob λp hp P=>lc_true Y (tabsS_of hp) g3 pt hf hK gK P λc0 c1 h0 W B nw T hT fT hbT tap H=>cl_ok (K:=K+1) hres pt hf W B nw T hT fT hbT tap H
theorem LcY.ora(Y:LcY y aT aN aS aI aF its rows)(hres:∃t,G.om.mg "RESERVED"=some (.str resS t))(gk:G.k=K+552)(pt:Pt G.om A y.s (K+552))(hf:A.frames=some (Jv fs++G.out))(dd:Jq G.nm y.L args us)(P:PG y (lcOra r args y.S) Q E):wpAny (Mdl G.om) A (call (.ref r) us) Q E y.s:=
 PG.ob P λn hn P=>by
  induction h1:Nat.beq r 833 with
  |false=>
   rw[h1]at P;refine PG.ifT P λh2 P=>P.two_ λt v ea P=>P.ifT λhb P=>Jr hb λhb1 hb2=>(isKn_of hb2).elim λj q=>?_;rw[ea,eqV_of hb1,q.1]at dd;refine dd.loc1 λa r' hT e dd=>dd.loc1 λaK r2 hK e2 dd=>?_;rw[e,e2,show r2=[]from dd,nq h2,oi (hT.symm.trans Y.l3)];exact Y.go3 hres hn gk pt hf hK q.2 P
  |true=>
   rw[h1]at P;refine lc833_of P λv ea hb P=>(isKn_of hb).elim λj q=>?_;rw[ea,q.1]at dd;refine dd.loc1 λa r' hT e dd=>dd.loc1 λaK r2 hK e2 dd=>?_;rw[e,e2,dd.two_ops,nq h1,oi (hT.symm.trans Y.l3),Y.n2,Y.n3];exact Y.go4 hres hn gk pt hf hK q.2 P
theorem lc_ora{g:Gin om s own out}{hP:cx.P=om.w.params}{tb:cx.lam=true->tbs<+:own}{kn:Zp om g.hF nm u own cx.kn}(hres:∃t,om.mg "RESERVED"=some (.str resS t))(hc:cx.ora=lcOra)(ho:[538,385,aE,aT]<+:own)(R:LwR om g.hF aI aF aN aS its rows)(n0:nm.op 0=aN)(n1:nm.op 1=aS)(n2:nm.op 2=aI)(n3:nm.op 3=aF):Wv (g.gd nm u cx (K+552) hP tb kn):=λa args A fs y us Q E hm pt hf dd P=>
 have pre:[538,385,aE,aT]<+:y.L:=τ ho y.r.own
 LcY.ora ⟨R,Jp pre rfl,Jp pre rfl,Jp pre rfl,n0,n1,n2,n3⟩ hres rfl pt hf dd (Eq.mp (Ja (λf=>PG y (f a args y.S) Q E) hc) P)
theorem lc_all(P:Params):((JW 7).all λr=>ZC.all λo=>ZC.all λo2=>lcP P o o2 r)=true:=by rfl'
variable {x:Nat}{L L2 L3:List Addr}{ps:List Nat}{f:Nat->Str}{bits:List Bool}{cs:List Str}{o o2:List Nat}{ys:List Str}{h':Heap}{rw:Rws}
theorem ys_ords(nd:ys.Nodup)(hm:∀y∈ys,y∈JG 3):∃o∈ZC,ys=o.map kyN:=by
 have hz:∀y∈ys,kyN ((idxY y).getD 0)=y/\(idxY y).getD 0<3:=λy hy=>by
  obtain ⟨x,hx,rfl⟩:=kyN_of (hm y hy);rw[kyN_idx hx];exact⟨rfl,hx⟩
 have e:(ys.map λy=>(idxY y).getD 0).map kyN=ys:=by
  rw[Jb];exact(List.map_congr_left λy hy=>(hz y hy).1).trans (List.map_id _)
 refine⟨ys.map λy=>(idxY y).getD 0,ords_of _ _ rfl ?_ λx hx=>?_,e.symm⟩
 ·exact List.Pairwise.map _ (λa b h=>h) (List.Pairwise.imp_of_mem (fun {a b} ha hb h z=>h (by rw[<-(hz a ha).1,<-(hz b hb).1];exact Ja kyN z)) nd)
 ·obtain ⟨y,hy,rfl⟩:=mm_ hx
  exact(hz y hy).2
theorem dedS_ok:∀{l ys:List Str},ys.Nodup->(dedS l ys).Nodup/\∀y,y∈dedS l ys↔y∈l\/y∈ys:=by
 intro v0_;induction v0_ with
 |nil=>
  intro ys nd;exact⟨nd,λy=>⟨.inr,λh=>h.elim (λh=>absurd h Ξ) id⟩⟩
 |cons z l ih=>
  intro ys nd;show (dedS l (Bool.rec (ys++[z]) ys (ys.any λy=>sEq y z))).Nodup/\∀y,y∈dedS l (Bool.rec (ys++[z]) ys (ys.any λy=>sEq y z))↔_;induction e:ys.any λy=>sEq y z with
  |true=>
   have hz:z∈ys:=(List.any_eq_true.mp e).elim λy h=>Jw h.2▸h.1;have ih:=ih nd;exact⟨ih.1,λy=>(ih.2 y).trans ⟨λh=>h.imp (.tail _) id,λh=>h.elim (λh=>(mc_ h).elim (λq=>.inr (q▸hz)) .inl) .inr⟩⟩
  |false=>
   have hz:z∉ys:=λh=>nb (e.symm.trans (List.any_eq_true.mpr ⟨z,h,Wk z⟩));have ih:=ih (ys:=ys++[z]) (List.nodup_append.mpr ⟨nd,List.nodup_cons.mpr ⟨Ξ,ϑ⟩,λa ha b hb q=>hz ((ms_ hb)▸q▸ha)⟩);exact⟨ih.1,λy=>(ih.2 y).trans ⟨λh=>h.elim (λh=>.inl (.tail _ h)) λh=>(ma_ h).elim .inr λh=>.inl ((ms_ h)▸.head _),λh=>h.elim (λh=>(mc_ h).elim (λq=>.inr (ξ _ (q▸.head _))) .inl) λh=>.inr (μ _ h)⟩⟩
theorem sortN_eq{o2:List Nat}(h:∀x,x∈o↔x∈o2):Wz o=Wz o2:=List.filter_congr λx Z=>by
 induction e:JN x o2 with
 |true=>exact Wn ((h x).mpr (JV e))
 |false=>exact bf_ λq=>nb (e.symm.trans (Wn ((h x).mp (JV q))))
theorem refs_no{x:Int}{t:Tok}{r:List Value}(h:us=rw.map λp=>Value.ref p.1):us≠Value.int x t::r:=λe=>by
 rw[h]at e;induction rw using c_ with
 |nil=>exact nomatch e
 |cons p q=>exact nomatch (List.cons.inj e).1
theorem strs_no{x:Int}{t:Tok}{r:List Value}(h:StrsAre us ys):us≠Value.int x t::r:=λe=>by
 rw[e]at h;cases h
theorem Rw.lift(R:Rw h a rw)(k:∀b xs n,h.get? b=some (listOf xs n)->(∀x t r,xs.toList≠Value.int x t::r)->h'.get? b=some (listOf xs n)):Rw h' a rw:=⟨R.lst.imp λxs r=>r.imp λn r=>⟨k a xs n r.1 (λZ Z Z=>refs_no r.2),r.2⟩,λq hq=>(R.row q hq).imp λxs r=>r.imp λn r=>⟨k q.1 xs n r.1 (λZ Z Z=>strs_no r.2),r.2⟩,R.ly,R.len⟩
def lcTb(bits:List Bool)(L3:List Addr)(aT aN aF:Addr):List (Nat×Addr):=[(0,aN),(1,aF),(2,Js L3 (bits.length+5+7*WW bits)),(3,Js L3 (2+bits.length))]
def lcOp(f:Nat->Str)(ps:List Nat)(bits:List Bool)(cs:List Str)(L2 L3:List Addr)(aT aN aF:Addr)(k:Nat):Addr:=Bool.rec (Bool.rec (Option.rec 0 (λa=>a) (JE k (lcTb bits L3 aT aN aF))) (Js ((JK f ps bits cs L2 L3).map (·.tup)) (k-10)) (Nat.ble 10 k)) (Js ((JK f ps bits cs L2 L3).map (·.ar)) (k-20)) (Nat.ble 20 k)
def lwN(f:Nat->Str)(ps:List Nat)(bits:List Bool)(cs:List Str)(L2 L3:List Addr)(aT aN aF:Addr):Nt:=⟨λk=>nrf ((JK f ps bits cs L2 L3).map (·.called)) (k-200),lcOp f ps bits cs L2 L3 aT aN aF⟩
theorem lcOp_t{r:Row}(e:(JK f ps bits cs L2 L3)[i]?=some r)(hi:i<10):lcOp f ps bits cs L2 L3 aT aN aF (10+i)=r.tup:=by
 unfold lcOp;rw[ZZ (show 10+i<20 by lia),Zj (show 10<=10+i by lia),Ψ];exact nthG e
theorem lcOp_a{r:Row}(e:(JK f ps bits cs L2 L3)[i]?=some r):lcOp f ps bits cs L2 L3 aT aN aF (20+i)=r.ar:=by
 unfold lcOp;rw[Zj (show 20<=20+i by lia),Ψ];exact nthG e
theorem lcT_ok(H:∀r∈JK f ps bits cs L2 L3,RowOk h r)(h6:(JK f ps bits cs L2 L3).length<=6):∀{m b:Nat},b+m<=(JK f ps bits cs L2 L3).length->Zu om h (lwN f ps bits cs L2 L3 aT aN aF) own (lcT m b):=by
 intro v0_;induction v0_ with
 |zero=>
  intro Z Z;exact trivial
 |succ m ih=>
  intro b hb;have e:(JK f ps bits cs L2 L3)[b]?=some (JK f ps bits cs L2 L3)[b]:=Φ (by lia);generalize (JK f ps bits cs L2 L3)[b]=r at e;have R:=H r (Θ e);obtain ⟨xs,n,t,h1,h2⟩:=R.t;exact Zu.cons (a:=r.tup) (lcOp_t e (by lia)) h1 (λL Z=>OkP.tp (by
   rw[h2];refine⟨_,_,rfl,⟨t,?_,?_⟩,_,_,rfl,Ja Value.ref (lcOp_a e).symm,rfl⟩
   ·show Value.str r.called t=.str (nrf _ (200+b-200)) t
    rw[Ψ,nrfG e]
   ·show nrf _ (200+b-200)∈JR 0
    rw[Ψ,nrfG e];exact R.pc)) (ih (by lia))
theorem sym_map:∀(l pre:List Str),(Nat.rec (motive:=λZ=>Nat->List Nat) (λZ=>[]) (λZ ih b=>b::ih (b+1)) l.length (200+pre.length):List Nat).map (λk=>nrf (pre++l) (k-200))=l:=by
 intro v0_;induction v0_ with
 |nil=>
  intro pre;exact rfl
 |cons z l ih=>
  intro pre;have ih:=ih (pre++[z]);rw[ς,List.append_assoc]at ih;show nrf (pre++z::l) (200+pre.length-200)::_=_;rw[Ψ];refine(Ja (_::·) ih).trans (Ja (·::l) ?_)
  unfold nrf;rw[ϝ (Ϙ _),Nat.sub_self];rfl
theorem lc_kn(H:∀r∈JK f ps bits cs L2 L3,RowOk h r)(h6:(JK f ps bits cs L2 L3).length<=6)(hf:∃xs n,h.get? (Js L3 (2+bits.length))=some (listOf xs n)/\xs.toList=(JK f ps bits cs L2 L3).map λr=>Value.ref r.tup)
  (hN:(aN==sysModules)=false) (dN:∃ds nm0 L0,h.get? aN=some (dictOf ds (o.map kyN).length)/\Ens om.w.params nm0 L0 ((o.map kyN).map λy=>(y,AV.bool true)) ds) (h2:dedS ((JK f ps bits cs L2 L3).map (·.called)) []=o2.map kyN):Zp om h (lwN f ps bits cs L2 L3 aT aN aF) u own (lcKn (JK f ps bits cs L2 L3).length o o2):={kn0 with
 sob:=λk ao e=>by
  obtain ⟨ds,nm0,L0,q1,q2⟩:=dN;obtain ⟨xs,n,q3,q4⟩:=hf;rw[Jb]at q2;refine Zu.get (l:=(0,.dict (o.map λx=>(kyN x,.bool true)))::(3,.list (ZD 10 (JK f ps bits cs L2 L3).length))::lcT (JK f ps bits cs L2 L3).length 0) (Zu.cons (a:=aN) rfl q1 (λL Z=>⟨hN,ds,by rw[Ω,Ω],Ens.re (λp hp w d=>?_) q2⟩) (Zu.cons (a:=Js L3 (2+bits.length)) rfl q3 (λL Z=>OkP.lst ?_) (lcT_ok H h6 (Nat.le_of_eq (Nat.zero_add _))))) e
  ·obtain ⟨z,_,rfl⟩:=mm_ hp
   exact d
  ·have:=WU (nm:=lwN f ps bits cs L2 L3 aT aN aF) (L:=L) (as:=(JK f ps bits cs L2 L3).map (·.tup)) (b:=10) (us:=xs.toList) (by rw[q4,Jb];rfl) λi a e=>by
    rw[δ,Option.map_eq_some_iff]at e;obtain ⟨r,hr,rfl⟩:=e;exact lcOp_t hr (by have:=(lt_ hr);lia)
   rw[Ω]at this
   exact this
 dk:=λks ys e=>Jt e λhb e=>by
  cases e;rw[Ws hb,<-h2];have q:=sym_map ((JK f ps bits cs L2 L3).map (·.called)) []
  rw[Ω]at q;exact Ja (dedS · []) q}
variable {A':Around}{s1 s3 s5:Shared}{env:Env}{S3:St}{aR:Addr}{qs:List Str}{ord:List Nat}{fr:Nat->Addr}{rws:Nat->Rws}
theorem law_nq(D:DtB om (env::out) s1 s3 aT aR f ps bits cs L2 L3 S3)(C:LwC om A' out env s aT aN aF f ps bits cs L2 L3 s3 s5 K ord fr rws){ds:List DictEntry}{nm0 nm1:Nt}{L0 L1:List Addr}(hN:h.get? aN=some (dictOf ds ys.length))(en:Ens om.w.params nm0 L0 (ys.map λy=>(y,AV.bool true)) ds)(hy:∀y,y∈ys↔∃p∈rIx bits,nrf cs p.1=y)(hF:DAt om h aF (snEs ord) nm1 L1)(ho:∀x,x<3->nm1.op (30+x)=fr x)(hR:∀x∈ord,Rw h (fr x) (rws x)):
  (∀x∈JG 3,∃b1 r,Nq om h aN aF x b1 r/\(b1=false->r=none)/\∀qs:List Str,qs.length<=2->(∀q∈qs,q∈JR 2)->ncV b1 r qs=dueB (itsD f bits.length) (JK f ps bits cs L2 L3) x qs)/\∀x∈(["X","A","B"]:List Str),Nq om h aN aF x false none:=by
 have dn:DAt om h aN (ys.map λy=>(y,AV.bool true)) nm0 L0:=⟨_,hN,ds,_,rfl,en⟩
 have lk:∀{o:List Nat} {z:Str},JH (look z (snEs o))=true->∃x∈o,z=kyN x:=fun {o}=>by
  induction o with
  |nil=>exact fun {z} h=>nb h
  |cons c o ih=>
   intro z h;change JH (Bool.rec (look z (snEs o)) (some (AV.op (30+c))) (sEq z (kyN c)):Option AV)=true at h;induction e:sEq z (kyN c)with
   |true=>exact⟨c,.head _,Jw e⟩
   |false=>rw[e]at h;exact(ih h).imp λx q=>⟨.tail _ q.1,q.2⟩
 have lv:∀{o:List Nat} {x:Nat},(∀c∈o,c<3)->x∈o->look (kyN x) (snEs o)=some (.op (30+x)):=fun {o}=>by
  induction o with
  |nil=>exact fun {x} _ h=>absurd h Ξ
  |cons c o ih=>
   intro x hl hx;show (Bool.rec (look (kyN x) (snEs o)) (some (AV.op (30+c))) (sEq (kyN x) (kyN c)):Option AV)=_;rw[kyN_eq (hl x hx) (hl c (.head _))];induction e:Nat.beq x c with
   |true=>rw[nq e]
   |false=>exact ih (λc hc=>hl c (.tail _ hc)) ((mc_ hx).resolve_left (ε e))
 refine⟨λz hz=>?_,λz hz=>?_⟩
 ·obtain ⟨x,hx,rfl⟩:=kyN_of hz
  obtain ⟨b1,r,q1,q2,q3,q4⟩:=law_plain (s:=s) (fr:=fr) D (u_all om.w.params D.ok) hx (C.has x hx) (C.rs x hx);refine⟨b1,r,⟨C.nsN,⟨_,nm0,L0,dn,look_keys.trans ?_⟩,C.nsF,⟨_,nm1,L1,hF,?_,λp hp=>?_⟩,λp hp=>?_⟩,q3,λqs Z Z=>q4 qs⟩
  ·induction b1 with
   |true=>exact WX ((hy _).mpr (q1.mp rfl))
   |false=>exact bf_ λz=>nb (q1.mpr ((hy _).mp (ZT z)))
  ·rcases q2 with ⟨rfl,hn⟩|⟨rfl,hm⟩
   ·exact bf_ λz=>by
     obtain ⟨x',hx',e⟩:=lk z;have l3:=Zd C.o hx';have:=kyN_eq hx l3;rw[e,Wk]at this;exact hn (nq this.symm▸hx')
   ·rw[lv (λc hc=>Zd C.o hc) hm];rfl
  ·rcases q2 with ⟨rfl,hn⟩|⟨rfl,hm⟩
   ·exact no hp
   ·cases hp
    exact⟨_,lv (λc hc=>Zd C.o hc) hm,λy dy=>(show y=_ from dy).trans (Ja Value.ref (ho x hx))⟩
  ·rcases q2 with ⟨rfl,hn⟩|⟨rfl,hm⟩
   ·exact no hp
   ·cases hp;exact hR x hm
 ·have nk:∀x,x<3->z≠kyN x:=λx hx e=>by
   have hz2:z∈JG 3:=by
    match x,hx with
    |0,_=>rw[e];exact .head _
    |1,_=>rw[e];exact .tail _ (.head _)
    |2,_=>rw[e];exact .tail _ (.tail _ (.head _))
   have:=al_ (by rfl':((["X","A","B"]:List Str).all λz=>JM (JU z (JG 3)))=true) z hz;exact nb ((JL this).symm.trans (WX hz2))
  refine⟨C.nsN,⟨_,nm0,L0,dn,look_keys.trans (bf_ λq=>?_)⟩,C.nsF,⟨_,nm1,L1,hF,bf_ λq=>?_,λp hp=>no hp⟩,λp hp=>no hp⟩
  ·obtain ⟨p,hp,e⟩:=(hy _).mp (ZT q)
   obtain ⟨x,hx,e2⟩:=kyN_of (D.cs_in (D.lb▸(D.c.r p hp).1));exact nk x hx (e.symm.trans e2)
  ·obtain ⟨x,hx,e⟩:=lk q
   exact nk x (Zd C.o hx) e
variable {s':Shared}{K0:Nat}{EF:SP Value}
theorem tab_leaf{l:List Addr}{nm:Nt}{L1:List Addr}{s1:Shared}{S1:St}(B:Bk om nm l out s5 S1 L1 s1)(hl:l[i]?=some a)(h:JH (gv vTab S1 i)=true):∃xs,s1.heap.get? a=some (PySem.W.tabObj xs):=by
 induction eg:gv vTab S1 i with
 |none=>rw[eg]at h;exact nb h
 |some t=>
  refine Jz eg λao g v=>B.get g (Jp B.pre hl) λo ho p=>?_;rw[vTab_of v]at p;induction t with
  |none=>exact⟨_,(show o=_ from p)▸ho⟩
  |some z=>exact p.elim λaj r=>⟨_,r.2▸ho⟩
def boolBo(o:Out):Option AV:=Out.rec (λZ=>none) (λZ=>none) (λZ=>none) none (λa=>some a) (λZ=>none) o
theorem ret_leaf{B:Bd}{x':Sit B}{ou:Out}(hc:(Out.rec (λZ=>false) (λZ=>false) (λZ=>false) false (λa=>Option.rec false (λb=>b) (ZN a)) (λZ=>false) ou:Bool)=true)(h:Q (.bool true) x'.s):(∀u,RF x' ou u->QF Q u x'.s)/\∀i,ou≠.exc i:=by
 induction ou with
 |ret v=>
  have hb:ZN v=some true:=by
   change (Option.rec false (λb=>b) (ZN v):Bool)=true at hc;induction hb:ZN v with
   |none=>rw[hb]at hc;exact nb hc
   |some b=>rw[hb]at hc;exact Ja some hc
  refine⟨λw r=>r.el (λz=>nomatch z) λa' v' z ev d=>?_,λi z=>nomatch z⟩;have ea:a'=.bool true:=oi ((Ja boolBo z).symm.trans (Ja some (ZM hb)));rw[ea]at d;rw[ev,show v'=.bool true from d];exact h
 |_=>exact nb hc
theorem lc_ok:okS lcL=true:=by rfl'
theorem law_C(hres:∃t,om.mg "RESERVED"=some (.str resS t))(T0:TbOk om s out false 0 0)(p0:Pt om A s K0)(M:LwM om A' out env s s1 s3 aT L2 L3 K)(D:DtB om (env::out) s1 s3 aT aR f ps bits cs L2 L3 S3)(C:LwC om A' out env s aT aN aF f ps bits cs L2 L3 s3 s5 K ord fr rws)
  (H:∀s',Aft [538,385] out s s'->(∃xs,s'.heap.get? 538=some (PySem.W.tabObj xs))->(∃xs,s'.heap.get? 385=some (PySem.W.tabObj xs))->Q (.bool true) s'):wpAny (Mdl om) A' (assign (lwS om.w.params 2).t env (.ref s5.heap.objs.size)) (λZ s'=>wpAny (Mdl om) A' (execs ((lwB om.w.params).drop 3) env) (QF Q) EF s') EF {s5 with heap:=s5.heap.push {cls:=.type "tuple",data:=.seq #[.ref aN,.ref aF]}}:=by
 have he:=C.he
 have tb:s.heap.get? 538=some (PySem.W.tabObj #[])/\s.heap.get? 385=some (PySem.W.tabObj #[]):=T0.t
 have t5:s5.heap.get? 538=some (PySem.W.tabObj #[])/\s5.heap.get? 385=some (PySem.W.tabObj #[]):=⟨C.af.keep 538 _ Ξ (T0.fr 538 (.head _)) tb.1,C.af.keep 385 _ Ξ (T0.fr 385 (.tail _ (.head _))) tb.2⟩
 have nt:∀b,s.heap.get? b=none->b≠538/\b≠385:=λb h=>⟨λz=>no (h.symm.trans (z▸tb.1)),λz=>no (h.symm.trans (z▸tb.2))⟩
 have fT:=Wr he C.fT
 have nd:([538,385,env.locals,aT]:List Addr).Nodup:=List.nodup_cons.mpr ⟨not3 (by decide) (λz=>(nt _ C.nE).1 z.symm) λz=>(nt _ C.nT).1 z.symm,nodup3 (λz=>(nt _ C.nE).2 z.symm) (λz=>(nt _ C.nT).2 z.symm) λz=>fT.1 z.symm⟩
 have own4:∀{P:Addr->Prop},P 538->P 385->P env.locals->P aT->∀a∈([538,385,env.locals,aT]:List Addr),P a:=λh1 h2 h3 h4 a ha=>(mc_ ha).elim (λz=>z▸h1) λha=>(mc_ ha).elim (λz=>z▸h2) λha=>(mc_ ha).elim (λz=>z▸h3) λha=>(ms_ ha)▸h4
 have frs:FrsOk om s5 out:=λe hm=>C.p.fr.elim λo r=>by
  cases r.1.symm.trans M.W.fr;exact r.2 e (.tail _ hm)
 have g5:Gin om s5 [538,385,env.locals,aT] out:=⟨C.p.base,C.p.live,C.p.gens,C.p.dr,C.p.os,frs,nd,own4 (T0.hb 538 (.head _)) (T0.hb 385 (.tail _ (.head _))) (p0.nw C.nE).1 (p0.nw C.nT).1,λe hm a hf ha=>own4 (P:=λx=>a=x->False) (λz=>T0.fr 538 (.head _) e hm a hf (z▸.head _)) (λz=>T0.fr 385 (.tail _ (.head _)) e hm a hf (z▸.head _)) (λz=>C.fE e hm a hf (z▸.head _)) (λz=>fT.2 e hm a hf (z▸.head _)) a ha rfl⟩
 have lift:∀b o,b≠538->b≠385->b≠aT->Fre (env::out) [b]->s5.heap.get? b=some o->g5.hF.get? b=some o:=λb o h1 h2 h3 hf e=>g5.stays b o (λhm=>own4 (P:=λx=>b=x->False) h1 h2 (Wr he hf).1 h3 b hm rfl) (Wr he hf).2 e
 have U5:DtUp s3 L2 L3 g5.hF:=λb o h1 h2 e=>by
  obtain ⟨q1,q2,q3,q4⟩:=C.up b o h1 h2 e;exact lift b o (nt b q2).1 (nt b q2).2 q3 q4 q1
 obtain ⟨ys,ds,nm0,L0,hN,en,ynd,hy⟩:=C.dN
 have hN5:=lift aN _ (nt aN C.nN).1 (nt aN C.nN).2 C.tN C.fN hN
 have cin:∀p∈rIx bits,nrf cs p.1∈JG 3:=λp hp=>D.cs_in (D.lb▸(D.c.r p hp).1)
 obtain ⟨o,ho,eo⟩:=ys_ords ynd λy h=>by
  obtain ⟨p,hp,e⟩:=(hy y).mp h;exact e▸cin p hp
 have dd:=dedS_ok (l:=(JK f ps bits cs L2 L3).map (·.called)) ϑ
 have cm:∀y,y∈dedS ((JK f ps bits cs L2 L3).map (·.called)) []↔∃p∈rIx bits,nrf cs p.1=y:=λy=>(dd.2 y).trans ⟨λh=>h.elim (λh=>by
  obtain ⟨r,hr,e⟩:=mm_ h;obtain ⟨p,hp,rfl⟩:=mm_ hr;exact⟨p,hp,e⟩) λh=>absurd h Ξ,λ⟨p,hp,e⟩=>.inl (List.mem_map.mpr ⟨_,ϕ hp,e⟩)⟩
 obtain ⟨o2,ho2,e2⟩:=ys_ords dd.1 λy h=>by
  obtain ⟨p,hp,e⟩:=(cm y).mp h;exact e▸cin p hp
 have mo:∀{o:List Nat} {x:Nat},o∈ZC->x<3->(kyN x∈o.map kyN↔x∈o):=fun {o x} ho hx=>⟨λh=>by
  obtain ⟨x',hx',e⟩:=mm_ h;have:=kyN_eq (Zd ho hx') hx;rw[e,Wk]at this;exact nq this.symm▸hx',ϕ⟩
 have ss:Wz o=Wz o2:=sortN_eq λx=>⟨λh=>(mo ho2 (Zd ho h)).mp (e2▸(cm _).mpr ((hy _).mp (eo▸(mo ho (Zd ho h)).mpr h))),λh=>(mo ho (Zd ho2 h)).mp (eo▸(hy _).mpr ((cm _).mp (e2▸(mo ho2 (Zd ho2 h)).mpr h)))⟩
 refine C.tap.el λtx ty tt1 tt2 tn tho tT=>?_
 obtain ⟨hF,hk,hR⟩:=C.rw
 have hR5:∀x∈ord,Rw g5.hF (fr x) (rws x):=λx hx=>(hR x hx).lift λb xs n e hi=>lift b _ (λz=>by
   have q:=(hk b _ e).1;rw[z,t5.1]at q;exact nomatch Ja Obj.cls (oi q)) (λz=>by
   have q:=(hk b _ e).1;rw[z,t5.2]at q;exact nomatch Ja Obj.cls (oi q)) (λz=>by
   have q:=(hk b _ e).1;rw[z,tho]at q;have q2:Data.seq #[Value.int tx tt1,Value.int ty tt2] tn=Data.seq xs n:=Ja Obj.data (oi q);cases q2;exact hi _ _ _ rfl) (hk b _ e).2 (hk b _ e).1
 obtain ⟨nm1,L1,⟨oF,hoF,sd⟩,hop⟩:=C.dF
 have dF5:DAt om g5.hF aF (snEs ord) nm1 L1:=⟨oF,lift aF _ (nt aF C.nF).1 (nt aF C.nF).2 C.tF C.fF hoF,sd⟩
 have R:LwR om g5.hF (Js L3 (bits.length+5+7*WW bits)) (Js L3 (2+bits.length)) aN aF (itsD f bits.length) (JK f ps bits cs L2 L3):=λh' aK up hK=>by
  have U':DtUp s3 L2 L3 h':=λb o h1 h2 e=>up _ _ (U5 b o h1 h2 e);have q:=law_nq D C (up _ _ hN5) en hy (dF5.up up) hop λx hx=>(hR5 x hx).up up;exact⟨hK,D.li U',D.fnd U',D.row U',D.len,q.1,q.2⟩
 subst eo
 have kn:=lc_kn (u:=λZ=>false) (own:=[538,385,env.locals,aT]) (aT:=aT) (aF:=aF) (D.row U5) D.len (D.fnd U5) C.nsN ⟨ds,nm0,L0,hN5,en⟩ e2
 have Fr2:ZA [538,385,env.locals,aT] (lwF om.w.params 2) env:=M.fr.re rfl λx i e=>no e
 have hr:=Wl 30
 let B5:Bd:=g5.bd (f:=lwF om.w.params 2) (nm:=lwN f ps bits cs L2 L3 aT aN aF) (u:=λZ=>false) (cx:=lcCx om.w.params (JK f ps bits cs L2 L3).length o o2) M.W.fr M.W.hdl rfl (λh=>nb h) kn (K+552) rfl
 have m:Rm B5 30:=⟨M.W.room.le (by show 2*30+60+(K+552)<=_;lia),lc_ora (K:=K) (aE:=env.locals) hres rfl (ζ _) R rfl rfl rfl rfl⟩
 obtain ⟨oE,nmE,hoE,pE,k2,k3,k4⟩:=C.ns
 have ob:ObL om (lwN f ps bits cs L2 L3 aT aN aF) s5 [538,385,env.locals,aT] [538,385,env.locals,aT] lcL:=ObL.cons t5.1 rfl (ObL.cons t5.2 rfl (ObL.cons hoE (OkP.renN pE ⟨⟨_,rfl,nofun,λw d=>(show w=_ from d).trans (Ja Value.ref k2)⟩,⟨_,rfl,nofun,λw d=>(show w=_ from d).trans (Ja Value.ref k3)⟩,⟨_,rfl,nofun,λw d=>⟨aT,rfl,(show w=_ from d).trans (Ja Value.ref k4)⟩⟩,trivial⟩) (ObL.cons tho ⟨tx,ty,tt1,tt2,tn,rfl,tT,Zm _ _ _⟩ ObL.nil)))
 have a1:Aft [538,385] out s s5:=⟨λb o Z hf e=>C.af.keep b o Ξ hf e,C.af.frs,C.af.gens,C.af.dr,C.af.os⟩
 have l7:(JK f ps bits cs L2 L3).length<7:=Jh D.len
 have run:=orB_of (al_ (al_ (al_ (lc_all om.w.params) _ (JD l7)) o ho) o2 ho2) (by rw[ss,eqL_self];rfl)
 let x:Sit B5:=g5.sit (u:=λZ=>false) (cx:=lcCx om.w.params (JK f ps bits cs L2 L3).length o o2) (Beg.of ob (stL lc_ok)) M.W.fr M.W.hdl rfl (λh=>nb h) kn (K+552) Fr2 rfl rfl ⟨_,(stL lc_ok).get 2⟩
 have P:Jn x RF (lcR om.w.params (JK f ps bits cs L2 L3).length o o2) (QF Q) EF:=WJ.post (Zy run λo S h=>(h:(λo S=>lcC o S=true) o S)) λou S1 hc x' q e=>Jr hc λh0 hc=>Jr hc λh1 hc=>by
  have B:=g5.end_ x'.r;rw[e]at B;exact ret_leaf hc (H _ (a1.then_ B.aft (own4 (.inl (.head _)) (.inl (.tail _ (.head _))) (.inr C.nE) (.inr C.nT))) (tab_leaf B rfl h0) (tab_leaf B rfl h1))
 exact Jn.pushV (x:=x) (ao:=.tup [.op 0,.op 1]) (t:=s5.toks) (P.onV λx1 a w q d P=>hr.asg m d (P.xN λx2 q2 P=>exs_ok hr m P)) ⟨_,0,rfl,_,_,rfl,rfl,_,_,rfl,rfl,rfl⟩
theorem law_ok{om:Om}{A:Around}{s:Shared}{K n:Nat}{out:List Env}{Q E:SP Value}{aS:Addr}{cs:List Int}(hres:∃t,om.mg "RESERVED"=some (.str resS t))(T0:TbOk om s out false 0 0)(p:Pt om A s (K+673))(hfr:A.frames=some out){xs:Array Value}(h1:s.heap.get? aS=some (listOf xs n))(hS:Fre out [aS])(d1:Jq ⟨λZ=>"",λZ=>0⟩ [] (cs.map AV.int) xs.toList)(hl:cs.length<64)
  (H:∀s',Aft [538,385] out s s'->(∃xs,s'.heap.get? 538=some (PySem.W.tabObj xs))->(∃xs,s'.heap.get? 385=some (PySem.W.tabObj xs))->Q (.bool true) s'):wpAny (Mdl om) A (call (.ref 845) [.ref aS]) Q E s:=
 law_A p hfr h1 hS d1 hl λA' EF env aT L1 s1 S1 W g1 B1 Fr hT K1 p1=>by
  have he:env.frame=some env.locals:=(Fr.fr rfl).1;have l0:L1[0]?=some env.locals:=Fr.loc;obtain ⟨ds,gt,hd⟩:=K1.t;have T:JP s1.heap aT (21+39):=B1.get gt hT λo ho q=>JP.ok ho q hd;refine dt_ok (K:=K+251) p1 W.fr T (fre_to he (λz=>by have:=Ju B1.nd hT (z▸l0);lia) (B1.fre.one (Θ hT))) (B1.hb _ (Θ hT)) λf ps bits cs' L2 L3 S3 s3 aR D=>?_;have M:=law_M p W B1 Fr hT K1 p1 D;exact law_B p M D λaN aF s5 ord fr rws C=>law_C hres T0 p M D C H
variable {w:World}{mg mb:Str->Option Value}{mean:ExcName->Option Value}
theorem Hd.of(Y:MineH.HdY w h){p:Program}{loose:List Str}(T:Top p loose mean mg mb h):Hd w h mg mb where
 X:=Y.X
 tb:=Y.tb
 hk:=Y.hk
 hv:=Y.hv
 T:=⟨p,loose,mean,T⟩
 res:=by
  have e:mg "RESERVED"=(MineH.entsO (h.get? 3))[71]?.map (·.val):=(ents_mg T.g _).trans (kIdx_some (i:=71) 0 (by rw[show (entsG h).map (·.key)=MineH.gKeys from Y.hk];rfl')).2
  have r:=Y.res;rw[<-e]at r;revert r;induction mg "RESERVED" with
  |none=>exactλr=>nomatch r
  |some v=>induction v with
   |str x t=>exactλr=>⟨t,Ja (λz=>some (Value.str z t)) (oi r)⟩
   |_=>exactλr=>nomatch r
theorem ints_of:∀{vs:List Value} {cs:List Int},IntsAre vs cs->Jq ⟨λZ=>"",λZ=>0⟩ [] (cs.map AV.int) vs:=by
 intro vs cs h;induction h with
 |nil=>rfl
 |cons n t h ih=>exact⟨_,_,rfl,⟨t,rfl⟩,ih⟩
theorem fa_is{fa:Addr}(W:Hd w h mg mb)(hm:mg MineH.dk.1.name=some (.ref fa)):fa=845:=by
 rw[show MineH.dk.1.name="law" by rfl',W.at_ (x:="law") (i:=87) (v:=.ref 845) (by rfl') (by rfl')]at hm;exact(Value.ref.inj (oi hm)).symm
theorem tab_old(W:Hd w h mg mb){s':Shared}(k:∀b o,b∉tbs->h.get? b=some o->s'.heap.get? b=some o)(k0:∃xs,s'.heap.get? 538=some (tabObj xs))(k1:∃xs,s'.heap.get? 385=some (tabObj xs)):OldK h s'.heap:=by
 have t:=t_tab w.params;rw[Bool.and_eq_true]at t;have tabs:∀{c P:Nat},P∈tbs->CodeHd h c P->(∃xs,s'.heap.get? P=some (tabObj xs))->∀o,h.get? P=some o->asItWas h s'.heap P o:=fun {c P} hP hc hx o e=>by
  obtain ⟨xs,hx⟩:=hx;have:=W.tb P hP;rw[e]at this;cases this;exact .inr (.inl ⟨(hc.tab (W.tb P hP)).isCodeTable,rfl,#[],xs,rfl,by rw[hx];simp[tabObj]⟩)
 refine⟨λb o e=>?_,λb o e=>?_⟩
 ·by_cases hb:b∈tbs
  ·rcases mc_ hb with rfl|hb'
   ·exact tabs hb (codeHd_of_K W.X t.1) k0 o e
   ·rw[ms_ hb']at hb e ⊢;exact tabs hb (codeHd_of_K W.X t.2) k1 o e
  ·exact .inl (k b o hb e)
 ·by_cases hb:b∈tbs
  ·rcases mc_ hb with rfl|hb'
   ·obtain ⟨xs,hx⟩:=k0;exact⟨_,hx⟩
   ·rw[ms_ hb'];obtain ⟨xs,hx⟩:=k1;exact⟨_,hx⟩
  ·exact⟨o,k b o hb e⟩
theorem hides_size(h:Heap):∀ts:List Addr,(WT h ts).objs.size=h.objs.size:=by
 intro v0_;induction v0_ with
 |nil=>
  exact rfl
 |cons a r ih=>
  show (hide1 (WT h r) a).objs.size=_;rw[<-ih ];exact(Ϡ _ _ _).1
theorem law_go{prog:Program}{s:Shared}{p:Program}{loose:List Str}(Y:MineH.HdY w s.heap)(T:Top p loose mean mg mb s.heap){a fa:Addr}{vs:List Value}{cs:List Int}(hm:mg MineH.dk.1.name=some (.ref fa))(h0:s.heap.get? a=some (listOf vs.toArray 0))(hi:IntsAre vs cs)(hl:cs.length<=63)
  {Q:SP Value} {E:SP Value} (hQ:∀s',OldK s.heap s'.heap->s'.gens=s.gens->s'.os=s.os->Q (.bool true) s'):wpAny (model prog w) callerA (call (.ref fa) [.ref a]) Q E s:=by
 have W:Hd w s.heap mg mb:=Hd.of Y T
 obtain rfl:=fa_is W hm
 have fr0:∀l:List Addr,Fre [] l:=λl e he=>nomatch he
 have T0:TbOk (mkOm prog w s.heap p loose mean s.gens s.drawn s.os W T) s [] false 0 0:=⟨⟨W.tb 538 (.head _),W.tb 385 (.tail _ (.head _))⟩,by decide,λa ha=>ZL ha,λa Z=>fr0 _⟩
 have pt:Pt (mkOm prog w s.heap p loose mean s.gens s.drawn s.os W T) callerA s (0+673):=⟨λb o e=>hides_sub e,λt ht=>⟨_,W.tb t ht⟩,Nat.le_of_eq (hides_size _ _),rfl,rfl,rfl,⟨by decide,by decide⟩,rfl,[],rfl,λe he=>nomatch he⟩
 exact law_ok (om:=mkOm prog w s.heap p loose mean s.gens s.drawn s.os W T) W.res T0 pt rfl h0 (fr0 _) (ints_of hi) (Jh hl) λs' af k0 k1=>hQ s' (tab_old W (λb o hb e=>af.keep b o hb (fr0 _) e) k0 k1) af.gens af.os
theorem post_t(cs:List Int):MineH.R0.claim.post [ofPy (PyData.list (cs.map PyData.int))] (.bool true) [ofPy (PyData.list (cs.map PyData.int))]=true:=by rfl'
theorem well_list{P:Params}{h:Heap}{a:Addr}{l:List WData}(w:Well P h (.ref a) (.list l)):∃vs:List Value,h.get? a=some ⟨.type "list",none,.seq vs.toArray 0,#[]⟩:=by
 cases w with
 |list e _=>exact⟨_,e⟩
set_option tactic.hygienic true in
theorem args_of{P:Params}{cl}{h:Heap}{args:List WData}{vals:List Value}{as:List Addr}{C:Prop}(hpre:MineH.R0.claim.pre args=true)(hlay:WData.layableAll args=true)(hrd:ReadsAllW MineH.R0.records cl h vals args as)(hwl:WellAll P h vals args)(hlo:∀a∈as,(a==sysModules)=false)
  (k:∀(cs:List Int) (a:Addr) (vs:List Value),args=[ofPy (PyData.list (cs.map PyData.int))]->vals=[.ref a]->h.get? a=some (listOf vs.toArray 0)->IntsAre vs cs->cs.length<=63->C):C:=by
 wrow_args hpre hlay hrd hwl hlo
 rename_i cs _ _ _ _ _ _ _ a vs _ hL ra w1 r0 hI hr hlen _
 have w1:Well P h (.ref a) (.list (ofPys (cs.map PyData.int))):=by simpa only[ofPy]using w1
 refine(well_list w1).elim λws e=>hL.elim λo' q=>?_
 refine k cs a vs rfl rfl ?_ hI (by lia)
 obtain ⟨h1,h2,n,h3⟩:=q
 rw[<-oi (e.symm.trans h1)]at h3
 have h3:Data.seq _ 0=Data.seq _ n:=h3
 injection h3 with h4 h5
 rw[e,h4]
theorem law_holds:PySem.Challenge.rw_pq0642_01.Holds:=MineH.hd (by
 intro w s₀ s₁ mg mb G Y fa o pm cd doc dV kV ho hd hcd hD hmg hg args vals as hpre hlay hrd hwl hlo;refine Ground.open G ?_;intro T B D TE TW;clear hd hcd hD D B TE TW ho;refine args_of hpre hlay hrd hwl hlo λcs a vs e1 e2 e hI hl=>?_;rw[e1,e2];exact law_go Y T hmg e hI hl λs' hK hgn hos=>⟨.inl ⟨.bool true,.bool true,[],rfl,λcls=>rfl,.bool true,post_t cs,λZ=>⟨ϑ,λa ha=>nomatch ha⟩⟩,hK,hos,.of_eq (hgn.trans hg)⟩)
end Internal
theorem PySem.Challenge.cw_pq0642_01_holds : PySem.Challenge.rw_pq0642_01.Holds :=
  Internal.law_holds
