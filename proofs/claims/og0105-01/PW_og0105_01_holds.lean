import PyProof.Rows.All
import Wide.All
import OpenK.AllK
import Wide.FinOn
import Lean
import PySem.Challenge.RW_og0105_01
set_option Elab.async false
set_option tactic.hygienic false
set_option linter.all false
set_option genSizeOf false
set_option genInjectivity false
set_option genCtorIdx false
set_option bootstrap.genMatcherCode false
set_option maxRecDepth 100000
namespace Mine.Internal
open PySem PySem.W PySem.Calls PyProof.Rows
abbrev ab:=@wpAny_bind
abbrev ag:=@Option.some.inj
abbrev aj:=@if_neg
abbrev aq:=@wpAny_pure
abbrev ar:=@if_pos
abbrev au:=@Nat.le_trans
abbrev ay:=@congrArg
abbrev aE:=@Eq.trans
abbrev aX:=@List.length_map
abbrev bn:=@Heap.get?_push_of_some
abbrev bx:=@Nat.lt_of_lt_of_le
abbrev bz:=@Nat.ne_of_lt
abbrev bA:=@List.length_append
abbrev bG:=@of_decide_eq_true
abbrev bI:=@Nat.le_refl
abbrev bL:=@Nat.lt_trans
abbrev bO:=@Ne.symm
abbrev bQ:=@Bool.and_eq_true
abbrev bR:=@Or.elim
abbrev bU:=@Eq.symm
abbrev bV:=@List.mem_of_getElem?
abbrev bY:=@Nat.eq_of_beq_eq_true
abbrev cb:=@Nat.le_of_eq
abbrev cc:=@Nat.zero_le
abbrev cj:=@Heap.get?_push_size
abbrev cq:=@Nat.le_of_lt
abbrev cR:=@wpAny_holding
abbrev dc:=@Heap.get?_none_of_le
abbrev de:=@List.length_cons
abbrev dg:=@Nat.succ_le_succ
abbrev dw:=@Nat.le_add_left
abbrev dx:=@Nat.lt_of_le_of_lt
abbrev dJ:=@decide_eq_false
abbrev dR:=@Heap.lt_size
abbrev dS:=@List.getElem?_eq_getElem
abbrev dT:=@Nat.lt_succ_self
abbrev dU:=@Nat.ne_of_gt
abbrev dX:=@decide_eq_true_eq
abbrev d8:=@Array.length_toList
abbrev ef:=@List.mem_cons
abbrev er:=@List.not_mem_nil
abbrev et:=@Nat.le_add_right
abbrev eG:=@wpAny_standAt
abbrev eI:=@Heap.get?_update_self
abbrev eJ:=@List.length_range
abbrev eK:=@List.lookup_cons
abbrev eL:=@List.size_toArray
abbrev eM:=@Nat.le_of_ble_eq_true
abbrev eZ:=@decide_eq_true
abbrev fF:=@or_false
abbrev fJ:=@wpAny_newObj_type
abbrev fM:=@List.getElem?_map
abbrev fN:=@List.length_take
abbrev f8:=@Heap.size_push
abbrev gb:=@List.map_append
abbrev gc:=@Nat.mul_le_mul_left
abbrev gM:=@Value.ref.inj
abbrev ij:=@wpAny_field
abbrev il:=@Bool.false_ne_true
abbrev io:=@List.getElem?_append_right
abbrev ip:=@List.take_length
abbrev ir:=@Nat.ble_eq_true_of_le
abbrev iu:=@Nat.blt_eq
abbrev iQ:=@sizeLine_eq
abbrev iU:=@wpAny_Name
abbrev iW:=@List.append_assoc
abbrev iX:=@List.length_nil
abbrev iY:=@Nat.add_le_add_right
abbrev iZ:=@Nat.min_eq_left
abbrev jG:=@Heap.get?_update_other
abbrev jI:=@List.getElem?_of_mem
abbrev jJ:=@List.take_succ
abbrev jK:=@Nat.le_of_lt_succ
abbrev jL:=@Nat.lt_succ_of_lt
abbrev jM:=@Nat.zero_add
abbrev kP:=@wpAny_loadName_local
abbrev kQ:=@wpAny_setState_of
abbrev kV:=@Heap.get?_update_ne
abbrev kX:=@List.getElem?_append_left
abbrev kZ:=@Nat.add_le_add_left
abbrev k0:=@Nat.le_of_succ_le
abbrev lT:=@wpAny_loadPart_at
abbrev lX:=@List.append_nil
abbrev lY:=@List.flatMap_cons
abbrev lZ:=@List.mem_singleton
abbrev l5:=@Nat.lt_of_sub_eq_succ
abbrev l8:=@Nat.not_lt_zero
abbrev ml:=@beq_self_eq_true
abbrev mq:=@codeAny_builtin
abbrev nF:=@wpAny_askSetting
abbrev nI:=@List.contains_cons
abbrev nJ:=@Nat.le_of_sub_eq_zero
abbrev nK:=@Obj.data_mapFields
abbrev nL:=@Obj.isFreed_of_fields
abbrev pK:=@Around.under_plainId
abbrev pN:=@List.mem_of_mem_take
abbrev rN:=@Classical.byContradiction
abbrev rW:=@PySem.F.excBase_Exception
noncomputable abbrev WB:=Value->Shared->Prop
section
noncomputable section
noncomputable abbrev Ve:=List Nat
noncomputable abbrev Cs:=List (Ve×Ve)
noncomputable def fj(i:Nat):Ve->Nat:=i.rec (·.headD 0) λ_ k e=>k e.tail
noncomputable def fc(x:Ve):Ve->Nat:=x.rec (λ_=>0) λa _ k e=>a*e.headD 0+k e.tail
noncomputable def ad(x:Ve):Ve->Ve:=x.rec id λa _ k y=>(a+y.headD 0)::k y.tail
noncomputable def kK(k:Nat)(x:Ve):Ve:=x.rec [] λa _ y=>k*a::y
noncomputable def un(i:Nat):Ve:=i.rec [1] λ_ l=>0::l
noncomputable def wG(y:Ve):Ve->Bool:=y.rec (λ_=>true) λb _ k x=>(b.ble (x.headD 0)).and (k x.tail)
def rX(e:Ve)(S:Cs):Prop:=∀p∈S,fc p.1 e<=fc p.2 e
def jO(c:Ve)(A:List Cs):Prop:=∃S∈A,rX (1::c) S
noncomputable def elim(i:Nat)(S:Cs):Cs :=
 S.filter (λp=>(fj i p.1).beq (fj i p.2))++((S.filter λp=>(fj i p.2).blt (fj i p.1)).flatMap λu=>(([],un i)::S.filter λp=>(fj i p.1).blt (fj i p.2)).map λw =>
  (ad (kK (fj i w.2 - fj i w.1) u.1) (kK (fj i u.1 - fj i u.2) w.1),ad (kK (fj i w.2 - fj i w.1) u.2) (kK (fj i u.1 - fj i u.2) w.2))).filter λp => !wG p.1 p.2
noncomputable def fm(n:Nat):Cs->Bool:=n.rec (·.any λp=>wG (ad p.2 [1]) p.1) λi k S=>k (elim (i+1) S)
theorem AZ(y e:Ve):fc y e=y.headD 0*e.headD 0+fc y.tail e.tail:=by
 cases y with
 |nil=>exact(Nat.zero_mul _).symm
 |cons b y=>rfl
theorem vZ(x:Ve):∀y e:Ve,fc (ad x y) e=fc x e+fc y e:=by
 induction x with
 |nil=>exact λy e=>(jM _).symm
 |cons a x ih=>exact λy e=>(congr (ay _ (Nat.add_mul _ _ _)) (ih _ _)).trans ((Nat.add_add_add_comm _ _ _ _).trans (ay _ (AZ y e).symm))
theorem sn(k:Nat)(x:Ve):∀e:Ve,fc (kK k x) e=k*fc x e:=by
 induction x with
 |nil=>exact λe=>rfl
 |cons a x ih=>exact λe=>(congr (ay _ (Nat.mul_assoc _ _ _)) (ih _)).trans (Nat.mul_add _ _ _).symm
theorem KL(i:Nat):∀e:Ve,fc (un i) e=fj i e:=by
 induction i with
 |zero=>exact λe=>Nat.one_mul _
 |succ i ih=>exact λe=>(congr (ay _ (Nat.zero_mul _)) (ih _)).trans (jM _)
theorem KJ(y:Ve):∀x e:Ve,wG y x=true->fc y e<=fc x e:=by
 induction y with
 |nil=>exact λx e h=>cc _
 |cons b y ih=>exact λx e h=>AZ x e▸Nat.add_le_add (Nat.mul_le_mul_right _ (eM (Bool.and_eq_true_iff.mp h).1)) (ih x.tail _ (Bool.and_eq_true_iff.mp h).2)
theorem AJ(k l:Nat)(x y e:Ve):fc (ad (kK k x) (kK l y)) e=k*fc x e+l*fc y e:=(vZ _ _ _).trans (congr (ay _ (sn _ _ _)) (sn _ _ _))
theorem Lo{e:Ve}{i:Nat}{S:Cs}(h:rX e S):rX e (elim i S):=λp hp=>(List.mem_append.mp hp).elim (λhp=>h p (List.mem_filter.mp hp).1) λhp =>
 (List.mem_flatMap.mp (List.mem_filter.mp hp).1).elim λu hu=>(List.mem_map.mp hu.2).elim λw hw=>hw.2▸au (cb (AJ _ _ _ _ _)) (au
  (Nat.add_le_add (gc _ (h u (List.mem_filter.mp hu.1).1)) (gc _ ((List.mem_cons.mp hw.1).elim (λe=>e▸cc _) λhw=>h w (List.mem_filter.mp hw).1))) (cb (AJ _ _ _ _ _).symm))
theorem M3{c:Ve}(n:Nat):∀S:Cs,fm n S=true->rX (1::c) S->False:=by
 induction n with
 |zero=>exact λS h s=>(List.any_eq_true.mp h).elim λp hp=>Nat.not_succ_le_self _ (vZ p.2 [1] (1::c)▸au (KJ _ _ (1::c) hp.2) (s p hp.1))
 |succ i ih=>exact λS h s=>ih _ h (Lo s)
theorem yI{c:Ve}{A B:List Cs}(h:jO c A)(k:jO c B):jO c (A.flatMap λs=>B.map (s ++ ·)) :=
 h.elim λS h=>k.elim λT k=>⟨S++T,List.mem_flatMap.mpr ⟨S,h.1,List.mem_map_of_mem k.1⟩,λp hp=>(List.mem_append.mp hp).elim (h.2 p) (k.2 p)⟩
theorem vx{c:Ve}{A B:List Cs}(h:jO c A\/jO c B):jO c (A++B) :=
 h.elim (λh=>h.elim λS h=>⟨S,List.mem_append_left _ h.1,h.2⟩) λh=>h.elim λS h=>⟨S,List.mem_append_right _ h.1,h.2⟩
noncomputable def La:={t:(Ve->Nat)×Ve // ∀c,fc t.2 (1::c)=t.1 (1::c)}
noncomputable def Lf:={t:(Ve->Prop)×List Cs×List Cs // ∀c,(t.1 (1::c)->jO c t.2.1)/\(¬ t.1 (1::c)->jO c t.2.2)}
noncomputable def Lv(i:Nat):La:=⟨(fj i,un i),λ_=>KL i _⟩
noncomputable def Ln(k:Nat):La:=⟨(λ_=>k,[k]),λ_=>Nat.mul_one k⟩
noncomputable def Lp(x y:La):La:=⟨(λe=>x.1.1 e+y.1.1 e,ad x.1.2 y.1.2),λc=>(vZ _ _ _).trans (congr (ay _ (x.2 c)) (y.2 c))⟩
noncomputable def Lm(k:Nat)(x:La):La:=⟨(λe=>k*x.1.1 e,kK k x.1.2),λc=>(sn k _ _).trans (ay _ (x.2 c))⟩
noncomputable def Lw(k:Nat)(x:La):La:=⟨(λe=>x.1.1 e*k,kK k x.1.2),λc=>((sn k _ _).trans (ay _ (x.2 c))).trans (Nat.mul_comm _ _)⟩
theorem Ey{c:Ve}{x y:La}(h:x.1.1 (1::c)<=y.1.1 (1::c)):jO c [[(x.1.2,y.1.2)]]:=⟨_,.head _,λq hq=>List.mem_singleton.mp hq▸(x.2 c).symm▸(y.2 c).symm▸h⟩
noncomputable def C8(x y:La):List Cs:=[[(x.1.2,y.1.2)]]
noncomputable def kY(x y:La):Lf:=⟨(λe=>x.1.1 e<=y.1.1 e,C8 x y,C8 (Lp y (Ln 1)) x),λc=>⟨Ey,λh=>Ey (x:=Lp y (Ln 1)) (Nat.lt_of_not_le h)⟩⟩
noncomputable def GH(x y:La):Lf:=kY (Lp x (Ln 1)) y
noncomputable def rS(f g:Lf):Lf:=⟨(λe=>f.1.1 e/\g.1.1 e,f.1.2.1.flatMap λs=>g.1.2.1.map (s ++ ·),f.1.2.2++g.1.2.2),λc=>⟨λh=>yI ((f.2 c).1 h.1) ((g.2 c).1 h.2),λh=>vx ((Classical.not_and_iff_not_or_not.mp h).imp (f.2 c).2 (g.2 c).2)⟩⟩
noncomputable def GI(f g:Lf):Lf:=⟨(λe=>f.1.1 e\/g.1.1 e,f.1.2.1++g.1.2.1,f.1.2.2.flatMap λs=>g.1.2.2.map (s ++ ·)),λc=>⟨λh=>vx (h.imp (f.2 c).1 (g.2 c).1),λh=>yI ((f.2 c).2 λk=>h (.inl k)) ((g.2 c).2 λk=>h (.inr k))⟩⟩
noncomputable def GG(f g:Lf):Lf:=⟨(λe=>f.1.1 e->g.1.1 e,f.1.2.2++g.1.2.1,f.1.2.1.flatMap λs=>g.1.2.2.map (s ++ ·)),λc=>⟨λh=>vx ((Classical.em _).symm.imp (f.2 c).2 λk=>(g.2 c).1 (h k)),λh=>yI ((f.2 c).1 (Classical.not_imp.mp h).1) ((g.2 c).2 (Classical.not_imp.mp h).2)⟩⟩
noncomputable def rU:Lf:=⟨(λ_=>False,[],[[]]),λc=>⟨False.elim,λ_=>⟨_,.head _,λ_ h=>nomatch h⟩⟩⟩
noncomputable def GF(x y:La):Lf:=⟨(λe=>x.1.1 e=y.1.1 e,(rS (kY x y) (kY y x)).1.2),λc=>⟨λh=>((rS (kY x y) (kY y x)).2 c).1 ⟨cb h,cb h.symm⟩,λh=>((rS (kY x y) (kY y x)).2 c).2 λk=>h (Nat.le_antisymm k.1 k.2)⟩⟩
noncomputable def eY(u:Nat):Nat->List La->List Lf->Lf:=u.rec (λ_ _ f=>f.headD rU) λ_ eY k s f =>
  let t:=k%32;let q:=k/32;let c:=q%16384;let z:=q/16384;let y:=s.headD (Ln 0);let r:=s.tail;let x:=r.headD (Ln 0);let s':=r.tail
  let g:=f.headD rU;let h:=f.tail.headD rU;let f':=f.tail.tail
  bif k.beq 0 then g else
  bif t.beq 1 then eY q s' (kY x y::f) else bif t.beq 2 then eY q s' (GH x y::f) else bif t.beq 3 then eY q s' (GF x y::f) else
  bif t.beq 4 then eY q s (rS h g::f') else bif t.beq 5 then eY q s (GI h g::f') else bif t.beq 6 then eY q s (GG h g::f') else bif t.beq 7 then eY q s (rU::f) else
  bif t.beq 8 then eY q (Lp x y::s') f else bif t.beq 9 then eY z (Ln c::s) f else bif t.beq 10 then eY z (Lm c y::r) f else bif t.beq 11 then eY z (Lw c y::r) f else
  eY q (Lv (t - 15)::s) f
noncomputable def JM(n k:Nat):Bool:=(eY 200 k [] []).1.2.2.all (fm n)
theorem ak(c:Ve)(n k:Nat)(h:JM n k=true):(eY 200 k [] []).1.1 (1::c):=rN λw =>
 (((eY 200 k [] []).2 c).2 w).elim λS h1=>M3 _ S (List.all_eq_true.mp h S h1.1) h1.2
theorem zs(a b:Nat):b<=a/\a - b+b=a\/a<=b/\a - b=0:=(Nat.le_total b a).imp (λh=>⟨h,Nat.sub_add_cancel h⟩) λh=>⟨h,Nat.sub_eq_zero_of_le h⟩
theorem zm(a b:Nat):a<=b/\min a b=a\/b<=a/\min a b=b:=(Nat.le_total a b).imp (λh=>⟨h,iZ h⟩) λh=>⟨h,Nat.min_eq_right h⟩
theorem zd(a k:Nat)(h:0<k:=by decide):k*(a/k)+a%k=a/\a%k<k:=⟨Nat.div_add_mod a k,Nat.mod_lt a h⟩
end
end
section
@[elab_as_elim] theorem sb{α : Sort _}{a b:α}{f:α->Prop}(h:a=b)(p:f a):f b:=h▸p
@[elab_as_elim] theorem tb{α : Sort _}{a b:α}{f:α->Prop}(h:a=b)(p:f b):f a:=h▸p
theorem bh{α : Sort _}{f:α->Prop}{a b:α}(h:a=b)(g:f b):f a:=tb h g
theorem aR{α β : Sort _}{f:α->β->Prop}{a b:α}{c:β}(h:a=b)(g:f b c):f a c:=tb h g
theorem ja{α β γ : Sort _}{f:α->β->γ->Prop}{a b:α}{c:β}{d:γ}(h:a=b)(g:f b c d):f a c d:=tb h g
theorem bq{α β γ δ : Sort _}{f:α->β->γ->δ->Prop}{a b:α}{c:β}{d:γ}{e:δ}(h:a=b)(g:f b c d e):f a c d e:=tb h g
theorem ck{α : Sort _}{f:α->Prop}{a b:α}(h:b=a)(g:f b):f a:=sb h g
theorem nU{α β : Sort _}{f:α->β->Prop}{a b:α}{c:β}(h:b=a)(g:f b c):f a c:=sb h g
theorem Jx{α β γ : Sort _}{f:α->β->γ->Prop}{a b:α}{c:β}{d:γ}(h:b=a)(g:f b c d):f a c d:=sb h g
theorem Ak{α β γ δ : Sort _}{f:α->β->γ->δ->Prop}{a b:α}{c:β}{d:γ}{e:δ}(h:b=a)(g:f b c d e):f a c d e:=sb h g
theorem eU{α : Sort _}{f:α->Prop}{a b:α}(g:f a)(h:a=b):f b:=sb h g
theorem aW{α β : Sort _}{f:α->β->Prop}{a b:α}{c:β}(g:f a c)(h:a=b):f b c:=sb h g
theorem iD{α β γ : Sort _}{f:α->β->γ->Prop}{a b:α}{c:β}{d:γ}(g:f a c d)(h:a=b):f b c d:=sb h g
theorem sc{a k:Nat}(h:k<=a):a=a - k+k:=(Nat.sub_add_cancel h).symm
theorem hB{a b:Nat}:a<=a+b:=et a b
theorem c9{a b:Nat}:a<=b+a:=dw a b
theorem jq{a:Nat}:a<a+1:=dT a
theorem lk{a b c:Nat}(h:Nat.ble b c=true):a+b<=a+c:=kZ (eM h) a
theorem ce{a b:Nat}(h:Nat.ble a b=true):a<=b:=eM h
theorem iB{a b:Nat}(h:a<b):a<b+1:=jL h
theorem xN{a b:Nat}(h:a<=b):a<=b+1:=Nat.le_succ_of_le h
theorem l0{a b:Nat}(h:a<=b):0+a<=b:=(jM a).symm▸h
theorem dE{a b:Nat}(h:a<b):¬ a=b:=bz h
theorem qV{a b:Nat}(h:b<a):¬ a=b:=dU h
theorem uc{a b:Nat}(h:a<b):a≠b:=bz h
theorem lH{a b:Nat}(h:b<a):a≠b:=dU h
theorem tT{a b c:Nat}(h:a+b<=c):a<=c:=au hB h
theorem mR{a b c:Nat}(h:a+b<c):a<c:=dx hB h
theorem vw{G:Prop}{a b:Nat}(h:a<b)(k:b<=a):G:=absurd k (Nat.not_le_of_lt h)
theorem aC{G:Prop}(h:false=true):G:=(il h).elim
theorem kM{G:Prop}(h:true=false):G:=aC h.symm
theorem aP{β : Type _}{a:β}{G:Prop}(h:(none:Option β)=some a):G:=absurd h (λh=>nomatch h)
theorem y3{β : Type _}{a:β}{G:Prop}(h:some a=(none:Option β)):G:=aP h.symm
theorem ax{α β : Type _}{o:Option α}{f:α->Option β}{b:β}{G:Prop}(h:o.bind f=some b)(g:∀a,o=some a->f a=some b->G):G:=by cases o with | none=>exact aP h | some a=>exact g a rfl h
theorem bu{α β : Type _}{o:Option α}{f:α->Option β}{b:Option β}{a:α}(h:o=some a)(g:f a=b):o.bind f=b:=tb h g
theorem bk{β : Type _}{c:Bool}{x:Option β}{b:β}{G:Prop}(h:cond c x none=some b)(g:c=true->x=some b->G):G:=by cases c with | false=>exact aP h | true=>exact g rfl h
theorem dY{c:Prop}[Decidable c]{β : Type _}{f:c->Option β}{b:β}{G:Prop}(h:(if q:c then f q else none)=some b)(k:∀q,f q=some b->G):G:=by
 by_cases q:c
 .exact k q ((dif_pos q).symm.trans h)
 .exact aP ((dif_neg q).symm.trans h)
theorem bN{α : Type _}{x y:Option α}{r:α}{G:Prop}(h:x.or y=some r)(f:x=some r->G)(g:y=some r->G):G:=by cases x with | none=>exact g h | some a=>exact f h
theorem di{β : Type _}{c:Bool}{x:Option β}{b:Option β}(h:c=true)(g:x=b):cond c x none=b:=by subst h;exact g
theorem Aw{β : Type _}{c:Bool}{x:Option β}(h:c=false):cond c x none=none:=by subst h;rfl
theorem gN{a b:Bool}(h:a=true)(k:b=true):(a&&b)=true:=by rw[h,k];rfl
theorem aD{a b:Bool}(h:(a&&b)=true):a=true/\b=true:=by cases a<;>cases b<;>first | exact⟨rfl,rfl⟩ | cases h
theorem eO{a b c:Bool}(h:(a&&b&&c)=true):a=true/\b=true/\c=true:=⟨(aD (aD h).1).1,(aD (aD h).1).2,(aD h).2⟩
theorem ez{a b c d:Bool}(h:(a&&b&&c&&d)=true):a=true/\b=true/\c=true/\d=true:=⟨(aD (eO h).1).1,(aD (eO h).1).2,(eO h).2⟩
theorem fw{b0 b1 b2 b3 b4:Bool}(h:(b0&&b1&&b2&&b3&&b4)=true):b0=true/\b1=true/\b2=true/\b3=true/\b4=true:=⟨(ez (aD h).1).1,(ez (aD h).1).2.1,(ez (aD h).1).2.2.1,(ez (aD h).1).2.2.2,(aD h).2⟩
theorem mf{b0 b1 b2 b3 b4 b5:Bool}(h:(b0&&b1&&b2&&b3&&b4&&b5)=true):b0=true/\b1=true/\b2=true/\b3=true/\b4=true/\b5=true:=⟨(fw (aD h).1).1,(fw (aD h).1).2.1,(fw (aD h).1).2.2.1,(fw (aD h).1).2.2.2.1,(fw (aD h).1).2.2.2.2,(aD h).2⟩
theorem mh{b0 b1 b2 b3 b4 b5 b6:Bool}(h:(b0&&b1&&b2&&b3&&b4&&b5&&b6)=true):b0=true/\b1=true/\b2=true/\b3=true/\b4=true/\b5=true/\b6=true:=⟨(mf (aD h).1).1,(mf (aD h).1).2.1,(mf (aD h).1).2.2.1,(mf (aD h).1).2.2.2.1,(mf (aD h).1).2.2.2.2.1,(mf (aD h).1).2.2.2.2.2,(aD h).2⟩
theorem aL{A0 A1:Prop}{G:Prop}(h:A0/\A1)(g:A0->A1->G):G:=g h.1 h.2
theorem d7{A0 A1 A2:Prop}{G:Prop}(h:A0/\A1/\A2)(g:A0->A1->A2->G):G:=g h.1 h.2.1 h.2.2
theorem fW{A0 A1 A2 A3:Prop}{G:Prop}(h:A0/\A1/\A2/\A3)(g:A0->A1->A2->A3->G):G:=g h.1 h.2.1 h.2.2.1 h.2.2.2
theorem fX{A0 A1 A2 A3 A4:Prop}{G:Prop}(h:A0/\A1/\A2/\A3/\A4)(g:A0->A1->A2->A3->A4->G):G:=g h.1 h.2.1 h.2.2.1 h.2.2.2.1 h.2.2.2.2
theorem Gh{A0 A1 A2 A3 A4 A5:Prop}{G:Prop}(h:A0/\A1/\A2/\A3/\A4/\A5)(g:A0->A1->A2->A3->A4->A5->G):G:=g h.1 h.2.1 h.2.2.1 h.2.2.2.1 h.2.2.2.2.1 h.2.2.2.2.2
theorem lU{A0 A1 A2 A3 A4 A5 A6:Prop}{G:Prop}(h:A0/\A1/\A2/\A3/\A4/\A5/\A6)(g:A0->A1->A2->A3->A4->A5->A6->G):G:=g h.1 h.2.1 h.2.2.1 h.2.2.2.1 h.2.2.2.2.1 h.2.2.2.2.2.1 h.2.2.2.2.2.2
theorem VW{A0 A1 A2 A3 A4 A5 A6 A7:Prop}{G:Prop}(h:A0/\A1/\A2/\A3/\A4/\A5/\A6/\A7)(g:A0->A1->A2->A3->A4->A5->A6->A7->G):G:=g h.1 h.2.1 h.2.2.1 h.2.2.2.1 h.2.2.2.2.1 h.2.2.2.2.2.1 h.2.2.2.2.2.2.1 h.2.2.2.2.2.2.2
theorem aF{α : Sort _}{A0:α->Prop}{G:Prop}(h:∃x,A0 x)(g:∀x,A0 x->G):G:=h.elim λx h=>g x h
theorem af{α : Sort _}{A0 A1:α->Prop}{G:Prop}(h:∃x,A0 x/\A1 x)(g:∀x,A0 x->A1 x->G):G:=h.elim λx h=>g x h.1 h.2
theorem bE{α : Sort _}{A0 A1 A2:α->Prop}{G:Prop}(h:∃x,A0 x/\A1 x/\A2 x)(g:∀x,A0 x->A1 x->A2 x->G):G:=h.elim λx h=>g x h.1 h.2.1 h.2.2
theorem zn{α : Sort _}{A0 A1 A2 A3:α->Prop}{G:Prop}(h:∃x,A0 x/\A1 x/\A2 x/\A3 x)(g:∀x,A0 x->A1 x->A2 x->A3 x->G):G:=h.elim λx h=>g x h.1 h.2.1 h.2.2.1 h.2.2.2
theorem zo{α : Sort _}{A0 A1 A2 A3 A4:α->Prop}{G:Prop}(h:∃x,A0 x/\A1 x/\A2 x/\A3 x/\A4 x)(g:∀x,A0 x->A1 x->A2 x->A3 x->A4 x->G):G:=h.elim λx h=>g x h.1 h.2.1 h.2.2.1 h.2.2.2.1 h.2.2.2.2
theorem kR{α β : Sort _}{A0:α->β->Prop}{G:Prop}(h:∃x y,A0 x y)(g:∀x y,A0 x y->G):G:=h.elim λx h=>h.elim λy h=>g x y h
theorem ci{α β : Sort _}{A0 A1:α->β->Prop}{G:Prop}(h:∃x y,A0 x y/\A1 x y)(g:∀x y,A0 x y->A1 x y->G):G:=h.elim λx h=>h.elim λy h=>g x y h.1 h.2
theorem aA{α β : Sort _}{A0 A1 A2:α->β->Prop}{G:Prop}(h:∃x y,A0 x y/\A1 x y/\A2 x y)(g:∀x y,A0 x y->A1 x y->A2 x y->G):G:=h.elim λx h=>h.elim λy h=>g x y h.1 h.2.1 h.2.2
theorem dQ{α β : Sort _}{A0 A1 A2 A3:α->β->Prop}{G:Prop}(h:∃x y,A0 x y/\A1 x y/\A2 x y/\A3 x y)(g:∀x y,A0 x y->A1 x y->A2 x y->A3 x y->G):G:=h.elim λx h=>h.elim λy h=>g x y h.1 h.2.1 h.2.2.1 h.2.2.2
theorem jD{α β : Sort _}{A0 A1 A2 A3 A4:α->β->Prop}{G:Prop}(h:∃x y,A0 x y/\A1 x y/\A2 x y/\A3 x y/\A4 x y)(g:∀x y,A0 x y->A1 x y->A2 x y->A3 x y->A4 x y->G):G:=h.elim λx h=>h.elim λy h=>g x y h.1 h.2.1 h.2.2.1 h.2.2.2.1 h.2.2.2.2
theorem zp{α β : Sort _}{A0 A1 A2 A3 A4 A5:α->β->Prop}{G:Prop}(h:∃x y,A0 x y/\A1 x y/\A2 x y/\A3 x y/\A4 x y/\A5 x y)(g:∀x y,A0 x y->A1 x y->A2 x y->A3 x y->A4 x y->A5 x y->G):G:=h.elim λx h=>h.elim λy h=>g x y h.1 h.2.1 h.2.2.1 h.2.2.2.1 h.2.2.2.2.1 h.2.2.2.2.2
theorem VX{α β : Sort _}{A0 A1 A2 A3 A4 A5 A6 A7:α->β->Prop}{G:Prop}(h:∃x y,A0 x y/\A1 x y/\A2 x y/\A3 x y/\A4 x y/\A5 x y/\A6 x y/\A7 x y)(g:∀x y,A0 x y->A1 x y->A2 x y->A3 x y->A4 x y->A5 x y->A6 x y->A7 x y->G):G:=h.elim λx h=>h.elim λy h=>g x y h.1 h.2.1 h.2.2.1 h.2.2.2.1 h.2.2.2.2.1 h.2.2.2.2.2.1 h.2.2.2.2.2.2.1 h.2.2.2.2.2.2.2
theorem kS{α β γ : Sort _}{A0:α->β->γ->Prop}{G:Prop}(h:∃x y z,A0 x y z)(g:∀x y z,A0 x y z->G):G:=h.elim λx h=>h.elim λy h=>h.elim λz h=>g x y z h
theorem lV{α β γ : Sort _}{A0 A1:α->β->γ->Prop}{G:Prop}(h:∃x y z,A0 x y z/\A1 x y z)(g:∀x y z,A0 x y z->A1 x y z->G):G:=h.elim λx h=>h.elim λy h=>h.elim λz h=>g x y z h.1 h.2
theorem fK{α β γ : Sort _}{A0 A1 A2:α->β->γ->Prop}{G:Prop}(h:∃x y z,A0 x y z/\A1 x y z/\A2 x y z)(g:∀x y z,A0 x y z->A1 x y z->A2 x y z->G):G:=h.elim λx h=>h.elim λy h=>h.elim λz h=>g x y z h.1 h.2.1 h.2.2
theorem nG{α β γ : Sort _}{A0 A1 A2 A3:α->β->γ->Prop}{G:Prop}(h:∃x y z,A0 x y z/\A1 x y z/\A2 x y z/\A3 x y z)(g:∀x y z,A0 x y z->A1 x y z->A2 x y z->A3 x y z->G):G:=h.elim λx h=>h.elim λy h=>h.elim λz h=>g x y z h.1 h.2.1 h.2.2.1 h.2.2.2
theorem fq{α β γ : Sort _}{A0 A1 A2 A3 A4:α->β->γ->Prop}{G:Prop}(h:∃x y z,A0 x y z/\A1 x y z/\A2 x y z/\A3 x y z/\A4 x y z)(g:∀x y z,A0 x y z->A1 x y z->A2 x y z->A3 x y z->A4 x y z->G):G:=h.elim λx h=>h.elim λy h=>h.elim λz h=>g x y z h.1 h.2.1 h.2.2.1 h.2.2.2.1 h.2.2.2.2
theorem VY{α β γ : Sort _}{A0 A1 A2 A3 A4 A5:α->β->γ->Prop}{G:Prop}(h:∃x y z,A0 x y z/\A1 x y z/\A2 x y z/\A3 x y z/\A4 x y z/\A5 x y z)(g:∀x y z,A0 x y z->A1 x y z->A2 x y z->A3 x y z->A4 x y z->A5 x y z->G):G:=h.elim λx h=>h.elim λy h=>h.elim λz h=>g x y z h.1 h.2.1 h.2.2.1 h.2.2.2.1 h.2.2.2.2.1 h.2.2.2.2.2
theorem vm{α β γ : Sort _}{A0 A1 A2 A3 A4 A5 A6:α->β->γ->Prop}{G:Prop}(h:∃x y z,A0 x y z/\A1 x y z/\A2 x y z/\A3 x y z/\A4 x y z/\A5 x y z/\A6 x y z)(g:∀x y z,A0 x y z->A1 x y z->A2 x y z->A3 x y z->A4 x y z->A5 x y z->A6 x y z->G):G:=h.elim λx h=>h.elim λy h=>h.elim λz h=>g x y z h.1 h.2.1 h.2.2.1 h.2.2.2.1 h.2.2.2.2.1 h.2.2.2.2.2.1 h.2.2.2.2.2.2
theorem VZ{α β γ δ : Sort _}{A0:α->β->γ->δ->Prop}{G:Prop}(h:∃x y z u,A0 x y z u)(g:∀x y z u,A0 x y z u->G):G:=h.elim λx h=>h.elim λy h=>h.elim λz h=>h.elim λu h=>g x y z u h
theorem zq{α β γ δ : Sort _}{A0 A1:α->β->γ->δ->Prop}{G:Prop}(h:∃x y z u,A0 x y z u/\A1 x y z u)(g:∀x y z u,A0 x y z u->A1 x y z u->G):G:=h.elim λx h=>h.elim λy h=>h.elim λz h=>h.elim λu h=>g x y z u h.1 h.2
theorem Gi{α β γ δ : Sort _}{A0 A1 A2:α->β->γ->δ->Prop}{G:Prop}(h:∃x y z u,A0 x y z u/\A1 x y z u/\A2 x y z u)(g:∀x y z u,A0 x y z u->A1 x y z u->A2 x y z u->G):G:=h.elim λx h=>h.elim λy h=>h.elim λz h=>h.elim λu h=>g x y z u h.1 h.2.1 h.2.2
theorem Gj{α β γ δ : Sort _}{A0 A1 A2 A3:α->β->γ->δ->Prop}{G:Prop}(h:∃x y z u,A0 x y z u/\A1 x y z u/\A2 x y z u/\A3 x y z u)(g:∀x y z u,A0 x y z u->A1 x y z u->A2 x y z u->A3 x y z u->G):G:=h.elim λx h=>h.elim λy h=>h.elim λz h=>h.elim λu h=>g x y z u h.1 h.2.1 h.2.2.1 h.2.2.2
theorem Gk{α β γ δ : Sort _}{A0 A1 A2 A3 A4:α->β->γ->δ->Prop}{G:Prop}(h:∃x y z u,A0 x y z u/\A1 x y z u/\A2 x y z u/\A3 x y z u/\A4 x y z u)(g:∀x y z u,A0 x y z u->A1 x y z u->A2 x y z u->A3 x y z u->A4 x y z u->G):G:=h.elim λx h=>h.elim λy h=>h.elim λz h=>h.elim λu h=>g x y z u h.1 h.2.1 h.2.2.1 h.2.2.2.1 h.2.2.2.2
theorem V0{α β γ δ : Sort _}{A0 A1 A2 A3 A4 A5:α->β->γ->δ->Prop}{G:Prop}(h:∃x y z u,A0 x y z u/\A1 x y z u/\A2 x y z u/\A3 x y z u/\A4 x y z u/\A5 x y z u)(g:∀x y z u,A0 x y z u->A1 x y z u->A2 x y z u->A3 x y z u->A4 x y z u->A5 x y z u->G):G:=h.elim λx h=>h.elim λy h=>h.elim λz h=>h.elim λu h=>g x y z u h.1 h.2.1 h.2.2.1 h.2.2.2.1 h.2.2.2.2.1 h.2.2.2.2.2
theorem zr{α β γ δ ε : Sort _}{A0 A1 A2 A3:α->β->γ->δ->ε->Prop}{G:Prop}(h:∃x y z u v,A0 x y z u v/\A1 x y z u v/\A2 x y z u v/\A3 x y z u v)(g:∀x y z u v,A0 x y z u v->A1 x y z u v->A2 x y z u v->A3 x y z u v->G):G:=h.elim λx h=>h.elim λy h=>h.elim λz h=>h.elim λu h=>h.elim λv h=>g x y z u v h.1 h.2.1 h.2.2.1 h.2.2.2
theorem V3{α β γ δ ε ζ : Sort _}{A0 A1:α->β->γ->δ->ε->ζ->Prop}{G:Prop}(h:∃x y z u v w,A0 x y z u v w/\A1 x y z u v w)(g:∀x y z u v w,A0 x y z u v w->A1 x y z u v w->G):G:=h.elim λx h=>h.elim λy h=>h.elim λz h=>h.elim λu h=>h.elim λv h=>h.elim λw h=>g x y z u v w h.1 h.2
theorem BF{n:Nat}(h:n<4):n=0\/n=1\/n=2\/n=3:=(by decide:∀n<4,n=0\/n=1\/n=2\/n=3) n h
theorem gm{n m:Nat}(h:Nat.blt n m=true):n<m:=eM h
theorem eD{b:Bool}(h:(!b)=true):b=false:=by cases b<;>first | rfl | exact aC h
theorem nR{a b c:Bool}(h:(a&&b&&c)=true):(a=true/\b=true)/\c=true:=⟨aD (aD h).1,(aD h).2⟩
theorem H6{a:Nat}:a<=a+1+1:=cq (et a.succ 1)
theorem Ik{a:Nat}:a<a+1+1:=cq (dT a.succ)
theorem se{a:Nat}:0<a->(a:Int)≠0:=λh e=>dU h (Int.ofNat.inj e)
theorem vA{a:Nat}:0<=(a:Int):=by simp +arith
theorem G2{a b:Nat}:0<=((a%b):Int):=Int.natCast_nonneg _
theorem nS{a b c:Nat}:a=b+1->c<b->c<a:=λh0 h1=>by subst h0;exact iB h1
theorem r9{a b c:Nat}:a=b->c<b->c<a:=by intros;subst_vars;omega
theorem Hz{a b c:Nat}:a=b+1->a<=c->¬b=c:=λh0 h1=>by subst h0;exact dE h1
theorem jS{a b:Nat}:a=b+1->b<a:=λa_1=>cb (id (bU a_1))
theorem HR{a b c d e f:Nat}{g h:Prop}:a=b+1->a<=c->d=c+1->e<f/\f<b/\g/\h->d≠f:=λh0 h1 h2 h3=>by subst h2;subst h0;exact lH (bx h3.2.1 (xN (k0 h1)))
theorem Il{a b:Nat}:a=b+1->b<=a:=λh0=>by subst h0;exact hB
theorem zV{a b:Nat}:a=b+1->a+1=b+2:=by intros;subst_vars;rfl
theorem IG{a b:Nat}:a=b+2->b<a:=λh0=>by subst h0;exact iB jq
theorem IQ{a b c:Nat}:a=b+1->c=b+2->a<c:=λh0 h1=>by subst h1;subst h0;exact jq
theorem zW{a b:Nat}:a=b+1->¬a=b:=λh0=>by subst h0;exact qV jq
theorem IZ{a b:Nat}:a=b->a<b+1:=λh0=>by subst h0;exact jq
theorem vz{a:Nat}:a<3->1+a<=3:=ak [a] 1 0x182001a510000522000d30 rfl
theorem I2{a b:Nat}:a+1000=b+1000->a=b:=by simp +arith
theorem zY{a b c:Nat}:a<b->c=b->a<c:=by intros;subst_vars;omega
theorem I3{a b f g:Nat}{c d e h i j:Prop}:a=b->c/\d/\e/\f=a+g/\h/\i/\j->f=b+g:=λh0 h1=>by subst h0;exact h1.2.2.2.1
theorem I4{a b c:Nat}:a=b->b<=c->a<=c:=by intros;subst_vars;omega
theorem I5{a b c g h:Nat}{d e f i j k:Prop}:a=b+1->c=a->d/\e/\f/\g=c+h/\i/\j/\k->g=b+(h+1):=λx y z=>ak [a,b,c,g,h] 5 0x18c61a10000a69198d1494c7090d0000a630 rfl x y z.2.2.2.1
theorem I6{a b c:Nat}:a=b+1->c=a->b<c:=λh0 h1=>by subst h1;subst h0;exact jq
theorem I7{a b:Nat}:a=b+1->¬b=a:=λh0=>by subst h0;exact dE jq
theorem I8{a b c:Nat}:a=b+1->c=a+1->b<c:=λh0 h1=>by subst h1;subst h0;exact hB
theorem zZ{a b:Nat}:a=b+1->a≠b:=λh0=>by subst h0;exact qV jq
theorem I9{a b c d:Nat}:a=b+1->c=a+1->b+2<=d->c<=d:=λh0 h1 h2=>by subst h1;subst h0;exact h2
theorem z0{a b c:Nat}:a=b+1->c<b->¬c=a:=λh0 h1=>by subst h0;exact dE (iB h1)
theorem G3{a:Nat}:a%2=1->a=2*(a/2)+1:=λh=>by have e:=Nat.div_add_mod a 2;rw[h] at e;exact e.symm
theorem vy{a:Nat}:¬a=0->¬a%2=1->a=2*(a/2 - 1)+2:=λh1 h2=>by have e:=Nat.div_add_mod a 2;rw[(Nat.mod_two_eq_zero_or_one a).resolve_right h2] at e;cases z:a/2 with | zero=>rw[z] at e;exact absurd e.symm h1 | succ n=>rw[z] at e;exact e.symm
theorem G4{a b c:Nat}:a+1<=b/\b<a+1+c->b - a=b - (a+1)+1:=ak [a,b,c,b - a,b - (a+1)] 5 0x631868000534990489200014c2218a00014c0a4180009a050000a61120e2840002985031400029814830001330c2241c51098630 rfl (zs b a) (zs b (a+1))
theorem rZ{a:Nat}:1<=a->a<=3->a=1\/a=2\/a=3:=ak [a] 1 0x6314a3000d3018004980c0014c02001a601800029 rfl
theorem G5{a:Nat}:2*a+2=2*(a+1):=by intros;subst_vars;rfl
theorem zJ{a b:Nat}:a+102=b->102+a=b:=ak [a,b] 2 0x187144006648e28019930 rfl
theorem G6{a:Nat}:¬(102<=2/\2<102+a):=ak [a] 1 0x18e4122003324002484002480cc9 rfl
theorem G7{a b c:Nat}:a=b->0+1+1+1+1+1+1+2*a<=6+2*b+c:=λh0=>by subst h0;exact hB
theorem G8{a b c:Nat}:a=b->6+2*b+c - (0+1+1+1+1+1+1+2*a)=c:=λh=>by subst h;exact Nat.add_sub_cancel_left _ _
theorem G9{a b c d:Nat}:a=b->c=b->d<c->d<a:=by intros;subst_vars;omega
theorem G'{a:Nat}:104<=a->¬a - 1=a:=ak [a,a - 1] 2 0x6318e38443001a12520c0004c42000a6041c10000a621800029 rfl (zs a 1)
theorem Ha{a b c d:Nat}:a=b->c+2<=d->a=c - 1\/a=c->b=d - 1\/b=d->False:=ak [a,b,c,d,c - 1,d - 1] 6 0x6318c631ca39c4758947280e900cd000126438c0a4180009a840014cc839a00014d43300052520c0004d02000a6441c90000a681900029 rfl (zs c 1) (zs d 1)
theorem zK{a:Nat}:a<4->1+a<=4:=ak [a] 1 0x1820022510000522001130 rfl
theorem Hb{a b:Nat}:104<=a->b=a+1->103<=a/\a<b:=λh k=>by subst k;exact⟨k0 h,jq⟩
theorem Hc{a b c:Nat}:103<=a/\a<b->c=b->103<=a/\a<c:=by intros;subst_vars;omega
theorem zL{a b c:Nat}:a=b->104<=c/\c<b->104<=c/\c<a:=by intros;subst_vars;omega
theorem Hd{a b:Nat}:104<=a->b=a->104<=b:=by intros;subst_vars;omega
theorem He{a b c:Nat}:a<b->c=b->¬a=c:=λh0 h1=>by subst h1;exact dE h0
theorem Hf{a:Nat}:1+(a:Int)=((1+a):Int):=by intros;subst_vars;rfl
theorem Hg{a b c d:Nat}:1+a<=4->b=1+a->c<=8*min d b->c<=32:=λh e k=>au k (gc 8 (au (Nat.min_le_right d b) (au (cb e) h)))
theorem Hh{a b:Nat}:a<=4->a - 0+40+1<=b+197:=λh=>au (iY h 41) (au (ce rfl:45<=197) c9)
theorem Hi{a:Nat}:40<=a->a=a - 20+20:=λh=>sc (au (by decide) h)
theorem zM{a b:Nat}:a<b->b - a=b - a - 1+1:=λh=>sc (Nat.sub_pos_of_lt h)
theorem zN{a b:Nat}:min a b<=a:=Nat.min_le_left a b
theorem zO{a b c:Nat}:a=b->c<b->c<=a:=λh0 h1=>by subst h0;exact cq h1
theorem Hj{a b c:Nat}:a<=4->b=a->min c b<=100:=ak [a,b,min c b,c] 4 0x18c6080c8990e11080089814838c8338907390633 rfl (zm c b)
theorem Hk{a b c:Nat}:103<=a/\a<b/\c≠a->a<b:=λh0=>h0.2.1
theorem lb{a b c:Nat}:a - b=c+1->a - (b+1)=c:=λh=>(Nat.sub_add_eq a b 1).trans (ay (· - 1) h)
theorem Hl{a b c:Nat}:a=b+1->103<=c/\c<b->103<=b/\b<a/\c≠b:=ak [a,b,c] 3 0x63108638e3214221880ce920a320c806748d0000a630 rfl
theorem zP{a b:Nat}:a<=4->b=a->b<=4:=by intros;subst_vars;omega
theorem Hm{a:Nat}:9<=a+191:=by simp +arith
theorem Hn{a b c:Nat}:a=b+2+c->b<=a:=λh0=>by subst h0;exact tT hB
theorem Ho{a:Nat}:a<10->a+1<=10:=λa=>a
theorem zQ{a:Nat}:a<102->a≠102:=λa_1=>bz a_1
theorem Hp{a b:Nat}:103<=a/\a<b->a≠102:=λh0=>qV h0.1
theorem Hq{a b c d e:Nat}:a=b+2+c->103<=d/\d<b->e=a->103<=d/\d<e:=ak [a,b,c,d,e] 5 0x631882a4c33019d23850828cc33019d2344900012630 rfl
theorem Hr{a b c d e:Nat}:104<=a->a<b->c=b+2+d->e=c->104<=e:=ak [a,b,c,d,e] 5 0x6318c1a00d091ca8344d0001263214601800d09 rfl
theorem Ht{a b:Nat}:104<=a/\a<b->a≠102:=λh0=>qV (cq h0.1)
theorem Hu{a:Nat}:a=103->a+1=104:=by intros;subst_vars;rfl
theorem Hv{a b:Nat}:a=103->b<102->b≠a:=λh0 h1=>by subst h0;exact dE (iB h1)
theorem Hw{a:Nat}:a=104->103<=103/\103<a:=λh0=>by subst h0;exact⟨c9,c9⟩
theorem Hx{a:Nat}:a=103->102≠a:=λh0=>by subst h0;exact dE c9
theorem Hy{a b:Nat}:103<=a/\a<b->103<=a/\a<b:=by intros;subst_vars;omega
theorem HA{a b c:Nat}:a=b->c+4<=b->c+4<=a:=by intros;subst_vars;omega
theorem zR{a b:Nat}:a<b->a<b:=by intros;subst_vars;omega
theorem HC{a b:Nat}:104<=a/\a<b->a - 1≠2:=ak [a,b,a - 1] 3 0x18c638c0024c8828c03001a12520c0004c82000a6041c10000a641800029 rfl (zs a 1)
theorem HD{a b:Nat}:a=b+4->b+2<a:=λh0=>by subst h0;exact iB jq
theorem HE{a b c d:Nat}:a<b->b<=c->104<=d/\d<a->d<c:=λh1 h2 k=>bx (bL k.2 h1) h2
theorem HF{a b c d:Nat}:a<b->b<=c->104<=d/\d<a->d - 1<c:=λh1 h2 g=>dx (Nat.sub_le d 1) (bx (bL g.2 h1) h2)
theorem HG{a b:Nat}:a+4<=b->a+1<b:=λh=>au (lk rfl:a+2<=a+4) h
theorem HH{a b c d:Nat}:a=b+1->c=a+2+d->b+1<c:=ak [a,b,c,d] 4 0x630a480005311a26800093090d0000a630 rfl
theorem HI{a b c d:Nat}:a=b+1->c=a+2+d->b+2<c:=ak [a,b,c,d] 4 0x630a480009311a26800093090d0000a630 rfl
theorem HJ{a b:Nat}:a=b+1->b+2=a+1:=by intros;subst_vars;rfl
theorem HK{a b:Nat}:a=b+3->b+4=a+1:=by intros;subst_vars;rfl
theorem HL{a b c:Nat}:a=b+1->c<=b->c<=a:=λh0 h1=>by subst h0;exact xN h1
theorem HM{a b c:Nat}:a=b->c<=b->c<=a:=by intros;subst_vars;omega
theorem HN{a b:Nat}:a=b->b<=3->a<=10:=λh0 h1=>by subst h0;exact au h1 c9
theorem HO{a b:Nat}:a<b->0<(b:Int) - (a:Int):=by simp +arith
theorem HQ{a:Nat}:((a+1):Int)=(a:Int)+1:=by intros;subst_vars;rfl
theorem zS{a:Nat}:a=0->0=(a:Int):=by intros;subst_vars;rfl
theorem zT{a b c d:Nat}:a+60<b->c<=8->a+min (c+1) (d+1)<b:=ak [a,b,c,min (c+1) (d+1),d] 5 0x18c6145138040084c85140078981483400029a4c28000532400029a10680005329850000a688000532 rfl (zm (c+1) (d+1))
theorem sd{a b c d:Nat}:a+60<b->c<=8->a+1+min c d<b:=ak [a,b,c,min c d,d] 5 0x18c6145134000298040084c85140078981483a4c32a107298692 rfl (zm c d)
theorem HS{a b:Nat}:a+1<=b->0<=Int.negSucc a+(b:Int)/\Int.negSucc a+(b:Int)<(b:Int):=λh=>(show Int.negSucc a+(b:Int)=_ from Int.subNatNat_of_le h).symm▸⟨Int.natCast_nonneg _,Int.ofNat_lt.mpr (Nat.sub_lt (bx (Nat.succ_pos a) h) (Nat.succ_pos a))⟩
theorem HT{a b:Nat}:¬a<=b->¬(a:Int)<(b:Int):=λh k=>h (cq (Int.ofNat_lt.mp k))
theorem HU{a b c:Nat}:((a:Int)=0/\True)/\b - a=c->b=c:=λh=>by have z:a=0:=Int.ofNat.inj h.1.1;subst z;exact h.2
theorem HV{a b:Nat}:a<=b+1->a<=b+1:=by intros;subst_vars;omega
theorem HW{a b:Nat}:a=b+1->a - 1<a:=λe=>by subst e;exact dT b
theorem HX{a b:Nat}:a=b+1->a - 1=b:=by intros;subst_vars;rfl
theorem HY{a b c:Nat}:a<=b->¬a<=c->13+(b+1 - a+c)<=b+14:=ak [a,b,c,(b+1) - a] 4 0x18c60a000e4c50894c00d498e194031814830001330c10000a6241a00014c5109850000a630 rfl (zs (b+1) a)
theorem HZ{a b c:Nat}:a<=b->a+(b+1 - a+c)=b+1+c:=ak [a,b,(b+1) - a,c] 4 0x630d134000298a11394031814830001320c10000a6241a00014c5109050000a630 rfl (zs (b+1) a)
theorem H1{a b:Nat}:a<=b->a=b+1->False:=λh0 h1=>by subst h1;exact dE h0 rfl
theorem H3{a b:Nat}:min a b - 0+1+(min b b - a)=b+1:=ak [(min a b) - 0,(min b b) - a,b,min a b,min b b,a] 6 0x18c630d0000a6488a00014c0a41ca8194883950329148394c35910759865529060002621ad083a22b10d2a520c0004c0200026641cd00002601980009 rfl (zs (min a b) 0) (zs (min b b) a) (zm a b) (zm b b)
theorem H4{a b c:Nat}:a<b+1->c<a->c<b:=λh k=>bx k (jK h)
theorem H5{a b c:Nat}:a<10*b->c<a->c<10*b:=λh k=>bL k h
theorem H7{a:Nat}:a<a+1:=dT a
theorem H8{a b:Nat}{c:Prop}:2<=a->b=a->b=0->c:=λh0 h1 h2=>by subst h2;subst h1;exact vw h0 c9
theorem H9{a b:Nat}:2<=a->b=a->1<b:=λh0 h1=>by subst h1;exact h0
theorem H'{a b c d:Nat}:a<=4->b - c=d+1->b=a->c<=16777216:=ak [a,b - c,d,b,c] 5 0xc63183000288004d07098d0000a651080089814830001310d2641cd1488674 rfl (zs b c)
theorem Ia{a b:Nat}:a<b->a=b->False:=λh0 h1=>by subst h1;exact dE h0 rfl
theorem Ib{a:Nat}:0<a->0<(a:Int):=by simp
theorem zU{a:Nat}{b:Int}:0<a->b%(a:Int)<(a:Int)->(b%(a:Int)).toNat<a:=λh k=>Int.ofNat_lt.mp ((Int.toNat_of_nonneg (Int.emod_nonneg b λe=>dU h (Int.ofNat.inj e))).symm▸k)
theorem Ie{a b:Nat}{c d:Prop}:a<=b->a=b+1->c/\d:=λh0 h1=>by subst h1;exact vw h0 Nat.le.refl
theorem Ig{a b c:Nat}:a<=b->a=c->c<=b:=λh0 h1=>by subst h1;exact h0
theorem Ih{a b:Nat}:a=b+2->b<=a:=λh0=>by subst h0;exact hB
theorem Ii{a b c:Nat}:a=b+1->c<b->c≠a:=λh0 h1=>by subst h0;exact dE (iB h1)
theorem Ij{a b:Nat}:a=b+1->b≠a:=λh0=>by subst h0;exact dE jq
theorem Im{a b c:Nat}:a<b->c=b+1->¬a+1=c:=λh0 h1=>by subst h1;exact dE (Nat.lt_succ_of_le h0)
theorem Io{a b c:Nat}:a<b->c=b+2->a<=c:=λh k=>by subst k;exact au (cq h) hB
theorem Ip{a b c:Nat}:a<b->c=b+2->a<c:=λh k=>by subst k;exact bx h hB
theorem Iq{a b c:Nat}:a<b->c=b+2->a+1<c:=λh0 h1=>by subst h1;exact iB (Nat.lt_succ_of_le h0)
theorem bX{α : Type _}{G:Prop}(o:Option α)(h:o=none->G)(k:∀x,o=some x->G):G:=by cases o with | none=>exact h rfl | some x=>exact k x rfl
theorem lN{α : Type _}{G:Prop}(o:Option α)(k:∀x,o=some x->G)(h:o=none->G):G:=bX o h k
theorem gn{G:Prop}(b:Bool)(h:b=false->G)(k:b=true->G):G:=by cases b with | false=>exact h rfl | true=>exact k rfl
theorem mm{G:Prop}(b:Bool)(k:b=true->G)(h:b=false->G):G:=gn b h k
theorem V2{α β γ δ : Sort _}{A0 A1 A2 A3 A4 A5 A6 A7:α->β->γ->δ->Prop}{G:Prop}(h:∃x y z u,A0 x y z u/\A1 x y z u/\A2 x y z u/\A3 x y z u/\A4 x y z u/\A5 x y z u/\A6 x y z u/\A7 x y z u)(g:∀x y z u,A0 x y z u->A1 x y z u->A2 x y z u->A3 x y z u->A4 x y z u->A5 x y z u->A6 x y z u->A7 x y z u->G):G:=h.elim λx h=>h.elim λy h=>h.elim λz h=>h.elim λu h=>g x y z u h.1 h.2.1 h.2.2.1 h.2.2.2.1 h.2.2.2.2.1 h.2.2.2.2.2.1 h.2.2.2.2.2.2.1 h.2.2.2.2.2.2.2
theorem Gm{α β γ δ ε : Sort _}{A0 A1 A2 A3 A4 A5 A6 A7:α->β->γ->δ->ε->Prop}{G:Prop}(h:∃x y z u v,A0 x y z u v/\A1 x y z u v/\A2 x y z u v/\A3 x y z u v/\A4 x y z u v/\A5 x y z u v/\A6 x y z u v/\A7 x y z u v)(g:∀x y z u v,A0 x y z u v->A1 x y z u v->A2 x y z u v->A3 x y z u v->A4 x y z u v->A5 x y z u v->A6 x y z u v->A7 x y z u v->G):G:=h.elim λx h=>h.elim λy h=>h.elim λz h=>h.elim λu h=>h.elim λv h=>g x y z u v h.1 h.2.1 h.2.2.1 h.2.2.2.1 h.2.2.2.2.1 h.2.2.2.2.2.1 h.2.2.2.2.2.2.1 h.2.2.2.2.2.2.2
theorem Gl{α β γ δ ε : Sort _}{A0 A1 A2 A3 A4 A5 A6 A7 A8 A9:α->β->γ->δ->ε->Prop}{G:Prop}(h:∃x y z u v,A0 x y z u v/\A1 x y z u v/\A2 x y z u v/\A3 x y z u v/\A4 x y z u v/\A5 x y z u v/\A6 x y z u v/\A7 x y z u v/\A8 x y z u v/\A9 x y z u v)(g:∀x y z u v,A0 x y z u v->A1 x y z u v->A2 x y z u v->A3 x y z u v->A4 x y z u v->A5 x y z u v->A6 x y z u v->A7 x y z u v->A8 x y z u v->A9 x y z u v->G):G:=h.elim λx h=>h.elim λy h=>h.elim λz h=>h.elim λu h=>h.elim λv h=>g x y z u v h.1 h.2.1 h.2.2.1 h.2.2.2.1 h.2.2.2.2.1 h.2.2.2.2.2.1 h.2.2.2.2.2.2.1 h.2.2.2.2.2.2.2.1 h.2.2.2.2.2.2.2.2.1 h.2.2.2.2.2.2.2.2.2
theorem Gn{α β γ δ ε ζ η : Sort _}{A0 A1 A2 A3 A4 A5 A6 A7:α->β->γ->δ->ε->ζ->η->Prop}{G:Prop}(h:∃x y z u v w s,A0 x y z u v w s/\A1 x y z u v w s/\A2 x y z u v w s/\A3 x y z u v w s/\A4 x y z u v w s/\A5 x y z u v w s/\A6 x y z u v w s/\A7 x y z u v w s)(g:∀x y z u v w s,A0 x y z u v w s->A1 x y z u v w s->A2 x y z u v w s->A3 x y z u v w s->A4 x y z u v w s->A5 x y z u v w s->A6 x y z u v w s->A7 x y z u v w s->G):G:=h.elim λx h=>h.elim λy h=>h.elim λz h=>h.elim λu h=>h.elim λv h=>h.elim λw h=>h.elim λs h=>g x y z u v w s h.1 h.2.1 h.2.2.1 h.2.2.2.1 h.2.2.2.2.1 h.2.2.2.2.2.1 h.2.2.2.2.2.2.1 h.2.2.2.2.2.2.2
theorem Go{α β γ δ ε ζ η : Sort _}{A0 A1 A2 A3 A4 A5 A6 A7 A8:α->β->γ->δ->ε->ζ->η->Prop}{G:Prop}(h:∃x y z u v w s,A0 x y z u v w s/\A1 x y z u v w s/\A2 x y z u v w s/\A3 x y z u v w s/\A4 x y z u v w s/\A5 x y z u v w s/\A6 x y z u v w s/\A7 x y z u v w s/\A8 x y z u v w s)(g:∀x y z u v w s,A0 x y z u v w s->A1 x y z u v w s->A2 x y z u v w s->A3 x y z u v w s->A4 x y z u v w s->A5 x y z u v w s->A6 x y z u v w s->A7 x y z u v w s->A8 x y z u v w s->G):G:=h.elim λx h=>h.elim λy h=>h.elim λz h=>h.elim λu h=>h.elim λv h=>h.elim λw h=>h.elim λs h=>g x y z u v w s h.1 h.2.1 h.2.2.1 h.2.2.2.1 h.2.2.2.2.1 h.2.2.2.2.2.1 h.2.2.2.2.2.2.1 h.2.2.2.2.2.2.2.1 h.2.2.2.2.2.2.2.2
theorem IY{a b:Nat}:¬a=0->¬a%2=1->¬b=0->¬b%2=1->¬b=a->¬b/2 - 1=a/2 - 1:=λh1 h2 h3 h4 h5 e=>h5 ((vy h3 h4).trans ((ay (λx=>2*x+2) e).trans (vy h1 h2).symm))
theorem Ir{a b c:Nat}:a<=b->b - a<=c->c<=b->a=b - c+(c - (b - a)):=ak [a,b,b - a,c,b - c,c - (b - a)] 6 0x6318c630d15a4031986720c60520c0004d4329907344aa19c8a4180009a067120e289d031994830001320c2241c51090630 rfl (zs b a) (zs b c) (zs c (b - a))
theorem It{a b c d:Nat}:a<=b->c<=b->a=b - c+d->b=a+(c - d):=ak [a,b,c,b - c,d,c - d] 6 0x18c631868ac223452700c6418c0a4180009a869220e48a5432a14830001330ca241c51298632 rfl (zs b c) (zs c d)
theorem Iu{a b c:Nat}:a - b<=c->a - c<=b:=ak [a - b,c,a - c,b,a] 5 0x18c60ce418c0a41800099063420e888c834894830001300ce841d11380693 rfl (zs a b) (zs a c)
theorem Iv{a:Nat}:108+2*a+1=109+2*a:=ak [a] 1 0x340004a800da940002940004a800d89 rfl
theorem Iw{a:Nat}:¬a<102->a=102+(a - 102):=ak [a,a - 102] 2 0x630d1101993031c4033260520c0004c4203326041c100332621800cc9 rfl (zs a 102)
theorem Ix{b:Nat}{a:Prop}:a/\102+b=2->False:=λh=>ak [b] 1 1793277115957775561 rfl h.2
theorem Iy{a b:Nat}:104<=a/\a<b->a - 1≠102:=ak [a,b,a - 1] 3 0x18c638c0664c8828c03001a12520c0004c82000a6041c10000a641800029 rfl (zs a 1)
theorem Iz{a b:Nat}:¬a<b->a<b+1->a=b:=ak [a,b] 2 0x630e301200014c60638a30 rfl
theorem IA{a b:Nat}:104<=a->a<b->b+1≠102:=ak [a,b] 2 0x6318e301992800053114601800d09 rfl
theorem IB{a b:Nat}:104<=a->a<b->b+1 - 1≠102:=ak [a,b,(b+1) - 1] 3 0x18c631c603326428c03001a12520c0004c82000a50000a6241a00014c50000a641400029880029 rfl (zs (b+1) 1)
theorem ID{a b c:Nat}:a=b+1->104<=c/\c<b->c+2<=a:=ak [a,b,c] 3 0x63060800093220a320c806848d0000a630 rfl
theorem IE{a b c d e f:Nat}:104<=a->a<b->c=b+2+d->e=c->f=b+1->104<=f/\f<e:=ak [a,b,c,d,e,f] 6 0x6318c620a950d406848d0000a6351ca8344d0001263214601800d09 rfl
theorem IF{a b c:Nat}:a=b+1->c=a->¬b=c:=ak [a,b,c] 3 0x6318e39447090d0000a630 rfl
theorem II{a b c d:Nat}:a=b+1->c=a+1->d=c->¬b=d:=ak [a,b,c,d] 4 0x6318c71ce2394c6800053090d0000a630 rfl
theorem IJ{a b:Nat}:min a b<=b:=ak [min a b,b,a] 3 0x1831814838c0328907280632 rfl (zm a b)
theorem IK{c d:Nat}{a b e:Prop}:(((a/\b)/\c<=15)/\c=d)/\e->c<=16777216:=λh=>ak [c] 1 0xc1800144002601003d30 rfl h.1.1.2
theorem IN{a:Nat}:a+9 - a<=9:=ak [(a+9) - a,a] 2 0x6080129814830001300c50004a6241a00094c5118050004a631 rfl (zs (a+9) a)
theorem IP{a:Nat}:a - a<=9:=ak [a - a,a] 2 0x6080129814830001300c6241c51180631 rfl (zs a a)
theorem IR{a:Nat}:0<a+9+1 - a:=ak [((a+9)+1) - a,a] 2 0x6140000494830001300c50000a50004a6241a00014a00094c5118050000a50004a631 rfl (zs ((a+9)+1) a)
theorem IS{a:Nat}:0<a+1 - a:=ak [(a+1) - a,a] 2 0x6140000494830001300c50000a6241a00014c5118050000a631 rfl (zs (a+1) a)
theorem zX{a b:Nat}:a<76->b ≥ 1000->a+1<=b:=ak [a,b] 2 0x18c18a00014c0310fa122013130 rfl
theorem IT{a b c:Nat}:a<b->c=b+1->¬a=c:=ak [a,b,c] 3 0x6318e39406800053190a30 rfl
theorem IU{a b:Nat}:a+1<b->¬a+1=b:=ak [a,b] 2 0x631c7140002980a28000530 rfl
theorem IV{a b c d e f:Nat}:a=b+1->c=a->d=c+1->e=d+1->f=e->¬b=f:=ak [a,b,c,d,e,f] 6 0x6318c631c7588e951a00014ce8340002994c7090d0000a630 rfl
theorem IW{a b:Nat}:a+2<=b->b<=8->a<=6:=ak [a,b] 2 0x18c100193008010988628000930 rfl
theorem IX{a b c:Nat}:a<=400->b<=32->c<=8->a+b+c<=1000:=ak [a,b,c] 3 0x18c6087d09449118040084c820102621064130 rfl
theorem qR{n k:Nat}(h:n<k)(q:Nat.blt k 9223372036854775808=true:=by rfl):(n:Int)<2 ^ 63:=Int.ofNat_lt.mpr (bL h (eM q))
theorem cps{P:Prop}(h:∀G:Prop,(P->G)->G):P:=h P id
theorem TC{α : Sort _}{τ:Sort _}{v0:τ}{f:α->τ}{G:τ->Prop}(h:∃x,f x=v0)(g:∀x,G (f x)):G v0:=h.elim λx h=>(h)▸g x
theorem yO{α : Sort _}{τ:Sort _}{v0:τ}{f:α->τ}{A1:α->Prop}{G:τ->Prop}(h:∃x,v0=f x/\A1 x)(g:∀x,A1 x->G (f x)):G v0:=h.elim λx h=>(h.1).symm▸g x h.2
theorem bP{A0 A1 A2:Prop}(h0:A0)(h1:A1)(h2:A2):A0/\A1/\A2:=⟨h0,h1,h2⟩
theorem QJ{A0 A1 A2 A3:Prop}(h0:A0)(h1:A1)(h2:A2)(h3:A3):A0/\A1/\A2/\A3:=⟨h0,h1,h2,h3⟩
theorem hV{A0 A1 A2 A3 A4:Prop}(h0:A0)(h1:A1)(h2:A2)(h3:A3)(h4:A4):A0/\A1/\A2/\A3/\A4:=⟨h0,h1,h2,h3,h4⟩
theorem oY{A0 A1 A2 A3 A4 A5 A6:Prop}(h0:A0)(h1:A1)(h2:A2)(h3:A3)(h4:A4)(h5:A5)(h6:A6):A0/\A1/\A2/\A3/\A4/\A5/\A6:=⟨h0,h1,h2,h3,h4,h5,h6⟩
theorem QK{A0 A1 A2 A3 A4 A5 A6 A7:Prop}(h0:A0)(h1:A1)(h2:A2)(h3:A3)(h4:A4)(h5:A5)(h6:A6)(h7:A7):A0/\A1/\A2/\A3/\A4/\A5/\A6/\A7:=⟨h0,h1,h2,h3,h4,h5,h6,h7⟩
theorem Dq{A0 A1 A2 A3 A4 A5 A6 A7 A8:Prop}(h0:A0)(h1:A1)(h2:A2)(h3:A3)(h4:A4)(h5:A5)(h6:A6)(h7:A7)(h8:A8):A0/\A1/\A2/\A3/\A4/\A5/\A6/\A7/\A8:=⟨h0,h1,h2,h3,h4,h5,h6,h7,h8⟩
theorem ao{α : Sort _}{A0 A1:α->Prop}(x:α)(h0:A0 x)(h1:A1 x):∃x,A0 x/\A1 x:=⟨x,h0,h1⟩
theorem cL{α : Sort _}{A0 A1 A2:α->Prop}(x:α)(h0:A0 x)(h1:A1 x)(h2:A2 x):∃x,A0 x/\A1 x/\A2 x:=⟨x,h0,h1,h2⟩
theorem QL{α : Sort _}{A0 A1 A2 A3:α->Prop}(x:α)(h0:A0 x)(h1:A1 x)(h2:A2 x)(h3:A3 x):∃x,A0 x/\A1 x/\A2 x/\A3 x:=⟨x,h0,h1,h2,h3⟩
theorem t4{α : Sort _}{A0 A1 A2 A3 A4:α->Prop}(x:α)(h0:A0 x)(h1:A1 x)(h2:A2 x)(h3:A3 x)(h4:A4 x):∃x,A0 x/\A1 x/\A2 x/\A3 x/\A4 x:=⟨x,h0,h1,h2,h3,h4⟩
theorem QM{α : Sort _}{A0 A1 A2 A3 A4 A5:α->Prop}(x:α)(h0:A0 x)(h1:A1 x)(h2:A2 x)(h3:A3 x)(h4:A4 x)(h5:A5 x):∃x,A0 x/\A1 x/\A2 x/\A3 x/\A4 x/\A5 x:=⟨x,h0,h1,h2,h3,h4,h5⟩
theorem QN{α : Sort _}{A0 A1 A2 A3 A4 A5 A6 A7:α->Prop}(x:α)(h0:A0 x)(h1:A1 x)(h2:A2 x)(h3:A3 x)(h4:A4 x)(h5:A5 x)(h6:A6 x)(h7:A7 x):∃x,A0 x/\A1 x/\A2 x/\A3 x/\A4 x/\A5 x/\A6 x/\A7 x:=⟨x,h0,h1,h2,h3,h4,h5,h6,h7⟩
theorem kx{α β : Sort _}{A0:α->β->Prop}(x:α)(y:β)(h0:A0 x y):∃x y,A0 x y:=⟨x,y,h0⟩
theorem aT{α β : Sort _}{A0 A1:α->β->Prop}(x:α)(y:β)(h0:A0 x y)(h1:A1 x y):∃x y,A0 x y/\A1 x y:=⟨x,y,h0,h1⟩
theorem bF{α β : Sort _}{A0 A1 A2:α->β->Prop}(x:α)(y:β)(h0:A0 x y)(h1:A1 x y)(h2:A2 x y):∃x y,A0 x y/\A1 x y/\A2 x y:=⟨x,y,h0,h1,h2⟩
theorem hX{α β : Sort _}{A0 A1 A2 A3:α->β->Prop}(x:α)(y:β)(h0:A0 x y)(h1:A1 x y)(h2:A2 x y)(h3:A3 x y):∃x y,A0 x y/\A1 x y/\A2 x y/\A3 x y:=⟨x,y,h0,h1,h2,h3⟩
theorem t5{α β : Sort _}{A0 A1 A2 A3 A4:α->β->Prop}(x:α)(y:β)(h0:A0 x y)(h1:A1 x y)(h2:A2 x y)(h3:A3 x y)(h4:A4 x y):∃x y,A0 x y/\A1 x y/\A2 x y/\A3 x y/\A4 x y:=⟨x,y,h0,h1,h2,h3,h4⟩
theorem t6{α β : Sort _}{A0 A1 A2 A3 A4 A5:α->β->Prop}(x:α)(y:β)(h0:A0 x y)(h1:A1 x y)(h2:A2 x y)(h3:A3 x y)(h4:A4 x y)(h5:A5 x y):∃x y,A0 x y/\A1 x y/\A2 x y/\A3 x y/\A4 x y/\A5 x y:=⟨x,y,h0,h1,h2,h3,h4,h5⟩
theorem QO{α β : Sort _}{A0 A1 A2 A3 A4 A5 A6:α->β->Prop}(x:α)(y:β)(h0:A0 x y)(h1:A1 x y)(h2:A2 x y)(h3:A3 x y)(h4:A4 x y)(h5:A5 x y)(h6:A6 x y):∃x y,A0 x y/\A1 x y/\A2 x y/\A3 x y/\A4 x y/\A5 x y/\A6 x y:=⟨x,y,h0,h1,h2,h3,h4,h5,h6⟩
theorem mV{α β γ : Sort _}{A0:α->β->γ->Prop}(x:α)(y:β)(z:γ)(h0:A0 x y z):∃x y z,A0 x y z:=⟨x,y,z,h0⟩
theorem ky{α β γ : Sort _}{A0 A1:α->β->γ->Prop}(x:α)(y:β)(z:γ)(h0:A0 x y z)(h1:A1 x y z):∃x y z,A0 x y z/\A1 x y z:=⟨x,y,z,h0,h1⟩
theorem jr{α β γ : Sort _}{A0 A1 A2:α->β->γ->Prop}(x:α)(y:β)(z:γ)(h0:A0 x y z)(h1:A1 x y z)(h2:A2 x y z):∃x y z,A0 x y z/\A1 x y z/\A2 x y z:=⟨x,y,z,h0,h1,h2⟩
theorem qS{α β γ : Sort _}{A0 A1 A2 A3:α->β->γ->Prop}(x:α)(y:β)(z:γ)(h0:A0 x y z)(h1:A1 x y z)(h2:A2 x y z)(h3:A3 x y z):∃x y z,A0 x y z/\A1 x y z/\A2 x y z/\A3 x y z:=⟨x,y,z,h0,h1,h2,h3⟩
theorem qT{α β γ : Sort _}{A0 A1 A2 A3 A4:α->β->γ->Prop}(x:α)(y:β)(z:γ)(h0:A0 x y z)(h1:A1 x y z)(h2:A2 x y z)(h3:A3 x y z)(h4:A4 x y z):∃x y z,A0 x y z/\A1 x y z/\A2 x y z/\A3 x y z/\A4 x y z:=⟨x,y,z,h0,h1,h2,h3,h4⟩
theorem QP{α β γ : Sort _}{A0 A1 A2 A3 A4 A5:α->β->γ->Prop}(x:α)(y:β)(z:γ)(h0:A0 x y z)(h1:A1 x y z)(h2:A2 x y z)(h3:A3 x y z)(h4:A4 x y z)(h5:A5 x y z):∃x y z,A0 x y z/\A1 x y z/\A2 x y z/\A3 x y z/\A4 x y z/\A5 x y z:=⟨x,y,z,h0,h1,h2,h3,h4,h5⟩
theorem QQ{α β γ δ : Sort _}{A0:α->β->γ->δ->Prop}(x:α)(y:β)(z:γ)(u:δ)(h0:A0 x y z u):∃x y z u,A0 x y z u:=⟨x,y,z,u,h0⟩
theorem qU{α β γ δ : Sort _}{A0 A1 A2:α->β->γ->δ->Prop}(x:α)(y:β)(z:γ)(u:δ)(h0:A0 x y z u)(h1:A1 x y z u)(h2:A2 x y z u):∃x y z u,A0 x y z u/\A1 x y z u/\A2 x y z u:=⟨x,y,z,u,h0,h1,h2⟩
theorem kz{α β γ δ : Sort _}{A0 A1 A2 A3:α->β->γ->δ->Prop}(x:α)(y:β)(z:γ)(u:δ)(h0:A0 x y z u)(h1:A1 x y z u)(h2:A2 x y z u)(h3:A3 x y z u):∃x y z u,A0 x y z u/\A1 x y z u/\A2 x y z u/\A3 x y z u:=⟨x,y,z,u,h0,h1,h2,h3⟩
theorem xT{α β γ δ : Sort _}{A0 A1 A2 A3 A4:α->β->γ->δ->Prop}(x:α)(y:β)(z:γ)(u:δ)(h0:A0 x y z u)(h1:A1 x y z u)(h2:A2 x y z u)(h3:A3 x y z u)(h4:A4 x y z u):∃x y z u,A0 x y z u/\A1 x y z u/\A2 x y z u/\A3 x y z u/\A4 x y z u:=⟨x,y,z,u,h0,h1,h2,h3,h4⟩
theorem QR{α β γ δ : Sort _}{A0 A1 A2 A3 A4 A5:α->β->γ->δ->Prop}(x:α)(y:β)(z:γ)(u:δ)(h0:A0 x y z u)(h1:A1 x y z u)(h2:A2 x y z u)(h3:A3 x y z u)(h4:A4 x y z u)(h5:A5 x y z u):∃x y z u,A0 x y z u/\A1 x y z u/\A2 x y z u/\A3 x y z u/\A4 x y z u/\A5 x y z u:=⟨x,y,z,u,h0,h1,h2,h3,h4,h5⟩
theorem xU{α β γ δ : Sort _}{A0 A1 A2 A3 A4 A5 A6 A7:α->β->γ->δ->Prop}(x:α)(y:β)(z:γ)(u:δ)(h0:A0 x y z u)(h1:A1 x y z u)(h2:A2 x y z u)(h3:A3 x y z u)(h4:A4 x y z u)(h5:A5 x y z u)(h6:A6 x y z u)(h7:A7 x y z u):∃x y z u,A0 x y z u/\A1 x y z u/\A2 x y z u/\A3 x y z u/\A4 x y z u/\A5 x y z u/\A6 x y z u/\A7 x y z u:=⟨x,y,z,u,h0,h1,h2,h3,h4,h5,h6,h7⟩
theorem QS{α β γ δ ε : Sort _}{A0 A1 A2 A3:α->β->γ->δ->ε->Prop}(x:α)(y:β)(z:γ)(u:δ)(v:ε)(h0:A0 x y z u v)(h1:A1 x y z u v)(h2:A2 x y z u v)(h3:A3 x y z u v):∃x y z u v,A0 x y z u v/\A1 x y z u v/\A2 x y z u v/\A3 x y z u v:=⟨x,y,z,u,v,h0,h1,h2,h3⟩
theorem Dw{α β γ δ ε : Sort _}{A0 A1 A2 A3 A4 A5 A6 A7:α->β->γ->δ->ε->Prop}(x:α)(y:β)(z:γ)(u:δ)(v:ε)(h0:A0 x y z u v)(h1:A1 x y z u v)(h2:A2 x y z u v)(h3:A3 x y z u v)(h4:A4 x y z u v)(h5:A5 x y z u v)(h6:A6 x y z u v)(h7:A7 x y z u v):∃x y z u v,A0 x y z u v/\A1 x y z u v/\A2 x y z u v/\A3 x y z u v/\A4 x y z u v/\A5 x y z u v/\A6 x y z u v/\A7 x y z u v:=⟨x,y,z,u,v,h0,h1,h2,h3,h4,h5,h6,h7⟩
theorem QW{α β γ δ ε ζ : Sort _}{A0 A1:α->β->γ->δ->ε->ζ->Prop}(x:α)(y:β)(z:γ)(u:δ)(v:ε)(w:ζ)(h0:A0 x y z u v w)(h1:A1 x y z u v w):∃x y z u v w,A0 x y z u v w/\A1 x y z u v w:=⟨x,y,z,u,v,w,h0,h1⟩
theorem Dv{α β γ : Sort _}{A0 A1 A2 A3 A4 A5 A6:α->β->γ->Prop}(x:α)(y:β)(z:γ)(h0:A0 x y z)(h1:A1 x y z)(h2:A2 x y z)(h3:A3 x y z)(h4:A4 x y z)(h5:A5 x y z)(h6:A6 x y z):∃x y z,A0 x y z/\A1 x y z/\A2 x y z/\A3 x y z/\A4 x y z/\A5 x y z/\A6 x y z:=⟨x,y,z,h0,h1,h2,h3,h4,h5,h6⟩
end
section
namespace Hs
theorem sR{j:Nat}:SetTable.has #[] j=false:=by
 unfold SetTable.has;simp
theorem Uc{t:SetTable}(hd:t.dummies = #[]){j:Nat}(h:j∉t.place.toList):t.slot j=.empty:=by
 unfold SetTable.slot;dsimp only
 have:(t.place[SetTable.below t.place j]? == some j)=false:=by
  refine beq_eq_false_iff_ne.mpr λe=>h (aF (Array.getElem?_eq_some_iff.mp e) λhi e=>?_)
  refine ck e ?_;exact Array.mem_toList_iff.mpr (Array.getElem_mem hi)
 refine tb this ?_;refine tb hd ?_;rw[sR];rfl
theorem Fq{t:SetTable}(hd:t.dummies = #[])(j:Nat):t.slot j=.empty\/∃i,t.slot j=.live i/\t.place[i]?=some j:=by
 unfold SetTable.slot
 by_cases h:(t.place[SetTable.below t.place j]? == some j)=true
 .refine tb (ar h) ?_;exact .inr (ao _ rfl (eq_of_beq h))
 .refine tb (aj h) ?_;refine tb hd ?_;refine tb sR ?_;exact .inl rfl
noncomputable def d9(t:SetTable):Nat->SetTable.Probe->Prop
 |0,p=>t.slot p.j=.empty
 |k+1,p=>t.slot p.j=.empty\/d9 t k (t.advance p)
theorem d9.more{t:SetTable}:∀{k:Nat} {p:SetTable.Probe},d9 t k p->d9 t (k+1) p:=by
 intro x9
 induction x9 with
 |zero=>
  intro Y h
  exact .inl h
 |succ _ ih=>
  intro Y h;exact h.imp id ih
theorem d9.le{t:SetTable}{k m:Nat}{p:SetTable.Probe}(h:d9 t k p)(q:k<=m):d9 t m p:=by
 induction q with
 |refl=>exact h
 |step _ ih=>exact ih.more
theorem zF{t:SetTable}{p:SetTable.Probe}:(t.advance p).dummy=p.dummy:=by
 by_cases h:p.more>0
 .exact (ay SetTable.Probe.dummy (show t.advance p=_ from ar h)).trans rfl
 .exact (ay SetTable.Probe.dummy (show t.advance p=_ from aj h)).trans rfl
section
variable {t:SetTable}{hashAt:Nat->Int}{h:Int}{f:Nat}{p:SetTable.Probe}
theorem Nv(e:t.slot p.j=.empty):SetTable.probe.go t hashAt h (f+1) p=some (.empty p.j p.dummy) :=
 show SetTable.instReprSlot.repr.match_1 (λY=>Option SetTable.Met) (t.slot p.j) (λY=>some (.empty p.j p.dummy)) _ _=_ from tb e rfl
theorem BR{i:Nat}(e:t.slot p.j=.live i):SetTable.probe.go t hashAt h (f+1) p=if hashAt i==h then some (.candidate p.j i (t.advance p)) else SetTable.probe.go t hashAt h f (t.advance p) :=
 show SetTable.instReprSlot.repr.match_1 (λY=>Option SetTable.Met) (t.slot p.j) _ _ (λi=>if hashAt i==h then some (.candidate p.j i (t.advance p)) else SetTable.probe.go t hashAt h f (t.advance p))=_ from tb e rfl
theorem Nx{i:Nat}(e:t.slot p.j=.live i)(k:(hashAt i==h)=true):SetTable.probe.go t hashAt h (f+1) p=some (.candidate p.j i (t.advance p)):=(BR e).trans (ar k)
theorem Ny{i:Nat}(e:t.slot p.j=.live i)(k:¬(hashAt i==h)=true):SetTable.probe.go t hashAt h (f+1) p=SetTable.probe.go t hashAt h f (t.advance p):=(BR e).trans (aj k)
theorem SY(hd:t.dummies = #[]):∀{k:Nat} {p:SetTable.Probe},d9 t k p->p.dummy=none->k<f->
  (∃j,SetTable.probe.go t hashAt h f p=some (.empty j none))\/∃j i next k',SetTable.probe.go t hashAt h f p=some (.candidate j i next)/\t.slot j=.live i/\d9 t k' next/\next.dummy=none/\k'<k:=by
 induction f with
 |zero=>exact λ{k} {p} Y Y hf=>absurd hf (l8 _)
 |succ f ih=>
  intro k p he qv hf;refine bR (Fq hd p.j) (λhs=>?_) (λq8=>af q8 λi hs hp=>?_)
  .exact .inl ⟨p.j,(Nv hs).trans (ay (λd=>some (SetTable.Met.empty p.j d)) qv)⟩
  .induction k using Nat.casesOn with
   |zero=>exact nomatch hs.symm.trans he
   |succ k=>
    obtain Cn:d9 t k (t.advance p):=bR he (λhe=>nomatch hs.symm.trans he) id
    by_cases hh:(hashAt i==h)=true
    .exact .inr (xT _ _ _ k (Nx hs hh) hs Cn (zF.trans qv) (dT _))
    .exact tb (Ny hs hh) ((ih Cn (zF.trans qv) (Nat.lt_of_succ_lt_succ hf)).imp id λq=>q.elim λj q=>q.elim λi q=>q.elim λn q=>q.elim λk' q=>xT j i n k' q.1 q.2.1 q.2.2.1 q.2.2.2.1 (jL q.2.2.2.2))
end
noncomputable def pU(mask:Nat)(q:Nat×Nat)(d:Option Nat):SetTable.Probe:={j:=q.1,more:=SetTable.runEnd mask q.1 - q.1,i:=q.1,perturb:=q.2,dummy:=d}
theorem TB{mask i:Nat}:SetTable.runEnd mask i - i<=9:=by unfold SetTable.runEnd;split<;>(first | exact IN | exact IP)
theorem Jo{t:SetTable}:∀{m:Nat} {p:SetTable.Probe},p.more=m->∀{k:Nat},d9 t k (pU t.mask (SetTable.leap t.mask p.i p.perturb) p.dummy)->d9 t (k+m+1) p:=by
 intro x9
 induction x9 with
 |zero=>
  intro p hm k h;refine .inr ?_
  have:t.advance p=pU t.mask (SetTable.leap t.mask p.i p.perturb) p.dummy:=by
   unfold SetTable.advance;rw[aj (by exact ak [_] 1 0x631c50000123000130 rfl hm)];rfl
  refine(?_:d9 t k (t.advance p))
  refine bh this ?_;exact h
 |succ m ih=>
  intro p hm k h;refine .inr ?_
  obtain e:t.advance p={p with j:=p.j+1,more:=p.more - 1}:=by
   unfold SetTable.advance;exact(ar (by exact l5 hm))
  refine bh e ?_;exact ih (p:={p with j:=p.j+1,more:=p.more - 1}) (by refine(?_:p.more - 1=m);exact HX hm) h
noncomputable def dM(mask:Nat):Nat->Nat×Nat->Nat×Nat
 |0,q=>q
 |n+1,q=>dM mask n (SetTable.leap mask q.1 q.2)
theorem Db{t:SetTable}{d:Option Nat}:∀{n:Nat} {q:Nat×Nat},t.slot (dM t.mask n q).1=.empty->d9 t (10*n) (pU t.mask q d)
 |0,_,h=>h
 |n+1,q,h=>by
  have:=Jo (t:=t) (p:=pU t.mask q d) rfl (Db (n:=n) (q:=SetTable.leap t.mask q.1 q.2) (d:=d) h);refine this.le ?_;have:(pU t.mask q d).more<=9:=TB;exact ak [_,_] 2 0x608014a4000298a00014a200052a21002530 rfl this
noncomputable def pi(mask:Nat):Nat->Nat->List Nat
 |0,_=>[]
 |n+1,i=>i::pi mask n ((i*5+1)%(mask+1))
noncomputable def Kh(mask:Nat):Bool:=(List.range (mask+1)).all (λe=>(pi mask (mask+1) 0).contains e)
theorem C'{mask i:Nat}:SetTable.leap mask i 0=((i*5+1)%(mask+1),0):=by unfold SetTable.leap;simp
theorem EB{mask:Nat}:∀{n i k:Nat},k<n->(pi mask n i)[k]?=some (dM mask k (i,0)).1
 |n+1,i,0,_=>rfl
 |n+1,i,k+1,h=>by
  refine(?_:(pi mask n ((i*5+1)%(mask+1)))[k]?=_);refine aE (EB (Nat.lt_of_succ_lt_succ h)) ?_;refine(?_:_=some (dM mask k (SetTable.leap mask i 0)).1);exact sb C' rfl
theorem oU{mask:Nat}:∀{a b:Nat} {q:Nat×Nat},dM mask (a+b) q=dM mask b (dM mask a q)
 |0,b,q=>by rw[jM];rfl
 |a+1,b,q=>by
  rw[Nat.succ_add];exact oU (a:=a) (q:=SetTable.leap mask q.1 q.2)
theorem Dd{mask:Nat}:∀{n i:Nat},(dM mask n (i,0)).2=0:=by
 intro x9
 induction x9 with
 |zero=>
  intro Y
  exact rfl
 |succ n ih=>
  intro i;refine(?_:(dM mask n (SetTable.leap mask i 0)).2=0);rw[C'];exact ih
theorem Dc{mask:Nat}:∀{n:Nat} {q:Nat×Nat},q.1<=mask->(dM mask n q).1<=mask
 |0,_,h=>h
 |n+1,q,_=>Dc (n:=n) (Nat.lt_succ_iff.mp (Nat.mod_lt _ (Nat.succ_pos _)))
theorem Qy{mask:Nat}:∀{n:Nat} {q:Nat×Nat},(dM mask n q).2=q.2/32 ^ n:=by
 intro x9
 induction x9 with
 |zero=>
  intro q
  exact(Nat.div_one _).symm
 |succ n ih=>
  intro q;refine(aE ih ?_:(dM mask n (SetTable.leap mask q.1 q.2)).2=_);unfold SetTable.leap;rw[Nat.div_div_eq_div_mul,Nat.pow_succ,Nat.mul_comm]
structure fY(mask:Nat):Prop where
 all:Kh mask=true
 back:(dM mask (mask+1) (0,0)).1=0
theorem Kj:fY 7:=⟨by decide +kernel,by decide +kernel⟩
theorem AL:fY 31:=⟨by decide +kernel,by decide +kernel⟩
theorem AK:fY 127:=⟨by decide +kernel,by decide +kernel⟩
theorem fY.at_{mask:Nat}(C:fY mask){e:Nat}(h:e<=mask):∃k,k<=mask/\dM mask k (0,0)=(e,0):=by
 have:=List.all_eq_true.mp C.all e (List.mem_range.mpr (Nat.lt_succ_of_le h));refine aF (jI (List.contains_iff_mem.mp this)) λk hk=>?_
 obtain ba:∀n i,(pi mask n i).length=n:=by
  intro n
  induction n with
  |zero=>intro i;rfl
  |succ n ih=>intro i;refine(?_:(pi mask n _).length+1=n+1);rw[ih]
 obtain bJ:k<mask+1:=by
  have:=(List.getElem?_eq_some_iff.mp hk).1;obtain this:=eU this (ba _ _);exact this
 obtain hk:=aW hk (EB bJ);exact ao k (Nat.lt_succ_iff.mp bJ) (Prod.ext (ag hk) Dd)
theorem fY.reach{mask:Nat}(C:fY mask){i e pt:Nat}(hi:i<=mask)(he:e<=mask)(hp:pt<2 ^ 64):∃n,n<=mask+14/\(dM mask n (i,pt)).1=e:=by
 obtain NB:(dM mask 13 (i,pt)).2=0:=by
  exact aE Qy (Nat.div_eq_of_lt (bx hp (by decide)))
 obtain xl:=Dc (mask:=mask) (n:=13) (q:=(i,pt)) hi;refine af (C.at_ xl) λa ha ea=>af (C.at_ he) λb hb eb=>?_
 obtain lz:dM mask 13 (i,pt)=dM mask a (0,0):=by refine bh ea ?_;exact Prod.ext rfl NB
 by_cases q:a<=b
 .refine ⟨13+(b - a),by exact au (kZ (au (Nat.sub_le _ _) hb) 13) (au (cb (Nat.add_comm 13 _)) (Nat.le_succ _)),?_⟩;rw[oU,lz,<- oU,Nat.add_sub_cancel' q,eb]
 .refine ⟨13+(mask+1 - a+b),by exact HY ha q,?_⟩;rw[oU,lz,<- oU,show a+(mask+1 - a+b)=(mask+1)+b by exact HZ ha,oU];have:dM mask (mask+1) (0,0)=(0,0):=Prod.ext C.back Dd;rw[this,eb]
theorem Ae(h:Int):SetTable.bits h<2 ^ 64:=by
 exact zU (a:=2 ^ 64) (by decide) (Int.emod_lt_of_pos h (by decide))
theorem zH:∀{n:Nat} {l:List Nat},(∀e,e<n->e∈l)->n<=l.length
 |0,_,_=>cc _
 |n+1,l,h=>by
  obtain h1:=zH (n:=n) (l:=l.erase n) λe he=>(List.mem_erase_of_ne (bz he)).mpr (h e (jL he))
  obtain hm:=h n (dT n);obtain h1:=eU h1 (List.length_erase_of_mem hm);have:=List.length_pos_of_mem hm;exact dx h1 (Nat.sub_lt this (by decide))
theorem LQ{l:List Nat}{n:Nat}(h:l.length<n):∃e,e<n/\e∉l:=by
 refine rN λhc=>?_
 have:=zH (n:=n) (l:=l) λe he=>rN λq=>hc (ao e he q)
 exact ak [_,_] 2 6810795280944 rfl h this
theorem UA{t:SetTable}(C:fY t.mask)(hd:t.dummies = #[])(hs:t.place.size<=t.mask)(h:Int):d9 t (10*(t.mask+14)) (t.probeStart h):=by
 refine af (LQ (l:=t.place.toList) (n:=t.mask+1) (by refine aR d8 ?_;exact dg hs)) λe he hn=>?_
 refine af (C.reach (i:=SetTable.bits h%(t.mask+1)) (pt:=SetTable.bits h) (Nat.lt_succ_iff.mp (Nat.mod_lt _ (Nat.succ_pos _))) (Nat.lt_succ_iff.mp he) (Ae h)) λn dz cF=>?_
 have:=Db (t:=t) (d:=none) (n:=n) (q:=(SetTable.bits h%(t.mask+1),SetTable.bits h)) (by refine tb cF ?_;exact Uc hd hn);exact d9.le (show d9 t (10*n) (t.probeStart h) from this) (gc 10 dz)
end Hs
end
section
namespace Hs
theorem M'{mask f i p k:Nat}{owner:Array (Option Nat)}(h:(List.range (SetTable.runEnd mask i+1 - i)).find? (λk=>(owner.getD (i+k) (some 0)).isNone)=some k):SetTable.layClean.free mask owner (f+1) i p=some (i+k) :=
 show SetTable.drop.match_1 (λY=>Option Nat) ((List.range (SetTable.runEnd mask i+1 - i)).find? λk=>(owner.getD (i+k) (some 0)).isNone) (λk=>some (i+k)) _=_ from tb h rfl
theorem Na{mask f i p:Nat}{owner:Array (Option Nat)}(h:(List.range (SetTable.runEnd mask i+1 - i)).find? (λk=>(owner.getD (i+k) (some 0)).isNone)=none):SetTable.layClean.free mask owner (f+1) i p=SetTable.layClean.free mask owner f (SetTable.leap mask i p).1 (SetTable.leap mask i p).2 :=
 show SetTable.drop.match_1 (λY=>Option Nat) ((List.range (SetTable.runEnd mask i+1 - i)).find? λk=>(owner.getD (i+k) (some 0)).isNone) _ (λY=>SetTable.layClean.free mask owner f (SetTable.leap mask i p).1 (SetTable.leap mask i p).2)=_ from tb h rfl
theorem Nb{mask:Nat}{owner:Array (Option Nat)}:∀{fuel n i p:Nat},n<fuel->owner.getD (dM mask n (i,p)).1 (some 0)=none->∃j,SetTable.layClean.free mask owner fuel i p=some j/\owner.getD j (some 0)=none:=by
 intro x9
 induction x9 with
 |zero=>
  intro n Y Y h Y
  exact absurd h (l8 n)
 |succ fuel ih=>
  intro n i p h e;refine lN ((List.range (SetTable.runEnd mask i+1 - i)).find? λk=>(owner.getD (i+k) (some 0)).isNone) (λk hf=>?_) λhf=>?_
  .refine ao (i+k) (M' hf) ?_;have:=List.find?_some hf
   simpa using this
  .
   induction n using Nat.casesOn with
   |zero=>
    exfalso;have jn:0<SetTable.runEnd mask i+1 - i:=by unfold SetTable.runEnd;split<;>(first | exact IR | exact IS)
    have:=List.find?_eq_none.mp hf 0 (List.mem_range.mpr jn);rw[Nat.add_zero,show owner.getD i (some 0)=none from e] at this
    exact this rfl
   |succ n=>
    refine tb (Na hf) ?_;exact ih (n:=n) (Nat.lt_of_succ_lt_succ h) e
noncomputable def sH(o:Option Nat):Bool:=o.isSome
structure kW(mask:Nat)(owner:Array (Option Nat))(k:Nat):Prop where
 size:owner.size=mask+1
 count:owner.toList.countP sH=k
 below:∀(j v:Nat),owner[j]?=some (some v)->v<k
theorem kW.free{mask k:Nat}{owner:Array (Option Nat)}(I:kW mask owner k)(h:k<=mask):∃e,e<=mask/\owner.getD e (some 0)=none:=by
 refine rN λhc=>?_
 obtain eR:∀x∈owner.toList,sH x=true:=λx hx=>by
  refine aF (jI hx) λe he=>?_
  obtain bJ:e<owner.toList.length:=(List.getElem?_eq_some_iff.mp he).1;obtain xl:e<=mask:=by rw[d8,I.size] at bJ;exact jK bJ
  induction x using Option.casesOn with
  |some _=>rfl
  |none=>
   refine absurd (ao e xl ?_) hc;obtain he:=aW he Array.getElem?_toList;refine tb (Array.getD_eq_getD_getElem?) ?_;refine tb he ?_;rfl
 have:=List.countP_eq_length.mpr eR;rw[I.count,d8,I.size] at this;exact H1 h this
theorem kW.step{mask k j:Nat}{owner:Array (Option Nat)}(I:kW mask owner k)(h:owner.getD j (some 0)=none):kW mask (owner.setIfInBounds j (some k)) (k+1):=by
 obtain hj:owner[j]?=some none:=by
  replace h:=aW h Array.getD_eq_getD_getElem?
  cases e:owner[j]? with
  |none=>obtain h:=e▸h;exact y3 h
  |some v=>obtain h:=e▸h;exact ay some h
 refine aF (Array.getElem?_eq_some_iff.mp hj) λbJ hv=>?_
 refine⟨by refine aE Array.size_setIfInBounds ?_;exact I.size,?_,λi v e=>?_⟩
 .have hl:j<owner.toList.length:=by refine bh d8 ?_;exact bJ
  rw[Array.toList_setIfInBounds,List.countP_set hl,I.count];have:owner.toList[j]=none:=by refine aE (Array.getElem_toList _) ?_;exact hv
  refine tb this ?_;simp[sH]
 .replace e:=aW e Array.getElem?_setIfInBounds
  split at e
  .first | (cases e;exact dT _) | (split at e;(cases e;exact dT _);cases e)
  .exact jL (I.below i v e)
theorem Qw{mask:Nat}(C:fY mask):∀{hs:List Int} {owner:Array (Option Nat)} {k:Nat},kW mask owner k->k+hs.length<=mask+1->
  ∃owner',hs.foldl (λ(acc:Option (Array (Option Nat)×Nat)) h=>do
   let (owner,k) <- acc
   let j <- SetTable.layClean.free mask owner (SetTable.turns mask) (SetTable.bits h%(mask+1)) (SetTable.bits h)
   pure (owner.setIfInBounds j (some k),k+1)) (some (owner,k))=some (owner',k+hs.length)/\kW mask owner' (k+hs.length):=by
 intro hs
 induction hs with
 |nil=>exact λ{owner} {k} I Y=>ao owner rfl I
 |cons h hs ih=>
  intro owner k I hl;refine cps λG kG=>af (I.free (by simp at hl;exact tT (jK hl))) λe he hf=>af (C.reach (i:=SetTable.bits h%(mask+1)) (pt:=SetTable.bits h) (Nat.lt_succ_iff.mp (Nat.mod_lt _ (Nat.succ_pos _))) he (Ae h)) λn hn hr=>af (Nb (mask:=mask) (owner:=owner) (fuel:=SetTable.turns mask) (n:=n) (i:=SetTable.bits h%(mask+1)) (p:=SetTable.bits h) (by unfold SetTable.turns;exact dg hn) (by refine tb hr ?_;exact hf)) λj hj xe=>?_
  refine af (ih (I.step xe) (by simp at hl;exact ak [_,_,_] 3 0x18280005324450000a6014000299210000a630 rfl hl)) λowner' h1 h2=>kG (ao owner' ?_ (by refine bh (show k+(h::hs).length=k+1+hs.length by simp;exact ak [_,_] 2 0xd114000298210000a630 rfl) ?_;exact h2))
  rw[show k+(h::hs).length=k+1+hs.length by simp;exact ak [_,_] 2 0xd114000298210000a630 rfl,List.foldl_cons];refine ck h1 ?_
  congr 1
  refine(?_:(do let j <- SetTable.layClean.free mask owner (SetTable.turns mask) (SetTable.bits h%(mask+1)) (SetTable.bits h);pure (owner.setIfInBounds j (some k),k+1))=_);exact tb hj rfl
theorem Qu(mask:Nat):kW mask (Array.replicate (mask+1) none) 0:=by
 refine⟨by simp,?_,λj v e=>?_⟩
 .refine tb Array.toList_replicate ?_;refine tb List.countP_replicate ?_;rfl
 .obtain e:=aW e Array.getElem?_replicate
  split at e<;>exact(nofun:_->_) e
theorem QC{L:List (Option Nat)}:∀{n:Nat},n<=L.length->((List.range n).filterMap λj=>(L.getD j none).map (j,·)).length=(L.take n).countP sH:=by
 intro x9
 induction x9 with
 |zero=>
  intro Y
  exact rfl
 |succ n ih=>
  intro h;refine tb List.range_succ ?_;refine tb List.filterMap_append ?_;refine tb bA ?_;refine tb (ih (k0 h)) ?_;refine tb jJ ?_;refine tb List.countP_append ?_
  congr 1
  have bJ:n<L.length:=h;rw[dS bJ];have hg:L.getD n none=L[n]:=by rw[List.getD_eq_getElem?_getD,dS bJ];rfl
  cases e:L[n] with
  |none=>exact(ay List.length (List.filterMap_cons_none (a:=n) (l:=[]) (f:=λj=>(L.getD j none).map (j,·)) (ay (Option.map (n,·)) (hg.trans e)))).trans rfl
  |some v=>exact(ay List.length (List.filterMap_cons_some (a:=n) (l:=[]) (f:=λj=>(L.getD j none).map (j,·)) (ay (Option.map (n,·)) (hg.trans e)))).trans rfl
theorem MY{α : Type}{es:Array α}:∀{l:List Nat},(∀v∈l,v<es.size)->(l.filterMap (es[·]?)).length=l.length:=by
 intro x9
 induction x9 with
 |nil=>
  intro Y
  exact rfl
 |cons v r ih=>
  intro h;refine tb (List.filterMap_cons_some (Array.getElem?_eq_getElem (h v (.head _)))) ?_;exact ay Nat.succ (ih λu hu=>h u (.tail _ hu))
theorem Tk{t:SetTable}{hashes:Array Int}{wanted mask:Nat}(C:fY mask)(hm:SetTable.sizeAbove wanted - 1=mask)(hn:hashes.size<=mask) :
  ∃t' order,t.relaid hashes wanted=some (t',order)/\t'.mask=mask/\t'.dummies = #[]/\t'.place.size=hashes.size/\order.size=hashes.size/\∀v∈order.toList,v<hashes.size:=by
 refine af (Qw C (hs:=hashes.toList) (Qu mask) (by refine tb d8 ?_;exact xN (l0 hn))) λowner h1 h2=>?_
 rw[jM,d8] at h1 h2
 obtain hc:SetTable.layClean mask hashes=some owner:=by
  unfold SetTable.layClean;rw[<- Array.foldl_toList];exact ay (Option.map (·.1)) h1
 obtain Cj:((List.range (mask+1)).filterMap λj=>(owner.getD j none).map (j,·)).length=hashes.size:=by
  obtain e:(λj=>(owner.getD j none).map (j,·))=λj=>(owner.toList.getD j none).map (j,·):=by
   funext j
   rw[Array.getD_eq_getD_getElem?,List.getD_eq_getElem?_getD,Array.getElem?_toList]
  rw[e,QC (by refine tb d8 ?_;refine sb h2.size ?_;exact bI _)];refine tb (show mask+1=owner.toList.length by refine tb d8 ?_;exact sb h2.size rfl) ?_;exact tb ip h2.count
 unfold SetTable.relaid;rw[hm];unfold SetTable.laid;refine tb hc (t6 _ _ rfl rfl rfl ?_ ?_ (λv hv=>?_))
 .refine (?_:(List.toArray _).size=_);rw[eL,aX];exact Cj
 .show (List.toArray _).size=_;rw[eL,aX];exact Cj
 .have hv:v∈((List.range (mask+1)).filterMap λj=>(owner.getD j none).map (j,·)).map (·.2):=by exact hv
  refine af (List.mem_map.mp hv) ?_;rintro q q1 rfl;refine af (List.mem_filterMap.mp q1) λj Y q2=>?_
  rw[Option.map_eq_some_iff] at q2;refine af q2 ?_;rintro x q3 rfl;refine h2.below j x ?_;replace q3:=aW q3 Array.getD_eq_getD_getElem?
  cases e:owner[j]? with
  |none=>obtain q3:=e▸q3;exact aP q3
  |some y=>obtain q3:=e▸q3;exact ay some q3
theorem tC{α : Type}{xs:Array α}{p:Nat}{x:α}:(SetTable.insertAt xs p x).size=xs.size+1:=by
 unfold SetTable.insertAt;simp only[Array.size_append,Array.size_push,Array.size_extract];exact H3
theorem PZ{α : Type}{xs:Array α}{p:Nat}{x y:α}(h:y∈(SetTable.insertAt xs p x).toList):y=x\/y∈xs.toList:=by
 unfold SetTable.insertAt at h;simp only[Array.toList_append,Array.toList_push,List.mem_append,lZ] at h;rcases h with (h | h) | h
 .obtain h:=aW h Array.toList_extract;exact .inr (List.mem_of_mem_drop (pN h) |> λq=>q)
 .exact .inl h
 .replace h:=aW h Array.toList_extract;exact .inr (List.mem_of_mem_drop (pN h) |> λq=>q)
end Hs
end
section
namespace Hs
structure fO(h:Heap)(S:Addr)(es:Array (Int×Value))(t:SetTable):Prop where
 obj:∃ep,h.get? S=some {cls:=.type "set",dict:=none,data:=.set es ep t,slots := #[]}
 pF:t.place.size=es.size
 gQ:t.dummies = #[]
 hY:(t.mask=7/\es.size<=4)\/(t.mask=31/\es.size<=18)\/(t.mask=127/\es.size<=76)
theorem fO.Ki{h:Heap}{S:Addr}{es:Array (Int×Value)}{t:SetTable}(x:fO h S es t):fY t.mask:=by
 rcases x.hY with ⟨e,_⟩ | ⟨e,_⟩ | ⟨e,_⟩<;>refine bh e ?_
 .exact Kj
 .exact AL
 .exact AK
theorem fO.fill{h:Heap}{S:Addr}{es:Array (Int×Value)}{t:SetTable}(x:fO h S es t):t.fill=es.size:=by
 unfold SetTable.fill;refine sb x.pF ?_;refine tb x.gQ ?_;rfl
theorem fO.le{h:Heap}{S:Addr}{es:Array (Int×Value)}{t:SetTable}(x:fO h S es t):es.size<=t.mask:=by
 rcases x.hY with ⟨e,_⟩ | ⟨e,_⟩ | ⟨e,_⟩<;>(first | exact ak [_,_] 2 0x18c184420022623001d30 rfl e right | exact ak [_,_] 2 0x18c184420092623007d30 rfl e right | exact ak [_,_] 2 0x18c18442026262301fd30 rfl e right)
theorem fO.fits{h:Heap}{S:Addr}{es:Array (Int×Value)}{t:SetTable}(x:fO h S es t):t.fits es.size=true:=by
 unfold SetTable.fits;refine sb x.pF ?_;refine tb x.fill ?_;simp[x.le]
theorem fO.odd{h:Heap}{S:Addr}{es:Array (Int×Value)}{t:SetTable}(x:fO h S es t):t.gaveWay=false:=by
 unfold SetTable.gaveWay;rcases x.hY with ⟨e,_⟩ | ⟨e,_⟩ | ⟨e,_⟩<;>refine tb e ?_<;>rfl
section
variable {prog:Program}{w:World}{A:Around}{E:WB}{s:Shared}{S:Addr}{es:Array (Int×Value)}{t:SetTable}
abbrev f9(prog:Program)(w:World)(h:Heap)(ks:List Str)(a:Addr):Prop:=IsTupleKey (strKind prog w) h ks a
def vp(prog:Program)(w:World)(h:Heap)(es:Array (Int×Value))(ks:List Str):Prop:=∀e∈es.toList,∃b ks',e.2=.ref b/\f9 prog w h ks' b/\ks'≠ks
theorem C0{ks:List Str}{vs:List Value}(h:ItemsAre (strKind prog w) ks vs):∀v∈vs,∃x t,v=Value.str x t:=by
 induction h with
 |nil=>exact λv m=>nomatch m
 |cons hx Y ih=>exact λv m=>(List.mem_cons.mp m).elim (λe=>tb e ((Value.isStrOf_shape hx).elim λt e=>⟨_,t,e⟩)) (ih v)
theorem RH(k:Nat)(a:Addr):ofAClassStatement (k+1) (.ref a)=typeOf (.ref a)>>=λt=>ofAClassStatement.match_5 (λY=>Sem Bool) t (λt =>
  let J:=λu=>if (!u)=true then pure false else seqItems? (.ref a)>>=λi=>ofAClassStatement.match_1 (λY=>Sem Bool) i (λl=>forIn l (none,()) (λy Y=>ofAClassStatement k y>>=λr=>if r=true then pure (.done (some true,())) else pure (.yield (none,())))>>=λs=>Break.runK.match_1 (λY=>Sem Bool) s.1 (λr=>pure r) λY=>pure false) (λY=>pure true)
  if (t == "tuple")=true then pure true>>=J else isSubtype (.type t) (.type "tuple")>>=J) (λY=>pure true):=by kernel_rfl
theorem DN{ks:List Str}{a:Addr}(hk:f9 prog w s.heap ks a){Q:Bool->Shared->Prop}(hq:Q false s):wpAny (model prog w) A (ofAClassStatement 8 (.ref a)) Q E s:=by
 obtain hT:=hk.typeIs;refine nG hk λo items n ho hc hd hi=>bq (RH 7 a) (ab (wpAny_typeOf hT (bq (ar (by decide)) (ab (aq (ab (wpAny_seqItems ho hd (ab (Ak Array.forIn_toList (wpAny_forIn_list _ (λrest r s'=>r.1=none/\s'=s/\∀v∈rest,∃x t,v=Value.str x t) _ ?_ ?_ _ _ (bP rfl rfl (C0 hi))))))))))))
 .rintro v rest r s' ⟨hr,rfl,eR⟩;obtain⟨x,t,rfl⟩:=eR v List.mem_cons_self;exact ab (aq (aq (bP rfl rfl (λu hu'=>eR u (List.mem_cons_of_mem _ hu')))))
 .rintro ⟨r1,r2⟩ s' ⟨hr,rfl,Y⟩;obtain rfl:r1=none:=hr;exact aq hq
theorem Rw{ks:List Str}{x:Addr}(hx:f9 prog w s.heap ks x){l:List Value}(hl:∀v∈l,∃b ks',v=.ref b/\f9 prog w s.heap ks' b){Q:Bool->Shared->Prop}(hq:Q false s):wpAny (model prog w) A (searchCouldBeSeen (.ref x) l) Q E s:=by
 refine ab (wpAny_forIn_list _ (λrest r s'=>r.1=none/\s'=s/\∀v∈rest,∃b ks',v=.ref b/\f9 prog w s.heap ks' b) _ ?_ ?_ _ _ (bP rfl rfl hl))
 .rintro v rest r s';intro q0;refine d7 q0 ?_;clear q0;rintro hr rfl eR;refine ci (eR v List.mem_cons_self) ?_;rintro b ks' rfl hb
  obtain fin:(some false:Option Bool)=some false/\True:=⟨rfl,trivial⟩
  obtain next:∀u∈rest,∃b ks',u=Value.ref b/\f9 prog w s'.heap ks' b:=λu hu=>eR u (List.mem_cons_of_mem _ hu)
  dsimp only
  by_cases hv:(x==b || (carriedByValue (Value.ref x)&&carriedByValue (Value.ref b)))=true
  .rw [ar hv];exact aq ⟨rfl,rfl,next⟩
  .rw [aj hv];exact ab (wpAny_eqIsQuiet_tuple hx (ab (wpAny_eqIsQuiet_tuple hb (ab (DN hx (ab (DN hb (aq ⟨rfl,rfl,next⟩))))))))
 .rintro ⟨r1,r2⟩ s' ⟨hr,rfl,Y⟩;simp only at hr;subst hr;exact aq hq
theorem Qz{M:Model}{α : Type}{b:Bool}{m:Sem Bool}{x c:Sem α}{Q:α->Shared->Prop}(h1:wpAny M A m (λr s'=>r=false/\s'=s) E s)(h2:wpAny M A c Q E s):wpAny M A (if (!b)=true then m>>=(λr=>if r=true then x else c) else c) Q E s:=by
 induction b using Bool.casesOn with
 |true=>exact h2
 |false=>exact ab (wpAny_mono h1 (λr s' h=>by obtain⟨rfl,rfl⟩:=h;exact h2) λY Y h=>h)
section
variable {M:Model}{Q:SetFound->Shared->Prop}
theorem TG{o:Option Bool}{f:Bool->Sem SetFound}{g:Option Bool->Sem SetFound}{a:Bool}(h:o=some a)(k:wpAny M A (f a) Q E s):wpAny M A (setSearchFrom.match_8 (λY=>Sem SetFound) o f g) Q E s:=by subst h;exact k
theorem TF{o:SetTable.Slot}{f:Nat->Sem SetFound}{g:SetTable.Slot->Sem SetFound}{a:Nat}(h:o=.live a)(k:wpAny M A (f a) Q E s):wpAny M A (setSearchFrom.match_5 (λY=>Sem SetFound) o f g) Q E s:=by subst h;exact k
theorem TE{o:Option (Int×Value)}{f:Int->Value->Sem SetFound}{g:Unit->Sem SetFound}{a:Int}{b:Value}(h:o=some (a,b))(k:wpAny M A (f a b) Q E s):wpAny M A (setSearchFrom.match_3 (λY=>Sem SetFound) o f g) Q E s:=by subst h;exact k
theorem Fc{β : Type}{Q:β->Shared->Prop}{o:Option (Int×Value)}{f:Int->Value->Sem β}{g:Option (Int×Value)->Sem β}{a:Int}{b:Value}(h:o=some (a,b))(k:wpAny M A (f a b) Q E s):wpAny M A (setNextDrawn.match_1 (λY=>Sem β) o f g) Q E s:=by subst h;exact k
theorem Fe{o:Option SetTable.Met}{f:SetTable.Met->Sem SetFound}{g:Option SetTable.Met->Sem SetFound}{a:SetTable.Met}(h:o=some a)(k:wpAny M A (f a) Q E s):wpAny M A (setSearchFrom.match_12 (λY=>Sem SetFound) o f g) Q E s:=by subst h;exact k
end
theorem TX(X:fO s.heap S es t)(hu:A.units<cLine){x:Addr}{ks:List Str}{h:Int}(hx:f9 prog w s.heap ks x)(ha:vp prog w s.heap es ks){Q:SetFound->Shared->Prop}(hQ:∀j,Q (.free j false) s) :
  ∀(k fuel:Nat) (stand:Option SetTable.Probe),d9 t k (stand.getD (t.probeStart h))->(stand.getD (t.probeStart h)).dummy=none->k<fuel->k<10*SetTable.turns t.mask->wpAny (model prog w) A (setSearchFrom S (.ref x) h true fuel stand) Q E s:=by
 intro k
 induction k using Nat.strongRecOn with
 |_ k ih=>
  intro fuel stand he qv hf hk
  obtain⟨fuel,rfl⟩:∃m,fuel=m+1:=⟨fuel - 1,by exact sc (dx (cc _) hf)⟩
  refine aF X.obj λep ho=>ab (kQ ho rfl X.fits (bq (aj (by refine tb X.odd ?_;exact il)) ?_))
  rcases SY X.gQ he qv hk with ⟨j,e⟩ | ⟨j,i,next,k',e,q2,q3,q4,q5⟩
  .exact Fe e (aq (hQ j))
  refine Fe e (cps λG kG=>af ((Fq X.gQ j).resolve_left (by refine tb q2 ?_;intro z;cases z)) λi' e1 e2=>?_);replace e1:=aW e1 q2;cases e1;have hi:i<es.size:=by refine ck X.pF ?_;exact(Array.getElem?_eq_some_iff.mp e2).1
  refine aA (ha es[i] (Array.mem_toList_iff.mpr (Array.getElem_mem hi))) λb ks' lq kf qt=>kG ?_
  have Cb:es[i]?=some (es[i].1,.ref b):=by refine tb (Array.getElem?_eq_getElem hi) ?_;exact sb lq rfl
  refine Qz (Rw hx (λv hv=>?_) ⟨rfl,rfl⟩) ?_
  .refine af (List.mem_map.mp hv) ?_;rintro e m1 rfl;exact aA (ha e (Array.mem_toList_iff.mpr (Array.mem_filter.mp (Array.mem_toList_iff.mp m1)).1)) λb ks' z1 z2 Y=>aT b ks' z1 z2
  refine Fc Cb (ab (cR (wpAny_eqBool_tuple hu kf hx (ab (kQ ho rfl X.fits (bq (aj (by refine tb (dJ qt) ?_;exact il)) ?_))))));refine TG (a:=true) (by unfold SetTable.sameMemory;simp) (TF (aE (ar rfl) q2) (TE Cb (ab (bq (ar (ml b)) (aq (ab (aq (bq (aj (by refine tb (dJ qt) ?_;exact il)) ?_))))))));exact ih k' q5 fuel (some next) q3 q4 (H4 hf q5) (H5 hk q5)
end
end Hs
end
section
namespace Hs
section
variable {prog:Program}{w:World}{A:Around}{E:WB}{s:Shared}{S:Addr}{es:Array (Int×Value)}{t:SetTable}
theorem NT{ks:List Str}{a:Addr}(hk:f9 prog w s.heap ks a){Q:Bool->Shared->Prop}(hq:∀b,Q b s):wpAny (model prog w) A (hashByValue 8 (.ref a)) Q E s:=by
 obtain hT:=hk.typeIs;refine nG hk λo items n ho hc hd hi=>ab (wpAny_specialOf hT F.slot_tuple_hash.lookup (ab (wpAny_seqItems ho hd (ab (Ak Array.forIn_toList (wpAny_forIn_list _ (λrest r s'=>r.1=none/\s'=s/\∀v∈rest,∃x t,v=Value.str x t) _ ?_ ?_ _ _ ⟨rfl,rfl,C0 hi⟩))))))
 .rintro v rest r s';intro q0;refine d7 q0 ?_;clear q0;rintro hr rfl eR;obtain⟨x,t,rfl⟩:=eR v List.mem_cons_self
  obtain⟨b,e⟩:∃b,hashByValue 7 (.str x t)=pure b:=⟨_,rfl⟩
  refine tb e (ab (aq ?_))
  induction b using Bool.casesOn with
  |true=>
   exact aq ⟨rfl,rfl,λu hu'=>eR u (List.mem_cons_of_mem _ hu')⟩
  |false=>
   exact aq (aq (hq _))
 .rintro ⟨r1,r2⟩ s' ⟨hr,rfl,Y⟩;simp only at hr;subst hr;exact aq (hq _)
theorem Tn{M:Model}{F:Array (Int×Value)->Option (SetTable×Array Nat)->Sem (Array (Int×Value)×SetTable)}(hF:∀es l,F es l=(do
   let some (t,order):=l | unsupported "internal:set-table-without-room"
   let es':=order.filterMap (es[·]?)
   if es'.size != es.size then unsupported "internal:set-table-lost-an-element"
   pure (es',t))){order:Array Nat}{Q:Array (Int×Value)×SetTable->Shared->Prop}(h1:order.size=es.size)(h2:∀v∈order.toList,v<es.size)(h:(order.filterMap (es[·]?)).size=es.size->(∀e∈(order.filterMap (es[·]?)).toList,e∈es.toList)->Q (order.filterMap (es[·]?),t) s):wpAny M A (F es (some (t,order))) Q E s:=by
 obtain e:(order.filterMap (es[·]?)).size=es.size:=by
  refine sb d8 ?_;rw[Array.toList_filterMap,MY h2,d8];exact sb h1 rfl
 refine bq (hF _ _) ?_;dsimp only;refine bq (aj (by refine sb e ?_;simp)) ?_;refine aq (h e λx hx=>?_);replace hx:=aW hx Array.toList_filterMap;refine af (List.mem_filterMap.mp hx) λv Y q=>TC (Array.getElem?_eq_some_iff.mp q) λbJ=>?_
 exact Array.mem_toList_iff.mpr (Array.getElem_mem bJ)
theorem y5{ep:Nat}{es':Array (Int×Value)}{t':SetTable}{Q:Unit->Shared->Prop}(ho:s.heap.get? S=some {cls:=.type "set",dict:=none,data:=.set es ep t,slots := #[]})(hz:es'.size<=sizeLine)(h:∀h',h'.get? S=some {cls:=.type "set",dict:=none,data:=.set es' (ep+1) t',slots := #[]}->Heap.SameBut S s.heap h'->Q () {s with heap:=h'}):wpAny (model prog w) A (storeSet S es' t') Q E s:=by
 refine wpAny_storeSet_of ho rfl (h _ ?_ (Heap.SameBut.update ..)) hz;obtain e:=putSet_of (o:={cls:=.type "set",dict:=none,data:=.set es ep t,slots := #[]}) es' t' rfl;rw[eI _ ho (by rw[e];rfl),e]
theorem Tl{ep wanted mask:Nat}(C:fY mask)(ho:s.heap.get? S=some {cls:=.type "set",dict:=none,data:=.set es ep t,slots := #[]})(hf:t.fits es.size=true)(hm:SetTable.sizeAbove wanted - 1=mask)(hz:SetTable.sizeAbove wanted<=sizeLine)(hn:es.size<=mask)(PO:es.size<=sizeLine){Q:Unit->Shared->Prop}(h:∀h' es' t' ep',h'.get? S=some {cls:=.type "set",dict:=none,data:=.set es' ep' t',slots := #[]}->t'.mask=mask->t'.dummies = #[]->t'.place.size=es'.size->es'.size=es.size->(∀e∈es'.toList,e∈es.toList)->Heap.SameBut S s.heap h'->Q () {s with heap:=h'}) :
  wpAny (model prog w) A (setRelay S wanted) Q E s:=by
 refine ab (kQ ho rfl hf ?_);dsimp only;refine bq (aj (Nat.not_lt.mpr hz)) (zp (Tk (t:=t) (hashes:=es.map (·.1)) C hm (by refine aR Array.size_map ?_;exact hn)) λt' order r1 r2 r3 r4 r5 r6=>?_);refine tb r1 ?_;rw[Array.size_map] at r4 r5 r6;exact ab (Tn (λY Y=>rfl) r5 r6 λe1 e2=>y5 ho (by refine aR e1 ?_;exact PO) λh' g1 g2=>h h' _ t' _ g1 r2 r3 (by refine tb r4 ?_;exact sb e1 rfl) e1 e2 g2)
theorem GS(X:fO s.heap S es t)(hu:A.units<cLine){x:Addr}{ks:List Str}{h:Int}{fuel:Nat}(hx:f9 prog w s.heap ks x)(ha:vp prog w s.heap es ks)(eC:es.size<76){Q:Bool->Shared->Prop}(hQ:∀h' es' t',fO h' S es' t'->es'.size=es.size+1->(∀e∈es'.toList,e.2=.ref x\/∃e0∈es.toList,e.2=e0.2)->Heap.SameBut S s.heap h'->Q true {s with heap:=h'}) :
  wpAny (model prog w) A (setAddHashedIn S (.ref x) h (fuel+1)) Q E s:=by
 refine aF X.obj λep ho=>?_
 unfold setAddHashedIn;refine ab (kQ ho rfl X.fits ?_);dsimp only;rw[aj (show ¬ byScan (.ref x) es=true from il)];unfold setSearch;have hE:=UA X.Ki X.gQ (by refine tb X.pF ?_;exact X.le) h;have O7:t.mask<=127:=by rcases X.hY with ⟨e,_⟩ | ⟨e,_⟩ | ⟨e,_⟩<;>(first | exact ak [_] 1 1738459438412471600 rfl e | exact ak [_] 1 1738459438412496176 rfl e | exact ak [_] 1 1738459438412594480 rfl e)
 refine ab (TX X hu hx ha (λj=>?_) _ 100000 none hE rfl (ak [_] 1 0x6161a8a00212005290007260101fd30 rfl O7) (by unfold SetTable.turns;exact ak [_] 1 0x2002948003d30002948003930 rfl));dsimp only;refine ab (kQ ho rfl X.fits ?_);dsimp only
 have xt:(t.put j).1.dummies = #[]/\(t.put j).1.mask=t.mask/\(t.put j).1.place.size=es.size+1:=by
  unfold SetTable.put;dsimp only;refine bP (by rw[X.gQ];refine tb sR ?_;rfl) rfl (by rw[tC,X.pF])
 have cy:sizeLine ≥ 1000:=by refine tb iQ ?_;exact ak [] 0 216175565257342217 rfl
 have gz:(SetTable.insertAt es (t.put j).2 (h,Value.ref x)).size=es.size+1:=tC
 have qB:∀e∈(SetTable.insertAt es (t.put j).2 (h,Value.ref x)).toList,e.2=.ref x\/∃e0∈es.toList,e.2=e0.2:=λe he=>by
  rcases PZ he with rfl | q
  .exact .inl rfl
  .exact .inr (ao e q rfl)
 generalize SetTable.insertAt es (t.put j).2 (h,Value.ref x)=es1 at gz qB;obtain p1:=xt.1;obtain p2:=xt.2.1;obtain p3:=xt.2.2;generalize (t.put j).1=t1 at p1 p2 p3
 have rest:∀t2:SetTable,t2.dummies = #[]->t2.mask=t.mask->t2.place.size=es.size+1->wpAny (model prog w) A (do
   storeSet S es1 t2
   if (!false&&t2.tooFull)=true then setRelay S (SetTable.grown (es.size+1))
   pure true:Sem Bool) Q E s:=by
  intro t2 q1 q2 q3;refine ab (y5 ho (by refine tb gz ?_;exact zX eC cy) λh1 g1 g2=>?_);have Cd:t2.fill=es.size+1:=by unfold SetTable.fill;refine sb q3 ?_;refine tb q1 ?_;rfl
  have ow:t2.fits es1.size=true:=by
   unfold SetTable.fits;refine tb q3 ?_;refine sb gz ?_;refine tb Cd ?_;refine tb q2 ?_;have:es.size+1<=t.mask:=by rcases X.hY with ⟨e,_⟩ | ⟨e,_⟩ | ⟨e,_⟩<;>(first | exact ak [_,_] 2 0x18c18200014c420022623001d30 rfl e right | exact ak [_,_] 2 0x18c18200014c420092623007d30 rfl e right | exact ak [_,_] 2 0x18c18a00014c0603fa622013130 rfl eC e)
   simp[this]
  have stay:(h:(t.mask=7/\es.size+1<=4)\/(t.mask=31/\es.size+1<=18)\/(t.mask=127/\es.size+1<=76))->wpAny (model prog w) A (pure true) Q E {s with heap:=h1}:=λhm =>
   aq (hQ h1 es1 t2 ⟨⟨_,g1⟩,by refine tb q3 ?_;exact sb gz rfl,q1,by refine tb q2 ?_;refine tb gz ?_;exact hm⟩ gz qB g2)
  have grow:∀{mask:Nat},fY mask->SetTable.sizeAbove (SetTable.grown (es.size+1)) - 1=mask->SetTable.sizeAbove (SetTable.grown (es.size+1))<=1000->es.size+1<=mask->((mask=7/\es.size+1<=4)\/(mask=31/\es.size+1<=18)\/(mask=127/\es.size+1<=76))->
    wpAny (model prog w) A (do setRelay S (SetTable.grown (es.size+1));pure true:Sem Bool) Q E {s with heap:=h1}:=λ{mask} C c1 c2 c3 c4=>by
   exact ab (Tl C g1 ow c1 (au c2 cy) (by rw[gz];exact c3) (by rw[gz];exact zX eC cy) λh2 es2 t3 V8 f1 f2 f3 f4 f5 f6 f7=>aq (hQ h2 es2 t3 ⟨⟨_,f1⟩,f4,f3,by refine tb f2 ?_;refine tb f5 ?_;refine tb gz ?_;exact c4⟩ (by refine tb f5 ?_;rw[gz]) (λe he=>qB e (f6 e he)) (g2.trans f7)))
  have PE:t2.tooFull=decide ((es.size+1)*5 ≥ t.mask*3):=by unfold SetTable.tooFull;refine sb Cd ?_;exact sb q2 rfl
  refine tb PE ?_;rcases X.hY with ⟨e,hs⟩ | ⟨e,hs⟩ | ⟨e,hs⟩
  .by_cases c:es.size=4
   .rw [ar (by rw[e];exact tb c rfl)];refine grow AL (tb c rfl) (by refine tb c ?_;decide) (ak [_] 1 0x18200fa50000a601001130 rfl hs) (.inr (.inl ⟨rfl,ak [_] 1 0x182009250000a601001130 rfl hs⟩))
   .rw [aj (by rw[e];simp;exact ak [_] 1 0xc61002a900156800053031c60022601001130 rfl hs c)];exact stay (.inl ⟨e,ak [_] 1 0x18c100112800053031c60022601001130 rfl hs c⟩)
  .by_cases c:es.size=18
   .rw [ar (by rw[e];exact tb c rfl)];refine grow AK (tb c rfl) (by refine tb c ?_;decide) (ak [_] 1 0x18203fa50000a602013130 rfl eC) (.inr (.inr ⟨rfl,ak [_] 1 0x182026250000a602013130 rfl eC⟩))
   .rw [aj (by rw[e];simp;exact ak [_] 1 0xc6100ba900156800053031c60092601004930 rfl hs c)];exact stay (.inr (.inl ⟨e,ak [_] 1 0x18c100492800053031c60092601004930 rfl hs c⟩))
  .rw [aj (by rw[e];simp;exact ak [_] 1 0xc205f52002ad0000a602013130 rfl eC)];exact stay (.inr (.inr ⟨e,ak [_] 1 0x182026250000a602013130 rfl eC⟩))
 cases hp:t1.plain with
 |true=>
  refine ab (NT hx λb=>?_)
  induction b using Bool.casesOn with
  |true=>exact rest t1 p1 p2 p3
  |false=>exact rest {t1 with plain:=false} p1 p2 p3
 |false=>
  exact ab (aq (rest t1 p1 p2 p3))
end
end Hs
end
section
namespace Hs
section
variable {prog:Program}{w:World}{A:Around}{E:WB}{s:Shared}{S l it:Addr}{items:List Value}{G:Nat->Heap->Prop}
def rK(prog:Program)(w:World)(A:Around)(S:Addr)(items:List Value)(G:Nat->Heap->Prop):Prop:=∀{i:Nat} {x:Value} {s:Shared} {Q:Shared->Prop} {E:WB},G i s.heap->items[i]?=some x->
 (∀h' tk,G (i+1) h'->Heap.SameBut S s.heap h'->Q {s with heap:=h',toks:=tk})->wpAny (model prog w) A (setAdd S x) (λY=>Q) E s
theorem MX{R:Result->Shared->Prop}(sZ:it≠S)(OU:it≠l)(hlS:l≠S)(hh:A.handled=none)(lz:rK prog w A.in1 S items G)(gU:∀i h h',G i h->(∀b o,b≠it->h.get? b=some o->h'.get? b=some o)->G i h') :
  ∀(k i:Nat) (s:Shared),items.length - i=k->i<=items.length->s.heap.IsListIter it l i->s.heap.IsList l items.toArray->G i s.heap->
   (∀h' tk,G items.length h'->(∀b o,b≠it->b≠S->s.heap.get? b=some o->h'.get? b=some o)->R (.ok (.ret .none)) {s with heap:=h',toks:=tk})->
   codeAny (model prog w) A (.builtin "set.update.loop" ⟨[.ref S,.ref it],[]⟩) R s:=by
 intro k
 induction k with
 |zero=>
  intro i s hk hi fR hl hG hR;obtain rfl:i=items.length:=by exact Nat.le_antisymm hi (nJ hk)
  exact mq F.entry_set_update_loop (tb (pK F.plain_set_update_loop _) (ab (wpAny_pyNext_list_end hh fR hl (by simp) λh1 he=>(aq (hR h1 s.toks (gU _ _ _ hG λb o hb e=>he b o hb e) λb o hb Y e=>he b o hb e):wpAny _ A.in1 (ret Value.none) _ _ _)):wpAny _ A.in1 (pyNext (.ref it)>>=_) _ _ s))
 |succ k ih=>
  intro i s hk hi fR hl hG hR;have bJ:i<items.length:=by exact l5 hk
  refine mq F.entry_set_update_loop (tb (pK F.plain_set_update_loop _) (ab (wpAny_pyNext_list_item fR hl (x:=items[i]) (by simp[bJ]) λh1 g1 g2=>?_):wpAny _ A.in1 (pyNext (.ref it)>>=_) _ _ s));have oB:h1.IsList l items.toArray:=by refine af hl λo a b=>?_;exact ao o ((g2.2 l (bO OU)).trans a) b
  have NF:=gU _ _ h1 hG λb o hb e=>(g2.2 b hb).trans e
  refine(?_:wpAny _ A.in1 (holding [items[i]] (setAdd S items[i])>>=_) _ _ _);refine ab (cR (lz NF (dS bJ) λh2 tk NG g3=>?_));refine aq ⟨plainId_quiet F.plain_set_update_loop _,ih (i+1) _ (by exact lb hk) bJ ?_ ?_ NG λh3 tk3 NH k3=>?_⟩
  .refine af g1 λo a b=>?_;exact ao o ((g3.2 it sZ).trans a) b
  .refine af oB λo a b=>?_;exact ao o ((g3.2 l hlS).trans a) b
  .exact hR h3 tk3 NH λb o hb hbS e=>k3 b o hb hbS ((g3.2 b hbS).trans ((g2.2 b hb).trans e))
set_option maxHeartbeats 4000000 in
theorem Fp{Q:WB}(hh:A.handled=none)(hl:s.heap.IsList l items.toArray)(lz:∀A':Around,A'.units<=A.units+12->rK prog w A' s.heap.objs.size items G)(gU:∀it,s.heap.objs.size<it->∀i h h',G i h->(∀b o,b≠it->h.get? b=some o->h'.get? b=some o)->G i h')(h0:∀h' led,(∀b o,s.heap.get? b=some o->h'.get? b=some o)->h'.get? s.heap.objs.size=some {cls:=.type "set",dict:=none,data:=.set #[] 0 (.fresh 0 0 led)}->G 0 h')(hQ:∀h' tk,G items.length h'->(∀b o,b<s.heap.objs.size->s.heap.get? b=some o->h'.get? b=some o)->Q (.ref s.heap.objs.size) {s with heap:=h',toks:=tk}) :
  wpAny (model prog w) A (call (.type "set") [.ref l]) Q E s:=by
 refine kR F.called_set.mro λc tl Wm=>?_
 have Wk:=F.called_set.made;have Ws:=F.called_set.sub;refine wpAny_call (codeAny_of_tree ?_);show wpAny _ _ (callAny (.type "set") _) _ _ _;refine aq ⟨Code.quiet_builtin _ (by decide +kernel),mq F.entry_type_call ?_⟩;rw[Around.under_plain (weight_type_call_type "set" [.ref l] []) rfl];have h1:=F.called_set.notType;have h2:=F.called_set.canCreate;have Wc:=F.typeCall_set_1 (.ref l)
 repeat (any_goals (first | assumption | wp_step))
 refine codeAny_mono (code_set_new_1 (.ref l) (E:=E) (Q₁:=λobj s₁=>∃led:Bool,obj=.ref s.heap.objs.size/\s₁={s with heap:=s.heap.push {cls:=.type "set",dict:=none,data:=.set #[] 0 (.fresh 0 0 led)}}) λled=>⟨led,rfl,rfl⟩) λr s₁ hr=>?_
 rcases r with e | fl
 .exact hr
 rcases fl with _ | _ | _ | obj<;>first | exact hr.elim | skip
 refine af hr ?_;rintro led rfl rfl;have hS:(s.heap.push {cls:=.type "set",dict:=none,data:=.set #[] 0 (.fresh 0 0 led)}).get? s.heap.objs.size=some {cls:=.type "set",dict:=none,data:=.set #[] 0 (.fresh 0 0 led)}:=cj _ rfl
 have hT:Shared.TypeIs {s with heap:=s.heap.push {cls:=.type "set",dict:=none,data:=.set #[] 0 (.fresh 0 0 led)}} (.ref s.heap.objs.size) "set" := ⟨_,hS,rfl⟩
 have Wj:=F.called_set.init.lookup;have BZ:=F.called_set.init.bind (.ref s.heap.objs.size)
 repeat (any_goals (first | assumption | wp_step))
 refine codeAny_mono (codeAny_call_builtin (R:=wants (λr s₂=>r=.none/\∃h' tk,s₂={s with heap:=h',toks:=tk}/\G items.length h'/\(∀b o,b<s.heap.objs.size->s.heap.get? b=some o->h'.get? b=some o)) E) F.called_set.init.plain F.entry_set_init (check_set_init_1 hT ?_)) λr₂ s₂ hr₂=>?_
 .obtain ⟨ol,tj,dj,nl,cE⟩:=hl;obtain⟨ocls,odict,odata,oslots⟩:=ol;simp only at dj cE;subst dj;subst cE;have Pk:(s.heap.push {cls:=.type "set",dict:=none,data:=.set #[] 0 (.fresh 0 0 led)}).get? l=some {cls:=.type "list",dict:=odict,data:=.seq items.toArray nl,slots:=oslots}:=bn _ tj;have Wq:=F.sub_list_set;have Wp:=F.sub_list_frozenset;have cG:(Value.type "list" == Value.type "dict")=false:=by decide
  have oB:(s.heap.push {cls:=.type "set",dict:=none,data:=.set #[] 0 (.fresh 0 0 led)}).IsList l items.toArray:=⟨_,Pk,rfl,nl,rfl⟩
  unfold Builtin.«set.__init__» noKeywords Builtin.Frozenset.updateFrom;generalize hPI:pyIter=PI
  wp_walk
  subst hPI;refine wpAny_pyIter_list oB (ab (wpAny_runValue ?_));have hlS:l<s.heap.objs.size:=dR tj;have ot:s.heap.objs.size<(s.heap.push {cls:=.type "set",dict:=none,data:=.set #[] 0 (.fresh 0 0 led)}).objs.size:=by rw[f8];exact H7
  refine MX (l:=l) (items:=items) (G:=G) (dU ot) (dU (bL hlS ot)) (bz hlS) (by simp[hh]) (lz _ ?_) (gU _ ot) (items.length - 0) 0 _ rfl (cc _) ⟨_,cj _ rfl,rfl,rfl⟩ (oB.push _) (h0 _ led ?_ ?_) λh' tk hG hk=>?_
  .exact kZ (show 3<=12 by decide) A.units
  .exact λb o e=>bn _ (bn _ e)
  .exact bn _ hS
  .refine aq ?_;show wpAny _ _ (ret Value.none) _ _ _;refine aq ⟨rfl,h',tk,rfl,hG,λb o hb e=>hk b o (bz (bL hb ot)) (bz hb) (bn _ (bn _ e))⟩
 .rcases r₂ with e | fl₂
  .exact hr₂
  rcases fl₂ with _ | _ | _ | r<;>first | exact hr₂.elim | skip
  obtain⟨rfl,h',tk,rfl,hG,hk⟩:=hr₂
  repeat (any_goals (first | assumption | wp_step))
  exact hQ h' tk hG hk
end
end Hs
end
section
namespace Hs
noncomputable def sv:Value->Str
 |.str x _=>x
 |_ => ""
structure cX(prog:Program)(w:World)(h:Heap)(S:Addr)(ks:List Str)(es:Array (Int×Value))(t:SetTable)(ep:Nat):Prop where
 obj:h.get? S=some {cls:=.type "set",dict:=none,data:=.set es ep t,slots := #[]}
 el:ElemsOf (PySem.strKind prog w) es.toList
 perm:(es.toList.map λe=>sv e.2).Perm ks
 fit:t.fits es.size=true
 hY:7<=t.mask
 gQ:t.dummies = #[]
 pl:es.size=0\/t.plain=false
def vq(prog:Program)(w:World)(S:Addr)(ks:List Str)(h:Heap):Prop:=∃es t ep,cX prog w h S ks es t ep
section
variable {prog:Program}{w:World}{A:Around}{E:WB}{s:Shared}{S:Addr}{es:Array (Int×Value)}{t:SetTable}{ep:Nat}{ks:List Str}
theorem cX.size(X:cX prog w s.heap S ks es t ep):es.size=ks.length:=by rw[<- X.perm.length_eq,aX,d8]
theorem cX.fill(X:cX prog w s.heap S ks es t ep):t.fill=es.size:=by
 have:=X.fit;unfold SetTable.fits at this;simp only[bQ,beq_iff_eq,dX] at this;unfold SetTable.fill;refine sb this.1 ?_;refine tb X.gQ ?_;rfl
theorem CV{k:Str}{v:Value}(h:(PySem.strKind prog w).is k v=true):sv v=k:=by
 refine aF (Value.isStrOf_shape h) ?_;rintro u rfl;rfl
theorem Bc(Ow:ElemsOf (PySem.strKind prog w) es.toList){k:Str}:(∃e∈es.toList,(PySem.strKind prog w).is k e.2=true)↔k∈es.toList.map λe=>sv e.2:=by
 constructor
 .intro q0;refine af q0 ?_;clear q0;rintro e he hk;exact List.mem_map.mpr (ao e he (CV hk))
 .intro h;refine af (List.mem_map.mp h) λe he hk=>?_
  refine aL (Ow e he) ?_;intro q0;refine af q0 ?_;clear q0;rintro k' hk' Y Y;have:=CV hk';exact ao e he (by refine sb hk ?_;refine tb this ?_;exact hk')
theorem yL{slot:Nat}(hd:t.dummies = #[])(hm:7<=t.mask)(hn:t.place.size<=5):(t.put slot).1.dummies = #[]/\7<=(t.put slot).1.mask/\(t.put slot).1.place.size=t.place.size+1:=by
 unfold SetTable.put;dsimp only;exact bP (by rw[hd];refine tb sR ?_;rfl) hm tC
theorem Qv{t:SetTable}{es:Array (Int×Value)}{h:Int}{x:Value}{P:SetTable->Prop}(f:∀slot,P ((t.put slot).1.orStandIn (SetTable.insertAt es (t.put slot).2 (h,x)).size))(g:P (t.standIn (es.size+1))):P (layNew t es h x).2.1:=by
 refine(?_:P (layNew.match_3 (λY=>Array (Int×Value)×SetTable×Bool×Bool) (t.freeSlot h) _ _).2.1)
 cases t.freeSlot h with
 |none=>exact g
 |some q=>exact f q.1
set_option tactic.hygienic true in
theorem add_str(X:cX prog w s.heap S ks es t ep)(eC:ks.length<4){x:Str}{tk:Nat}{Q:Bool->Shared->Prop}(jk:x∈ks->Q false s)(gW:x∉ks->∀h',vq prog w S (x::ks) h'->Heap.SameBut S s.heap h'->Q true {s with heap:=h'}) :
  wpAny (model prog w) A (setAddHashed S (.str x tk) ((PySem.strKind prog w).hash x)) Q E s:=by
 have mI:(PySem.strKind prog w).is x (.str x tk)=true:=by refine(?_:Value.isStrOf x (.str x tk)=true);unfold Value.isStrOf;simp
 have hz:=X.size;have hb:es.size<scanBound:=by refine aR hz ?_;unfold scanBound;exact bL eC (ce rfl:4<4096)
 refine cR (ab (kQ X.obj rfl X.fit ?_));dsimp only;rw[byScan_of rfl hb X.el];refine ab (ab (wpAny_rule (ab (wpAny_setScan_of mI X.obj rfl X.fit X.el ?_))))
 cases hr:List.findIdx? (λe=>(PySem.strKind prog w).is x e.2) es.toList with
 |some j=>
  refine af (List.findIdx?_eq_some_iff_getElem.mp hr) λhj Pp Y=>?_
  exact aq (aq (jk (X.perm.mem_iff.mp ((Bc X.el).mp (ao _ (List.getElem_mem hj) Pp)))))
 |none=>
  have tg:x∉ks:=λh=>by
   refine af ((Bc X.el).mpr (X.perm.mem_iff.mpr h)) λe he hk=>?_
   have:=List.findIdx?_eq_none_iff.mp hr e he;obtain this:=aW this hk;exact kM this
  obtain kn:=layNew_perm t es ((PySem.strKind prog w).hash x) (.str x tk);obtain ow:=layNew_fits t es ((PySem.strKind prog w).hash x) (.str x tk)
  obtain lu:(layNew t es ((PySem.strKind prog w).hash x) (.str x tk)).2.1.dummies = #[]/\7<=(layNew t es ((PySem.strKind prog w).hash x) (.str x tk)).2.1.mask:=by
   obtain oG:t.place.size<=5:=by
    have:=X.fill;unfold SetTable.fill at this;exact ak [_,_,_,_] 4 0x63182002a6438a2721c222001130 rfl eC hz this
   obtain st:∀(t':SetTable) (n:Nat),1<=n->(t'.standIn n).dummies = #[]/\7<=(t'.standIn n).mask:=λt' n hn=>⟨rfl,by refine(?_:7<=4*n+4);exact ak [_] 1 0xc1400089001150001d21800029 rfl hn⟩
   refine Qv (P:=λt'=>t'.dummies = #[]/\7<=t'.mask) (λslot=>?_) (st _ _ (dw 1 _))
   .obtain p1:=(yL (slot:=slot) X.gQ X.hY oG).1;obtain p2:=(yL (slot:=slot) X.gQ X.hY oG).2.1;obtain p3:=(yL (slot:=slot) X.gQ X.hY oG).2.2;unfold SetTable.orStandIn
    split
    .exact ⟨p1,p2⟩
    .exact st _ _ (by refine bh tC ?_;exact dw 1 _)
  generalize hL:layNew t es ((PySem.strKind prog w).hash x) (.str x tk)=L at kn ow lu ⊢;obtain⟨es1,t1,wasDummy,gave⟩:=L;dsimp only at kn ow lu ⊢;replace kn:=eU kn Array.toList_push;obtain Ox:ElemsOf (PySem.strKind prog w) es1.toList:=(X.el.push mI rfl).perm kn;have Cz:es1.size=es.size+1:=by refine sb d8 ?_;refine tb kn.length_eq ?_;refine tb bA ?_;refine sb d8 ?_;rfl
  have Pm:(es1.toList.map λe=>sv e.2).Perm (x::ks):=by
   exact(kn.map _).trans (aR gb ((List.perm_append_comm).trans (X.perm.cons x)))
  obtain gw:∀(b:Bool) {s₁:Shared} {Q':Unit->Shared->Prop},Q' () s₁->wpAny (model prog w) A (match b with | true=>rule "set.scan.the-table-gave-way" |false=>pure ()) Q' E s₁ :=
   λb s₁ Q' hq=>by cases b<;>first | exact aq hq | exact wpAny_rule hq
  refine ab (gw _ ?_)
  obtain fin:∀t2:SetTable,t2.plain=false->t2.dummies = #[]->7<=t2.mask->t2.fits es1.size=true->∀{Q1:Option Bool->Shared->Prop},(∀h',vq prog w S (x::ks) h'->Heap.SameBut S s.heap h'->Q1 (some true) {s with heap:=h'})->wpAny (model prog w) A (do
    storeSet S es1 t2
    if (!wasDummy&&t2.tooFull)=true then
     let (es,t,gave):=relayAll t2 es1 (SetTable.grown es1.size)
     (match gave with | true=>rule "set.scan.the-table-gave-way" |false=>pure ())
     storeSet S es t
    return some true:Sem (Option Bool)) Q1 E s:=by
   intro t2 a1 a2 a3 a4 Q1 hq;refine ab (y5 X.obj (by refine tb Cz ?_;refine tb iQ ?_;exact au (dg (cb hz)) (au eC (ce rfl))) λh' g1 g2=>?_)
   have X2:cX prog w h' S (x::ks) es1 t2 (ep+1):=⟨g1,Ox,Pm,a4,a3,a2,.inr a1⟩
   obtain hf:t2.tooFull=false:=by
    obtain h1:=cX.fill (s:={s with heap:=h'}) X2;unfold SetTable.tooFull;refine tb h1 ?_;simp;exact ak [_,_,_,_] 4 0x6318c2000d730015720cc00748d0000a6321c222001130 rfl eC hz Cz a3
   rw[hf,Bool.and_false];exact aq (hq h' (mV _ _ _ X2) g2)
  cases hp:t1.plain with
  |true=>
   rw[hashByValue_scannable 8 (x:=.str x tk) rfl];refine ab (aq (fin {t1 with plain:=false} rfl lu.1 lu.2 (SetTable.fits_plain_off ow) λh' a b=>?_));dsimp only
   exact aq (gW tg h' a b)
  |false=>
   refine ab (aq (fin t1 hp lu.1 lu.2 ow λh' a b=>?_));dsimp only;exact aq (gW tg h' a b)
end
end Hs
end
section
namespace Hs
theorem LA:entryFor table "set.__iter__" = some Builtin.«frozenset.__iter__» :=
 entryFor_alias (id' := "frozenset.__iter__") (by kernel_rfl) rfl (by decide +kernel) (by kernel_rfl)
theorem pz:Slot "set_iterator" "__next__" "set_iterator.__next__" :=
 .of (owner := "set_iterator") (n := "__next__") (by rw[typeLookup_type,builtinLookup_eq_fast];kernel_rfl) (by decide +kernel) (by decide +kernel) (by decide +kernel)
  (by first | exact .inl (by decide +kernel) | exact .inr (by decide +kernel)) (by rw[isSubtype_type];kernel_rfl)
theorem Bi:entryFor table "set_iterator.__next__" = some Builtin.«set_iterator.__next__» := entryFor_of_fast (by kernel_rfl)
theorem z7(a:Value):argsOk "set_iterator.__next__" ⟨[a],[]⟩:=by kernel_rfl
theorem Ja(a:Value):argsOk "set.__iter__" ⟨[a],[]⟩:=PySem.F.args_set_iter_1 a
end Hs
end
section
namespace Hs
section
variable {prog:Program}{w:World}{A:Around}{E:WB}{s:Shared}{S it:Addr}{es:Array (Int×Value)}{t:SetTable}{ep:Nat}{ks:List Str}
theorem VV{src:Source}{n:Nat}(hn:n≠0){Q:Nat->Shared->Prop}(h:∀i dr,i<n->Q i {s with drawn:=dr}):wpAny (model prog w) A (choose src n) Q E s:=λY Y Y=>⟨hn,h _ _ (Nat.mod_lt _ (Nat.pos_of_ne_zero hn))⟩
theorem EN{α β : Type}{o:Option α}{f:α->β}{g:Unit->β}{x:α}(h:o=some x):pickOrder.go.match_1 (λY => β) o f g=f x:=tb h rfl
theorem EM{α : Type}{l:List α}:∀{i:Nat} (h:i<l.length),(l[i]::l.eraseIdx i).Perm l:=by
 induction l with
 |nil=>exact λ{i} h=>absurd h (l8 i)
 |cons x r ih=>
  intro i
  induction i using Nat.casesOn with
  |zero=>exact λY=>List.Perm.refl _
  |succ i=>exact λh=>(List.Perm.swap x _ _).trans ((ih (Nat.lt_of_succ_lt_succ h)).cons x)
theorem KS{α : Type}{n:Nat}:∀{xs:List α} {s:Shared} {Q:List α->Shared->Prop},xs.length=n->(∀l dr,l.Perm xs->Q l {s with drawn:=dr})->wpAny (model prog w) A (drawOrder n xs) Q E s:=by
 induction n with
 |zero=>exact λ{xs} {s} {Q} hn h=>aq (h [] s.drawn (tb ((List.length_eq_zero_iff.mp hn).symm) (List.Perm.refl _)))
 |succ n ih=>
  intro xs
  induction xs using List.casesOn with
  |nil=>exact λ{s} {Q} hn Y=>nomatch hn
  |cons x xs=>
   intro s Q hn h;refine ab (VV (Nat.succ_ne_zero _) λi dr hi=>bq (EN (dS hi)) ?_);refine ab (ih (xs:=(x::xs).eraseIdx i) (by refine tb (List.length_eraseIdx_of_lt (l:=x::xs) hi) ?_;exact Nat.succ.inj hn) λl KP hp=>?_);exact aq (h _ KP ((hp.cons _).trans (EM hi)))
theorem SK{α : Type}(next:Nat->Nat)(fuel:Nat):∀(k:Nat) (left:List α) (out:Array α),left.length<=fuel->(pickOrder.go next fuel k left out).toList.Perm (out.toList++left):=by
 induction fuel with
 |zero=>exact λk left out h=>(List.length_eq_zero_iff.mp (Nat.le_zero.mp h)).symm▸(lX out.toList).symm▸List.Perm.refl _
 |succ fuel ih=>
  intro k left
  induction left using List.casesOn with
  |nil=>exact λout Y=>(lX out.toList).symm▸List.Perm.refl _
  |cons x r=>
   intro out h;obtain hi:next k%(x::r).length<(x::r).length:=Nat.mod_lt _ (Nat.succ_pos _)
   refine ja (f:=λa b c=>(a:Array α).toList.Perm (b++c)) (EN (dS hi)) ?_;refine(ih (k+1) _ _ (by refine aR (List.length_eraseIdx_of_lt hi) ?_;exact jK h)).trans ?_;refine tb Array.toList_push ?_;exact tb (iW _ _ _) (List.Perm.append_left _ (EM hi))
theorem SN{α : Type}(next:Nat->Nat)(xs:Array α):(pickOrder next xs).toList.Perm xs.toList:=by
 have:=SK next xs.size 0 xs.toList #[] (by refine aR d8 ?_;exact bI _)
 exact this
theorem DO{h:Heap}{a:Addr}(k:h.objs.size<=a):h.get? a=none:=by
 cases e:h.get? a with
 |none=>rfl
 |some o=>exact absurd (dR e) (Nat.not_lt.mpr k)
structure i8(w:World)(h:Heap)(S it:Addr)(es:Array (Int×Value))(ep:Nat)(ord:List Value)(i:Nat):Prop where
 at_:∃first,h.get? it=some {cls:=.type "set_iterator",dict:=none,data:=.fields #[first,.int i 0,.ref S,.int es.size 0,.int ep 0],slots := #[]}/\
  ((w.params.followText "set-order" = true/\first=.int 0 0/\ord=(pickOrder (w.params.setOrder S ep) es).toList.map (·.2))\/
   (w.params.followText "set-order" = false/\∃(T:Addr) (iK:List Nat),first=.ref T/\T≠it/\IsTup h T (List.toArray (iK.map λ(i:Nat)=>rawInt i))/\ord.map some=iK.map λj=>(es[j]?).map (·.2)))
theorem KW(X:cX prog w s.heap S ks es t ep)(h2:2<=ks.length){Q:Bool->Shared->Prop}(h:Q (!(w.params.followText "set-order")) s):wpAny (model prog w) A (setDrawn S) Q E s:=by
 refine ab (kQ X.obj rfl X.fit (ab (ab (nF (aq (aq ?_))))));obtain hz:=X.size
 have hd:(!t.plain&&decide (es.size>1))=true:=by
  refine bR X.pl (λq=>?_) (λq=>?_)
  .exact H8 h2 hz q
  .rw [q];simp;exact H9 h2 hz
 refine(?_:Q (!w.params.followText "set-order"&&(!t.plain&&decide (es.size>1))) s);rw[hd,Bool.and_true];exact h
theorem Qf(X:cX prog w s.heap S ks es t ep)(h2:2<=ks.length)(h4:ks.length<=4){Q:WB}(h:∀it h' dr ord,(∀b o,s.heap.get? b=some o->h'.get? b=some o)->s.heap.get? it=none->ord.Perm (es.toList.map (·.2))->i8 w h' S it es ep ord 0->Q (.ref it) {s with heap:=h',drawn:=dr}):wpAny (model prog w) A (pyIter (.ref S)) Q E s:=by
 obtain hT:s.TypeIs (.ref S) "set" := (ao _ X.obj rfl)
 obtain hz:=X.size;refine wpAny_pyIter_slot hT F.slot_set_iter (wpAny_call_entry F.slot_set_iter hT LA ?_ (Ja _));unfold Builtin.«frozenset.__iter__» Builtin.Frozenset.slot0 slotArgs;simp only[List.isEmpty_nil,Bool.not_true,Bool.false_eq_true,↓reduceIte,bind_assoc,iX,bne_self_eq_false];refine ab (aq (ab (aq (ab (ab (wpAny_setEntries_of X.obj rfl X.fit (aq (ab (KW X h2 ?_)))))))))
 cases hf:w.params.followText "set-order" with
 |true=>
  refine ab (aq (ab (wpAny_setEpoch_of X.obj rfl X.fit (ab (fJ (aq ⟨_,rfl, "set_iterator",_,ao _ (cj _ rfl) rfl,pz.lookup,?_⟩))))))
  refine h _ _ s.drawn _ (λb o e=>bn _ e) (DO (bI _)) ((SN (w.params.setOrder S ep) es).map _) ⟨_,cj _ rfl,.inl ⟨hf,rfl,rfl⟩⟩
 |false=>
  refine ab (KS eJ λl dr hp=>ab (wpAny_newTuple (ab (wpAny_setEpoch_of (s:={s with heap:=_,drawn:=dr}) (bn _ X.obj) rfl X.fit ?_)) (by rw[aX,hp.length_eq,eJ,hz,iQ];exact au h4 c9)));refine ab (fJ (aq ⟨_,rfl, "set_iterator",_,ao _ (cj _ rfl) rfl,pz.lookup,?_⟩));obtain hl:∀j∈l,j<es.size:=λj hj=>List.mem_range.mp (hp.mem_iff.mp hj)
  obtain gA:(l.filterMap λj=>(es[j]?).map (·.2)).map some=l.map λj=>(es[j]?).map (·.2):=by
   clear hp
   induction l with
   |nil=>rfl
   |cons j r ih=>
    obtain hj:=hl j (.head _);refine tb List.filterMap_cons ?_;rw[List.map_cons,Array.getElem?_eq_getElem hj];dsimp only[Option.map_some];rw[List.map_cons,ih λq hq=>hl q (.tail _ hq)]
  refine h _ _ dr (l.filterMap λj=>(es[j]?).map (·.2)) (λb o e=>bn _ (bn _ e)) ?_ ?_ ⟨_,cj _ rfl,.inr ⟨hf,s.heap.objs.size,l,rfl,?_,?_,gA⟩⟩
  .exact DO (by refine bh (f8 _ _) ?_;exact Nat.le_succ _)
  .obtain e2:(List.range es.size).filterMap (λj=>(es[j]?).map (·.2))=es.toList.map (·.2):=by
    have:(List.range es.size).map (λj=>(es[j]?).map (·.2))=(es.toList.map (·.2)).map some:=by
     refine List.ext_getElem (by simp) λi h1 h2=>?_
     simp only[List.getElem_map,List.getElem_range];rw[Array.getElem?_eq_getElem (by simpa using h1)];simp
    have:=ay (List.filterMap id) this
    simpa [List.filterMap_map,Function.comp] using this
   exact ck e2 (hp.filterMap _)
  .rw [f8];exact bz (dT _)
  .exact ⟨_,bn _ (cj _ rfl),rfl,0,rfl⟩
end
end Hs
end
section
namespace Hs
section
variable {prog:Program}{w:World}{A:Around}{E:WB}{s:Shared}{S it:Addr}{es:Array (Int×Value)}{t:SetTable}{ep:Nat}{ks:List Str}{ord:List Value}{i:Nat}
theorem i8.len(Yy:i8 w s.heap S it es ep ord i)(hp:ord.Perm (es.toList.map (·.2))):ord.length=es.size:=by rw[hp.length_eq,aX,d8]
theorem VR(X:cX prog w s.heap S ks es t ep)(hf:w.params.followText "set-order" = true){Q:Array (Int×Value)->Shared->Prop}(h:Q (pickOrder (w.params.setOrder S ep) es) s):wpAny (model prog w) A (setWalk S) Q E s:=by
 refine ab (kQ X.obj rfl X.fit (ab (ab (nF (aq ?_)))));rw[show (model prog w).w.params.followText "set-order" = true from hf];exact ab (nF (aq h))
theorem Fn(X:cX prog w s.heap S ks es t ep)(hf:w.params.followText "set-order" = true){a b:Nat}{Q:Option (Value×Nat)->Shared->Prop}(h:Q ((pickOrder (w.params.setOrder S ep) es)[b]?.map λe=>(e.2,a)) s):wpAny (model prog w) A (setNext S a b ep) Q E s:=by
 exact ab (kQ X.obj rfl X.fit (ab (ab (nF (aq (bq (ar hf) (bq (aj (by simp)) (ab (VR X hf (aq h))))))))))
theorem RB{o:Option (Value×Nat)}{f:Value->Nat->Sem Fin}{g:Unit->Sem Fin}{x:Value}{n:Nat}(h:o=some (x,n)):Builtin.«set_iterator.__next__».match_1 (λY=>Sem Fin) o f g=f x n:=tb h rfl
theorem RA{o:Option (Value×Nat)}{f:Value->Nat->Sem Fin}{g:Unit->Sem Fin}(h:o=none):Builtin.«set_iterator.__next__».match_1 (λY=>Sem Fin) o f g=g ():=tb h rfl
theorem RC{o:Option Value}{f:Int->Tok->Sem Fin}{g:Value->Sem Fin}{k:Unit->Sem Fin}{x:Int}{t:Tok}(h:o=some (.int x t)):Builtin.«set_iterator.__next__».match_3 (λY=>Sem Fin) o f g k=f x t:=tb h rfl
theorem RD{o:Option Value}{f:Int->Tok->Sem Fin}{g:Value->Sem Fin}{k:Unit->Sem Fin}(h:o=none):Builtin.«set_iterator.__next__».match_3 (λY=>Sem Fin) o f g k=k ():=tb h rfl
theorem Rp(X:cX prog w s.heap S ks es t ep)(hp:ord.Perm (es.toList.map (·.2)))(Yy:i8 w s.heap S it es ep ord i)(hSi:S≠it){x:Value}(hx:ord[i]?=some x){Q:Option Value->Shared->Prop}(hQ:∀h',i8 w h' S it es ep ord (i+1)->(∀b o,b≠it->s.heap.get? b=some o->h'.get? b=some o)->Q (some x) {s with heap:=h'}):wpAny (model prog w) A (pyNext (.ref it)) Q E s:=by
 obtain ba:=Yy.len hp;refine af Yy.at_ λfirst ho hc=>?_
 obtain hT:s.TypeIs (.ref it) "set_iterator" := (ao _ ho rfl)
 obtain hi:i<ord.length:=(List.getElem?_eq_some_iff.mp hx).1;refine ab (wpAny_attempt (wpAny_callSpecial?_slot (name:=Str.ofString "__next__") hT pz (wpAny_call_entry pz hT Bi ?_ (z7 _))));refine ab (m:=slotArgs _ _ _) (aq (ab (m:=fieldsOf _) (wpAny_fieldsOf ho rfl ?_)));dsimp only;refine ab (wpAny_setEntries_of X.obj rfl X.fit (bq (aj (by simp)) ?_));rcases hc with ⟨hf,rfl,gA⟩ | ⟨hf,T,iK,rfl,hTi,qE,gA⟩
 .refine ab (Fn X hf ?_)
  obtain hg:(pickOrder (w.params.setOrder S ep) es)[i]?.map (λe=>(e.2,0))=some (x,0):=by
   rw[gA,fM,Array.getElem?_toList] at hx;exact af (Option.map_eq_some_iff.mp hx) λq e1 e2=>by rw[e1];exact sb e2 rfl
  refine bq (RB hg) (ab (wpAny_setField_rec ho (by simp) λh1 g1 g2=>ab (wpAny_setField_rec (s:={s with heap:=h1}) g1 (by simp) λh2 g3 g4=>aq (ao x rfl (aq (hQ h2 ⟨_,g3,.inl ⟨hf,rfl,gA⟩⟩ λb o hb e=>(g4.2 b hb).trans ((g2.2 b hb).trans e)))))))
 .obtain ⟨oT,fe,kg,nT,lr⟩:=qE
  have Po:∃j,iK[i]?=some j/\(es[j]?).map (·.2)=some x:=by
   have:=ay (λl=>l[i]?) gA;simp only[fM,hx,Option.map_some] at this;exact af (Option.map_eq_some_iff.mp this.symm) λj e1 e2=>ao j e1 e2
  refine af Po λj hj OZ=>ab (wpAny_seqItems fe lr ?_)
  obtain hg:(List.toArray (iK.map λ(i:Nat)=>rawInt i))[i]?=some (.int j 0):=by
   rw[List.getElem?_toArray,fM,hj];rfl
  refine bq (RC hg) (ab (ab (kQ X.obj rfl X.fit (bq (aj (by simp)) ?_))));refine af (Option.map_eq_some_iff.mp OZ) ?_;rintro q ej rfl;refine Fc (a:=q.1) (b:=q.2) ej (aq (ab (wpAny_setField_rec ho (by simp) λh1 g1 g2=>aq (ao q.2 rfl (aq (hQ h1 ⟨_,g1,.inr ⟨hf,T,iK,rfl,hTi,⟨oT,(g2.2 T hTi).trans fe,kg,nT,lr⟩,gA⟩⟩ λb o hb e=>(g2.2 b hb).trans e))))))
end
end Hs
end
section
namespace Hs
section
variable {prog:Program}{w:World}{A:Around}{E:WB}{s:Shared}{S it:Addr}{es:Array (Int×Value)}{t:SetTable}{ep:Nat}{ks:List Str}{ord:List Value}{i:Nat}
theorem FA(hh:A.handled=none){Q:Option Value->Shared->Prop}(hQ:∀h',(∀b o,s.heap.get? b=some o->h'.get? b=some o)->Q none {s with heap:=h'}){P:Fin->Shared->Prop} :
  wpAny (model prog w) A.in1 (do raiseNew (<- newExc (.type "StopIteration") []):Sem Fin) P (λe s'=>wpAny (model prog w) A (do
      let __do_lift <- isInstance e (Value.type "StopIteration")
      if __do_lift=true then pure none else throw e) Q E s') s:=by
 refine ab (ab (fJ (ab (m:=firstArgMember _ _) (wpAny_of_eq (a:=Value.none) (by first | rfl | (simp only[firstArgMember];rfl)) (fJ ?_ (by size_fits)))) (by size_fits)));dsimp only[raiseNew];refine ab (wpAny_handled ?_);rw[show A.in1.handled=none from hh];refine ab (aq (wpAny_throw ?_));refine ab (wpAny_isInstance (T := "StopIteration") (b:=true) (ao _ (cj _ rfl) rfl) isSubtype_stop ?_);exact aq (hQ _ λb o e=>bn _ (bn _ e))
theorem Ro(hh:A.handled=none)(X:cX prog w s.heap S ks es t ep)(hp:ord.Perm (es.toList.map (·.2)))(Yy:i8 w s.heap S it es ep ord ord.length){Q:Option Value->Shared->Prop}(hQ:∀h',(∀b o,b≠it->s.heap.get? b=some o->h'.get? b=some o)->Q none {s with heap:=h'}):wpAny (model prog w) A (pyNext (.ref it)) Q E s:=by
 obtain ba:=Yy.len hp;refine af Yy.at_ λfirst ho hc=>?_
 obtain hT:s.TypeIs (.ref it) "set_iterator" := (ao _ ho rfl)
 refine ab (wpAny_attempt (wpAny_callSpecial?_slot (name:=Str.ofString "__next__") hT pz (wpAny_call_entry pz hT Bi ?_ (z7 _))));refine ab (m:=slotArgs _ _ _) (aq (ab (m:=fieldsOf _) (wpAny_fieldsOf ho rfl ?_)));dsimp only;refine ab (wpAny_setEntries_of X.obj rfl X.fit (bq (aj (by simp)) ?_));rcases hc with ⟨hf,rfl,gA⟩ | ⟨hf,T,iK,rfl,hTi,qE,gA⟩
 .refine ab (Fn X hf ?_)
  obtain hg:(pickOrder (w.params.setOrder S ep) es)[ord.length]?=none:=by
   refine Array.getElem?_eq_none ?_;rw[gA,aX,d8];exact bI _
  exact bq (RA (tb hg rfl:(pickOrder (w.params.setOrder S ep) es)[ord.length]?.map (λe=>(e.2,0))=none)) (ab (wpAny_setField_rec ho (by simp) λh1 g1 g2=>FA (s:={s with heap:=h1}) hh λh' k=>hQ h' λb o hb e=>k b o ((g2.2 b hb).trans e)))
 .obtain ⟨oT,fe,kg,nT,lr⟩:=qE
  obtain Pr:iK.length=ord.length:=by
   have:=ay List.length gA
   simpa using this.symm
  refine ab (wpAny_seqItems fe lr ?_);obtain hg:(List.toArray (iK.map λ(i:Nat)=>rawInt i))[ord.length]?=none:=Array.getElem?_eq_none (by simp[Pr]);exact bq (RD hg) (ab (wpAny_setField_rec ho (by simp) λh1 g1 g2=>ab (wpAny_setField_rec (s:={s with heap:=h1}) g1 (by simp) λh2 g3 g4=>FA (s:={s with heap:=h2}) hh λh' k=>hQ h' λb o hb e=>k b o ((g4.2 b hb).trans ((g2.2 b hb).trans e)))))
theorem cX.keeps{h h':Heap}(X:cX prog w h S ks es t ep)(k:h.get? S=h'.get? S):cX prog w h' S ks es t ep:=⟨sb k X.obj,X.el,X.perm,X.fit,X.hY,X.gQ,X.pl⟩
theorem i8.keeps{h h':Heap}(Yy:i8 w h S it es ep ord i)(k:∀b o,h.get? b=some o->o.cls=.type "set_iterator"\/o.cls=.type "tuple"->h'.get? b=some o):i8 w h' S it es ep ord i:=by
 refine af Yy.at_ λfirst ho hc=>⟨first,k _ _ ho (.inl rfl),?_⟩
 rcases hc with q | ⟨hf,T,iK,rfl,hTi,⟨oT,fe,kg,r⟩,gA⟩
 .exact .inl q
 .exact .inr ⟨hf,T,iK,rfl,hTi,cL oT (k _ _ fe (.inr kg)) kg r,gA⟩
theorem LU{R:Result->Shared->Prop}{L:Addr}{bt:Value}(sZ:S≠it)(hiL:L≠it)(sQ:L≠S)(hh:A.handled=none)(hp:ord.Perm (es.toList.map (·.2)))(hz:es.size<=4) :
  ∀(k i:Nat) (s:Shared) (c:Nat),ord.length - i=k->i<=ord.length->cX prog w s.heap S ks es t ep->i8 w s.heap S it es ep ord i->
   s.heap.get? L=some {cls:=.type "list",dict:=none,data:=.seq (ord.take i).toArray c,slots := #[]}->
   (∀h' c',h'.get? L=some {cls:=.type "list",dict:=none,data:=.seq ord.toArray c',slots := #[]}->(∀b o,b≠it->b≠L->s.heap.get? b=some o->h'.get? b=some o)->R (.ok (.ret bt)) {s with heap:=h'})->
   codeAny (model prog w) A (.builtin "list.extend.loop" ⟨[.ref L,.ref it,bt],[]⟩) R s:=by
 intro k
 induction k with
 |zero=>
  intro i s c hk hi X Yy hL hR;obtain rfl:i=ord.length:=by exact Nat.le_antisymm hi (nJ hk)
  refine mq F.entry_extend_loop ?_;rw[pK F.plain_extend_loop _];refine ab (Ro (A:=A.in1) hh X hp Yy λh1 he=>aq (hR h1 c ?_ λb o hb Y e=>he b o hb e));obtain hL:=ip▸hL
  exact he _ _ hiL hL
 |succ k ih=>
  intro i s c hk hi X Yy hL hR;have bJ:i<ord.length:=by exact l5 hk
  have ba:=Yy.len hp;refine mq F.entry_extend_loop ?_;rw[pK F.plain_extend_loop _];refine ab (Rp X hp Yy sZ (dS bJ) λh1 Y1 he=>?_);have hL1:=he _ _ hiL hL;obtain cy:(ord.take i).toArray.size=i:=by rw[eL,fN];exact iZ (cq (l5 hk))
  refine ab (wpAny_updateSeq hL1 rfl ?_ (by rw[cy,iQ];exact H' hz hk ba) (by rw[Array.size_push,cy,iQ];exact ak [_,_ - _,_,_,_] 5 0xc63182800053000288004a00014d07098d0000a651080089814830001310d2641cd1488674 rfl (zs _ _) hz hk ba));obtain hL2:=eI (Obj.mapSeq (·.push ord[i])) hL1 rfl
  have ht:((ord.take i).toArray.push ord[i])=(ord.take (i+1)).toArray:=by
   rw[List.push_toArray,jJ,dS bJ];rfl
  have k2:∀b o,b≠it->b≠L->s.heap.get? b=some o->(h1.update L (Obj.mapSeq (·.push ord[i]))).get? b=some o:=λb o hb hbL e=>(jG _ _ (bO hbL)).trans (he b o hb e)
  refine aq ⟨plainId_quiet F.plain_extend_loop _,ih (i+1) _ _ (lb hk) bJ (X.keeps ?_) (Y1.keeps λb o e hc=>?_) (by refine aE hL2 ?_;simp only[Obj.mapSeq,ht];rfl) λh' c' g1 g2=>hR h' c' g1 λb o hb hbL e=>g2 b o hb hbL (k2 b o hb hbL e)⟩
  .refine aE X.obj ?_;exact(k2 _ _ sZ (bO sQ) X.obj).symm
  .refine (jG _ _ ?_).trans e;rintro rfl;obtain rfl:=ag (aE (bU hL1) e);rcases hc with q | q<;>simp at q
end
end Hs
end
section
namespace Hs
section
variable {prog:Program}{w:World}{A:Around}{E:WB}{s:Shared}{S it:Addr}{es:Array (Int×Value)}{t:SetTable}{ep:Nat}{ks:List Str}{ord:List Value}{i:Nat}
theorem VC:typeLookup (.type "set") "__len__" = pure (some (.builtin "set.__len__")):=F.slot_set_len.lookup
theorem UR:isSubtype (.type "set") (.type "set")=pure true:=by rw[isSubtype_type];kernel_rfl
theorem OV(X:cX prog w s.heap S ks es t ep){Q:Bool->Shared->Prop}(h:Q false s):wpAny (model prog w) A (Builtin.List.listLengthHint (.ref S)) Q E s:=by
 have hT:s.TypeIs (.ref S) "set" := (ao _ X.obj rfl)
 refine ab (wpAny_specialOf hT VC ?_);dsimp only;obtain e:splitId "set.__len__" = some ("set", "__len__"):=by kernel_rfl
 exact tb e (ab (wpAny_isInstance hT UR (ab (wpAny_typeOf hT (aq h)))))
theorem J9(hh:A.handled=none)(X:cX prog w s.heap S ks es t ep)(h2:2<=ks.length)(h4:ks.length<=4){Q:List Value->Shared->Prop}(h:∀ord h' dr,ord.Perm (es.toList.map (·.2))->(∀b o,s.heap.get? b=some o->h'.get? b=some o)->Q ord {s with heap:=h',drawn:=dr}):wpAny (model prog w) A (collect (.ref S)) Q E s:=by
 obtain hz:=X.size;have hSlt:S<s.heap.objs.size:=dR X.obj;refine ab (wpAny_runValue (mq F.entry_proto_collect (tb (pK F.plain_proto_collect _) (ab (fJ (aq ⟨plainId_quiet F.plain_list_iadd _,mq F.entry_list_iadd (tb (pK F.plain_list_iadd _) (?_:wpAny _ A.in1 (Builtin.List.listExtendWith (.ref s.heap.objs.size) (.ref S) (.ref s.heap.objs.size)) _ _ _))⟩))))));have X1:cX prog w (s.heap.push {cls:=.type "list",data:=.seq ([]:List Value).toArray}) S ks es t ep:=X.keeps (by refine aE X.obj ?_;exact(bn _ X.obj).symm);obtain hL1:(s.heap.push {cls:=.type "list",data:=.seq ([]:List Value).toArray}).get? s.heap.objs.size=some {cls:=.type "list",dict:=none,data:=.seq #[] 0,slots := #[]}:=cj _ rfl
 obtain hT:Shared.TypeIs {s with heap:=s.heap.push {cls:=.type "list",data:=.seq ([]:List Value).toArray}} (.ref S) "set" := (ao _ X1.obj rfl)
 refine ab (wpAny_typeOf hT ?_)
 obtain h1:Builtin.List.listSameRef (.ref s.heap.objs.size) (.ref S)=false:=by
  exact(beq_eq_false_iff_ne.mpr (dU hSlt):(s.heap.objs.size==S)=false)
 refine bq (aj (by refine tb h1 ?_;decide)) ?_;refine ab (Qf (s:={s with heap:=_}) X1 h2 h4 λit h' dr ord k1 n1 p1 Y1=>?_);change (s.heap.push {cls:=.type "list",data:=.seq ([]:List Value).toArray}).get? it=none at n1;replace k1:∀b o,(s.heap.push {cls:=.type "list",data:=.seq ([]:List Value).toArray}).get? b=some o->h'.get? b=some o:=k1;have X2:cX prog w h' S ks es t ep:=X1.keeps (by refine aE X1.obj ?_;exact(k1 _ _ X1.obj).symm);refine ab (cR (OV (s:={s with heap:=h',drawn:=dr}) X2 ?_))
 show wpAny _ A.in1 (rule "list.extend.makes-room" >>= λY=>Builtin.List.listTouch (.ref s.heap.objs.size)>>=λY =>
  again (.builtin "list.extend.loop" ⟨[.ref s.heap.objs.size,.ref it,.ref s.heap.objs.size],[]⟩)) _ _ _
 refine ab (wpAny_rule (ab ?_));obtain hL2:=k1 _ _ hL1;refine ab (wpAny_updateSeq hL2 rfl ?_);obtain BW:=eI (Obj.mapSeq (·.push Value.none)) hL2 rfl;refine wpAny_updateSeq BW rfl ?_;obtain NI:=eI (Obj.mapSeq (·.pop)) BW rfl
 have oth:∀b o,b≠s.heap.objs.size->h'.get? b=some o->((h'.update s.heap.objs.size (Obj.mapSeq (·.push Value.none))).update s.heap.objs.size (Obj.mapSeq (·.pop))).get? b=some o :=
  λb o hb e=>(jG _ _ (bO hb)).trans ((jG _ _ (bO hb)).trans e)
 obtain NJ:s.heap.objs.size≠it:=λq=>by rw[q] at hL1;rw[n1] at hL1;exact aP hL1
 have NK:S≠it:=λq=>by have:=X1.obj;rw[q,n1] at this;exact aP this
 obtain sQ:s.heap.objs.size≠S:=dU hSlt;refine aq ⟨plainId_quiet F.plain_extend_loop _,LU (s:={s with heap:=_,drawn:=dr}) NK NJ sQ (by simpa using hh) p1 (zP h4 hz) (ord.length - 0) 0 _ rfl (cc _) (X2.keeps (by refine tb X2.obj ?_;exact(oth _ _ (bO sQ) X2.obj).symm)) (Y1.keeps λb o e hc=>oth b o (λq=>?_) e) NI λh5 c5 g5 g6=>?_⟩
 .subst q;rw[hL2] at e;obtain rfl:=ag e;rcases hc with q | q<;>simp at q
 .refine (?_:wpAny _ A (load s.heap.objs.size>>=_) _ _ _);refine ab (wpAny_load g5 ?_);refine aq (h ord h5 dr p1 λb o e=>?_);have hb:b≠s.heap.objs.size:=bz (dR e);have e1:=bn {cls:=.type "list",data:=.seq ([]:List Value).toArray} e;refine g6 b o (λq=>?_) hb (oth b o hb (k1 b o e1));rw[q,n1] at e1;exact aP e1
end
end Hs
end
section
namespace Hs
section
variable {prog:Program}{w:World}{A:Around}{E:WB}{s:Shared}{S it:Addr}{es:Array (Int×Value)}{t:SetTable}{ep:Nat}{ks:List Str}
theorem UO{vs:List Value}(h:∀v∈vs,∃x t,v=.str x t):StrsAre vs (vs.map sv):=by
 induction vs with
 |nil=>exact .nil
 |cons v r ih=>
  refine kR (h v (.head _)) ?_;rintro x t rfl;exact .cons x t (ih λu hu=>h u (.tail _ hu))
theorem Uk(hh:A.handled=none)(X:cX prog w s.heap S ks es t ep)(h2:2<=ks.length)(h4:ks.length<=4){Q:WB}(h:∀a vs ss h' dr,(∀b o,s.heap.get? b=some o->h'.get? b=some o)->(∀b o,s.heap.get? b=some o->b<a)->(∃n,h'.get? a=some {cls:=.type "list",dict:=none,data:=.seq (List.toArray vs) n,slots := #[]})->StrsAre vs ss->ss.Perm ks->sortedS ss=true->Q (.ref a) {s with heap:=h',drawn:=dr}) :
  wpAny (model prog w) A (call (.builtin "sorted") [.ref S]) Q E s:=by
 refine Calls.call_function_entry kind_sorted plain_sorted entry_sorted (args_sorted1 _) ?_;refine ab (m:=checkCount "sorted" 1 1 _) (aq ?_);refine ab (J9 (by exact hh) X h2 h4 λord h1 dr p1 k1=>?_);obtain hz:=X.size;have ba:ord.length=es.size:=by rw[p1.length_eq,aX,d8]
 have hS:StrsAre ord (ord.map sv):=UO λv hv=>by
  refine af (List.mem_map.mp (p1.mem_iff.mp hv)) ?_;rintro e he rfl;refine aL (X.el e he) ?_;intro q0;refine af q0 ?_;clear q0;rintro k hk Y Y;exact aF (Value.isStrOf_shape hk) λu hu=>kx k u hu
 obtain kn:(ord.map sv).Perm ks:=by
  exact(p1.map sv).trans (aR List.map_map X.perm)
 refine ab (wpAny_newList ?_);obtain hoL:(h1.push (seqObj "list" ord.toArray 0)).get? h1.objs.size=some (seqObj "list" ord.toArray 0):=cj _ rfl;refine ab (cR (wpAny_call_entry slot_list_sort (ao _ hoL rfl) entry_list_sort (list_sort_treeK strKind_oneLt hoL hS.keysOf (λv₁ v₂ rest e=>keyKind_strs (by refine nU e ?_;exact hS)) (ak [_,_,_] 3 0x18c610080990e321c221001130 rfl h4 hz ba) λst' a1 a2=>(ao _ rfl ?_)) (args_list_sort _)));refine aq (ao _ rfl (cps λG kG=>bE (sorted_out_str hS a1 a2) λss' b1 b2 b3=>?_));have kj:∀b o,s.heap.get? b=some o->h1.get? b=some o:=k1;refine aF (sortedHeap_at (out:=(arrOf st').map (·.2)) hoL) λe5 Oi=>kG ?_
 obtain gW:∀b o,s.heap.get? b=some o->b<h1.objs.size:=λb o e=>dR (kj b o e)
 refine h h1.objs.size ((arrOf st').map (·.2)).toList ss' _ dr (λb o e=>?_) gW ⟨e5,Oi⟩ b1 (b2.trans kn) b3;obtain e1:=kj b o e;obtain hb:=dR e1;exact aE (sortedHeap_old (bz hb) (by rw[size_push'];exact jL hb)) (bn _ e1)
end
end Hs
end
section
namespace Hs
section
variable {prog:Program}{w:World}{A:Around}{E:WB}{s:Shared}{S l it:Addr}{items:List Value}
theorem yh{α : Type}[BEq α][LawfulBEq α]:∀{ks l:List α},ks.Nodup->(∀q∈ks,q∈l)->ks.length<=l.length:=by
 intro x9
 induction x9 with
 |nil=>
  intro Y Y Y
  exact cc _
 |cons k ks ih=>
  intro l hn h;refine aL (List.nodup_cons.mp hn) λh1 h2=>?_
  obtain hk:=h k (.head _);have:=ih (l:=l.erase k) h2 λq hq=>(List.mem_erase_of_ne (λe:q=k=>h1 (by refine ck e ?_;exact hq))).mpr (h q (.tail _ hq))
  obtain this:=eU this (List.length_erase_of_mem hk);have:=List.length_pos_of_mem hk;exact dx (‹_›) (Nat.sub_lt this (by decide))
def Gs(prog:Program)(w:World)(S:Addr)(names:List Str)(i:Nat)(h:Heap):Prop:=∃ks,vq prog w S ks h/\ks.Nodup/\∀k,k∈ks↔k∈names.take i
theorem UN{vs:List Value}{ss:List Str}(h:StrsAre vs ss):∀{i:Nat} {v:Value},vs[i]?=some v->∃x t,v=.str x t/\ss[i]?=some x:=by
 induction h with
 |nil=>exact λh=>aP h
 |cons x t r ih=>
  intro i v h
  induction i using Nat.casesOn with
  |zero=>exact aT x t (ag h).symm rfl
  |succ i=>exact ih h
theorem DA{α : Type}{l:List α}{i:Nat}{x k:α}(e:l[i]?=some x):k∈l.take (i+1)↔k=x\/k∈l.take i:=by
 rw[jJ,e];simp only[Option.toList_some,List.mem_append,lZ];exact Or.comm
theorem GV{names:List Str}(hS:StrsAre items names)(h4:names.length<=4):rK prog w A S items (Gs prog w S names):=by
 intro i x s Q E q9 hx hQ;refine bE q9 λks q8 hn hm=>kS q8 λes t ep X=>?_
 refine ci (UN hS hx) ?_;rintro k tk rfl hk
 obtain ba:ks.length<=i:=by
  have:ks.length<=(names.take i).length:=yh hn λq hq=>(hm q).mp hq
  obtain this:=eU this fN;exact au this (Nat.min_le_left _ _)
 have hi:i<names.length:=(List.getElem?_eq_some_iff.mp hk).1;refine cR (ab ((PySem.strKind prog w).pyHash (k:=k) (by refine(?_:Value.isStrOf k (.str k tk)=true);unfold Value.isStrOf;simp) ?_));refine add_str (s:={s with toks:=s.toks+_}) X (bx (dx ba hi) h4) (λjk=>?_) λtg h' X' hb=>?_
 .refine hQ s.heap _ (cL ks (mV es t ep X) hn (λq=>?_)) (Heap.SameBut.refl _ _);rw[DA hk,hm];exact⟨.inr,λh=>h.elim (λe=>tb e ((hm k).mp jk)) id⟩
 .refine hQ h' _ (cL (k::ks) X' (List.nodup_cons.mpr ⟨tg,hn⟩) (λq=>?_)) hb;rw[DA hk,ef,hm]
theorem Ul{names:List Str}(hh:A.handled=none)(hl:s.heap.IsList l items.toArray)(hS:StrsAre items names)(h4:names.length<=4)(h2:∃a b,a∈names/\b∈names/\a≠b){Q:WB}(h:∀a vs ss h' dr tk,(∀b o,s.heap.get? b=some o->h'.get? b=some o)->(∀b o,s.heap.get? b=some o->b<a)->(∃n,h'.get? a=some {cls:=.type "list",dict:=none,data:=.seq (List.toArray vs) n,slots := #[]})->StrsAre vs ss->ss.Nodup->(∀k,k∈ss↔k∈names)->sortedS ss=true->Q (.ref a) {s with heap:=h',drawn:=dr,toks:=tk}) :
  wpAny (model prog w) A (call (.type "set") [.ref l]) (λv s1=>wpAny (model prog w) A (call (.builtin "sorted") [v]) Q E s1) E s:=by
 refine Fp (G:=Gs prog w s.heap.objs.size names) hh hl (λA' Y=>GV hS h4) (λit fR i h h' q9 k=>af q9 λks q8 r=>kS q8 λes t ep X=>ao ks (mV es t ep (X.keeps ?_)) r) (λh' led k e=>(cL ([]) (mV (#[]) (.fresh 0 0 led) 0 ⟨e,λe he=>by simp at he,List.Perm.refl _,rfl,by exact bI _,rfl,.inl rfl⟩) List.nodup_nil (λk=>by rfl))) λh1 tk q9 hk=>bE q9 λks q8 hn hm=>kS q8 λes t ep X=>?_
 .refine aE X.obj ?_;exact(k _ _ (bz fR) X.obj).symm
 obtain ba:items.length=names.length:=by
  have:∀{vs:List Value} {ss:List Str},StrsAre vs ss->vs.length=ss.length:=by
   intro vs ss h
   induction h with
   |nil=>rfl
   |cons _ _ _ ih=>simp[ih]
  exact this hS
 have hm':∀k,k∈ks↔k∈names:=λk=>by rw[hm,ba,ip]
 have O2:ks.length<=4:=au (yh hn λq hq=>(hm' q).mp hq) h4
 have kl:2<=ks.length:=by
  refine aA h2 λa b ha hb wP=>?_
  obtain h1:=(hm' a).mpr ha;obtain h2:=(hm' b).mpr hb
  induction ks using List.casesOn with
  |nil=>cases h1
  |cons x r=>induction r using List.casesOn with
   |nil=>
    rw[lZ] at h1 h2
    exact absurd (h1.trans h2.symm) wP
   |cons y r=>simp
 exact Uk (s:={s with heap:=h1,toks:=tk}) hh X kl O2 λa vs ss h' dr k2 n2 o2 q1 q2 q3=>h a vs ss h' dr tk (λb o e=>k2 b o (hk b o (dR e) e)) (λb o e=>n2 b o (hk b o (dR e) e)) o2 q1 (q2.nodup_iff.mpr hn) (λk=>by rw[q2.mem_iff,hm']) q3
structure Gt(prog:Program)(w:World)(n0:Nat)(S:Addr)(items:List Value)(keys:List (List Str))(i:Nat)(h:Heap):Prop where
 all:∀(j:Nat) (v:Value),items[j]?=some v->∃a k,v=.ref a/\a<n0/\keys[j]?=some k/\f9 prog w h k a
 set:∃es t,fO h S es t/\es.size=i/\∀e∈es.toList,∃(j:Nat),j<i/\items[j]?=some e.2
theorem GW{n0:Nat}{keys:List (List Str)}(hn:n0<=S)(hd:keys.Nodup)(hu:A.units<cLine)(ba:items.length<=76):rK prog w A S items (Gt prog w n0 S items keys):=by
 intro i x s Q E q9 hx hQ;obtain⟨eR,es,t,X,hz,gz⟩:=q9;refine dQ (eR i x hx) ?_;rintro a k rfl ha hk mI;obtain hi:i<items.length:=(List.getElem?_eq_some_iff.mp hx).1;refine cR (ab (wpAny_pyHash_tuple hu mI (cR ?_)))
 obtain NS:vp prog w s.heap es k:=λe he=>by
  refine af (gz e he) λj hj xg=>dQ (eR j _ xg) λb k' h1 Y h3 h4=>bF b k' h1 h4 (λq=>?_)
  subst q;refine aF (List.getElem?_eq_some_iff.mp h3) λl1 v1=>?_
  refine aF (List.getElem?_eq_some_iff.mp hk) λl2 v2=>?_
  have:=(List.getElem_inj (h₀:=l1) (h₁:=l2) hd).mp (v1.trans v2.symm);exact Ia hj this
 refine GS (s:={s with toks:=s.toks+(k.length+1)}) X hu mI NS (bx (dx (cb hz) hi) ba) λh' es' t' X' hz' hm hb=>hQ h' _ ⟨λj v hv=>?_,es',t',X',by refine tb hz' ?_;exact sb hz rfl,λe he=>?_⟩ hb
 .refine dQ (eR j v hv) ?_;rintro b k' h1 h2 h3 ⟨o,its,n,g1,g2⟩;exact hX b k' h1 h2 h3 (ky o its n ((hb.2 b (bz (bx h2 hn))).trans g1) g2)
 .refine bR (hm e he) (λq=>?_) (λq8=>af q8 λe0 q1 q2=>?_)
  .exact ao i (dT i) (by rw[hx];exact sb q rfl)
  .exact af (gz e0 q1) λj hj xg=>ao j (jL hj) (by refine tb xg ?_;exact sb q2 rfl)
theorem QA{keys:List (List Str)}(hh:A.handled=none)(hu:A.units+12<cLine)(hl:s.heap.IsList l items.toArray)(ba:items.length<=76)(hd:keys.Nodup)(hk:∀(j:Nat) (v:Value),items[j]?=some v->∃a k,v=.ref a/\keys[j]?=some k/\f9 prog w s.heap k a){Q:WB}(h:∀h' t1 tk,(∀b o,s.heap.get? b=some o->h'.get? b=some o)->Q (.int items.length t1) {s with heap:=h',toks:=tk}) :
  wpAny (model prog w) A (call (.type "set") [.ref l]) (λv s1=>wpAny (model prog w) A (call (.builtin "len") [v]) Q E s1) E s:=by
 obtain lt:∀{h:Heap} {k a},f9 prog w h k a->a<h.objs.size:=λq9=>nG q9 λo Y Y e Y Y Y=>dR e
 refine Fp (G:=Gt prog w s.heap.objs.size s.heap.objs.size items keys) hh hl (λA' hA=>GW (bI _) hd (dx hA hu) ba) (λit fR i h h' g k=>⟨λj v hv=>?_,?_⟩) (λh' led k e=>⟨λj v hv=>?_,#[],.fresh 0 0 led,⟨⟨0,e⟩,rfl,rfl,.inl ⟨rfl,by decide⟩⟩,rfl,λe he=>by simp at he⟩) λh1 tk g oz=>?_
 .refine dQ (g.all j v hv) ?_;rintro b k' h1 h2 h3 ⟨o,its,n,g1,g2⟩;exact hX b k' h1 h2 h3 (ky o its n (k _ _ (bz (bL h2 fR)) g1) g2)
 .exact ci g.set λes t X r=>aF X.obj λep ho=>aT es t ⟨⟨ep,k _ _ (bz fR) ho⟩,X.pF,X.gQ,X.hY⟩ r
 .refine aA (hk j v hv) λa k' h1 h2 h3=>?_
  have:=lt h3;exact lV h3 λo its n g1 g2=>hX a k' h1 this h2 (ky o its n (k _ _ g1) g2)
 .exact aA g.set λes t X hz Y=>aF X.obj λep ho=>call_len_set (s:={s with heap:=h1,toks:=tk}) ho (bP rfl rfl rfl) rfl X.fits (qR (k:=77) (Nat.lt_succ_of_le (tb hz ba))) (tb hz (h h1 _ _ λb o e=>oz b o (dR e) e))
end
end Hs
end
section
noncomputable abbrev aN:=List Nat
set_option genCtorIdx true in
inductive V where
 |none
 |bool (b:Bool)
 |int (i:Int)
 |str (s:aN)
 |bytes (b:List UInt8)
 |tup (l:List V)
 |fl (l:List V)
 |bg (n:Nat)
 |ref (k:Nat)
 |fn (f:Nat)
 |cls (c:Nat)
 |typ (n:Nat)
 |blt (n:Nat)
 |src
 |any
 |tok (i:Nat)
 deriving Inhabited
noncomputable def vN(v:V):Bool:=Nat.beq v.ctorIdx 0
noncomputable def vB(v:V):Option (Bool):=if h:v.ctorIdx=1 then V.bool.elim (motive_1:=λY=>Option (Bool)) v h some else none
noncomputable def vI(v:V):Option (Int):=if h:v.ctorIdx=2 then V.int.elim (motive_1:=λY=>Option (Int)) v h some else none
noncomputable def vS(v:V):Option (aN):=if h:v.ctorIdx=3 then V.str.elim (motive_1:=λY=>Option (aN)) v h some else none
noncomputable def vT(v:V):Option (List V):=if h:v.ctorIdx=5 then V.tup.elim (motive_1:=λY=>Option (List V)) v h some else none
noncomputable def vF(v:V):Option (List V):=if h:v.ctorIdx=6 then V.fl.elim (motive_1:=λY=>Option (List V)) v h some else none
noncomputable def rG(v:V):Option (Nat):=if h:v.ctorIdx=11 then V.typ.elim (motive_1:=λY=>Option (Nat)) v h some else none
noncomputable def u'(v:V):Option (Nat):=if h:v.ctorIdx=12 then V.blt.elim (motive_1:=λY=>Option (Nat)) v h some else none
noncomputable def vG(v:V):Option (Nat):=if h:v.ctorIdx=7 then V.bg.elim (motive_1:=λY=>Option (Nat)) v h some else none
noncomputable def zg(v:V):Option (Nat):=if h:v.ctorIdx=9 then V.fn.elim (motive_1:=λY=>Option (Nat)) v h some else none
noncomputable def ze(v:V):Option (Nat):=if h:v.ctorIdx=10 then V.cls.elim (motive_1:=λY=>Option (Nat)) v h some else none
noncomputable def vf(v:V):Bool:=Nat.beq v.ctorIdx 13
noncomputable def vR(v:V):Option (Nat):=if h:v.ctorIdx=8 then V.ref.elim (motive_1:=λY=>Option (Nat)) v h some else none
theorem F4{v:V}{i:Bool}(h:vB v=some i):v=.bool i:=dY h λq h=>V.bool.elim (motive_1:=λv=>(q:v.ctorIdx=1)->V.bool.elim (motive_1:=λY=>Option (Bool)) v q some=some i->v=.bool i) v q (λa Y h=>ay V.bool (ag h)) q h
theorem fH{v:V}{i:Int}(h:vI v=some i):v=.int i:=dY h λq h=>V.int.elim (motive_1:=λv=>(q:v.ctorIdx=2)->V.int.elim (motive_1:=λY=>Option (Int)) v q some=some i->v=.int i) v q (λa Y h=>ay V.int (ag h)) q h
theorem iT{v:V}{i:aN}(h:vS v=some i):v=.str i:=dY h λq h=>V.str.elim (motive_1:=λv=>(q:v.ctorIdx=3)->V.str.elim (motive_1:=λY=>Option (aN)) v q some=some i->v=.str i) v q (λa Y h=>ay V.str (ag h)) q h
theorem gJ{v:V}{i:List V}(h:vT v=some i):v=.tup i:=dY h λq h=>V.tup.elim (motive_1:=λv=>(q:v.ctorIdx=5)->V.tup.elim (motive_1:=λY=>Option (List V)) v q some=some i->v=.tup i) v q (λa Y h=>ay V.tup (ag h)) q h
theorem zf{v:V}{i:List V}(h:vF v=some i):v=.fl i:=dY h λq h=>V.fl.elim (motive_1:=λv=>(q:v.ctorIdx=6)->V.fl.elim (motive_1:=λY=>Option (List V)) v q some=some i->v=.fl i) v q (λa Y h=>ay V.fl (ag h)) q h
theorem jC{v:V}{i:Nat}(h:vR v=some i):v=.ref i:=dY h λq h=>V.ref.elim (motive_1:=λv=>(q:v.ctorIdx=8)->V.ref.elim (motive_1:=λY=>Option (Nat)) v q some=some i->v=.ref i) v q (λa Y h=>ay V.ref (ag h)) q h
theorem vg{v:V}{i:Nat}(h:rG v=some i):v=.typ i:=dY h λq h=>V.typ.elim (motive_1:=λv=>(q:v.ctorIdx=11)->V.typ.elim (motive_1:=λY=>Option (Nat)) v q some=some i->v=.typ i) v q (λa Y h=>ay V.typ (ag h)) q h
theorem zb{v:V}{i:Nat}(h:u' v=some i):v=.blt i:=dY h λq h=>V.blt.elim (motive_1:=λv=>(q:v.ctorIdx=12)->V.blt.elim (motive_1:=λY=>Option (Nat)) v q some=some i->v=.blt i) v q (λa Y h=>ay V.blt (ag h)) q h
theorem Ga{v:V}{i:Nat}(h:vG v=some i):v=.bg i:=dY h λq h=>V.bg.elim (motive_1:=λv=>(q:v.ctorIdx=7)->V.bg.elim (motive_1:=λY=>Option (Nat)) v q some=some i->v=.bg i) v q (λa Y h=>ay V.bg (ag h)) q h
theorem F'{v:V}{i:Nat}(h:zg v=some i):v=.fn i:=dY h λq h=>V.fn.elim (motive_1:=λv=>(q:v.ctorIdx=9)->V.fn.elim (motive_1:=λY=>Option (Nat)) v q some=some i->v=.fn i) v q (λa Y h=>ay V.fn (ag h)) q h
theorem F7{v:V}{i:Nat}(h:ze v=some i):v=.cls i:=dY h λq h=>V.cls.elim (motive_1:=λv=>(q:v.ctorIdx=10)->V.cls.elim (motive_1:=λY=>Option (Nat)) v q some=some i->v=.cls i) v q (λa Y h=>ay V.cls (ag h)) q h
theorem zi{v:V}(h:vf v=true):v=.src:=V.src.elim (motive_1:=λv=>v=.src) v (bY h) rfl
theorem vd{v:V}(h:vN v=true):v=.none:=V.none.elim (motive_1:=λv=>v=.none) v (bY h) rfl
set_option genCtorIdx true in
inductive Op where | add | sub
 deriving DecidableEq
set_option genCtorIdx true in
inductive Cp where | eq | ne | lt | gt | isIn | jt | same | jv
 deriving DecidableEq
mutual
inductive E where
 |c (v:V)
 |loc (x:Nat)
 |ae (x:Nat)
 |ah (x:Nat)
 |bo (isAnd:Bool) (l:List E)
 |bin (o:Op) (a b:E)
 |not (a:E)
 |neg (n:Nat)
 |ite (c a b:E)
 |dict (ks:List aN) (vs:List E)
 |list (l:List E)
 |tuple (l:List E)
 |comp (elt:E) (gs:List G)
 |cmp (o:Cp) (a b:E)
 |call (f:E) (a:List E)
 |meth (o:E) (m:Nat) (a:List E)
 |attr (o:E) (x:Nat)
 |sub (o i:E)
 |slc (o:E) (lo hi:Option E) (rev:Bool)
 |sset (f g:Nat) (a:E)
 |lP (f g:Nat) (a:E)
inductive G where
 |mk (t:T) (it:E) (ifs:List E)
inductive T where
 |loc (x:Nat)
 |two (x y:Nat)
end
inductive S where
 |ex (e:E)
 |asg (x:Nat) (isCell:Bool) (e:E)
 |aY (o:E) (x:Nat) (e:E)
 |cr (xs:List (Nat×Bool)) (e:E)
 |ite (c:E) (a b:List S)
 |wh (c:E) (b:List S)
 |fr (t:T) (it:E) (b:List S)
 |ret (e:Option E)
 |rs (e:E)
 |tr (b:List S) (g:Nat) (nm:Option Nat) (h:List S)
 |mr (x:Nat) (ps cs fs:List Nat) (b:List S)
 |oR
structure FD where
 ps:List Nat
 ds:List V
 cs:List Nat
 body:List S
set_option genCtorIdx true in
inductive O where
 |list (l:List V)
 |inst (c:Nat) (d:Nat)
 |ns (es:List (Nat×V))
 |dict (es:List (aN×V))
 |cell (v:Option V)
 |clo (f:FD) (cs:List (Nat×Nat))
 |exc (c:Nat) (d:Option Nat)
noncomputable def oI(o:O):Option (Nat×Nat):=if h:o.ctorIdx=1 then O.inst.elim (motive:=λY=>Option (Nat×Nat)) o h (λa b=>some (a,b)) else none
noncomputable def oN(o:O):Option (List (Nat×V)):=if h:o.ctorIdx=2 then O.ns.elim (motive:=λY=>Option (List (Nat×V))) o h some else none
noncomputable def oX(o:O):Option (Nat×Option Nat):=if h:o.ctorIdx=6 then O.exc.elim (motive:=λY=>Option (Nat×Option Nat)) o h (λa b=>some (a,b)) else none
noncomputable def oC(o:O):Option (FD×List (Nat×Nat)):=if h:o.ctorIdx=5 then O.clo.elim (motive:=λY=>Option (FD×List (Nat×Nat))) o h (λa b=>some (a,b)) else none
noncomputable def oL(o:O):Option (List V):=if h:o.ctorIdx=0 then O.list.elim (motive:=λY=>Option (List V)) o h some else none
noncomputable def yk(o:O):Option (Option V):=if h:o.ctorIdx=4 then O.cell.elim (motive:=λY=>Option (Option V)) o h some else none
noncomputable def oD(o:O):Option (List (aN×V)):=if h:o.ctorIdx=3 then O.dict.elim (motive:=λY=>Option (List (aN×V))) o h some else none
theorem RE{o:O}{i:Nat×Nat}(h:oI o=some i):o=.inst i.1 i.2:=dY h λq h=>O.inst.elim (motive:=λo=>(q:o.ctorIdx=1)->O.inst.elim (motive:=λY=>Option (Nat×Nat)) o q (λa b=>some (a,b))=some i->o=.inst i.1 i.2) o q (λa b Y h=>sb (ag h) rfl) q h
theorem RF{o:O}{i:List (Nat×V)}(h:oN o=some i):o=.ns i:=dY h λq h=>O.ns.elim (motive:=λo=>(q:o.ctorIdx=2)->O.ns.elim (motive:=λY=>Option (List (Nat×V))) o q some=some i->o=.ns i) o q (λa Y h=>ay O.ns (ag h)) q h
theorem RG{o:O}{i:Nat×Option Nat}(h:oX o=some i):o=.exc i.1 i.2:=dY h λq h=>O.exc.elim (motive:=λo=>(q:o.ctorIdx=6)->O.exc.elim (motive:=λY=>Option (Nat×Option Nat)) o q (λa b=>some (a,b))=some i->o=.exc i.1 i.2) o q (λa b Y h=>sb (ag h) rfl) q h
theorem DQ{o:O}{i:FD×List (Nat×Nat)}(h:oC o=some i):o=.clo i.1 i.2:=dY h λq h=>O.clo.elim (motive:=λo=>(q:o.ctorIdx=5)->O.clo.elim (motive:=λY=>Option (FD×List (Nat×Nat))) o q (λa b=>some (a,b))=some i->o=.clo i.1 i.2) o q (λa b Y h=>sb (ag h) rfl) q h
theorem o9{o:O}{i:List V}(h:oL o=some i):o=.list i:=dY h λq h=>O.list.elim (motive:=λo=>(q:o.ctorIdx=0)->O.list.elim (motive:=λY=>Option (List V)) o q some=some i->o=.list i) o q (λa Y h=>ay O.list (ag h)) q h
theorem DS{o:O}{i:Option V}(h:yk o=some i):o=.cell i:=dY h λq h=>O.cell.elim (motive:=λo=>(q:o.ctorIdx=4)->O.cell.elim (motive:=λY=>Option (Option V)) o q some=some i->o=.cell i) o q (λa Y h=>ay O.cell (ag h)) q h
theorem uh{o:O}{i:List (aN×V)}(h:oD o=some i):o=.dict i:=dY h λq h=>O.dict.elim (motive:=λo=>(q:o.ctorIdx=3)->O.dict.elim (motive:=λY=>Option (List (aN×V))) o q some=some i->o=.dict i) o q (λa Y h=>ay O.dict (ag h)) q h
inductive Tr where
 |nil
 |node (v:Option O) (l r:Tr)
noncomputable def Tr.get:Tr->Nat->Option O
 |.nil,_=>none
 |.node v l r,i=>match Nat.beq i 0 with
  |true=>v
  |false=>match Nat.beq (i%2) 1 with
   |true=>l.get (i/2)
   |false=>r.get (i/2 - 1)
noncomputable def Tr.put:Tr->Nat->O->Tr
 |.nil,_,o=>.node (some o) .nil .nil
 |.node v l r,i,o=>match Nat.beq i 0 with
  |true=>.node (some o) l r
  |false=>match Nat.beq (i%2) 1 with
   |true=>.node v (l.put (i/2) o) r
   |false=>.node v l (r.put (i/2 - 1) o)
inductive Ev where
 |draw (aK:Nat) (v:Nat)
 |stat (d:Nat) (r:V) (f:List V)
structure St where
 tr:Tr
 n:Nat
 loc:List (Nat×V)
 ae:List (Nat×Nat)
 dr:List Ev
 dp:Nat
 hd:Bool
 lo:Nat
set_option genCtorIdx true in
inductive a9(α : Type) where
 |ok (a:α) (st:St)
 |ex (k:Nat) (st:St)
inductive Fl where
 |next | brk | cont | ret (v:V)
noncomputable abbrev Mo(α : Type):=St->Option (a9 α)
noncomputable def Mo.pure{α}(a:α):Mo α := λst=>some (.ok a st)
noncomputable def Mo.bind{α β}(x:Mo α)(f:α->Mo β):Mo β := λst=>match x st with
 |none=>none
 |some (.ok a st')=>f a st'
 |some (.ex k st')=>some (.ex k st')
noncomputable def Mo.fail{α}:Mo α := λY=>none
noncomputable instance:Monad Mo where
 pure:=Mo.pure
 bind:=Mo.bind
theorem DF{α β γ : Type}{st:St}{x:Mo α}{f:α->Mo β}{g:β->Mo γ}:((x>>=f)>>=g) st=(x>>=λa=>f a>>=g) st:=by
 refine(?_:Mo.bind (Mo.bind x f) g st=Mo.bind x (λa=>Mo.bind (f a) g) st);unfold Mo.bind
 cases x st with
 |none=>rfl
 |some r=>cases r<;>rfl
noncomputable def aw{α}:List (Nat×α)->Nat->Option α
 |[],_=>none
 |(y,v)::r,x=>match Nat.beq y x with | true=>some v | false=>aw r x
noncomputable def aI{α}:List (Nat×α)->Nat->α->List (Nat×α)
 |[],x,v=>[(x,v)]
 |(y,u)::r,x,v=>match Nat.beq y x with | true=>(y,v)::r | false=>(y,u)::aI r x v
noncomputable def dC:aN->aN->Bool
 |[],[]=>true
 |a::r,b::s=>match Nat.beq a b with | true=>dC r s | false=>false
 |_,_=>false
theorem QI{α}{y x:Nat}{v:α}{r:List (Nat×α)}:aw ((y,v)::r) x=(match Nat.beq y x with | true=>some v | false=>aw r x):=rfl
theorem Fk{α}{y x:Nat}{u v:α}{r:List (Nat×α)}:aI ((y,u)::r) x v=(match Nat.beq y x with | true=>(y,v)::r | false=>(y,u)::aI r x v):=rfl
noncomputable def gD{α}:List (aN×α)->aN->Option α
 |[],_=>none
 |(y,v)::r,x=>match dC y x with | true=>some v | false=>gD r x
theorem QG{α}{y x:aN}{v:α}{r:List (aN×α)}:gD ((y,v)::r) x=(match dC y x with | true=>some v | false=>gD r x):=rfl
noncomputable def nZ:List aN->Bool
 |[]=>true
 |k::r => !(r.any (dC k))&&nZ r
structure Pg where
 fd:Nat->Option FD
 gl:Nat->Option V
 init:Nat->Option Nat
 mt:Nat->Nat->Option Nat
 at_:Nat->Nat->Bool
 exc:Nat->Bool
 nest:Nat->Bool
 o0:Nat
 o5:Nat
 o6:Nat
 o4:Nat
 mX:Nat
 mZ:Nat
 mY:Nat
 cZ:Nat
 ka:Nat
 Jy:Nat
noncomputable def gy(k:Nat):Mo O:=λst=>match st.tr.get k with | some o=>some (.ok o st) | none=>none
noncomputable def cf(o:O):Mo Nat:=λst=>match (st.tr.put st.n o).get st.n with
 |some _=>some (.ok st.n {st with tr:=st.tr.put st.n o,n:=st.n+1})
 |none=>none
noncomputable def cW(k:Nat)(o:O):Mo Unit:=λst=>match Nat.ble st.lo k,st.tr.get k with
 |true,some _=>some (.ok () {st with tr:=st.tr.put k o})
 |_,_=>none
noncomputable def qn(x:Nat):Mo V:=λst=>match aw st.loc x with | some v=>some (.ok v st) | none=>none
noncomputable def ny(x:Nat)(v:V):Mo Unit:=λst=>some (.ok () {st with loc:=aI st.loc x v})
noncomputable def BK(x:Nat)(st:St):Option V:=(aw st.ae x).bind λk=>(st.tr.get k).bind λo=>(yk o).bind λu=>u
noncomputable def BJ(x:Nat):Mo V:=λst=>(BK x st).bind λa=>some (.ok a st)
noncomputable def rz(x:Nat)(v:V):Mo Unit:=λst=>(aw st.ae x).bind λk=>(st.tr.get k).bind λo=>(yk o).bind λY=>cond (Nat.ble st.lo k) (some (.ok () {st with tr:=st.tr.put k (.cell (some v))})) none
noncomputable def kL(c:Bool)(x:Nat)(v:V):Mo Unit:=match c with
 |true=>rz x v
 |false=>ny x v
noncomputable def aK:Nat:=1000000
noncomputable def room(n:Nat):Mo Unit:=match Nat.ble n aK with | true=>pure () | false=>Mo.fail
noncomputable def cM(l:List V):Mo V:=do
 room l.length
 return .ref (<- cf (.list l))
noncomputable def js(l:List V):Mo V:=do
 room l.length
 return .tup l
noncomputable def rd{α : Type}(f:St->Option α):Mo α := λst=>(f st).bind λa=>some (.ok a st)
noncomputable def pk{α : Type}(f:St->Option (Mo α)):Mo α := λst=>(f st).bind λm=>m st
noncomputable def cI(st:St)(v:V):Option (List V):=((vR v).bind λk=>(st.tr.get k).bind oL).or (vF v)
noncomputable def oQ(st:St)(v:V):Option (List V):=(vT v).or (cI st v)
noncomputable def eP{α : Type}(a:α):Mo α := λst=>match st.hd with
 |false=>some (.ok a st)
 |true=>none
noncomputable def small(n:Nat):Bool:=Nat.ble n aK
noncomputable def lg{α : Type}(st:St)(o:Option α):Option (Option α):=cond (o.isSome || !st.hd) (some o) none
noncomputable def tL(v:V)(i:Nat)(st:St):Option (Option V):=((vT v).bind λl=>some l[i]?).or <| ((cI st v).bind λl=>lg st l[i]?).or <| (vG v).bind λn=>lg st (cond (Nat.blt i n) (some (.int i)) none)
noncomputable def gC(v:V)(i:Nat):Mo (Option V):=rd (tL v i)
noncomputable def tK(v:V)(st:St):Option Unit:=((vT v).bind λY=>some ()).or <| ((cI st v).bind λY=>some ()).or <| (vG v).bind λn=>cond (small n) (some ()) none
noncomputable def fh(v:V):Mo Unit:=rd (tK v)
noncomputable def v7(v:V)(st:St):Bool:=Option.any List.isEmpty ((vR v).bind λk=>(st.tr.get k).bind oD)
noncomputable def sq(v:V):Mo Bool:=rd λst=>some (v7 v st)
noncomputable def Vp(st:St)(v:V):Option Bool:=(cond (vN v) (some false) none).or <| (vB v).or <| ((vI v).bind λi=>some (i != 0)).or <| (cI st v).bind λl=>cond (Nat.ble l.length aK) (some !l.isEmpty) none
noncomputable def pG(v:V):Mo Bool:=rd (Vp · v)
noncomputable def aJ(k:aN):Str:=⟨k.toArray⟩
noncomputable def pn(f:V->Option PyData):List V->Option (List PyData)
 |[]=>some []
 |v::r=>(f v).bind λd=>(pn f r).bind λds=>some (d::ds)
noncomputable def fo:Nat->V->Option PyData
 |0,_=>none
 |n+1,v=>match v with
  |.none=>some .none
  |.int i=>some (.int i)
  |.str s=>cond (s.all λc=>Nat.blt c 128) (some (.str (aJ s))) none
  |.tup l=>(pn (fo n) l).bind λds=>some (.tuple ds)
  |_=>none
noncomputable def nq(l:List V):Option (List PyData):=pn (fo 8) l
noncomputable def ix(l m:List V):Option Bool:=(nq l).bind λx=>(nq m).bind λy=>some (PyData.eqvAll x y)
noncomputable def sy(l m:List V):Option Bool:=cond (Nat.beq l.length m.length) (ix l m) (some false)
noncomputable def Bl(l m:List V):Option Bool:=cond (l.isEmpty || m.isEmpty) (some (decide (l.length=m.length))) (ix l m)
noncomputable def Dg{α : Type}:Option α->Mo α
 |some a=>pure a
 |none=>Mo.fail
noncomputable def LF(a b:V):Option Bool:=((vI a).bind λi=>(vI b).bind λj=>some (decide (i=j))).or <| ((vS a).bind λx=>(vS b).bind λy=>some (dC x y)).or <| (vT a).bind λl=>(vT b).bind λm=>Bl l m
noncomputable def sA(st:St)(a b:V):Option Bool:=(LF a b).or <| (cI st a).bind λl=>(cI st b).bind λm=>sy l m
noncomputable def kq(a:V)(l:List V):Option Bool:=(fo 8 a).bind λd=>(nq l).bind λds=>some (ds.any λy=>PyData.eqv y d)
noncomputable def tB(st:St)(a b:V):Option Bool:=((vT b).bind λl=>kq a l).or <| ((cI st b).bind λl=>kq a l).or <| (vR b).bind λk=>(st.tr.get k).bind λo=>(oD o).bind λes=>(vS a).bind λx=>some (gD es x).isSome
noncomputable def Rz(v:V):Bool:=(vI v).isSome || (vS v).isSome || (vT v).isSome || (vF v).isSome || (vR v).isSome
noncomputable def yW(a b:V):Option Bool:=cond (vN b) ((cond (vN a) (some true) none).or (cond (Rz a) (some false) none)) none
noncomputable def AE(st:St)(o:Cp)(a b:V):Option Bool:=match o with
 |.eq=>sA st a b
 |.ne=>(sA st a b).bind λr=>some !r
 |.lt=>(vI a).bind λi=>(vI b).bind λj=>some (decide (i<j))
 |.gt=>(vI a).bind λi=>(vI b).bind λj=>some (decide (j<i))
 |.isIn=>tB st a b
 |.jt=>(tB st a b).bind λr=>some !r
 |.same=>yW a b
 |.jv=>(yW a b).bind λr=>some !r
noncomputable def mn(o:Cp)(a b:V):Mo Bool:=rd (AE · o a b)
noncomputable def Sq(o:Op)(i j:Int):Int:=match o with | .add=>i+j | .sub=>i - j
noncomputable def P1(o:Op):Bool:=match o with | .add=>true | .sub=>false
noncomputable def Aa(o:Op)(a b:V)(st:St):Option (Mo V):=((vI a).bind λi=>(vI b).bind λj=>some (pure (.int (Sq o i j)))).or <| cond (P1 o)
 (((vS a).bind λx=>(vS b).bind λy=>some (room (x.length+y.length)>>=λY=>pure (.str (x++y)))).or <| ((vT a).bind λl=>(vT b).bind λm=>some (js (l++m))).or <|
  (cI st a).bind λl=>(cI st b).bind λm=>some (cM (l++m))) none
noncomputable def jU(o:Op)(a b:V):Mo V:=pk (Aa o a b)
noncomputable def EQ(i:Int)(n:Nat):Option Nat:=match i with
 |.ofNat k=>cond (Nat.blt k n) (some k) none
 |.negSucc k=>cond (Nat.ble (k+1) n) (some (n - (k+1))) none
noncomputable def FF(st:St)(o i:V):Option V:=(vI i).bind λi=>(oQ st o).bind λl=>cond (small l.length&&small i.natAbs) ((EQ i l.length).bind λj=>l[j]?) none
noncomputable def pE(o i:V):Mo V:=rd (FF · o i)
noncomputable def pW(i:Int)(n:Nat):Nat:=match i with
 |.ofNat k=>min k n
 |.negSucc k=>n - (k+1)
noncomputable def cl(v:Option Int)(d n:Nat):Nat:=match v with
 |none=>d
 |some i=>pW i n
noncomputable def sg(b:Option V):Option (Option Int):=match b with
 |none=>some none
 |some v=>(vI v).bind λi=>cond (small i.natAbs) (some (some i)) none
noncomputable def pY(a b:Option Int)(l:List V):List V:=(l.take (cl b l.length l.length)).drop (cl a 0 l.length)
noncomputable def T6(o:V)(lo hi:Option V)(rev:Bool)(st:St):Option (Mo V):=cond rev
 (cond (lo.isNone&&hi.isNone) ((cI st o).bind λl=>cond (small l.length) (some (cM l.reverse)) none) none) <|
 (sg lo).bind λa=>(sg hi).bind λb=>((vT o).bind λl=>cond (small l.length) (some (js (pY a b l))) none).or <|
  (cI st o).bind λl=>cond (small l.length) (some (cM (pY a b l))) none
noncomputable def py(o:V)(lo hi:Option V)(rev:Bool):Mo V:=pk (T6 o lo hi rev)
noncomputable def ua(i:Int):Option Nat:=match i with | .ofNat k=>some k | .negSucc Y=>none
noncomputable def nB(l:List V):Option (V×V):=match l with | []=>none | a::r=>match r with | []=>none | b::q=>cond q.isEmpty (some (a,b)) none
noncomputable def nh(a:List V):Option V:=match a with | []=>none | v::r=>cond r.isEmpty (some v) none
noncomputable def F1(n:Nat)(a:List V)(st:St):Option (Mo V):=(nh a).bind λv =>
 (cond (Nat.beq n 1) ((vI v).bind λi=>(ua i).bind λk=>cond (small k) (some (pure (.bg k))) none) none).or <|
 (cond (Nat.beq n 2) ((oQ st v).bind λl=>some (js l)) none).or <|
 (cond (Nat.beq n 3) ((oQ st v).bind λl=>some (cM l)) none).or <|
 cond (Nat.beq n 4) ((vI v).bind λi=>(ua i).bind λk=>cond (Nat.blt k 10) (some (pure (.str [48+k]))) none) none
noncomputable def nC(n:Nat)(a:List V):Mo V:=pk (F1 n a)
noncomputable def Jp(n:Nat)(a:List V)(st:St):Option V:=(nh a).bind λv=>cond (Nat.beq n 0) ((oQ st v).bind λl=>cond (small l.length) (some (.int l.length)) none) none
noncomputable def sf(n:Nat)(a:List V):Mo V:=rd (Jp n a)
noncomputable def lh(k:Nat):Mo (Nat×Nat):=do
 match <- gy k with
 |.inst c d=>pure (c,d)
 |.exc c (some d)=>pure (c,d)
 |_=>Mo.fail
noncomputable def nv(P:Pg)(x:Nat)(v:V)(cd:Nat×Nat):Mo Unit:=match P.at_ cd.1 x with
 |false=>Mo.fail
 |true=>do
  match <- gy cd.2 with
  |.ns es=>do
   room (es.length*2000)
   cW cd.2 (.ns (aI es x v))
  |_=>Mo.fail
noncomputable def qo(k:Nat):Mo Unit:=do
 match <- gy k with
 |.exc c none=>do
  let d <- cf (.ns [])
  cW k (.exc c (some d))
 |_=>pure ()
noncomputable def setAttr(P:Pg)(o:V)(x:Nat)(v:V):Mo Unit:=match o with
 |.ref k=>do
  qo k
  nv P x v (<- lh k)
 |_=>Mo.fail
noncomputable def qm(P:Pg)(x:Nat)(cd:Nat×Nat):Mo V:=match P.at_ cd.1 x with
 |false=>Mo.fail
 |true=>do
  match <- gy cd.2 with
  |.ns es=>Dg (aw es x)
  |_=>Mo.fail
noncomputable def getAttr(P:Pg)(o:V)(x:Nat):Mo V:=match o with
 |.ref k=>do qm P x (<- lh k)
 |_=>Mo.fail
noncomputable def lG(P:Pg)(c:Nat):Mo Nat:=match P.exc c with
 |true=>cf (.exc c none)
 |false=>do
  let d <- cf (.ns [])
  cf (.inst c d)
structure Fs where
 e:E->Mo V
 es:List E->Mo (List V)
 t:E->Mo Bool
 ts:Bool->List E->Mo Bool
 ifs:List E->Mo Bool
 bo:Bool->List E->Mo V
 s:S->Mo Fl
 ss:List S->Mo Fl
 call:V->List V->Mo V
 body:FD->List (Nat×Nat)->List V->Mo V
 forL:T->V->Nat->List S->Mo Fl
 nE:E->List S->Mo Fl
 dy:E->List G->T->V->Nat->List E->Nat->Mo Unit
noncomputable def yz{α : Type}(o:Option V)(nx:Mo α)(f:V->Mo α):Mo α := match o with | none=>nx | some x=>f x
noncomputable def zG(f:Fl)(nx:Mo Fl):Mo Fl:=match f with | .next=>nx | .cont=>nx | .brk=>pure .next | .ret r=>pure (.ret r)
noncomputable def Fo(k:Nat)(o:O):Mo Unit:=λst=>some (.ok () {st with tr:=st.tr.put k o})
noncomputable def yJ(acc:Nat)(y:V)(st:St):Option (Mo Unit):=(st.tr.get acc).bind λo=>(oL o).bind λl=>cond (small (l.length+1)&&Nat.ble st.lo acc) (some (Fo acc (.list (l++[y])))) none
noncomputable def AM(ih:Fs)(elt:E)(acc:Nat)(gs:List G):Mo Unit:=match gs with
 |[]=>ih.e elt>>=λy=>pk (yJ acc y)
 |g::more=>match g with | .mk t it ifs=>ih.e it>>=λw=>fh w>>=λY=>ih.dy elt more t w 0 ifs acc
noncomputable def cr(t:T)(v:V):Mo Unit:=match t with
 |.loc x=>ny x v
 |.two x y=>pk λst=>(vT v).bind λl=>(nB l).bind λp=>cond (!st.hd) (some (ny x p.1>>=λY=>ny y p.2)) none
noncomputable def i9:List (Nat×Bool)->List V->Mo Unit
 |[],_=>pure ()
 |_,[]=>pure ()
 |(x,c)::r,v::l=>do
  kL c x v
  i9 r l
noncomputable def iC:List Nat->Mo (List (Nat×Nat))
 |[]=>pure []
 |x::r=>do
  let k <- cf (.cell none)
  let l <- iC r
  return (x,k)::l
noncomputable def fP(cs:List Nat):List (Nat×V)->Mo Unit
 |[]=>pure ()
 |(x,v)::r=>do
  kL (cs.contains x) x v
  fP cs r
noncomputable def lf(fd:FD)(a:List V):Option (List (Nat×V)) :=
 let np:=fd.ps.length
 let need:=np - a.length
 match Nat.ble a.length np&&Nat.ble need fd.ds.length with
 |true=>some (fd.ps.zip (a++fd.ds.drop (fd.ds.length - need)))
 |false=>none
noncomputable def bK{α : Type}(x:Mo α):Mo α := λst=>match x st with
 |some (.ok a st')=>some (.ok a st')
 |_=>none
noncomputable def ni(f:E->Mo V)(o:Option E):Mo (Option V):=match o with
 |none=>pure none
 |some e=>do
  let v <- f e
  return some v
noncomputable def gG(l:List (Nat×V))(c:List (Nat×Nat)):Mo Unit:=λst=>some (.ok () {st with loc:=l,ae:=c})
noncomputable def pD:List V->Option (List aN)
 |[]=>some []
 |v::r=>(vS v).bind λs=>(pD r).bind λl=>some (s::l)
noncomputable def rD:List V->Option (List (List aN))
 |[]=>some []
 |v::r=>(vT v).bind λl=>(pD l).bind λk=>(rD r).bind λks=>some (k::ks)
noncomputable def mU:aN->aN->Bool
 |[],[]=>false
 |[],_::_=>true
 |_::_,[]=>false
 |a::r,b::t=>Nat.blt a b || (Nat.beq a b&&mU r t)
noncomputable def CR(k:aN):List aN->List aN
 |[]=>[k]
 |x::r=>match mU k x with
  |true=>k::x::r
  |false=>match dC k x with
   |true=>x::r
   |false=>x::CR k r
noncomputable def gI(l:List aN):List aN:=l.foldr CR []
noncomputable def kJ:List aN->Bool
 |x::y::r=>mU x y&&kJ (y::r)
 |_=>true
noncomputable def y7(l m:List aN):Bool:=l.all λx=>m.any (dC x)
noncomputable def Fw(l:List V):Option (List V):=(pD l).bind λks=>cond (Nat.ble ks.length 4&&Nat.ble 2 (gI ks).length&&kJ (gI ks)&&y7 ks (gI ks)&&y7 (gI ks) ks) (some ((gI ks).map V.str)) none
noncomputable def uO(l:List V):Option Nat:=(rD l).bind λks=>cond (Nat.ble l.length 76&&decide ks.Nodup) (some l.length) none
noncomputable def uM(P:Pg)(f g n:Nat):Bool:=decide ((P.gl f).bind u'=some n/\(P.gl g).bind rG=some 6)
noncomputable def Ur(v:V)(st:St):Option (Mo V):=(cI st v).bind λl=>cond (!st.hd) ((Fw l).bind λr=>some (cM r)) none
noncomputable def yZ(v:V)(st:St):Option V:=(cI st v).bind λl=>cond (!st.hd) ((uO l).bind λr=>some (.int r)) none
noncomputable def jz(k:Nat)(o:O)(v:V):Mo V:=λst=>some (.ok v {st with tr:=st.tr.put k o})
set_option genCtorIdx true in
inductive LM where | app | ext | pop | cnt
noncomputable def tW(P:Pg)(m:Nat):Option LM:=(cond (Nat.beq m P.o0) (some .app) none).or <| (cond (Nat.beq m P.o5) (some .ext) none).or <| (cond (Nat.beq m P.o6) (some .pop) none).or <| cond (Nat.beq m P.o4) (some .cnt) none
noncomputable def QE(k:Nat)(l:List V)(xs:List V)(st:St)(i:LM):Option (Mo V):=match i with
 |.app=>(nh l).bind λv=>cond (small (xs.length+1)&&Nat.ble st.lo k) (some (jz k (.list (xs++[v])) .none)) none
 |.ext=>(nh l).bind λv=>(cI st v).bind λys=>cond (small (xs.length+ys.length)&&Nat.ble st.lo k) (some (jz k (.list (xs++ys)) .none)) none
 |.pop=>cond l.isEmpty (xs.getLast?.bind λv=>cond (small xs.length&&Nat.ble st.lo k) (some (jz k (.list xs.dropLast) v)) none) none
 |.cnt=>(nh l).bind λv=>(vS v).bind λc=>(pD xs).bind λks=>some (pure (.int ((ks.countP λy=>dC y c:Nat):Int)))
noncomputable def mS(i:LM)(k:Nat)(l:List V)(st:St):Option (Mo V):=(st.tr.get k).bind λo=>(oL o).bind λxs=>QE k l xs st i
noncomputable def AU(k:Nat)(l:List V)(st:St):Option V:=(st.tr.get k).bind λo=>(oD o).bind λes=>(nB l).bind λp=>(vS p.1).bind λs=>some ((gD es s).getD p.2)
noncomputable def my(P:Pg)(f:Nat):Option FD:=cond (P.nest f) none (P.fd f)
noncomputable def Au(P:Pg)(g:V)(st:St):Option Unit:=((zg g).bind λf=>(my P f).bind λY=>some ()).or <| ((ze g).bind λc=>(P.init c).bind λY=>some ()).or <| ((rG g).bind λY=>some ()).or <| ((u' g).bind λY=>some ()).or <| (vR g).bind λk=>(st.tr.get k).bind λo=>(oC o).bind λY=>some ()
noncomputable def pV(P:Pg)(g:V):Mo Unit:=rd (Au P g)
noncomputable def jT:aN:=[43,32,45,32,42,32,47,32,42,42]
noncomputable def vC:List V:=[.str [43],.str [45],.str [42],.str [47],.str [42,42]]
noncomputable def Fu(l:List V)(_:St):Option (Mo V):=(nh l).bind λv=>(vS v).bind λc=>cond (dC c [32]) (some (cM vC)) none
noncomputable def Gv(l:List V)(st:St):Option (Mo V):=(nB l).bind λp=>(vR p.1).bind λk=>(vS p.2).bind λY=>(st.tr.get k).bind λo=>(oX o).bind λcd=>cond (Nat.ble st.lo k) (some (jz k (.exc cd.1 cd.2) .none)) none
noncomputable def xX(P:Pg)(ih:Fs)(k m:Nat)(a:List E)(st:St)(o:O):Option (Mo V):=(oI o).bind λcd=>(P.mt cd.1 m).bind λf=>(st.tr.get cd.2).bind λod=>(oN od).bind λes=>cond (aw es m).isNone (some (ih.es a>>=λl=>pV P (.fn f)>>=λY=>ih.call (.fn f) (.ref k::l))) none
noncomputable def xY(P:Pg)(ih:Fs)(k m:Nat)(a:List E)(o:O):Option (Mo V):=(oL o).bind λY=>(tW P m).bind λi=>some (ih.es a>>=λl=>pk (mS i k l))
noncomputable def xW(P:Pg)(ih:Fs)(k m:Nat)(a:List E)(o:O):Option (Mo V):=(oD o).bind λY=>cond (Nat.beq m P.mX) (some (ih.es a>>=λl=>rd (AU k l))) none
noncomputable def DB(P:Pg)(ih:Fs)(x:V)(m:Nat)(a:List E)(st:St):Option (Mo V):=(vR x).bind λk=>(st.tr.get k).bind λo=>(xX P ih k m a st o).or <| (xY P ih k m a o).or (xW P ih k m a o)
noncomputable def DD(P:Pg)(ih:Fs)(x:V)(m:Nat)(a:List E):Option (Mo V):=(vS x).bind λs=>cond (Nat.beq m P.mZ&&dC s jT) (some (ih.es a>>=λl=>pk (Fu l))) none
noncomputable def DE(P:Pg)(ih:Fs)(x:V)(m:Nat)(a:List E):Option (Mo V):=(rG x).bind λn=>cond (Nat.beq n 8&&Nat.beq m P.mY) (some (ih.es a>>=λl=>pk (Gv l))) none
noncomputable def DC(P:Pg)(ih:Fs)(x:V)(m:Nat)(a:List E)(st:St):Option (Mo V):=(DB P ih x m a st).or <| (DD P ih x m a).or (DE P ih x m a)
noncomputable def oZ(P:Pg)(ih:Fs)(x:V)(m:Nat)(a:List E):Mo V:=pk (DC P ih x m a)
noncomputable def lower{α : Type}(x:Mo α):Mo α := λst=>match st.dp with
 |0=>none
 |dp+1=>match x {st with dp:=dp} with
  |none=>none
  |some (.ok a st')=>some (.ok a {st' with dp:=st.dp})
  |some (.ex _ _)=>none
noncomputable def kt(P:Pg)(ih:Fs)(c k:Nat)(a:List V):Mo V:=match P.init c with
 |none=>Mo.fail
 |some f=>match P.nest f,P.fd f,Nat.beq f P.cZ with
  |false,some fd,false=>do
   match <- lower (ih.body fd [] (.ref k::a)) with
   |.none=>pure (.ref k)
   |_=>Mo.fail
  |_,_,_=>Mo.fail
noncomputable def sD(e:List Ev)(l:Nat):Option (Nat×List Ev):=match e with | []=>none | e::r=>match e with | .draw aK v=>cond (Nat.beq aK l) (some (v,r)) none | .stat _ _ _=>none
noncomputable def Bo(e:List Ev)(d:Nat):Option ((V×List V)×List Ev):=match e with | []=>none | e::r=>match e with | .draw _ _=>none | .stat d' v fs=>cond (Nat.beq d' d) (some ((v,fs),r)) none
noncomputable def ub(v:V):Option Nat:=(vI v).bind ua
noncomputable def px(r:List Ev)(v:V):Mo V:=λst=>some (.ok v {st with dr:=r})
noncomputable def qc(a:List V)(st:St):Option (Mo V):=(nB a).bind λp=>(ub p.2).bind λl=>cond (vf p.1&&Nat.ble 1 st.dp) ((sD st.dr l).bind λq=>some (px q.2 (.int q.1))) none
noncomputable def rB(D:Nat)(a:List V)(st:St):Option (Mo V):=(nB a).bind λp=>(ub p.2).bind λd=>cond (vf p.1&&Nat.blt d D&&Nat.ble (12+2*d) st.dp && !st.hd) ((Bo st.dr d).bind λq=>some (px q.2 (.tup [q.1.1,.fl q.1.2]))) none
noncomputable def jy:List Nat->List (Nat×Nat)->List (Nat×Nat)
 |[],_=>[]
 |f::r,ae=>match aw ae f with
  |some k=>(f,k)::jy r ae
  |none=>jy r ae
noncomputable def uZ:Option (a9 Fl)->Option (a9 Fl)
 |some (.ok f st2)=>some (.ok f {st2 with hd:=false})
 |_=>none
noncomputable def u8(x:Nat):Option (a9 Fl)->Option (a9 Fl)
 |some (.ok f st2)=>some (.ok f {st2 with loc:=st2.loc.filter λp => !Nat.beq p.1 x,hd:=false})
 |_=>none
noncomputable def za(ss:List S->Mo Fl)(nm:Option Nat)(h:List S)(k:Nat)(st':St):Option (a9 Fl):=match nm with
 |none=>uZ (ss h {st' with hd:=true})
 |some x=>u8 x (ss h {st' with loc:=aI st'.loc x (.ref k),hd:=true})
noncomputable def rE(gl:Option V)(st':St)(k:Nat)(r:Option (a9 Fl)):Option (a9 Fl):=match st'.hd,st'.tr.get k,gl with
 |false,some (.exc c _),some (.cls g')=>(match Nat.beq c g' with | true=>r | false=>none)
 |_,_,_=>none
noncomputable def F0(gl:Option V)(D:Nat->St->Option (a9 Fl)):Option (a9 Fl)->Option (a9 Fl)
 |none=>none
 |some (.ok f st')=>some (.ok f st')
 |some (.ex k st')=>rE gl st' k (D k st')
noncomputable def Ao(P:Pg)(ih:Fs)(f:Nat)(a:List V):Option (Mo V):=(my P f).bind λfd=>some (ih.body fd [] a)
noncomputable def An(P:Pg)(D:Nat)(ih:Fs)(g:V)(a:List V)(st:St):Option (Mo V):=(zg g).bind λf=>cond (Nat.beq f P.cZ) (qc a st) (cond (Nat.beq f P.ka) (rB D a st) (Ao P ih f a))
noncomputable def Am(P:Pg)(ih:Fs)(g:V)(a:List V):Option (Mo V):=(ze g).bind λc=>cond (small a.length) (some (lG P c>>=λk=>kt P ih c k a)) none
noncomputable def Aq(g:V)(a:List V):Option (Mo V):=((rG g).bind λn=>some (nC n a)).or ((u' g).bind λn=>some (sf n a))
noncomputable def Ap(ih:Fs)(g:V)(a:List V)(st:St):Option (Mo V):=(vR g).bind λk=>(st.tr.get k).bind λo=>(oC o).bind λq=>some (ih.body q.1 q.2 a)
noncomputable def JC(P:Pg)(D:Nat)(ih:Fs)(g:V)(a:List V)(st:St):Option (Mo V):=(An P D ih g a st).or <| (Am P ih g a).or <| (Aq g a).or (Ap ih g a st)
noncomputable def step(P:Pg)(D:Nat)(ih:Fs):Fs where
 e:=λm=>match m with
  |.c v=>pure v
  |.loc x=>qn x
  |.ae x=>BJ x
  |.ah x=>match P.gl x with | some v=>pure v | none=>Mo.fail
  |.bo a l=>ih.bo a l
  |.bin o a b=>do
   let x <- ih.e a
   let y <- ih.e b
   jU o x y
  |.not _=>Mo.fail
  |.neg n=>pure (.int (-(n:Int)))
  |.ite c a b=>do
   if <- ih.t c then ih.e a else ih.e b
  |.dict ks vs=>match ks with
   |[]=>do return .ref (<- cf (.dict []))
   |k₁::kr=>do
    let k <- cf (.dict [])
    let l <- ih.es vs
    match <- gy k with
    |.dict []=>do
     cW k (.dict ((k₁::kr).zip l))
     pure (.ref k)
    |_=>Mo.fail
  |.list l=>do cM (<- ih.es l)
  |.tuple l=>do js (<- ih.es l)
  |.comp elt gs=>match gs with
   |[]=>Mo.fail
   |.mk t it ifs::more=>do
    let v <- ih.e it
    fh v
    let acc <- cf (.list [])
    λst=>match ih.dy elt more t v 0 ifs acc {st with loc:=[]} with
     |none=>none
     |some (.ok _ st')=>some (.ok (.ref acc) {st' with loc:=st.loc,ae:=st.ae,dp:=st.dp,hd:=st.hd})
     |some (.ex _ _)=>none
  |.cmp o a b=>do
   let x <- ih.e a
   let y <- ih.e b
   return .bool (<- mn o x y)
  |.call f a=>do
   let g <- ih.e f
   let l <- ih.es a
   pV P g
   ih.call g l
  |.meth o m a=>do
   let x <- ih.e o
   oZ P ih x m a
  |.attr o x=>do getAttr P (<- ih.e o) x
  |.sub o i=>do
   let x <- ih.e o
   let y <- ih.e i
   pE x y
  |.slc o lo hi rev=>do
   let x <- ih.e o
   let a <- ni ih.e lo
   let b <- ni ih.e hi
   py x a b rev
  |.sset f g a=>pk λY=>cond (uM P f g 7) (some (ih.e a>>=λv=>pk (Ur v))) none
  |.lP f g a=>pk λY=>cond (uM P f g 0) (some (ih.e a>>=λv=>rd (yZ v))) none
 es:=λl=>match l with
  |[]=>pure []
  |m::r=>do
   let v <- ih.e m
   let vs <- ih.es r
   return v::vs
 t:=λm=>match m with
  |.not a=>do return !(<- ih.t a)
  |.bo a l=>ih.ts a l
  |.ite c a b=>do
   if <- ih.t c then ih.t a else ih.t b
  |.cmp o a b=>do
   let x <- ih.e a
   let y <- ih.e b
   mn o x y
  |m=>do pG (<- ih.e m)
 ts:=λa l=>match l with
  |[]=>pure a
  |m::r=>do
   let b <- ih.t m
   match a,b with
   |true,false=>pure false
   |false,true=>pure true
   |_,_=>ih.ts a r
 ifs:=λl=>match l with
  |[]=>pure true
  |m::r=>do
   if <- ih.t m then ih.ifs r else pure false
 bo:=λa l=>match l with
  |[]=>Mo.fail
  |[m]=>ih.e m
  |m::r=>do
   let v <- ih.e m
   let b <- pG v
   match a,b with
   |true,false=>pure v
   |false,true=>pure v
   |_,_=>ih.bo a r
 s:=λm=>match m with
  |.ex e=>do
   let _ <- ih.e e
   pure .next
  |.asg x c e=>do
   let v <- ih.e e
   kL c x v
   pure .next
  |.aY o x e=>do
   let v <- ih.e e
   let ov <- ih.e o
   setAttr P ov x v
   pure .next
  |.cr xs e=>do
   let v <- ih.e e
   match v with
   |.tup l=>do
    eP ()
    match Nat.beq xs.length l.length with
    |true=>do
     i9 xs l
     pure .next
    |false=>Mo.fail
   |_=>Mo.fail
  |.ite c a b=>do
   if <- ih.t c then ih.ss a else ih.ss b
  |.wh c b=>bK (ih.nE c b)
  |.fr t it b=>do
   let v <- ih.e it
   match <- sq v with
   |true=>eP .next
   |false=>do
    fh v
    bK (ih.forL t v 0 b)
  |.ret none=>pure (.ret .none)
  |.ret (some e)=>do return .ret (<- ih.e e)
  |.rs e=>do
   match <- ih.e e with
   |.ref k=>do
    match <- gy k with
    |.exc _ _=>do
     eP ()
     λst=>match Nat.ble st.lo k with | true=>some (.ex k st) | false=>none
    |_=>Mo.fail
   |_=>Mo.fail
  |.tr b g nm h=>λst=>F0 (P.gl g) (za ih.ss nm h) (ih.ss b st)
  |.mr x ps cs fs b=>λst=>(do
    let k <- cf (.clo ⟨ps,[],cs,b⟩ (jy fs st.ae))
    ny x (.ref k)
    pure Fl.next:Mo Fl) st
  |.oR=>Mo.fail
 ss:=λl=>match l with
  |[]=>pure .next
  |m::r=>do
   match <- ih.s m with
   |.next=>ih.ss r
   |f=>pure f
 body:=λfd clo a=>λst=>match lf fd a,st.dp with
  |some bs,dp+1=>match (do
    gG [] []
    let cs <- iC fd.cs
    gG [] (cs++clo)
    fP fd.cs bs
    ih.ss fd.body:Mo Fl) {st with dp:=dp} with
   |none=>none
   |some (.ok f st')=>some (.ok (match f with | .ret v=>v | _=>.none) {st' with loc:=st.loc,ae:=st.ae,dp:=st.dp})
   |some (.ex k st')=>some (.ex k {st' with loc:=st.loc,ae:=st.ae,dp:=st.dp})
  |_,_=>none
 call:=λg a=>pk (JC P D ih g a)
 forL:=λt v i b=>gC v i>>=λo=>yz o (pure .next) λx=>cr t x>>=λY=>ih.ss b>>=λf=>zG f (ih.forL t v (i+1) b)
 nE:=λc b=>ih.t c>>=λx=>cond x (ih.ss b>>=λf=>zG f (ih.nE c b)) (pure .next)
 dy:=λelt gs t v i ifs acc=>gC v i>>=λo=>yz o (pure ()) λx=>cr t x>>=λY=>ih.ifs ifs>>=λq=>cond q (AM ih elt acc gs>>=λY=>ih.dy elt gs t v (i+1) ifs acc) (ih.dy elt gs t v (i+1) ifs acc)
noncomputable abbrev cz:=Nat->List V->St->Option V
noncomputable def cg:cz:=λY Y Y=>none
noncomputable def SH(cn:cz)(F:Fs):Fs:={F with call:=λg a=>match g with
 |.fn f=>λst=>match cn f a st with
  |some r=>some (.ok r st)
  |none=>F.call (.fn f) a st
 |g=>F.call g a}
noncomputable def ac(P:Pg)(D:Nat)(cn:cz):Nat->Fs
 |0=>⟨λY=>Mo.fail,λY=>Mo.fail,λY=>Mo.fail,λY Y=>Mo.fail,λY=>Mo.fail,λY Y=>Mo.fail,λY=>Mo.fail,λY=>Mo.fail,λY Y=>Mo.fail,λY Y Y=>Mo.fail,λY Y Y Y=>Mo.fail,λY Y=>Mo.fail,λY Y Y Y Y Y Y=>Mo.fail⟩
 |n+1=>SH cn (step P D (ac P D cn n))
mutual
noncomputable def bS:V->Bool
 |.none=>true
 |.bool _=>true
 |.int _=>true
 |.str _=>true
 |.bytes _=>true
 |.tup l=>cV l
 |_=>false
noncomputable def cV:List V->Bool
 |[]=>true
 |v::r=>bS v&&cV r
end
noncomputable def iM(r:Option (a9 V)):Option (List V):=match r with
 |some (.ok (.ref k) st')=>match st'.dr,Nat.ble st'.lo k,st'.tr.get k with
  |[],true,some (.list l)=>some l
  |_,_,_=>none
 |_=>none
end
section
noncomputable def lS:Nat->String
 |1 => "range" |2 => "tuple" |3 => "list" |4 => "str" |5 => "int" |6 => "set" |8 => "Exception" |_ => "object"
noncomputable def jW(n:Nat):String:=cond (n.beq 0) "len" (cond (n.beq 7) "sorted" "repr")
theorem Jn{P:String->Prop}{n:Nat}(a:P "len")(b:P "sorted")(c:P "repr"):P (jW n):=by
 unfold jW
 cases n.beq 0 with
 |true=>exact a
 |false=>cases n.beq 7 with
  |true=>exact b
  |false=>exact c
structure Sx where
 prog:Program
 w:World
 hF:Heap
 K:Frag
 P:Pg
 nm:Nat->Str
 ad:Nat->Addr
 src:Addr
 ct:Addr
 tab:Addr
 cQ:Addr
 ch:Str
 cells:List Int
 gen:Nat->Nat->V×List V×Nat
 lo:Nat
 tk:Nat->Value
 fin:Nat->Prop
structure bw where
 env:Env
 fenv:Env
 outer:List Env
 A:Around
noncomputable abbrev bw.Fs(C:bw):List Addr:=(C.fenv::C.outer).filterMap (·.frame)
mutual
noncomputable def av(X:Sx)(h:Heap)(ρ:List Addr):V->Value->Prop
 |.none,v=>v=.none
 |.bool b,v=>v=.bool b
 |.int i,v=>∃t,v=.int i t
 |.str s,v=>∃t,v=.str (aJ s) t
 |.bytes b,v=>∃t,v=.bytes b.toArray t
 |.tup l,v=>∃a vs,v=.ref a/\IsTup h a (List.toArray vs)/\aB X h ρ l vs
 |.fl l,v=>∃a vs,v=.ref a/\h.IsList a (List.toArray vs)/\aB X h ρ l vs/\a∉ρ/\a≠X.src
 |.bg n,v=>∃a t u w,v=.ref a/\IsRange h a 0 n 1 t u w
 |.ref k,v=>∃a,v=.ref a/\ρ[k]?=some a
 |.fn f,v=>v=.ref (X.ad f)
 |.cls c,v=>v=.ref (X.ad c)
 |.typ n,v=>v=.type (lS n)
 |.blt n,v=>v=.builtin (jW n)
 |.src,v=>v=.ref X.src
 |.any,v=>handedIn v=true
 |.tok i,v=>v=X.tk i/\handedIn v=true
noncomputable def aB(X:Sx)(h:Heap)(ρ:List Addr):List V->List Value->Prop
 |[],vs=>vs=[]
 |x::xs,vs=>∃v ws,vs=v::ws/\av X h ρ x v/\aB X h ρ xs ws
end
theorem aB.length{X:Sx}{h:Heap}{ρ:List Addr}:∀{l:List V} {vs:List Value},aB X h ρ l vs->vs.length=l.length
 |[],_,e=>tb (show _=[] from e) rfl
 |_::_,_,e=>by
  refine aA e ?_;rintro v ws rfl Y r;simp[aB.length r]
theorem aB.get{X:Sx}{h:Heap}{ρ:List Addr}:∀{l:List V} {vs:List Value},aB X h ρ l vs->∀{i:Nat} {x:V},l[i]?=some x->∃v,vs[i]?=some v/\av X h ρ x v
 |[],_,_,i,x,hx=>by simp at hx
 |y::l,_,e,i,x,hx=>by
  refine aA e ?_;rintro v ws rfl h1 r
  induction i using Nat.casesOn with
  |zero=>simp only[List.getElem?_cons_zero,Option.some.injEq] at hx;subst hx;exact ao v (by rfl) h1
  |succ i=>simp only[List.getElem?_cons_succ] at hx;refine af (r.get hx) λu hu hr=>?_;exact ao u (hu) hr
theorem aB.append{X:Sx}{h:Heap}{ρ:List Addr}:∀{l:List V} {vs:List Value} {l':List V} {vs':List Value},aB X h ρ l vs->aB X h ρ l' vs'->aB X h ρ (l++l') (vs++vs')
 |[],_,_,_,e,e'=>tb (show _=[] from e) e'
 |y::l,_,_,_,e,e'=>by
  refine aA e ?_;rintro v ws rfl h1 r;exact bF v _ rfl h1 (r.append e')
theorem aB.take{X:Sx}{h:Heap}{ρ:List Addr}:∀{l:List V} {vs:List Value},aB X h ρ l vs->∀n,aB X h ρ (l.take n) (vs.take n)
 |[],_,e,n=>tb (show _=[] from e) (by cases n<;>rfl)
 |y::l,_,e,n=>by
  refine aA e ?_;rintro v ws rfl h1 r
  induction n using Nat.casesOn with
  |zero=>exact(rfl:[]=[])
  |succ n=>exact bF v _ rfl h1 (r.take n)
theorem aB.drop{X:Sx}{h:Heap}{ρ:List Addr}:∀{l:List V} {vs:List Value},aB X h ρ l vs->∀n,aB X h ρ (l.drop n) (vs.drop n)
 |[],_,e,n=>tb (show _=[] from e) (by cases n<;>rfl)
 |y::l,_,e,n=>by
  have e':=e;refine aA e ?_;rintro v ws rfl h1 r
  induction n using Nat.casesOn with
  |zero=>exact e'
  |succ n=>exact r.drop n
theorem aB.one{X:Sx}{h:Heap}{ρ:List Addr}{x:V}{v:Value}(e:av X h ρ x v):aB X h ρ [x] [v]:=by
 exact bF v ([]) rfl e rfl
theorem aB.reverse{X:Sx}{h:Heap}{ρ:List Addr}:∀{l:List V} {vs:List Value},aB X h ρ l vs->aB X h ρ l.reverse vs.reverse
 |[],_,e=>tb (show _=[] from e) rfl
 |y::l,_,e=>by
  refine aA e ?_;rintro v ws rfl h1 r;simp only[List.reverse_cons];exact r.reverse.append (.one h1)
end
variable {X:Sx}{C:bw}{ρ ρ':List Addr}{s s':Shared}{st st':St}{α β γ δ : Type}{ih:Fs}{D:Nat}
section
noncomputable def mu:V->Const->Bool
 |.none,.none=>true
 |.bool a,.bool b=>a==b
 |.int i,.int j=>decide (i=j)
 |.str s,.str t=>decide (t=aJ s)
 |.bytes b,.bytes c=>decide (b=c)
 |_,_=>false
noncomputable def EA:Op->Operator
 |.add=>.Add
 |.sub=>.Sub
noncomputable def Bf(o:Op)(p:Operator):Bool:=decide (p=EA o)
noncomputable def AN:Cp->CmpOp
 |.eq=>.Eq
 |.ne=>.NotEq
 |.lt=>.Lt
 |.gt=>.Gt
 |.isIn=>.In
 |.jt=>.NotIn
 |.same=>.Is
 |.jv=>.IsNot
noncomputable def Bd(o:Cp)(p:CmpOp):Bool:=decide (p=AN o)
noncomputable def tD(x:PySem.Expr):Bool:=Nat.beq x.ctorIdx 20
noncomputable def qK(x:PySem.Expr):Bool:=Nat.beq x.ctorIdx 16
noncomputable def ku:E->Bool
 |.comp .. => true
 |_=>false
noncomputable def dF(x:Str):Bool := !(x==("__debug__" : Str))
noncomputable def nX(out:Scope)(names:List (Str×NameKind)):List (Str×NameKind) :=
 names.map λ(n,k)=>if k==.free&&out.kind==.function&&out.names.lookup n==some .cell then (n,.cell) else (n,k)
noncomputable def jd(out sc:Scope):Scope:={sc with names:=nX out sc.names}
noncomputable def pX(out sc:Scope):Bool :=
 decide (sc.kind=.function)&&sc.names.all (λx=>(x.2 != .cell)&&(x.2 != .local || decide (sc.names.lookup x.1=some .local))&&(x.2 != .free || decide (out.names.lookup x.1=some .cell))) &&
 (nX out sc.names).all (λx=>x.2 != .local || decide ((nX out sc.names).lookup x.1=some .local)) &&
 !decide ((nX out sc.names).lookup ("seen" : Str)=some .local)
noncomputable def cN{α : Type}:List α->Bool
 |[]=>true
 |_=>false
theorem b8{c:Prop}[Decidable c]{f:c->Bool}{G:Prop}(h:(if q:c then f q else false)=true)(k:∀q,f q=true->G):G:=by
 by_cases q:c
 .rw [dif_pos q] at h;exact k q h
 .rw [dif_neg q] at h;exact aC h
noncomputable def Ef(f:BoolOp->List PySem.Expr->Pos->Bool)(x:PySem.Expr):Bool:=if h:x.ctorIdx=0 then PySem.Expr.BoolOp.elim (motive_1:=λY=>Bool) x h f else false
theorem yu{f:BoolOp->List PySem.Expr->Pos->Bool}{x:PySem.Expr}{G:Prop}(h:Ef f x=true)(g:∀a b c,x=.BoolOp a b c->f a b c=true->G):G :=
 b8 h λq h=>PySem.Expr.BoolOp.elim (motive_1:=λx=>(q:x.ctorIdx=0)->PySem.Expr.BoolOp.elim (motive_1:=λY=>Bool) x q f=true->(∀a b c,x=.BoolOp a b c->f a b c=true->G)->G) x q (λa b c Y h g=>g a b c rfl h) q h g
noncomputable def Ed(f:PySem.Expr->Operator->PySem.Expr->Pos->Bool)(x:PySem.Expr):Bool:=if h:x.ctorIdx=2 then PySem.Expr.BinOp.elim (motive_1:=λY=>Bool) x h f else false
theorem Ee{f:PySem.Expr->Operator->PySem.Expr->Pos->Bool}{x:PySem.Expr}{G:Prop}(h:Ed f x=true)(g:∀a b c d,x=.BinOp a b c d->f a b c d=true->G):G :=
 b8 h λq h=>PySem.Expr.BinOp.elim (motive_1:=λx=>(q:x.ctorIdx=2)->PySem.Expr.BinOp.elim (motive_1:=λY=>Bool) x q f=true->(∀a b c d,x=.BinOp a b c d->f a b c d=true->G)->G) x q (λa b c d Y h g=>g a b c d rfl h) q h g
noncomputable def uz(f:UnaryOp->PySem.Expr->Pos->Bool)(x:PySem.Expr):Bool:=if h:x.ctorIdx=3 then PySem.Expr.UnaryOp.elim (motive_1:=λY=>Bool) x h f else false
theorem ph{f:UnaryOp->PySem.Expr->Pos->Bool}{x:PySem.Expr}{G:Prop}(h:uz f x=true)(g:∀a b c,x=.UnaryOp a b c->f a b c=true->G):G :=
 b8 h λq h=>PySem.Expr.UnaryOp.elim (motive_1:=λx=>(q:x.ctorIdx=3)->PySem.Expr.UnaryOp.elim (motive_1:=λY=>Bool) x q f=true->(∀a b c,x=.UnaryOp a b c->f a b c=true->G)->G) x q (λa b c Y h g=>g a b c rfl h) q h g
noncomputable def En(f:PySem.Expr->PySem.Expr->PySem.Expr->Pos->Bool)(x:PySem.Expr):Bool:=if h:x.ctorIdx=5 then PySem.Expr.IfExp.elim (motive_1:=λY=>Bool) x h f else false
theorem yy{f:PySem.Expr->PySem.Expr->PySem.Expr->Pos->Bool}{x:PySem.Expr}{G:Prop}(h:En f x=true)(g:∀a b c d,x=.IfExp a b c d->f a b c d=true->G):G :=
 b8 h λq h=>PySem.Expr.IfExp.elim (motive_1:=λx=>(q:x.ctorIdx=5)->PySem.Expr.IfExp.elim (motive_1:=λY=>Bool) x q f=true->(∀a b c d,x=.IfExp a b c d->f a b c d=true->G)->G) x q (λa b c d Y h g=>g a b c d rfl h) q h g
noncomputable def Ei(f:List (Option PySem.Expr)->List PySem.Expr->Pos->Bool)(x:PySem.Expr):Bool:=if h:x.ctorIdx=6 then PySem.Expr.Dict.elim (motive_1:=λY=>Bool) x h f else false
theorem Ej{f:List (Option PySem.Expr)->List PySem.Expr->Pos->Bool}{x:PySem.Expr}{G:Prop}(h:Ei f x=true)(g:∀a b c,x=.Dict a b c->f a b c=true->G):G :=
 b8 h λq h=>PySem.Expr.Dict.elim (motive_1:=λx=>(q:x.ctorIdx=6)->PySem.Expr.Dict.elim (motive_1:=λY=>Bool) x q f=true->(∀a b c,x=.Dict a b c->f a b c=true->G)->G) x q (λa b c Y h g=>g a b c rfl h) q h g
noncomputable def Ep(f:PySem.Expr->List Comprehension->Scope->Pos->Bool)(x:PySem.Expr):Bool:=if h:x.ctorIdx=8 then PySem.Expr.ListComp.elim (motive_1:=λY=>Bool) x h f else false
noncomputable def Eg(f:PySem.Expr->List CmpOp->List PySem.Expr->Pos->Bool)(x:PySem.Expr):Bool:=if h:x.ctorIdx=15 then PySem.Expr.Compare.elim (motive_1:=λY=>Bool) x h f else false
theorem yw{f:PySem.Expr->List CmpOp->List PySem.Expr->Pos->Bool}{x:PySem.Expr}{G:Prop}(h:Eg f x=true)(g:∀a b c d,x=.Compare a b c d->f a b c d=true->G):G :=
 b8 h λq h=>PySem.Expr.Compare.elim (motive_1:=λx=>(q:x.ctorIdx=15)->PySem.Expr.Compare.elim (motive_1:=λY=>Bool) x q f=true->(∀a b c d,x=.Compare a b c d->f a b c d=true->G)->G) x q (λa b c d Y h g=>g a b c d rfl h) q h g
noncomputable def q'(f:PySem.Expr->List PySem.Expr->List Keyword->Pos->Bool)(x:PySem.Expr):Bool:=if h:x.ctorIdx=16 then PySem.Expr.Call.elim (motive_1:=λY=>Bool) x h f else false
theorem lL{f:PySem.Expr->List PySem.Expr->List Keyword->Pos->Bool}{x:PySem.Expr}{G:Prop}(h:q' f x=true)(g:∀a b c d,x=.Call a b c d->f a b c d=true->G):G :=
 b8 h λq h=>PySem.Expr.Call.elim (motive_1:=λx=>(q:x.ctorIdx=16)->PySem.Expr.Call.elim (motive_1:=λY=>Bool) x q f=true->(∀a b c d,x=.Call a b c d->f a b c d=true->G)->G) x q (λa b c d Y h g=>g a b c d rfl h) q h g
noncomputable def ra(f:Const->Nat->Pos->Bool)(x:PySem.Expr):Bool:=if h:x.ctorIdx=19 then PySem.Expr.Constant.elim (motive_1:=λY=>Bool) x h f else false
theorem ux{f:Const->Nat->Pos->Bool}{x:PySem.Expr}{G:Prop}(h:ra f x=true)(g:∀a b c,x=.Constant a b c->f a b c=true->G):G :=
 b8 h λq h=>PySem.Expr.Constant.elim (motive_1:=λx=>(q:x.ctorIdx=19)->PySem.Expr.Constant.elim (motive_1:=λY=>Bool) x q f=true->(∀a b c,x=.Constant a b c->f a b c=true->G)->G) x q (λa b c Y h g=>g a b c rfl h) q h g
noncomputable def uv(f:PySem.Expr->Str->Pos->Bool)(x:PySem.Expr):Bool:=if h:x.ctorIdx=20 then PySem.Expr.Attribute.elim (motive_1:=λY=>Bool) x h f else false
theorem uw{f:PySem.Expr->Str->Pos->Bool}{x:PySem.Expr}{G:Prop}(h:uv f x=true)(g:∀a b c,x=.Attribute a b c->f a b c=true->G):G :=
 b8 h λq h=>PySem.Expr.Attribute.elim (motive_1:=λx=>(q:x.ctorIdx=20)->PySem.Expr.Attribute.elim (motive_1:=λY=>Bool) x q f=true->(∀a b c,x=.Attribute a b c->f a b c=true->G)->G) x q (λa b c Y h g=>g a b c rfl h) q h g
noncomputable def yB(f:PySem.Expr->PySem.Expr->Pos->Bool)(x:PySem.Expr):Bool:=if h:x.ctorIdx=21 then PySem.Expr.Subscript.elim (motive_1:=λY=>Bool) x h f else false
theorem uy{f:PySem.Expr->PySem.Expr->Pos->Bool}{x:PySem.Expr}{G:Prop}(h:yB f x=true)(g:∀a b c,x=.Subscript a b c->f a b c=true->G):G :=
 b8 h λq h=>PySem.Expr.Subscript.elim (motive_1:=λx=>(q:x.ctorIdx=21)->PySem.Expr.Subscript.elim (motive_1:=λY=>Bool) x q f=true->(∀a b c,x=.Subscript a b c->f a b c=true->G)->G) x q (λa b c Y h g=>g a b c rfl h) q h g
noncomputable def jw(f:Str->Pos->Bool)(x:PySem.Expr):Bool:=if h:x.ctorIdx=23 then PySem.Expr.Name.elim (motive_1:=λY=>Bool) x h f else false
theorem ig{f:Str->Pos->Bool}{x:PySem.Expr}{G:Prop}(h:jw f x=true)(g:∀a b,x=.Name a b->f a b=true->G):G :=
 b8 h λq h=>PySem.Expr.Name.elim (motive_1:=λx=>(q:x.ctorIdx=23)->PySem.Expr.Name.elim (motive_1:=λY=>Bool) x q f=true->(∀a b,x=.Name a b->f a b=true->G)->G) x q (λa b Y h g=>g a b rfl h) q h g
noncomputable def Eo(f:List PySem.Expr->Pos->Bool)(x:PySem.Expr):Bool:=if h:x.ctorIdx=24 then PySem.Expr.List.elim (motive_1:=λY=>Bool) x h f else false
theorem Er{f:List PySem.Expr->Pos->Bool}{x:PySem.Expr}{G:Prop}(h:Eo f x=true)(g:∀a b,x=.List a b->f a b=true->G):G :=
 b8 h λq h=>PySem.Expr.List.elim (motive_1:=λx=>(q:x.ctorIdx=24)->PySem.Expr.List.elim (motive_1:=λY=>Bool) x q f=true->(∀a b,x=.List a b->f a b=true->G)->G) x q (λa b Y h g=>g a b rfl h) q h g
noncomputable def rc(f:List PySem.Expr->Nat->Pos->Bool)(x:PySem.Expr):Bool:=if h:x.ctorIdx=25 then PySem.Expr.Tuple.elim (motive_1:=λY=>Bool) x h f else false
theorem rg{f:List PySem.Expr->Nat->Pos->Bool}{x:PySem.Expr}{G:Prop}(h:rc f x=true)(g:∀a b c,x=.Tuple a b c->f a b c=true->G):G :=
 b8 h λq h=>PySem.Expr.Tuple.elim (motive_1:=λx=>(q:x.ctorIdx=25)->PySem.Expr.Tuple.elim (motive_1:=λY=>Bool) x q f=true->(∀a b c,x=.Tuple a b c->f a b c=true->G)->G) x q (λa b c Y h g=>g a b c rfl h) q h g
noncomputable def Et(f:Option PySem.Expr->Option PySem.Expr->Option PySem.Expr->Pos->Bool)(x:PySem.Expr):Bool:=if h:x.ctorIdx=26 then PySem.Expr.Slice.elim (motive_1:=λY=>Bool) x h f else false
theorem Sn{f:Option PySem.Expr->Option PySem.Expr->Option PySem.Expr->Pos->Bool}{x:PySem.Expr}{G:Prop}(h:Et f x=true)(g:∀a b c d,x=.Slice a b c d->f a b c d=true->G):G :=
 b8 h λq h=>PySem.Expr.Slice.elim (motive_1:=λx=>(q:x.ctorIdx=26)->PySem.Expr.Slice.elim (motive_1:=λY=>Bool) x q f=true->(∀a b c d,x=.Slice a b c d->f a b c d=true->G)->G) x q (λa b c d Y h g=>g a b c d rfl h) q h g
theorem cH{α : Type}{l:List α}(h:cN l=true):l=[]:=by cases l<;>first | rfl | exact aC h
noncomputable def kD{α : Type}(f:α->Bool):List α->Bool
 |[a]=>f a
 |_=>false
theorem jx{α : Type}{f:α->Bool}{l:List α}{G:Prop}(h:kD f l=true)(g:∀a,l=[a]->f a=true->G):G:=by
 rcases l with _ | ⟨a,_ | _⟩
 .exact aC h
 .exact g a rfl h
 .exact aC h
noncomputable def Ek(f:PySem.Expr->Pos->Bool)(x:Stmt):Bool:=if h:x.ctorIdx=24 then Stmt.Expr.elim (motive_2:=λY=>Bool) x h f else false
theorem Si{f:PySem.Expr->Pos->Bool}{x:Stmt}{G:Prop}(h:Ek f x=true)(g:∀a b,x=.Expr a b->f a b=true->G):G :=
 b8 h λq h=>Stmt.Expr.elim (motive_2:=λx=>(q:x.ctorIdx=24)->Stmt.Expr.elim (motive_2:=λY=>Bool) x q f=true->(∀a b,x=.Expr a b->f a b=true->G)->G) x q (λa b Y h g=>g a b rfl h) q h g
noncomputable def uu(f:List PySem.Expr->PySem.Expr->Pos->Bool)(x:Stmt):Bool:=if h:x.ctorIdx=5 then Stmt.Assign.elim (motive_2:=λY=>Bool) x h f else false
theorem yt{f:List PySem.Expr->PySem.Expr->Pos->Bool}{x:Stmt}{G:Prop}(h:uu f x=true)(g:∀a b c,x=.Assign a b c->f a b c=true->G):G :=
 b8 h λq h=>Stmt.Assign.elim (motive_2:=λx=>(q:x.ctorIdx=5)->Stmt.Assign.elim (motive_2:=λY=>Bool) x q f=true->(∀a b c,x=.Assign a b c->f a b c=true->G)->G) x q (λa b c Y h g=>g a b c rfl h) q h g
noncomputable def Em(f:PySem.Expr->List Stmt->List Stmt->Pos->Bool)(x:Stmt):Bool:=if h:x.ctorIdx=12 then Stmt.If.elim (motive_2:=λY=>Bool) x h f else false
theorem Sl{f:PySem.Expr->List Stmt->List Stmt->Pos->Bool}{x:Stmt}{G:Prop}(h:Em f x=true)(g:∀a b c d,x=.If a b c d->f a b c d=true->G):G :=
 b8 h λq h=>Stmt.If.elim (motive_2:=λx=>(q:x.ctorIdx=12)->Stmt.If.elim (motive_2:=λY=>Bool) x q f=true->(∀a b c d,x=.If a b c d->f a b c d=true->G)->G) x q (λa b c d Y h g=>g a b c d rfl h) q h g
noncomputable def Ew(f:PySem.Expr->List Stmt->List Stmt->Pos->Bool)(x:Stmt):Bool:=if h:x.ctorIdx=11 then Stmt.While.elim (motive_2:=λY=>Bool) x h f else false
theorem Sp{f:PySem.Expr->List Stmt->List Stmt->Pos->Bool}{x:Stmt}{G:Prop}(h:Ew f x=true)(g:∀a b c d,x=.While a b c d->f a b c d=true->G):G :=
 b8 h λq h=>Stmt.While.elim (motive_2:=λx=>(q:x.ctorIdx=11)->Stmt.While.elim (motive_2:=λY=>Bool) x q f=true->(∀a b c d,x=.While a b c d->f a b c d=true->G)->G) x q (λa b c d Y h g=>g a b c d rfl h) q h g
noncomputable def El(f:PySem.Expr->PySem.Expr->List Stmt->List Stmt->Pos->Bool)(x:Stmt):Bool:=if h:x.ctorIdx=9 then Stmt.For.elim (motive_2:=λY=>Bool) x h f else false
theorem Sj{f:PySem.Expr->PySem.Expr->List Stmt->List Stmt->Pos->Bool}{x:Stmt}{G:Prop}(h:El f x=true)(g:∀a b c d e,x=.For a b c d e->f a b c d e=true->G):G :=
 b8 h λq h=>Stmt.For.elim (motive_2:=λx=>(q:x.ctorIdx=9)->Stmt.For.elim (motive_2:=λY=>Bool) x q f=true->(∀a b c d e,x=.For a b c d e->f a b c d e=true->G)->G) x q (λa b c d e Y h g=>g a b c d e rfl h) q h g
noncomputable def yA(f:Option PySem.Expr->Pos->Bool)(x:Stmt):Bool:=if h:x.ctorIdx=3 then Stmt.Return.elim (motive_2:=λY=>Bool) x h f else false
theorem Es{f:Option PySem.Expr->Pos->Bool}{x:Stmt}{G:Prop}(h:yA f x=true)(g:∀a b,x=.Return a b->f a b=true->G):G :=
 b8 h λq h=>Stmt.Return.elim (motive_2:=λx=>(q:x.ctorIdx=3)->Stmt.Return.elim (motive_2:=λY=>Bool) x q f=true->(∀a b,x=.Return a b->f a b=true->G)->G) x q (λa b Y h g=>g a b rfl h) q h g
noncomputable def onRaise(f:Option PySem.Expr->Option PySem.Expr->Pos->Bool)(x:Stmt):Bool:=if h:x.ctorIdx=16 then Stmt.Raise.elim (motive_2:=λY=>Bool) x h f else false
theorem Sm{f:Option PySem.Expr->Option PySem.Expr->Pos->Bool}{x:Stmt}{G:Prop}(h:onRaise f x=true)(g:∀a b c,x=.Raise a b c->f a b c=true->G):G :=
 b8 h λq h=>Stmt.Raise.elim (motive_2:=λx=>(q:x.ctorIdx=16)->Stmt.Raise.elim (motive_2:=λY=>Bool) x q f=true->(∀a b c,x=.Raise a b c->f a b c=true->G)->G) x q (λa b c Y h g=>g a b c rfl h) q h g
noncomputable def Eu(f:List Stmt->List ExceptHandler->List Stmt->List Stmt->Pos->Bool)(x:Stmt):Bool:=if h:x.ctorIdx=17 then Stmt.Try.elim (motive_2:=λY=>Bool) x h f else false
theorem So{f:List Stmt->List ExceptHandler->List Stmt->List Stmt->Pos->Bool}{x:Stmt}{G:Prop}(h:Eu f x=true)(g:∀a b c d e,x=.Try a b c d e->f a b c d e=true->G):G :=
 b8 h λq h=>Stmt.Try.elim (motive_2:=λx=>(q:x.ctorIdx=17)->Stmt.Try.elim (motive_2:=λY=>Bool) x q f=true->(∀a b c d e,x=.Try a b c d e->f a b c d e=true->G)->G) x q (λa b c d e Y h g=>g a b c d e rfl h) q h g
noncomputable def Eh(f:Str->Arguments->List Stmt->List PySem.Expr->Option PySem.Expr->List TypeParam->Scope->Option Scope->Str->Pos->Bool)(x:Stmt):Bool:=if h:x.ctorIdx=0 then Stmt.FunctionDef.elim (motive_2:=λY=>Bool) x h f else false
theorem Sh{f:Str->Arguments->List Stmt->List PySem.Expr->Option PySem.Expr->List TypeParam->Scope->Option Scope->Str->Pos->Bool}{x:Stmt}{G:Prop}(h:Eh f x=true)(g:∀a b c d e w u i j k,x=.FunctionDef a b c d e w u i j k->f a b c d e w u i j k=true->G):G :=
 b8 h λq h=>Stmt.FunctionDef.elim (motive_2:=λx=>(q:x.ctorIdx=0)->Stmt.FunctionDef.elim (motive_2:=λY=>Bool) x q f=true->(∀a b c d e w u i j k,x=.FunctionDef a b c d e w u i j k->f a b c d e w u i j k=true->G)->G) x q (λa b c d e w u i j k Y h g=>g a b c d e w u i j k rfl h) q h g
noncomputable def cP{α : Type}(f:α->Bool):Option α->Bool
 |some a=>f a
 |none=>false
theorem db{α : Type}{f:α->Bool}{o:Option α}{G:Prop}(h:cP f o=true)(g:∀a,o=some a->f a=true->G):G:=by
 cases o with
 |none=>exact aC h
 |some a=>exact g a rfl h
noncomputable def lM{α : Type}(f:α->List α->Bool):List α->Bool
 |a::l=>f a l
 |[]=>false
theorem kC{α : Type}{f:α->List α->Bool}{l:List α}{G:Prop}(h:lM f l=true)(g:∀a r,l=a::r->f a r=true->G):G:=by
 cases l with
 |nil=>exact aC h
 |cons a r=>exact g a r rfl h
noncomputable def li:List aN->List (Option PySem.Expr)->Bool
 |[],l=>cN l
 |k::ks,l=>lM (λo r=>cP (ra λc Y Y=>mu (.str k) c) o&&li ks r) l
theorem Lu{k:aN}{c:Const}(h:mu (.str k) c=true):c=.str (aJ k):=by cases c<;>first | exact aC h | exact ay Const.str (bG h)
theorem Be{k:aN}{ks:List aN}{keys:List (Option PySem.Expr)}{G:Prop}(h:li (k::ks) keys=true)(g:∀n p r,keys=some (.Constant (.str (aJ k)) n p)::r->li ks r=true->G):G :=
 kC h λo r e h=>db (aD h).1 λx e2 h2=>ux h2 λc n p e3 h3=>g n p r (by rw[e,e2,e3,Lu h3]) (aD h).2
noncomputable def yx(f:Option PySem.Expr->Option Str->List Stmt->Bool)(x:ExceptHandler):Bool:=ExceptHandler.casesOn (motive_4:=λY=>Bool) x λa b c Y=>f a b c
theorem Sk{f:Option PySem.Expr->Option Str->List Stmt->Bool}{x:ExceptHandler}{G:Prop}(h:yx f x=true)(g:∀a b c p,x=.ExceptHandler a b c p->f a b c=true->G):G :=
 ExceptHandler.casesOn (motive_4:=λx=>yx f x=true->(∀a b c p,x=.ExceptHandler a b c p->f a b c=true->G)->G) x (λa b c p h g=>g a b c p rfl h) h g
noncomputable def Pa(nm:Nat->Str)(sc:Scope):Option Nat->Option Str->Bool
 |none,o=>o.isNone
 |some z,o=>cP (λzs=>decide (zs=nm z)&&decide (sc.names.lookup zs=some .local)) o
noncomputable def P9:UnaryOp->Bool
 |.Not=>true
 |_=>false
noncomputable def xD:UnaryOp->Bool
 |.USub=>true
 |_=>false
theorem xE{o:UnaryOp}(h:xD o=true):o=.USub:=by cases o<;>first | rfl | exact aC h
noncomputable def wc(rev:Bool)(st:Option PySem.Expr):Bool:=cond rev (cP (uz λop e Y=>xD op&&ra (λc Y Y=>mu (.int 1) c) e) st) st.isNone
noncomputable def su(nm:Nat->Str)(sc:Scope)(z:Nat):PySem.Expr->Bool:=jw λy Y=>decide (y=nm z)&&decide (sc.names.lookup y=some .local)
noncomputable def mv(nm:Nat->Str)(sc:Scope):T->PySem.Expr->Bool
 |.loc z=>su nm sc z
 |.two a b=>rc λes Y Y=>lM (λx r=>kD (λy=>su nm sc a x&&su nm sc b y) r) es
noncomputable def wb(nm:Nat->Str)(sc:Scope)(f:Nat)(p:PySem.Expr->Bool):PySem.Expr->Bool :=
 q' λg es ks Y=>cN ks&&(jw (λy Y=>decide (y=nm f)&&decide (sc.names.lookup y=some .globalImplicit)&&dF y) g&&kD p es)
noncomputable def wf(nm:Nat->Str)(sc:Scope)(f g:Nat)(p:PySem.Expr->Bool):PySem.Expr->Bool:=wb nm sc f (wb nm sc g p)
mutual
noncomputable def aO(nm:Nat->Str)(sc:Scope):E->PySem.Expr->Bool
 |.c v,x=>ra (λc Y Y=>mu v c) x
 |.loc z,x=>jw (λy Y=>decide (y=nm z)&&decide (sc.names.lookup y=some .local)&&dF y) x
 |.ae z,x=>jw (λy Y=>decide (y=nm z)&&(decide (sc.names.lookup y=some .cell) || decide (sc.names.lookup y=some .free))&&dF y && !(y==("__classdict__" : Str))) x
 |.ah z,x=>jw (λy Y=>decide (y=nm z)&&decide (sc.names.lookup y=some .globalImplicit)&&dF y) x
 |.bo a l,x=>Ef (λop es Y=>(match a,op with | true,.And=>true | false,.Or=>true | _,_=>false)&&bD nm sc l es) x
 |.bin o a b,x=>Ed (λl op r Y=>Bf o op&&aO nm sc a l&&aO nm sc b r) x
 |.not a,x=>uz (λop e Y=>P9 op&&aO nm sc a e) x
 |.neg n,x=>uz (λop e Y=>xD op&&ra (λc Y Y=>mu (.int (n:Int)) c) e) x
 |.ite c a b,x=>En (λt y z Y=>aO nm sc c t&&aO nm sc a y&&aO nm sc b z) x
 |.dict ks vs,x=>Ei (λkeys fV Y=>li ks keys&&bD nm sc vs fV&&decide (ks.length<=15)&&decide (ks.length=vs.length)&&nZ ks) x
 |.list l,x=>Eo (λes Y=>bD nm sc l es) x
 |.tuple l,x=>rc (λes Y Y=>bD nm sc l es) x
 |.comp elt gs,x=>Ep (λe gens scope Y=>pX sc scope&&aO nm (jd sc scope) elt e&&qf nm sc (jd sc scope) gs gens) x
 |.cmp o a b,x=>Eg (λl ops rs Y=>kD (λop=>kD (λr=>Bd o op && !behindInMarks op r&&aO nm sc a l&&aO nm sc b r) rs) ops) x
 |.call f a,x=>q' (λg es ks Y=>cN ks&&(!tD g&&aO nm sc f g&&bD nm sc a es&&decide (es.length<=15))) x
 |.meth o m a,x=>q' (λg es ks pos=>cN ks&&uv (λoe name apos=>decide (name=nm m)&&(apos.endLine==pos.line) && !qK oe&&aO nm sc o oe&&bD nm sc a es&&decide (es.length<=15)) g) x
 |.attr o z,x=>uv (λoe name Y=>decide (name=nm z) && !qK oe&&aO nm sc o oe) x
 |.sub o i,x=>yB (λoe ie Y=>aO nm sc o oe&&aO nm sc i ie) x
 |.slc o lo hi rev,x=>yB (λoe ie Y=>Et (λl u st Y=>aO nm sc o oe&&qg nm sc lo l&&qg nm sc hi u&&wc rev st) ie) x
 |.sset f g a,x=>wf nm sc f g (aO nm sc a) x
 |.lP f g a,x=>wf nm sc f g (aO nm sc a) x
noncomputable def bD(nm:Nat->Str)(sc:Scope):List E->List PySem.Expr->Bool
 |[],l=>cN l
 |m::r,l=>lM (λe es=>aO nm sc m e&&bD nm sc r es) l
noncomputable def qg(nm:Nat->Str)(sc:Scope):Option E->Option PySem.Expr->Bool
 |none,none=>true
 |some m,some e=>aO nm sc m e
 |_,_=>false
noncomputable def qf(nm:Nat->Str)(out sc:Scope):List G->List Comprehension->Bool
 |[],l=>cN l
 |.mk t it ifs::r,l=>lM (λc gs=>mv nm sc t c.target&&aO nm out it c.iter&&bD nm sc ifs c.ifs&&decide (c.is_async=0)&&qf nm sc sc r gs) l
end
noncomputable def UJ(sc:Scope)(x:Str)(cU:Pos)(v:PySem.Expr)(line:Nat):Bool:=match v with
 |.ListComp _ _ s p=>decide (sc.kind=.function)&&decide (sc.names.lookup x=some .local)&&cU.line==p.line && !(s.names.any λ(n,k)=>n==x&&(k==.local || k==.cell))&&decide (p.line=line)
 |_=>false
noncomputable def ll(sc:Scope)(y:Str):Bool->Bool
 |true=>decide (sc.names.lookup y=some .cell)
 |false=>decide (sc.names.lookup y=some .local)
noncomputable def sw(sc:Scope)(y:Str)(cU:Pos)(v:PySem.Expr)(line:Nat):Bool->Bool
 |true=>UJ sc y cU v line
 |false=>true
noncomputable def jY(nm:Nat->Str)(sc:Scope):List (Nat×Bool)->List PySem.Expr->Bool
 |[],l=>cN l
 |q::xs,l=>lM (λe r=>jw (λy Y=>decide (y=nm q.1)&&ll sc y q.2&&jY nm sc xs r) e) l
theorem sx{nm:Nat->Str}{sc:Scope}{q:Nat×Bool}{xs:List (Nat×Bool)}{es:List PySem.Expr}{G:Prop}(h:jY nm sc (q::xs) es=true)(g:∀pos r,es=.Name (nm q.1) pos::r->ll sc (nm q.1) q.2=true->jY nm sc xs r=true->G):G :=
 kC h λe r e1 h=>ig h λy pos e2 h=>by obtain rfl:y=nm q.1:=bG (nR h).1.1;exact g pos r (e1.trans (ay (· :: r) e2)) (nR h).1.2 (nR h).2
noncomputable def oa:List (Nat×Bool)->Bool
 |[]=>true
 |(x,_)::r => !(r.any λp=>Nat.beq x p.1)&&oa r
noncomputable def DT(v:PySem.Expr):Bool:=rc (λvs Y Y => !(vs.all (foldedForSure 8)) && !(vs.all (constantsAlone 8))) v || (jw (λY Y=>true) v || q' (λY Y Y Y=>true) v)
noncomputable def v8(nm:Nat->Str)(ps:List Nat)(args:Arguments):Bool :=
 cN args.posonlyargs&&decide (args.args.map (·.arg)=ps.map nm)&&args.args.all (λa=>a.annotation.isNone)&&args.vararg.isNone&&cN args.kwonlyargs&&cN args.kw_defaults&&args.kwarg.isNone&&cN args.defaults
noncomputable def wa(nm:Nat->Str)(out sc:Scope)(ps cs fs:List Nat):Bool :=
 decide (sc.kind=.function) && !sc.isGenerator && !sc.isCoroutine&&decide ((sc.names.filter (·.2==.cell)).map (·.1)=cs.map nm) &&
 ps.all (λx=>decide (sc.names.lookup (nm x)=some (if cs.contains x then NameKind.cell else NameKind.local)))&&decide cs.Nodup&&decide ps.Nodup &&
 fs.all (λf=>sc.names.any λq=>decide (q=(nm f,NameKind.free)))&&sc.names.all (λq=>q.2 != .free || decide (out.names.lookup q.1=some .cell)) && !decide (sc.names.lookup ("seen" : Str)=some .local)
mutual
noncomputable def eA(nm:Nat->Str)(sc:Scope):S->Stmt->Bool
 |.ex e,m=>Ek (λv Y => !ku e&&aO nm sc e v) m
 |.asg x c e,m=>uu (λts v p=>kD (jw λy cU=>decide (y=nm x)&&ll sc y c&&aO nm sc e v&&sw sc y cU v p.line (ku e && !c)) ts) m
 |.aY o x e,m=>uu (λts v Y=>kD (uv λoe name Y=>decide (name=nm x) && !ku e&&aO nm sc o oe&&aO nm sc e v) ts) m
 |.cr xs e,m=>uu (λts v Y=>kD (rc λes Y Y => !ku e&&jY nm sc xs es&&oa xs&&aO nm sc e v&&DT v) ts) m
 |.ite c a b,m=>Em (λt x y Y=>aO nm sc c t&&eQ nm sc a x&&eQ nm sc b y) m
 |.wh c b,m=>Ew (λt x r Y=>aO nm sc c t&&eQ nm sc b x&&cN r) m
 |.fr t it b,m=>El (λte ie x r Y=>mv nm sc t te&&aO nm sc it ie&&eQ nm sc b x&&cN r) m
 |.ret none,m=>yA (λo Y=>o.isNone) m
 |.ret (some e),m=>yA (λo Y=>cP (aO nm sc e) o) m
 |.rs e,m=>onRaise (λo c Y=>cP (aO nm sc e) o&&c.isNone) m
 |.tr b g m9 h,m=>Eu (λx hs r f Y=>cN r&&cN f&&kD (yx λo hn hb=>eQ nm sc b x&&eQ nm sc h hb && !hb.isEmpty&&Pa nm sc m9 hn &&
   cP (jw λy Y=>decide (y=nm g)&&decide (sc.names.lookup y=some .globalImplicit)&&dF y) o) hs) m
 |.mr x ps cs fs b,m=>Eh (λname args body ds rt tps scope ts bind Y=>cN ds&&rt.isNone&&cN tps&&ts.isNone&&(decide (name=bind)&&decide (bind=nm x)&&decide (bind = "seen")&&decide (sc.names.lookup bind=some .local) &&
   v8 nm ps args&&wa nm sc scope ps cs fs&&eQ nm scope b body)) m
 |.oR,Y=>true
noncomputable def eQ(nm:Nat->Str)(sc:Scope):List S->List Stmt->Bool
 |[],l=>cN l
 |m::r,l=>lM (λe es=>eA nm sc m e&&eQ nm sc r es) l
end
noncomputable def nD(f:Addr->Bool)(x:Value):Bool:=if h:x.ctorIdx=10 then Value.ref.elim (motive:=λY=>Bool) x h f else false
theorem pH{f:Addr->Bool}{x:Value}{G:Prop}(h:nD f x=true)(g:∀a,x=.ref a->f a=true->G):G :=
 b8 h λq h=>Value.ref.elim (motive:=λx=>(q:x.ctorIdx=10)->Value.ref.elim (motive:=λY=>Bool) x q f=true->(∀a,x=.ref a->f a=true->G)->G) x q (λa Y h g=>g a rfl h) q h g
noncomputable def F6(f:Bool->Bool)(x:Value):Bool:=if h:x.ctorIdx=3 then Value.bool.elim (motive:=λY=>Bool) x h f else false
theorem VJ{f:Bool->Bool}{x:Value}{G:Prop}(h:F6 f x=true)(g:∀a,x=.bool a->f a=true->G):G :=
 b8 h λq h=>Value.bool.elim (motive:=λx=>(q:x.ctorIdx=3)->Value.bool.elim (motive:=λY=>Bool) x q f=true->(∀a,x=.bool a->f a=true->G)->G) x q (λa Y h g=>g a rfl h) q h g
noncomputable def Gb(f:Int->Tok->Bool)(x:Value):Bool:=if h:x.ctorIdx=4 then Value.int.elim (motive:=λY=>Bool) x h f else false
theorem VK{f:Int->Tok->Bool}{x:Value}{G:Prop}(h:Gb f x=true)(g:∀a b,x=.int a b->f a b=true->G):G :=
 b8 h λq h=>Value.int.elim (motive:=λx=>(q:x.ctorIdx=4)->Value.int.elim (motive:=λY=>Bool) x q f=true->(∀a b,x=.int a b->f a b=true->G)->G) x q (λa b Y h g=>g a b rfl h) q h g
noncomputable def zj(f:Str->Tok->Bool)(x:Value):Bool:=if h:x.ctorIdx=6 then Value.str.elim (motive:=λY=>Bool) x h f else false
theorem Gd{f:Str->Tok->Bool}{x:Value}{G:Prop}(h:zj f x=true)(g:∀a b,x=.str a b->f a b=true->G):G :=
 b8 h λq h=>Value.str.elim (motive:=λx=>(q:x.ctorIdx=6)->Value.str.elim (motive:=λY=>Bool) x q f=true->(∀a b,x=.str a b->f a b=true->G)->G) x q (λa b Y h g=>g a b rfl h) q h g
noncomputable def zk(f:String->Bool)(x:Value):Bool:=if h:x.ctorIdx=8 then Value.type.elim (motive:=λY=>Bool) x h f else false
theorem Ge{f:String->Bool}{x:Value}{G:Prop}(h:zk f x=true)(g:∀a,x=.type a->f a=true->G):G :=
 b8 h λq h=>Value.type.elim (motive:=λx=>(q:x.ctorIdx=8)->Value.type.elim (motive:=λY=>Bool) x q f=true->(∀a,x=.type a->f a=true->G)->G) x q (λa Y h g=>g a rfl h) q h g
noncomputable def zc(f:String->Bool)(x:Value):Bool:=if h:x.ctorIdx=9 then Value.builtin.elim (motive:=λY=>Bool) x h f else false
theorem F5{f:String->Bool}{x:Value}{G:Prop}(h:zc f x=true)(g:∀a,x=.builtin a->f a=true->G):G :=
 b8 h λq h=>Value.builtin.elim (motive:=λx=>(q:x.ctorIdx=9)->Value.builtin.elim (motive:=λY=>Bool) x q f=true->(∀a,x=.builtin a->f a=true->G)->G) x q (λa Y h g=>g a rfl h) q h g
noncomputable def AQ(f:Array Value->Nat->Bool)(x:Data):Bool:=if h:x.ctorIdx=2 then Data.seq.elim (motive:=λY=>Bool) x h f else false
theorem Ks{f:Array Value->Nat->Bool}{x:Data}{G:Prop}(h:AQ f x=true)(g:∀a b,x=.seq a b->f a b=true->G):G :=
 b8 h λq h=>Data.seq.elim (motive:=λx=>(q:x.ctorIdx=2)->Data.seq.elim (motive:=λY=>Bool) x q f=true->(∀a b,x=.seq a b->f a b=true->G)->G) x q (λa b Y h g=>g a b rfl h) q h g
noncomputable def AP(f:FuncData->Bool)(x:Data):Bool:=if h:x.ctorIdx=7 then Data.func.elim (motive:=λY=>Bool) x h f else false
theorem Ko{f:FuncData->Bool}{x:Data}{G:Prop}(h:AP f x=true)(g:∀a,x=.func a->f a=true->G):G :=
 b8 h λq h=>Data.func.elim (motive:=λx=>(q:x.ctorIdx=7)->Data.func.elim (motive:=λY=>Bool) x q f=true->(∀a,x=.func a->f a=true->G)->G) x q (λa Y h g=>g a rfl h) q h g
noncomputable def AO(f:Array Value->Bool)(x:Data):Bool:=if h:x.ctorIdx=9 then Data.fields.elim (motive:=λY=>Bool) x h f else false
theorem Kn{f:Array Value->Bool}{x:Data}{G:Prop}(h:AO f x=true)(g:∀a,x=.fields a->f a=true->G):G :=
 b8 h λq h=>Data.fields.elim (motive:=λx=>(q:x.ctorIdx=9)->Data.fields.elim (motive:=λY=>Bool) x q f=true->(∀a,x=.fields a->f a=true->G)->G) x q (λa Y h g=>g a rfl h) q h g
noncomputable def z'(f:List Stmt->Bool)(x:FuncBody):Bool:=if h:x.ctorIdx=0 then FuncBody.stmts.elim (motive:=λY=>Bool) x h f else false
theorem Jg{f:List Stmt->Bool}{x:FuncBody}{G:Prop}(h:z' f x=true)(g:∀a,x=.stmts a->f a=true->G):G :=
 b8 h λq h=>FuncBody.stmts.elim (motive:=λx=>(q:x.ctorIdx=0)->FuncBody.stmts.elim (motive:=λY=>Bool) x q f=true->(∀a,x=.stmts a->f a=true->G)->G) x q (λa Y h g=>g a rfl h) q h g
noncomputable def zh(x:Value):Bool:=Nat.beq x.ctorIdx 0
theorem Gc{x:Value}(h:zh x=true):x=.none:=Value.none.elim (motive:=λx=>x=.none) x (bY h) rfl
end
section
def dH(o:Obj):Prop:=∃es ep,o.data=.dict es ep
def jp(o:Obj):Prop:=(o.cls=.type "tuple"\/o.cls=.type "range"\/o.cls=.type "traceback"\/o.cls=.type "code")/\¬ dH o
def fB(o:Obj):Prop:=(o.cls=.type "list_iterator"\/o.cls=.type "tuple_iterator"\/o.cls=.type "range_iterator"\/o.cls=.type "dict_keyiterator")/\¬ dH o
theorem dH.iF{o:Obj}(f:dH o):¬ jp o:=λi=>i.2 f
theorem dH.ju{o:Obj}(f:dH o):¬ fB o:=λi=>i.2 f
theorem dH.noSeq{o:Obj}(f:dH o){vs:Array Value}{n:Nat}(h:o.data=.seq vs n):False:=by
 refine kR f λes ep d=>?_;replace d:=aW d h;cases d
theorem dH.fi{o:Obj}(f:dH o){vs:Array Value}(h:o.data=.fields vs):False:=by
 refine kR f λes ep d=>?_;replace d:=aW d h;cases d
theorem dH.yg{h:Heap}{a:Addr}{vs:Array Value}{o:Obj}(f:dH o)(e:h.get? a=some o)(x:h.IsList a vs):False:=by
 obtain⟨o',h1,Y,n,h3⟩:=x;replace h1:=aW h1 e;obtain rfl:=ag h1;exact f.noSeq h3
theorem PT{o:Obj}{vs:Array Value}{n:Nat}(h:o.data=.seq vs n):¬ dH o:=λf=>f.noSeq h
theorem qI{o:Obj}{vs:Array Value}(h:o.cls=.type "code")(d:o.data=.fields vs):jp o:=⟨.inr (.inr (.inr h)),λf=>f.fi d⟩
theorem ue{o:Obj}{t:String}(h:o.cls=.type t)(d:¬ (t = "tuple"\/t = "range"\/t = "traceback"\/t = "code")):¬ jp o:=λx =>
 d (x.1.imp (λe=>Value.type.inj (h.symm.trans e)) (·.imp (λe=>Value.type.inj (h.symm.trans e)) (·.imp (λe=>Value.type.inj (h.symm.trans e)) (λe=>Value.type.inj (h.symm.trans e)))))
theorem o7{o:Obj}{t:String}(h:o.cls=.type t)(d:¬ (t = "list_iterator"\/t = "tuple_iterator"\/t = "range_iterator"\/t = "dict_keyiterator")):¬ fB o:=λx =>
 d (x.1.imp (λe=>Value.type.inj (h.symm.trans e)) (·.imp (λe=>Value.type.inj (h.symm.trans e)) (·.imp (λe=>Value.type.inj (h.symm.trans e)) (λe=>Value.type.inj (h.symm.trans e)))))
structure bM(X:Sx)(h:Heap)(ρ:List Addr)(h':Heap)(ρ':List Addr):Prop where
 jo:∀a o,h.get? a=some o->jp o->h'.get? a=some o
 fl:∀a vs,h.IsList a vs->a∉ρ->a≠X.src->h'.IsList a vs/\a∉ρ'
 ref:∀(k:Nat) (a:Addr),ρ[k]?=some a->ρ'[k]?=some a
theorem bM.tup{X:Sx}{h h':Heap}{ρ ρ':List Addr}(k:bM X h ρ h' ρ'){a:Addr}{vs:Array Value}(x:IsTup h a vs):IsTup h' a vs:=by
 exact bE x λo h1 h2 h3=>cL o (k.jo _ _ h1 ⟨.inl h2,PT h3.choose_spec⟩) h2 h3
theorem bM.trans{X:Sx}{h h' h'':Heap}{ρ ρ' iV:List Addr}(k:bM X h ρ h' ρ')(k':bM X h' ρ' h'' iV):bM X h ρ h'' iV :=
 ⟨λa o e i=>k'.jo a o (k.jo a o e i) i,λa vs e n m=>aL (k.fl a vs e n m) λx y=>k'.fl a vs x y m,λj a e=>k'.ref j a (k.ref j a e)⟩
mutual
theorem av.mono{X:Sx}{h h':Heap}{ρ ρ':List Addr}(k:bM X h ρ h' ρ'):∀{x:V} {v:Value},av X h ρ x v->av X h' ρ' x v
 |.none,_,e=>e
 |.bool b,_,e=>e
 |.int i,_,e=>e
 |.str s,_,e=>e
 |.bytes b,_,e=>e
 |.tup l,_,e=>by
  dsimp only[av] at e ⊢;refine aA e ?_;rintro a vs rfl h1 h2
  exact⟨a,vs,rfl,k.tup h1,aB.mono k h2⟩
 |.fl l,_,e=>by
  dsimp only[av] at e ⊢;refine jD e ?_;rintro a vs rfl h1 h2 h3 h4
  exact aL (k.fl _ _ h1 h3 h4) λq1 q2=>⟨a,vs,rfl,q1,aB.mono k h2,q2,h4⟩
 |.bg n,_,e=>by
  dsimp only[av] at e ⊢;refine zq e ?_;rintro a t u w rfl h1
  exact⟨a,t,u,w,rfl,k.jo _ _ h1 ⟨.inr (.inl rfl),λf=>f.fi rfl⟩⟩
 |.ref j,_,e=>by
  dsimp only[av] at e ⊢;refine af e ?_;rintro a rfl h1
  exact⟨a,rfl,k.ref _ _ h1⟩
 |.fn f,_,e=>e
 |.cls f,_,e=>e
 |.typ f,_,e=>e
 |.blt f,_,e=>e
 |.src,_,e=>e
 |.any,_,e=>e
 |.tok i,_,e=>e
theorem aB.mono{X:Sx}{h h':Heap}{ρ ρ':List Addr}(k:bM X h ρ h' ρ'):∀{l:List V} {vs:List Value},aB X h ρ l vs->aB X h' ρ' l vs
 |[],_,e=>e
 |x::xs,_,e=>by
  refine aA e ?_;rintro v ws rfl h1 h2;exact⟨v,ws,rfl,av.mono k h1,aB.mono k h2⟩
end
structure rR(X:Sx)(f:FD)(fd:FuncData):Prop where
 po:fd.params.posonlyargs=[]
 ps:fd.params.args.map (·.arg)=f.ps.map X.nm
 va:fd.params.vararg=none
 ko:fd.params.kwonlyargs=[]
 kw:fd.params.kwarg=none
 kind:fd.scope.kind=.function
 gen:fd.scope.isGenerator=false
 co:fd.scope.isCoroutine=false
 glob:fd.globals=mainGlobals
 bi:fd.builtins=builtinsNs
 cs:(fd.scope.names.filter (·.2==.cell)).map (·.1)=f.cs.map X.nm
 pk:∀x∈f.ps,fd.scope.names.lookup (X.nm x)=some (if f.cs.contains x then NameKind.cell else NameKind.local)
 nd:f.cs.Nodup
 SX:f.ps.Nodup
 dl:f.ds.length<=f.ps.length
 tab:fd.scope.names.lookup ("seen" : Str)=some .local->fd.code=.ref X.cQ/\(fd.qualname++(".<locals>." : Str))++("seen" : Str)=X.ch
structure kU(X:Sx)(f:FD)(fd:FuncData):Prop extends rR X f fd where
 body:∃b,fd.body=.stmts b/\eQ X.nm fd.scope f.body b=true
def pL(X:Sx)(h:Heap)(ds:List V)(v:Value):Prop :=
 (ds=[]/\v=.none)\/∃a vs,v=.ref a/\IsTup h a (List.toArray vs)/\aB X h [] ds vs
noncomputable def eN(X:Sx)(h:Heap)(ρ:List Addr):List (Nat×V)->List DictEntry->Prop
 |[],ds=>ds=[]
 |(x,v)::r,ds=>∃t val ds',ds=⟨PyData.keyHash X.w.params (X.nm x),.str (X.nm x) t,val⟩::ds'/\av X h ρ v val/\eN X h ρ r ds'
noncomputable def gK(X:Sx)(h:Heap)(ρ:List Addr):List (aN×V)->List DictEntry->Prop
 |[],ds=>ds=[]
 |(x,v)::r,ds=>∃t val ds',ds=⟨PyData.keyHash X.w.params (aJ x),.str (aJ x) t,val⟩::ds'/\av X h ρ v val/\gK X h ρ r ds'
def jQ(X:Sx)(h:Heap)(e:Addr)(vs:Array Value):Prop :=
 vs[1]?=some .none\/∃T oT ts,vs[1]?=some (.ref T)/\T≠e/\h.get? T=some oT/\oT.cls=.type "traceback"/\oT.data=.fields ts/\ts[3]?=some .none/\X.hF.get? T=none
def rO(ρ:List Addr)(d:Option Nat)(o:Obj):Prop:=match d with
 |none=>o.dict=none
 |some d=>∃x,ρ[d]?=some x/\o.dict=some x
theorem rO.mono{ρ ρ':List Addr}{d:Option Nat}{o:Obj}(k:∀(k:Nat) (a:Addr),ρ[k]?=some a->ρ'[k]?=some a)(h:rO ρ d o):rO ρ' d o:=by
 induction d using Option.casesOn with
 |none=>exact h
 |some d=>refine af h λx a b=>?_;exact ao x (k _ _ a) b
def dV(X:Sx)(h:Heap)(ρ:List Addr)(a:Addr):O->Obj->Prop
 |.list l,o=>o.cls=.type "list"/\∃vs n,o.data=.seq (List.toArray vs) n/\aB X h ρ l vs/\o.dict=none/\o.slots = #[]
 |.inst c d,o=>o.cls=.ref (X.ad c)/\(∃x,ρ[d]?=some x/\o.dict=some x)/\o.data=.plain/\X.P.exc c=false/\(X.P.init c).isSome=true
 |.ns es,o=>o.cls=.type "dict"/\o.dict=none/\o.slots = #[]/\∃ds n,o.data=.dict (List.toArray ds) n/\eN X h ρ es ds
 |.dict es,o=>o.cls=.type "dict"/\o.dict=none/\o.slots = #[]/\∃ds n,o.data=.dict (List.toArray ds) n/\gK X h ρ es ds
 |.cell v,o=>o.cls=.type "cell"/\match v with
  |none=>o.data=.cell none
  |some v=>∃val,o.data=.cell (some val)/\av X h ρ v val
 |.clo f cs,o=>o.cls=.type "function"/\∃fd,o.data=.func fd/\kU X f fd/\h.CodeRec fd.code fd.qualname/\fd.defaults=.none/\f.ds=[]/\
   (∃co c,fd.code=.ref c/\h.get? c=some co/\co.cls=.type "code")/\
   ∀x k,aw cs x=some k->∃y,ρ[k]?=some y/\fd.closure.lookup (X.nm x)=some y
 |.exc c d,o=>o.cls=.ref (X.ad c)/\rO ρ d o/\(X.P.exc c=true/\(X.P.init c).isSome=true)/\∃vs,o.data=.fields vs/\3<vs.size/\vs[2]?=some .none/\jQ X h a vs/\∃t0,vs[0]?=some (.ref t0)
theorem eN.mono{X:Sx}{h h':Heap}{ρ ρ':List Addr}(k:bM X h ρ h' ρ'):∀{l:List (Nat×V)} {ds:List DictEntry},eN X h ρ l ds->eN X h' ρ' l ds
 |[],_,e=>e
 |(x,v)::r,_,e=>by
  refine fK e ?_;rintro t val ds' rfl h1 h2;exact⟨t,val,ds',rfl,h1.mono k,eN.mono k h2⟩
theorem gK.mono{X:Sx}{h h':Heap}{ρ ρ':List Addr}(k:bM X h ρ h' ρ'):∀{l:List (aN×V)} {ds:List DictEntry},gK X h ρ l ds->gK X h' ρ' l ds
 |[],_,e=>e
 |(x,v)::r,_,e=>by
  refine fK e ?_;rintro t val ds' rfl h1 h2;exact⟨t,val,ds',rfl,h1.mono k,gK.mono k h2⟩
theorem jQ.mono{X:Sx}{h h':Heap}{ρ ρ':List Addr}(k:bM X h ρ h' ρ'){e:Addr}{vs:Array Value}(x:jQ X h e vs):jQ X h' e vs :=
 x.imp id λq9=>fq q9 λT oT ts a1 a2 a3 a4 a5=>(qT T oT ts a1 a2 (k.jo _ _ a3 ⟨.inr (.inr (.inl a4)),λf=>f.fi a5.1⟩) a4 a5)
theorem dV.mono{X:Sx}{h h':Heap}{ρ ρ':List Addr}(k:bM X h ρ h' ρ'){a:Addr}{o:O}{ob:Obj}(r:dV X h ρ a o ob):dV X h' ρ' a o ob:=by
 induction o using Internal.O.casesOn with
 |list l=>obtain⟨h1,vs,n,h2,h3,h4⟩:=r;exact⟨h1,vs,n,h2,aB.mono k h3,h4⟩
 |inst c d=>refine d7 r ?_;rintro h1;intro q0;refine af q0 ?_;clear q0;rintro x h2 h3 h4;exact⟨h1,⟨x,k.ref _ _ h2,h3⟩,h4⟩
 |ns es=>obtain⟨h1,hd,hs,ds,n,h2,h3⟩:=r;exact⟨h1,hd,hs,ds,n,h2,eN.mono k h3⟩
 |dict es=>obtain⟨h1,hd,hs,ds,n,h2,h3⟩:=r;exact⟨h1,hd,hs,ds,n,h2,gK.mono k h3⟩
 |cell v=>induction v using Option.casesOn with
  |none=>exact r
  |some v=>obtain⟨h1,val,h2,h3⟩:=r;exact⟨h1,val,h2,h3.mono k⟩
 |clo f cs=>
  obtain⟨h1,fd,h2,h4,⟨c,co,vs,t,e1,e2,e3,e4⟩,h6,h7,⟨JZ,c',g1,g2,g3⟩,h9⟩:=r;refine⟨h1,fd,h2,h4,⟨c,co,vs,t,e1,?_,e3,e4⟩,h6,h7,⟨JZ,c',g1,k.jo _ _ g2 ?_,g3⟩,λx j hx=>let ⟨y,q1,q2⟩:=h9 x j hx;⟨y,k.ref _ _ q1,q2⟩⟩
  all_goals
   obtain rfl:c=c':=by obtain g1:=aW g1 e1;exact gM g1
   replace e2:=aW e2 g2;cases e2
  .exact k.jo _ _ g2 (qI g3 e3)
  .exact qI g3 e3
 |exc c d=>obtain⟨h1,h2,hx,vs,h4,h5,h6,h7,h8⟩:=r;exact⟨h1,h2.mono k.ref,hx,vs,h4,h5,h6,h7.mono k,h8⟩
theorem uF{o:Obj}{a:Addr}{t u v w:String}(h:o.cls=.ref a):¬ (o.cls=.type t\/o.cls=.type u\/o.cls=.type v\/o.cls=.type w):=by
 rw[h];exact λx=>x.elim nofun λx=>x.elim nofun λx=>x.elim nofun nofun
theorem dV.iF{X:Sx}{h:Heap}{ρ:List Addr}{a:Addr}{o:O}{ob:Obj}(r:dV X h ρ a o ob):¬ jp ob:=by
 induction o using Internal.O.casesOn with
 |inst c d=>exact λx=>uF r.1 x.1
 |exc c d=>exact λx=>uF r.1 x.1
 |_=>exact ue r.1 (by decide)
theorem dV.ju{X:Sx}{h:Heap}{ρ:List Addr}{a:Addr}{o:O}{ob:Obj}(r:dV X h ρ a o ob):¬ fB ob:=by
 induction o using Internal.O.casesOn with
 |inst c d=>exact λx=>uF r.1 x.1
 |exc c d=>exact λx=>uF r.1 x.1
 |_=>exact o7 r.1 (by decide)
theorem jp.ju{o:Obj}(x:jp o):¬ fB o:=by
 rcases x.1 with e | e | e | e<;>exact o7 e (by decide)
noncomputable def pp(X:Sx)(at_:Nat):Int:=X.cells.getD (at_%X.cells.length) 0+11*((at_/X.cells.length:Nat):Int)
noncomputable def dI(X:Sx):Nat->List Ev->Prop
 |n,[]=>X.fin n
 |n,.draw l v::r=>(0<l/\l<1000000)/\pp X n%(l:Int)=(v:Int)/\dI X (n+1) r
 |n,.stat d s f::r=>(X.gen d n).1=s/\(X.gen d n).2.1=f/\dI X (X.gen d n).2.2 r
structure rP(X:Sx)(dr:List Ev)(h:Heap):Prop where
 src:∃n t,h.IsList X.src #[.ref X.ct,.int (n:Nat) t]/\dI X n dr
 cells:∃vs,h.IsList X.ct vs/\IntsAre vs.toList X.cells
structure jP(X:Sx)(h:Heap):Prop where
 at_:∃ps,h.get? X.tab=some (tabObj ps)/\TriplesOk ps.toList/\∀pos c',codeAmong pos ps.toList=some c'->
  ∃c co,c'=.ref c/\h.get? c=some co/\co.cls=.type "code"/\h.CodeRec c' X.ch
theorem qj{h h' base:Heap}{l:List Env}:h.FunFrames base l->(∀L∈l.filterMap (·.frame),∃o,h.get? L=some o/\h'.get? L=some o)->h'.FunFrames base l:=by
 induction l with
 |nil=>exact λ_ _=>trivial
 |cons env l ih=>
  intro q k;refine d7 q λhk q1 hr=>dQ q1 λL o hf hn ho hd=>af (k L (List.mem_filterMap.mpr (ao env (.head _) hf))) λo' h1 h2=>?_
  replace h1:=aW h1 ho;obtain rfl:=ag h1;exact⟨hk,hX L o hf hn h2 hd,ih hr λL' hL'=>k L' (af (List.mem_filterMap.mp hL') λe he hf'=>List.mem_filterMap.mpr (ao e (.tail _ he) hf'))⟩
structure GA(X:Sx)(C:bw):Prop where
 kind:C.env.scope.kind=.function
 glob:C.env.globals=mainGlobals
 bi:C.env.builtins=builtinsNs
 frm:C.env.frame=C.fenv.frame
 frames:C.A.frames=some (C.fenv::C.outer)
 cells:∀n,C.env.scope.names.lookup n=some .cell->∃a,C.env.cells.lookup n=some a
 tab:C.env.scope.names.lookup ("seen" : Str)=some .local->C.env.code=.ref X.cQ/\C.env.qual++("seen" : Str)=X.ch
structure ai(X:Sx)(C:bw)(ρ:List Addr)(st:St)(s:Shared):Prop where
 cfg:GA X C
 stay:X.hF.StaysIn s.heap
 len:ρ.length=st.n
 obj:∀(k:Nat) (a:Addr),ρ[k]?=some a->∃o ob,st.tr.get k=some o/\s.heap.get? a=some ob/\dV X s.heap ρ a o ob
 dom:∀k o,st.tr.get k=some o->k<st.n
 nd:ρ.Nodup
 new:∀a∈ρ,X.hF.get? a=none
 apart:∀a∈ρ,a≠X.src/\a≠X.ct/\a≠C.env.locals/\a∉C.Fs/\a≠X.tab
 loc:∃m,s.heap.Ns C.env.locals m/\∀x v,aw st.loc x=some v->∃val,m (X.nm x)=some val/\av X s.heap ρ v val
 cK:∃o,s.heap.get? C.env.locals=some o/\dH o
 dN:X.hF.get? C.env.locals=none
 ae:∀x k,aw st.ae x=some k->∃a,ρ[k]?=some a/\(C.env.scope.names.lookup (X.nm x)=some .cell\/C.env.scope.names.lookup (X.nm x)=some .free->C.env.cells.lookup (X.nm x)=some a)
 fr:s.heap.FunFrames X.hF (C.fenv::C.outer)
 frC:∀L∈C.Fs,∃o,s.heap.get? L=some o/\dH o
 dr:rP X st.dr s.heap
 dn:X.hF.get? X.src=none
 cY:X.ct≠X.src
 tab:jP X s.heap
 dq:X.hF.get? X.tab=none
 top:∃a o,1<a/\X.hF.get? a=some o
 big:∀a∈ρ,1<a
 depth:C.A.depth+3*st.dp+10<recursionLimit
 units:C.A.units+40*st.dp+60<cLine
 hdn:st.hd=false->C.A.handled=none
 lo:st.lo=X.lo
 hand:C.A.handled=none\/∃(k:Nat) (e:Addr) (c:Nat) (d:Option Nat),C.A.handled=some (.ref e)/\ρ[k]?=some e/\st.tr.get k=some (.exc c d)
def bZ(X:Sx)(C:bw)(ρ:List Addr)(h h':Heap):Prop :=
 ∀b o,h.get? b=some o->b∉ρ->b≠X.src->b≠X.tab->b≠C.env.locals->(∃sl,h'.get? b=some {o with slots:=sl})/\(b∉C.Fs->h'.get? b=some o)
structure ca(h:Heap)(ρ ρ':List Addr):Prop where
 ex:∃more,ρ'=ρ++more/\∀a∈more,h.get? a=none
structure am(X:Sx)(C:bw)(ρ:List Addr)(s:Shared)(st':St)(ρ':List Addr)(s':Shared):Prop where
 inv:ai X C ρ' st' s'
 d0:bZ X C (ρ.drop X.lo) s.heap s'.heap
 ext:ca s.heap ρ ρ'
 gens:s'.gens=s.gens
 drawn:True
 os:s'.os=s.os
theorem ca.refl{h:Heap}{ρ:List Addr}:ca h ρ ρ:=⟨[],by simp,λY h=>nomatch h⟩
theorem ca.get{h:Heap}{ρ ρ':List Addr}(x:ca h ρ ρ'){k:Nat}{a:Addr}(e:ρ[k]?=some a):ρ'[k]?=some a:=by
 refine af x.ex ?_;rintro more rfl Y;refine aE (kX (List.getElem?_eq_some_iff.mp e).1) ?_;exact e
theorem ca.ia{h:Heap}{ρ ρ':List Addr}(x:ca h ρ ρ'){a:Addr}{o:Obj}(n:a∉ρ)(e:h.get? a=some o):a∉ρ':=by
 refine af x.ex ?_;rintro more rfl hm;intro q;refine bR (List.mem_append.mp q) (λq=>?_) (λq=>?_)
 .exact n q
 .obtain e:=aW e (hm a q);exact aP e
theorem ca.drop{h:Heap}{ρ ρ':List Addr}(x:ca h ρ ρ')(n:Nat):ca h (ρ.drop n) (ρ'.drop n):=by
 refine af x.ex ?_;rintro more rfl hm;exact⟨more.drop (n - ρ.length),by exact List.drop_append,λa ha=>hm a (List.mem_of_mem_drop ha)⟩
theorem bZ.weak{X:Sx}{C:bw}{ρ:List Addr}{n:Nat}{h h':Heap}(x:bZ X C (ρ.drop n) h h'):bZ X C ρ h h':=λb o e a1 a2 a3 a4=>x b o e (λq=>a1 (List.mem_of_mem_drop q)) a2 a3 a4
theorem am.step{X:Sx}{C:bw}{ρ ρ':List Addr}{s s':Shared}{st':St}(x:am X C ρ s st' ρ' s'):bZ X C ρ s.heap s'.heap:=x.d0.weak
theorem Dz{ρ:List Addr}{k n:Nat}{a:Addr}(e:ρ[k]?=some a)(h:n<=k):a∈ρ.drop n:=by
 refine bV (i:=k - n) ?_;rw[List.getElem?_drop,Nat.add_sub_cancel' h];exact e
theorem bZ.refl{X:Sx}{C:bw}{ρ:List Addr}{h:Heap}:bZ X C ρ h h:=λY o e Y Y Y Y=>⟨⟨o.slots,e⟩,λY=>e⟩
theorem bZ.trans{X:Sx}{C:bw}{ρ ρ':List Addr}{h h' h'':Heap}(x:bZ X C ρ h h')(y:bZ X C ρ' h' h'')(e:ca h ρ ρ'):bZ X C ρ h h'':=λb o q n1 n2 n3 n4=>by
 refine aL (x b o q n1 n2 n3 n4) ?_;rintro⟨sl,a1⟩ a2;obtain nm:=e.ia n1 q;refine aL (y b _ a1 nm n2 n3 n4) ?_;rintro⟨sl',b1⟩ Y;exact⟨⟨sl',b1⟩,λhn=>(y b o (a2 hn) nm n2 n3 n4).2 hn⟩
theorem bZ.of_keeps{X:Sx}{C:bw}{ρ:List Addr}{h h':Heap}(k:∀b o,h.get? b=some o->h'.get? b=some o):bZ X C ρ h h' :=
 λb o e Y Y Y Y=>⟨⟨o.slots,k b o e⟩,λY=>k b o e⟩
theorem ca.ui{h h':Heap}{ρ' iV:List Addr}(y:ca h' ρ' iV)(hb:∀a o,h.get? a=some o->∃o',h'.get? a=some o'):ca h ρ' iV:=by
 refine yO y.ex λm n=>⟨m,rfl,λa ha=>?_⟩
 cases q:h.get? a with
 |none=>rfl
 |some o=>refine aF (hb a o q) λo' e=>?_;obtain e:=aW e (n a ha);exact aP e
theorem ca.trans{h:Heap}{ρ ρ' iV:List Addr}(x:ca h ρ ρ')(y:ca h ρ' iV):ca h ρ iV:=by
 refine af x.ex ?_;rintro m1 rfl n1
 exact yO y.ex λm2 n2=>⟨m1++m2,by exact(iW _ _ _),λa ha=>(List.mem_append.mp ha).elim (n1 a) (n2 a)⟩
section
variable {h':Heap}{t':Nat}
theorem tG{h:Heap}{a:Addr}{vs:Array Value}{o:Obj}(x:h.IsList a vs)(e:h.get? a=some o):o.cls=.type "list" := by
 refine bE x λo' h1 h2 Y=>?_
 replace h1:=aW h1 e;obtain rfl:=ag h1;exact h2
theorem ai.sz(I:ai X C ρ st s):1<s.heap.objs.size:=by
 exact ci I.top λa o h1 h2=>bL h1 (dR (I.stay _ _ h2))
theorem ai.bB(I:ai X C ρ st s)(step:bZ X C ρ s.heap h')(ext:ca s.heap ρ ρ'):bM X s.heap ρ h' ρ':=by
 refine ci I.dr.src λns ts ff Y=>af I.tab.at_ λps gY Y=>af I.cK λoL hL hLc=>⟨λa o e i=>?_,λa vs e n1 n2=>?_,λk a e=>ext.get e⟩
 .refine (step a o e (λq=>?_) (λq=>?_) (λq=>?_) λq=>?_).2 λq=>?_
  .refine aF (jI q) λk hk=>?_
   refine aA (I.obj k a hk) λo' ob Y h2 h3=>?_
   obtain rfl:=ag (aE (bU e) h2);exact h3.iF i
  .exact ue (tG ff (sb q e)) (by decide) i
  .rw [q,gY] at e;obtain rfl:=ag e;simp[jp] at i
  .rw [q,hL] at e;obtain rfl:=ag e;exact hLc.iF i
  .refine af (I.frC a q) λo' h1 h2=>?_
   rw[e] at h1;obtain rfl:=ag h1;exact h2.iF i
 .refine bE e λo h1 h2 h3=>⟨(cL o ((step a o h1 n1 n2 (λq=>?_) λq=>?_).2 λq=>?_) h2 h3),ext.ia n1 h1⟩
  .rw [q,gY] at h1;obtain rfl:=ag h1;cases h2
  .rw [q,hL] at h1;obtain rfl:=ag h1;exact hLc.noSeq h3.choose_spec
  .refine af (I.frC a q) λo' g1 g2=>?_
   rw[h1] at g1;obtain rfl:=ag g1;exact g2.noSeq h3.choose_spec
theorem am.bB(I:ai X C ρ st s)(x:am X C ρ s st' ρ' s'):bM X s.heap ρ s'.heap ρ':=I.bB x.step x.ext
theorem bZ.there(x:bZ X C ρ s.heap s'.heap)(I':ai X C ρ' st' s')(ext:ca s.heap ρ ρ'):∀a o,s.heap.get? a=some o->∃o',s'.heap.get? a=some o':=λa o e=>by
 by_cases n1:a∈ρ
 .refine aF (jI n1) λk hk=>?_
  exact aA (I'.obj k a (ext.get hk)) λY ob Y h2 Y=>⟨ob,h2⟩
 by_cases n2:a=X.src
 .refine ci I'.dr.src ?_;rintro Y Y;intro q0;refine af q0 ?_;clear q0;rintro o' h1 Y Y;exact⟨o',tb n2 h1⟩
 by_cases n3:a=X.tab
 .exact af I'.tab.at_ λps h1 Y=>⟨_,tb n3 h1⟩
 by_cases n4:a=C.env.locals
 .exact af I'.cK λo' h1 Y=>⟨o',tb n4 h1⟩
 refine aL (x a o e n1 n2 n3 n4) ?_;intro q0;refine aF q0 ?_;clear q0;rintro sl h1 Y;exact⟨_,h1⟩
theorem am.there(x:am X C ρ s st' ρ' s'):∀a o,s.heap.get? a=some o->∃o',s'.heap.get? a=some o':=bZ.there x.step x.inv x.ext
theorem am.refl(I:ai X C ρ st s):am X C ρ s st ρ s:=⟨I,.refl,.refl,rfl,trivial,rfl⟩
theorem am.trans{iV:List Addr}{st'':St}{s'':Shared}(x:am X C ρ s st' ρ' s')(y:am X C ρ' s' st'' iV s''):am X C ρ s st'' iV s'' :=
 ⟨y.inv,x.d0.trans y.d0 (x.ext.drop _),x.ext.trans (y.ext.ui x.there),y.gens.trans x.gens,trivial,y.os.trans x.os⟩
theorem xC{h h':Heap}{a:Addr}{vs:Array Value}(x:h.IsList a vs)(k:∀b o,h.get? b=some o->¬ fB o->h'.get? b=some o):h'.IsList a vs:=by
 exact bE x λo h1 h2 h3=>cL o (k a o h1 (o7 h2 (by decide))) h2 h3
theorem rP.keeps{dr:List Ev}{h h':Heap}(x:rP X dr h)(k:∀b o,h.get? b=some o->¬ fB o->h'.get? b=some o):rP X dr h':=by
 obtain⟨⟨n,t,h1,h2⟩,⟨vs,h3,h4⟩⟩:=x;exact⟨aT n t (xC h1 k) h2,ao vs (xC h3 k) h4⟩
theorem jP.keeps{h h':Heap}(x:jP X h)(k:∀b o,h.get? b=some o->¬ fB o->h'.get? b=some o):jP X h':=by
 refine bE x.at_ λps h1 h2 h3=>⟨ps,k _ _ h1 (by simp[fB]),h2,λpos c' e=>?_⟩
 refine dQ (h3 pos c' e) ?_;rintro c co e1 e2 e3 ⟨d,o,vs,t,f1,f2,f3,f4⟩;refine⟨c,co,e1,k _ _ e2 (o7 e3 (by decide)),e3,kz d o vs t f1 ?_ f3 f4⟩;obtain rfl:d=c:=by obtain e1:=aW e1 f1;exact gM e1
 replace f2:=aW f2 e2;obtain rfl:=ag f2;exact k _ _ e2 (o7 e3 (by decide))
theorem ai.quiet(I:ai X C ρ st s)(hs:X.hF.StaysIn h')(hk:∀b o,s.heap.get? b=some o->¬ fB o->h'.get? b=some o):ai X C ρ st {s with heap:=h',toks:=t'}:=by
 have kv:bM X s.heap ρ h' ρ:=⟨λa o e i=>hk a o e i.ju,λa vs e n Y=>⟨xC e hk,n⟩,λY Y e=>e⟩
 refine⟨I.cfg,hs,I.len,λk a e=>?_,I.dom,I.nd,I.new,I.apart,?_,?_,I.dN,I.ae,?_,λL hL=>?_,I.dr.keeps hk,I.dn,I.cY,I.tab.keeps hk,I.dq,I.top,I.big,I.depth,I.units,I.hdn,I.lo,I.hand⟩
 .exact aA (I.obj k a e) λo ob h1 h2 h3=>⟨o,ob,h1,hk a ob h2 h3.ju,h3.mono kv⟩
 .refine af I.loc ?_;rintro m ⟨o,es,ep,h1,h2⟩ h3;refine af I.cK λo' g1 g2=>?_
  replace g1:=aW g1 h1;cases g1;exact⟨m,⟨o,es,ep,hk _ _ h1 g2.ju,h2⟩,λx v e=>let ⟨val,a,b⟩:=h3 x v e;⟨val,a,b.mono kv⟩⟩
 .exact af I.cK λo' g1 g2=>⟨o',hk _ _ g1 g2.ju,g2⟩
 .exact qj I.fr λL hL=>af (I.frC L hL) λo h1 h2=>⟨o,h1,hk _ _ h1 h2.ju⟩
 .exact af (I.frC L hL) λo h1 h2=>⟨o,hk _ _ h1 h2.ju,h2⟩
end
noncomputable def jc:List Value:=[.ref 47,.type "Exception",.type "BaseException",.type "object"]
noncomputable abbrev nV(C:Addr):Obj:=excClassObj "CheckFault" "CheckFault" C 59 [.ref 47] jc true [] [] false none none (some (.ref 51)) none (some (.str "CheckFault" 236)) (some (.str "CheckFault" 244)) (some (.bool true)) "Exception.__new__"
theorem Af:jc.contains (.type "Exception")=true:=by decide +kernel
theorem Jr:jc.contains (.type "AttributeError")=false:=by decide +kernel
theorem Js:jc.contains (.type "NameError")=false:=by decide +kernel
theorem vE:jc.contains (.type "BaseException")=true:=by decide +kernel
end
section
theorem dh(a b:Nat):Nat.beq a b=decide (a=b):=by
 cases h:Nat.beq a b with
 |true=>exact(eZ (bY h)).symm
 |false=>exact(dJ (Nat.ne_of_beq_eq_false h)).symm
theorem Tr.get_node(v:Option O)(l r:Tr)(i:Nat):(Tr.node v l r).get i=if i=0 then v else if i%2=1 then l.get (i/2) else r.get (i/2 - 1):=by
 refine(?_:(match Nat.beq i 0 with | true=>v | false=>match Nat.beq (i%2) 1 with | true=>l.get (i/2) | false=>r.get (i/2 - 1))=_);rw[dh,dh]
 by_cases h:i=0
 .simp [h]
 .by_cases q:i%2=1<;>simp[h,q]
theorem Tr.yM(v:Option O)(l r:Tr)(i:Nat)(o:O):(Tr.node v l r).put i o=if i=0 then .node (some o) l r else if i%2=1 then .node v (l.put (i/2) o) r else .node v l (r.put (i/2 - 1) o):=by
 refine(?_:(match Nat.beq i 0 with | true=>Tr.node (some o) l r | false=>match Nat.beq (i%2) 1 with | true=>Tr.node v (l.put (i/2) o) r | false=>Tr.node v l (r.put (i/2 - 1) o))=_);rw[dh,dh]
 by_cases h:i=0
 .simp [h]
 .by_cases q:i%2=1<;>simp[h,q]
theorem Tr.fy{o:O}{t:Tr}:∀{i:Nat},((t.put i o).get i).isSome=true->∀j,(t.put i o).get j=if j=i then some o else t.get j:=by
 induction t with
 |nil=>
  intro i h j;obtain e:(Tr.nil.put i o)=.node (some o) .nil .nil:=rfl;rw[e,Tr.get_node] at h
  obtain hi:i=0:=by
   by_cases q:i=0
   .exact q
   .rw [aj q] at h;split at h<;>exact aC h
  subst hi;rw[e,Tr.get_node]
  by_cases q:j=0
  .simp [q]
  .rw [aj q,aj q];split<;>rfl
 |node v l r ihl ihr=>
  intro i h j;rw[Tr.yM] at h ⊢
  by_cases q:i=0
  .subst q;rw[ar rfl,Tr.get_node,Tr.get_node]
   by_cases p:j=0<;>simp[p]
  .rw [aj q] at h ⊢
   by_cases p:i%2=1
   .rw [ar p] at h ⊢;rw[Tr.get_node,aj q,ar p] at h;rw[Tr.get_node,Tr.get_node]
    by_cases z:j=0
    .subst z;rw[ar rfl,ar rfl,aj (bO q)]
    .rw [aj z,aj z]
     by_cases y:j%2=1
     .rw [ar y,ar y,ihl h]
      by_cases x:j=i
      .simp [x]
      .rw [aj x,aj (by exact ak [_%2,_%2,_,_,_/2,_/2] 6 0x6318c631c75a18e39c86000a6230005302080024c472444002550820009301cd10000955 rfl (zd _ 2) (zd _ 2) p y x)]
     .rw [aj y,aj y,aj (by rintro rfl;exact y p)]
   .rw [aj p] at h ⊢;rw[Tr.get_node,aj q,aj p] at h;rw[Tr.get_node,Tr.get_node]
    by_cases z:j=0
    .subst z;rw[ar rfl,ar rfl,aj (bO q)]
    .rw [aj z,aj z]
     by_cases y:j%2=1
     .rw [ar y,ar y,aj (by rintro rfl;exact p y)]
     .rw [aj y,aj y,ihr h]
      by_cases x:j=i
      .simp [x]
      .rw [aj x,aj (IY q p z y x)]
theorem Tr.rp{o x:O}{t:Tr}:∀{i:Nat},t.get i=some x->(t.put i o).get i=some o:=by
 induction t with
 |nil=>exact λ{i} h=>aP h
 |node v l r ihl ihr=>
  intro i h;rw[Tr.get_node] at h;rw[Tr.yM]
  by_cases q:i=0
  .rw [ar q,Tr.get_node,ar q]
  .rw [aj q] at h ⊢
   by_cases p:i%2=1
   .rw [ar p] at h ⊢;rw[Tr.get_node,aj q,ar p,ihl h]
   .rw [aj p] at h ⊢;rw[Tr.get_node,aj q,aj p,ihr h]
section
variable {h':Heap}{t':Nat}
theorem ai.get_none(I:ai X C ρ st s){a:Addr}(n:s.heap.get? a=none):X.hF.get? a=none/\a∉ρ/\a≠X.src/\a≠X.ct/\a≠C.env.locals/\a∉C.Fs/\a≠X.tab:=by
 refine oY ?_ (λq=>?_) (λq=>?_) (λq=>?_) (λq=>?_) (λq=>?_) (λq=>?_)
 .cases q:X.hF.get? a with
  |none=>rfl
  |some o=>obtain n:=aW n (I.stay _ _ q);exact y3 n
 .refine aF (jI q) λk hk=>?_
  refine aA (I.obj k a hk) λY ob Y h2 Y=>?_
  rw[n] at h2;exact aP h2
 .refine ci I.dr.src ?_;rintro Y Y;intro q0;refine af q0 ?_;clear q0;rintro o' h1 Y Y;rw[<- q,n] at h1;exact aP h1
 .refine af I.dr.cells ?_;rintro Y;intro q0;refine af q0 ?_;clear q0;rintro o' h1 Y Y;rw[<- q,n] at h1;exact aP h1
 .refine af I.cK λo' h1 Y=>?_
  rw[<- q,n] at h1;exact aP h1
 .refine af (I.frC a q) λo' h1 Y=>?_
  rw[n] at h1;exact aP h1
 .refine af I.tab.at_ λps h1 Y=>?_
  rw[<- q,n] at h1;exact aP h1
theorem ai.push(I:ai X C ρ st s){a:Addr}{o:O}{ob:Obj}(hk:∀b o,s.heap.get? b=some o->h'.get? b=some o)(hn:s.heap.get? a=none)(ha:h'.get? a=some ob)(hr:dV X h' (ρ++[a]) a o ob)(hg:((st.tr.put st.n o).get st.n).isSome=true)(hb:1<a) :
  ai X C (ρ++[a]) {st with tr:=st.tr.put st.n o,n:=st.n+1} {s with heap:=h',toks:=t'}:=by
 refine lU (I.get_none hn) λn0 n1 n2 n3 n4 n5 n6=>?_
 have ext:ca s.heap ρ (ρ++[a]):=⟨[a],rfl,λb hb=>by refine tb (List.mem_singleton.mp hb) ?_;exact hn⟩
 have kv:bM X s.heap ρ h' (ρ++[a]):=I.bB (bZ.of_keeps hk) ext;have I':ai X C ρ st {s with heap:=h',toks:=t'}:=I.quiet (λb o e=>hk _ _ (I.stay b o e)) λb o e Y=>hk b o e
 have cy:∀k:Nat,∀x,(ρ++[a])[k]?=some x->(ρ[k]?=some x/\k<st.n)\/(k=st.n/\x=a):=λk x e=>by
  by_cases q:k < ρ.length
  .replace e:=aW e (kX q);exact .inl ⟨e,sb I.len q⟩
  .rw [io (Nat.le_of_not_lt q)] at e
   have:k - ρ.length=0:=by
    by_cases z:k - ρ.length=0
    .exact z
    .rw [List.getElem?_eq_none (by simp;exact Nat.pos_of_ne_zero z)] at e;exact aP e
   rw[this] at e;simp only[List.getElem?_cons_zero,Option.some.injEq] at e;exact .inr ⟨by refine ck I.len ?_;exact Nat.le_antisymm (nJ this) (Nat.le_of_not_lt q),e.symm⟩
 refine⟨I.cfg,I'.stay,by simp[I.len],λk x e=>?_,λk o' e=>?_,?_,λx hx=>?_,λx hx=>?_,?_,I'.cK,I.dN,λx k e=>?_,I'.fr,I'.frC,I'.dr,I.dn,I.cY,I'.tab,I.dq,I.top,λx hx=>?_,I.depth,I.units,I.hdn,I.lo,?_⟩
 .refine (?_:∃o_1 ob,(st.tr.put st.n o).get k=some o_1/\_);rw[Tr.fy hg];rcases cy k x e with ⟨e1,e2⟩ | ⟨rfl,rfl⟩
  .exact aA (I.obj k x e1) λo' ob' h1 h2 h3=>tb (aj (bz e2)) (bF o' ob' h1 (hk _ _ h2) (h3.mono kv))
  .rw [ar rfl];exact bF o ob rfl ha hr
 .refine (?_:k<st.n+1);replace e:=aW e (Tr.fy hg _)
  by_cases q:k=st.n
  .exact IZ q
  .obtain e:=(aj q)▸e;have:=I.dom k o' e;exact Nat.le.step this
 .exact List.nodup_append.mpr ⟨I.nd,by simp,λx hx y hy=>by refine bh (List.mem_singleton.mp hy) ?_;rintro rfl;exact n1 hx⟩
 .rcases List.mem_append.mp hx with q | q
  .exact I.new x q
  .refine tb (List.mem_singleton.mp q) ?_;exact n0
 .rcases List.mem_append.mp hx with q | q
  .exact I.apart x q
  .rw [List.mem_singleton.mp q];exact hV n2 n3 n4 n5 n6
 .exact af I.loc λm h1 h2=>af I'.loc λm' g1 g2=>⟨m,(lV h1 λoo es ep z1 z2=>ky oo es ep (hk _ _ z1) z2),λx v e=>af (h2 x v e) λval q b=>(ao val q (b.mono kv))⟩
 .exact af (I.ae x k e) λy h1 h2=>ao y (ext.get h1) h2
 .rcases List.mem_append.mp hx with q | q
  .exact I.big x q
  .refine bh (List.mem_singleton.mp q) ?_;exact hb
 .refine I.hand.imp id λq9=>Gi q9 λk e c d h1 h2 h3=>(qU k e c d h1 (ext.get h2) ?_)
  rw[Tr.fy hg,aj (by have:=I.dom _ _ h3;exact bz this)];exact h3
theorem am.push(I:ai X C ρ st s){a:Addr}{o:O}{ob:Obj}(hk:∀b o,s.heap.get? b=some o->h'.get? b=some o)(_hz:True\/s.heap.objs.size<=h'.objs.size)(hn:s.heap.get? a=none)(ha:h'.get? a=some ob)(hr:dV X h' (ρ++[a]) a o ob)(hg:((st.tr.put st.n o).get st.n).isSome=true)(hb:1<a) :
  am X C ρ s {st with tr:=st.tr.put st.n o,n:=st.n+1} (ρ++[a]) {s with heap:=h',toks:=t'} :=
 ⟨I.push hk hn ha hr hg hb,bZ.of_keeps hk,⟨[a],rfl,λb hb=>by refine tb (List.mem_singleton.mp hb) ?_;exact hn⟩,rfl,trivial,rfl⟩
theorem am.quiet(I:ai X C ρ st s)(hk:∀b o,s.heap.get? b=some o->h'.get? b=some o)(_hz:True\/s.heap.objs.size<=h'.objs.size):am X C ρ s st ρ {s with heap:=h',toks:=t'} :=
 ⟨I.quiet (λb o e=>hk _ _ (I.stay b o e)) λb o e Y=>hk b o e,bZ.of_keeps hk,.refl,rfl,trivial,rfl⟩
theorem am.tok(I:ai X C ρ st s):am X C ρ s st ρ {s with toks:=t'}:=am.quiet I (λY Y e=>e) (.inl trivial)
theorem ai.cW(I:ai X C ρ st s){k:Nat}{a:Addr}{o o₀:O}{ob:Obj}(hk:∀b o,b≠a->s.heap.get? b=some o->h'.get? b=some o)(e:ρ[k]?=some a)(h0:st.tr.get k=some o₀)(hx:(∀c d,o₀≠.exc c d)\/∃c d,o=.exc c d)(ha:h'.get? a=some ob)(hr:∀(_:bM X s.heap ρ h' ρ),dV X h' ρ a o ob) :
  ai X C ρ {st with tr:=st.tr.put k o} {s with heap:=h',toks:=t'}/\bM X s.heap ρ h' ρ:=by
 obtain qs:a∈ρ:=bV e;refine fX (I.apart a qs) λa1 a2 a3 a4 a5=>?_
 obtain step:bZ X C ρ s.heap h':=λb o' q n Y Y Y=>by
  have hb:b≠a:=λz=>n (tb z qs)
  exact⟨⟨o'.slots,hk b o' hb q⟩,λY=>hk b o' hb q⟩
 have kv:bM X s.heap ρ h' ρ:=I.bB step .refl;have hs:(st.tr.put k o).get k=some o:=Tr.rp h0;have hg:((st.tr.put k o).get k).isSome=true:=by rw[hs];rfl
 refine⟨⟨I.cfg,λb o' q=>hk b o' (λz=>by obtain q:=z▸q;obtain q:=(I.new a qs)▸q;exact aP q) (I.stay b o' q),I.len,λj x ex=>?_,λj o' q=>?_,I.nd,I.new,I.apart,?_,?_,I.dN,I.ae,?_,λL hL=>?_,?_,I.dn,I.cY,?_,I.dq,I.top,I.big,I.depth,I.units,I.hdn,I.lo,?_⟩,kv⟩
 .refine (?_:∃o_1 ob,(st.tr.put k o).get j=some o_1/\_);rw[Tr.fy hg]
  by_cases q:j=k
  .subst q;obtain rfl:=ag (aE (bU e) ex);refine tb (ar rfl) ?_;exact bF o ob rfl ha (hr kv)
  .refine tb (aj q) (aA (I.obj j x ex) λo' ob' h1 h2 h3=>bF o' ob' h1 (hk _ _ (λz=>q ?_) h2) (h3.mono kv));subst z;refine aF (List.getElem?_eq_some_iff.mp ex) λlj vj=>?_
   refine aF (List.getElem?_eq_some_iff.mp e) λlk vk=>?_
   exact(List.getElem_inj (h₀:=lj) (h₁:=lk) I.nd).mp (vj.trans vk.symm)
 .change (st.tr.put k o).get j=some o' at q;rw[Tr.fy hg] at q
  by_cases z:j=k
  .subst z;exact I.dom _ _ h0
  .rw [aj z] at q;exact I.dom _ _ q
 .refine af I.loc ?_;rintro m ⟨oo,es,ep,z1,z2⟩ h2;exact⟨m,ky oo es ep (hk _ _ (bO a3) z1) z2,λx v q=>af (h2 x v q) λval y b=>(ao val y (b.mono kv))⟩
 .exact af I.cK λoo z1 z2=>ao oo (hk _ _ (bO a3) z1) z2
 .exact qj I.fr λL hL=>af (I.frC L hL) λoo h1 Y=>ao oo h1 (hk _ _ (λz=>a4 (sb z hL)) h1)
 .exact af (I.frC L hL) λoo h1 h2=>ao oo (hk _ _ (λz=>a4 (sb z hL)) h1) h2
 .obtain ⟨⟨n,t,⟨o1,g1,g2⟩,h2⟩,⟨vs,⟨o2,g3,g4⟩,h4⟩⟩:=I.dr;exact⟨aT n t ⟨o1,hk _ _ (bO a1) g1,g2⟩ h2,⟨vs,ao o2 (hk _ _ (bO a2) g3) g4,h4⟩⟩
 .refine bE I.tab.at_ λps h1 h2 h3=>⟨ps,hk _ _ (bO a5) h1,h2,λpos c' q=>cps λG kG=>?_⟩
  refine dQ (h3 pos c' q) ?_;rintro c co e1 e2 e3 ⟨d,o',vs,t,f1,f2,f3,f4⟩;obtain rfl:d=c:=by obtain e1:=aW e1 f1;exact gM e1
  refine kG ?_;obtain rfl:=ag (aE (bU e2) f2);have kc:=kv.jo d co e2 (qI e3 f3);exact⟨d,co,e1,kc,e3,kz d co vs t f1 kc f3 f4⟩
 .refine I.hand.imp id λhq=>Gi hq λj ee c d h1 h2 h3=>?_
  by_cases hj:j=k
  .subst hj;obtain h3:=aW h3 h0;obtain rfl:=ag h3;rcases hx with hx | ⟨c',d',rfl⟩
   .exact absurd rfl (hx c d)
   .exact qU j ee c' d' h1 h2 hs
  .refine qU j ee c d h1 h2 ?_;rw[Tr.fy hg,aj hj];exact h3
theorem am.cW(I:ai X C ρ st s){k:Nat}{a:Addr}{o o₀:O}{ob:Obj}(hk:∀b o,b≠a->s.heap.get? b=some o->h'.get? b=some o)(_hz:True\/s.heap.objs.size<=h'.objs.size)(e:ρ[k]?=some a)(aQ:Nat.ble st.lo k=true)(h0:st.tr.get k=some o₀)(hx:(∀c d,o₀≠.exc c d)\/∃c d,o=.exc c d)(ha:h'.get? a=some ob)(hr:∀(_:bM X s.heap ρ h' ρ),dV X h' ρ a o ob) :
  am X C ρ s {st with tr:=st.tr.put k o} ρ {s with heap:=h',toks:=t'}:=by
 obtain qs:a∈ρ.drop X.lo:=Dz e (by refine nU I.lo ?_;simpa using aQ)
 exact⟨(I.cW hk e h0 hx ha hr).1,λb o' q n Y Y Y=>by
  have hb:b≠a:=λz=>n (tb z qs)
  exact⟨⟨o'.slots,hk b o' hb q⟩,λY=>hk b o' hb q⟩,.refl,rfl,trivial,rfl⟩
end
end
section
section
variable {α β γ : Type}
def aG(X:Sx)(C:bw)(ρ:List Addr)(s:Shared)(R:Heap->List Addr->α->β->Prop)(bt:Option (a9 α))(Q:β->Shared->Prop)(E:WB):Prop:=match bt with
 |none=>False
 |some (.ok a st')=>∀b ρ' s',am X C ρ s st' ρ' s'->R s'.heap ρ' a b->Q b s'
 |some (.ex k st')=>∀a ρ' s',am X C ρ s st' ρ' s'->ρ'[k]?=some a->(∃c d,st'.tr.get k=some (.exc c d)/\X.lo<=k)->E (.ref a) s'
def i7(X:Sx)(C:bw)(ρ:List Addr)(s:Shared)(R:Heap->List Addr->α->β->Prop)(t:Sem β)(bt:Option (a9 α)):Prop :=
 ∀Q E,aG X C ρ s R bt Q E->wpAny (model X.prog X.w) C.A t Q E s
variable {R:Heap->List Addr->α->β->Prop}{δ : Type}
theorem aG.after{bt:Option (a9 α)}{Q:β->Shared->Prop}{E:WB}(W:aG X C ρ s R bt Q E)(A:am X C ρ s st' ρ' s'):aG X C ρ' s' R bt Q E:=by
 induction bt using Option.casesOn with
 |none=>exact W
 |some r=>
  induction r using a9.casesOn with
  |ok a st'=>exact λb bT s2 A2 r=>W b bT s2 (A.trans A2) r
  |ex a st'=>exact λa bT s2 A2 r e=>W a bT s2 (A.trans A2) r e
theorem aG.no{bt:Option (a9 α)}{Q:β->Shared->Prop}{E:WB}(W:aG X C ρ s R bt Q E)(h:bt=none):False:=by subst h;exact W
theorem aG.at{bt r2:Option (a9 α)}{Q:β->Shared->Prop}{E:WB}(W:aG X C ρ s R bt Q E)(h:bt=r2):aG X C ρ s R r2 Q E:=sb h W
theorem aG.imp{bt:Option (a9 α)}{R:Heap->List Addr->α->β->Prop}{Q Q':β->Shared->Prop}{E:WB}(W:aG X C ρ s R bt Q E)(h:∀b s',Q b s'->Q' b s'):aG X C ρ s R bt Q' E:=by
 induction bt using Option.casesOn with
 |none=>exact W
 |some r=>
  induction r using a9.casesOn with
  |ok a st'=>exact λb ρ' s' A r=>h b s' (W b ρ' s' A r)
  |ex a st'=>exact W
theorem aG.ob{τ:Type}{o:Option τ}{F:τ->Option (a9 α)}{Q:β->Shared->Prop}{E:WB}{G:Prop}(W:aG X C ρ s R (o.bind F) Q E)(g:∀a,o=some a->aG X C ρ s R (F a) Q E->G):G:=by
 cases o with
 |none=>exact(W:False).elim
 |some a=>exact g a rfl W
theorem aG.pq{τ:Type}{f:St->Option τ}{F:τ->Mo α}{Q:β->Shared->Prop}{E:WB}{G:Prop}(W:aG X C ρ s R ((rd f>>=F) st) Q E)(g:∀a,f st=some a->aG X C ρ s R (F a st) Q E->G):G:=by
 obtain W:aG X C ρ s R (Mo.bind (rd f) F st) Q E:=W;refine bX (f st) (λe=>?_) λa e=>g a e ?_
 .exact (W.no (show Mo.bind (rd f) F st=none by unfold Mo.bind rd;rw[e];rfl)).elim
 .exact W.at (show Mo.bind (rd f) F st=F a st by unfold Mo.bind rd;rw[e];rfl)
theorem aG.ne{bt:Option (a9 α)}{Q:β->Shared->Prop}{E:WB}(W:aG X C ρ s R bt Q E):bt≠none:=λe=>W.no e
theorem aG.now{a:α}{b:β}{Q:β->Shared->Prop}{E:WB}(W:aG X C ρ s R (some (.ok a st')) Q E)(A:am X C ρ s st' ρ' s')(r:R s'.heap ρ' a b):Q b s':=W b ρ' s' A r
end
abbrev bl(X:Sx)(C:bw)(ρ:List Addr)(s:Shared)(t:Sem Value)(bt:Option (a9 V)):Prop:=i7 X C ρ s (av X) t bt
abbrev zA(X:Sx)(C:bw)(ρ:List Addr)(s:Shared)(t:Sem (List Value))(bt:Option (a9 (List V))):Prop:=i7 X C ρ s (aB X) t bt
abbrev iw(X:Sx)(C:bw)(ρ:List Addr)(s:Shared)(t:Sem Bool)(bt:Option (a9 Bool)):Prop:=i7 X C ρ s (λY Y a b=>b=a) t bt
def eH(X:Sx)(h:Heap)(ρ:List Addr):Fl->Flow->Prop
 |.next,f=>f=.next
 |.brk,f=>f=.brk
 |.cont,f=>f=.cont
 |.ret v,f=>∃val,f=.ret val/\av X h ρ v val
abbrev dW(X:Sx)(C:bw)(ρ:List Addr)(s:Shared)(t:Sem Flow)(bt:Option (a9 Fl)):Prop:=i7 X C ρ s (eH X) t bt
abbrev nO(X:Sx)(C:bw)(ρ:List Addr)(s:Shared)(t:Sem Unit)(bt:Option (a9 Unit)):Prop:=i7 X C ρ s (λY Y Y Y=>True) t bt
structure GB(X:Sx)(c:Nat):Prop where
 ga:findIn X.K (.ref (X.ad c)) "__getattribute__" = some (some (.builtin "object.__getattribute__"))
 gt:findIn X.K (.ref (X.ad c)) "__getattr__" = some none
 sa:findIn X.K (.ref (X.ad c)) "__setattr__" = some (some (.builtin "object.__setattr__"))
 po:plainOver X.K (X.ad c)=true
 hd:hasDictIn X.K (X.ad c)=true
 Q8:makesIn X.K (X.ad c)=true
 at_:∀x,X.P.at_ c x=true->findIn X.K (.ref (X.ad c)) (X.nm x)=some none
 mt:∀m f,X.P.mt c m=some f->findIn X.K (.ref (X.ad c)) (X.nm m)=some (some (.ref (X.ad f)))/\typeIn X.K (.ref (X.ad f))=some (.type "function")
 init:∀f,X.P.init c=some f->findIn X.K (.ref (X.ad c)) "__init__" = some (some (.ref (X.ad f)))/\typeIn X.K (.ref (X.ad f))=some (.type "function")
noncomputable def tI(n:String):Value->Bool
 |.type a=>a==n
 |_=>false
theorem xG{n:String}{v:Value}(h:tI n v=true):v=.type n:=by
 cases v<;>first | exact aC h | exact sb (eq_of_beq (show (_==n)=true from h)) rfl
noncomputable def tH:Value->Bool
 |.ref _=>true
 |_=>false
theorem P'{v:Value}(h:tH v=true):∃a,v=.ref a:=by
 cases v<;>first | exact aC h | exact⟨_,rfl⟩
noncomputable def Bp(v:Value)(r:List Value):Bool:=tI "Exception" v&&match r with
 |[b,c]=>tI "BaseException" b&&tI "object" c
 |_=>false
noncomputable def ri(l:List Value):Bool:=List.rec false (λv r k=>cond (tH v) k (Bp v r)) l
theorem ED{P:List Value->Prop}(h0:P [.type "Exception",.type "BaseException",.type "object"])(h1:∀c r,P r->P (.ref c::r)):∀{l:List Value},ri l=true->P l:=by
 intro l
 induction l with
 |nil=>exact λe=>aC e
 |cons v r ih=>
  intro e;obtain e:cond (tH v) (ri r) (Bp v r)=true:=e;refine mm (tH v) (λq=>?_) λq=>?_
  .rw [q] at e;refine aF (P' q) ?_;rintro a rfl;exact h1 _ _ (ih e)
  .
   rw[q] at e;refine aL (aD e) λe1 e2=>?_
   rcases r with _ | ⟨b,_ | ⟨c,_ | _⟩⟩<;>try exact aC e2
   refine tb (xG e1) ?_;refine tb (xG (aD e2).1) ?_;refine tb (xG (aD e2).2) ?_;exact h0
noncomputable def sF(K:Frag)(C:Addr):Bool:=(clsIn K C).any λcd=>ri cd.mro
structure GC(X:Sx)(c:Nat):Prop where
 ga:findIn X.K (.ref (X.ad c)) "__getattribute__" = some (some (.builtin "BaseException.__getattribute__"))
 gt:findIn X.K (.ref (X.ad c)) "__getattr__" = some none
 sa:findIn X.K (.ref (X.ad c)) "__setattr__" = some (some (.builtin "object.__setattr__"))
 P4:mroIn X.K (X.ad c) (.type "Exception")=some true
 vP:X.hF.get? (X.ad c)=some (nV (X.ad c))
 po:sF X.K (X.ad c)=true
 hd:hasDictIn X.K (X.ad c)=true
 at_:∀x,X.P.at_ c x=true->findIn X.K (.ref (X.ad c)) (X.nm x)=some none
 init:∀f,X.P.init c=some f->findIn X.K (.ref (X.ad c)) "__init__" = some (some (.ref (X.ad f)))/\typeIn X.K (.ref (X.ad f))=some (.type "function")
structure aU(X:Sx):Prop where
 nm:∀x y,X.nm x=X.nm y->x=y
 limit:X.hF.NoLimit
 o0:X.nm X.P.o0 = "append"
 o5:X.nm X.P.o5 = "extend"
 o6:X.nm X.P.o6 = "pop"
 o4:X.nm X.P.o4 = "count"
 mX:X.nm X.P.mX = "get"
 mZ:X.nm X.P.mZ = "split"
 mY:X.nm X.P.mY = "__init__"
 CK:X.K.In X.hF
 Bq:findCls X.K (.type "Exception") (.type "type") "__init__" = some (.val (.builtin "Exception.__init__"))
 fn:∀f fd,X.P.fd f=some fd->X.P.nest f=false->∃ob data,X.hF.get? (X.ad f)=some ob/\ob.data=.func data/\(f≠X.P.cZ->kU X fd data/\X.hF.CodeRec data.code data.qualname/\pL X X.hF fd.ds data.defaults/\data.closure=[])
 FL:CodeHd X.hF X.cQ X.tab/\mainGlobals≠X.tab/\∃mg,X.hF.Ns mainGlobals mg/\X.hF.BuiltinsAt mg X.tab
 keep:∀c,(X.P.init c).isSome=true->keepIn X.K (.ref (X.ad c))=true
 cls:∀c,(X.P.init c).isSome=true->X.P.exc c=false->GB X c
 exc:∀c,(X.P.init c).isSome=true->X.P.exc c=true->GC X c
 glob:∃mg mb,X.hF.Ns mainGlobals mg/\X.hF.Ns builtinsNs mb/\∀x v,X.P.gl x=some v->∃val,av X X.hF [] v val/\(mg (X.nm x)=some val\/(mg (X.nm x)=none/\mb (X.nm x)=some val))
section
theorem bM.RI{h:Heap}(k:X.hF.StaysIn h)(hn:∀a∈ρ,X.hF.get? a=none):bM X X.hF [] h ρ :=
 ⟨λa o e Y=>k a o e,λa vs q9 _ _=>af q9 λo e r=>⟨ao o (k a o e) r,λq=>by replace e:=aW e (hn a q);cases e⟩,λk a e=>by simp at e⟩
theorem ai.yl(I:ai X C ρ st s):bM X X.hF [] s.heap ρ:=.RI I.stay I.new
theorem pZ{x:Str}(h:dF x=true):(x==("__debug__" : Str))=false:=by cases e:x==("__debug__" : Str) with
 |false=>rfl
 |true=>exact aC ((ay Bool.not e).symm.trans h)
theorem Tg{v:V}{c:Const}{k:Nat}{pos:Pos}(I:ai X C ρ st s)(h:mu v c=true):bl X C ρ s (eval (.Constant c k pos) C.env) (some (.ok v st)):=by
 intro Q E W;cases v<;>cases c<;>first | exact aC h | skip
 .exact aq (W.now (.refl I) rfl)
 .obtain rfl:=eq_of_beq (show (_==_)=true from h);exact aq (W.now (.refl I) rfl)
 .obtain rfl:=bG (show decide (_=_)=true from h);exact wpAny_mkInt (W.now (am.tok I) ⟨_,rfl⟩)
 .obtain rfl:=bG (show decide (_=_)=true from h);exact wpAny_mkText (W.now (am.tok I) ⟨_,rfl⟩)
 .obtain rfl:=bG (show decide (_=_)=true from h);exact wpAny_mkTextBytes (W.now (am.tok I) ⟨_,rfl⟩)
theorem Ti{x:Nat}{y:Str}{pos:Pos}(I:ai X C ρ st s)(h1:y=X.nm x)(h2:C.env.scope.names.lookup y=some .local)(h3:dF y=true):bl X C ρ s (eval (.Name y pos) C.env) (qn x st):=by
 intro Q E W;unfold qn at W;refine bX (aw st.loc x) (λe=>?_) λv e=>?_
 .obtain W:=e▸W;exact(W:False).elim
 .
  obtain W:=e▸W;exact af I.loc λm hm hl=>af (hl x v e) λval h4 h5=>iU (kP I.cfg.kind h2 hm (h1▸h4) (W.now (.refl I) h5)) (pZ h3)
theorem Th{x:Nat}{y:Str}{pos:Pos}(I:ai X C ρ st s)(h1:y=X.nm x)(h2:C.env.scope.names.lookup y=some .cell\/C.env.scope.names.lookup y=some .free)(h3:dF y=true)(h4:(y==("__classdict__" : Str))=false):bl X C ρ s (eval (.Name y pos) C.env) (BJ x st):=by
 intro Q E W;obtain W:aG X C ρ s (av X) ((BK x st).bind λa=>some (.ok a st)) Q E:=W;refine W.ob λv e0 W=>ax e0 λk e e1=>ax e1 λo g0 e2=>ax e2 λu e3 e4=>?_
 obtain rfl:=DS e3;obtain rfl:u=some v:=e4;refine af (I.ae x k e) λa q1 q2=>aA (I.obj k a q1) λo ob g1 g2 g3=>?_
 obtain rfl:=ag (g0.symm.trans g1);obtain⟨Y,val,hd,hr⟩:=g3
 obtain ic:s.heap.IsCell a (some val):=(ao ob g2 hd)
 refine h2.elim (λh2=>?_) λh2=>?_
 .exact iU (wpAny_loadName_cell I.cfg.kind h2 (tb h1 (q2 (.inl (sb h1 h2)))) ic (W.now (.refl I) hr)) (pZ h3)
 .exact iU (wpAny_loadName_free I.cfg.kind h2 (tb h1 (q2 (.inr (sb h1 h2)))) ic (W.now (.refl I) hr) (hn:=h4)) (pZ h3)
theorem E5{x:Nat}{y:Str}{pos:Pos}(Z:aU X)(I:ai X C ρ st s)(h1:y=X.nm x)(h2:C.env.scope.names.lookup y=some .globalImplicit)(h3:dF y=true) :
  bl X C ρ s (eval (.Name y pos) C.env) ((match X.P.gl x with | some v=>pure v | none=>Mo.fail:Mo V) st):=by
 intro Q E W;refine bX (X.P.gl x) (λe=>?_) λv e=>?_
 .replace W:=e▸W;exact(W:False).elim
 .
  obtain W:=e▸W;refine aA Z.glob λmg mb n1 n2 hg=>af (hg x v e) λval hr hv=>?_
  have q:Q val s:=W.now (.refl I) (hr.mono I.yl);have lF:=n1.keeps I.stay;obtain iE:=n2.keeps I.stay;refine Name_function_global I.cfg.kind h2 (bR hv (λhv=>?_) (λq8=>aL q8 λqG qH=>?_)) (pZ h3)
  .exact loadGlobal_global (env:=C.env) (by refine aR I.cfg.glob ?_;exact lF) (tb h1 hv) q
  .exact loadGlobal_builtin (env:=C.env) (by refine aR I.cfg.glob ?_;exact lF) (tb h1 qG) (by refine aR I.cfg.bi ?_;exact iE) (tb h1 qH) q
end
end
section
theorem Tv{n:Nat}{st:St}:room n st=if n<=aK then some (.ok () st) else none:=by
 unfold room
 cases h:Nat.ble n aK with
 |true=>refine bh (ar (eM h)) ?_;rfl
 |false=>refine tb (aj (λq=>by obtain h:=aW h (ir q);exact kM h)) ?_;rfl
theorem iA:aK<=sizeLine:=by refine bh iQ ?_;decide
theorem Dh{n:Nat}(h:n<=aK):(n:Int)<2 ^ 63:=qR (Nat.lt_succ_of_le h)
section
theorem ai.gO(I:ai X C ρ st s){k:Nat}{v:Value}(h:av X s.heap ρ (.ref k) v):∃a o ob,v=.ref a/\ρ[k]?=some a/\st.tr.get k=some o/\s.heap.get? a=some ob/\dV X s.heap ρ a o ob:=by
 dsimp only[av] at h;refine af h ?_;rintro a rfl h1;exact aA (I.obj k a h1) λo ob h2 h3 h4=>qT a o ob rfl h1 h2 h3 h4
theorem ai.xO(I:ai X C ρ st s){k:Nat}{v:Value}{l:List V}(h:av X s.heap ρ (.ref k) v)(e:st.tr.get k=some (.list l)):∃a vs,v=.ref a/\ρ[k]?=some a/\s.heap.IsList a (List.toArray vs)/\aB X s.heap ρ l vs:=by
 refine cps λG kG=>?_
 refine fq (I.gO h) ?_;rintro a o ob rfl h1 h2 h3 h4;rw[e] at h2;obtain rfl:=ag h2;obtain⟨h5,vs,n,h6,h7,Y⟩:=h4;exact kG (hX a vs rfl h1 ⟨ob,h3,h5,n,h6⟩ h7)
theorem ai.CU(I:ai X C ρ st s){k:Nat}{v:Value}{l:List V}(h:av X s.heap ρ (.ref k) v)(e:st.tr.get k=some (.list l)):∃a vs n,v=.ref a/\ρ[k]?=some a/\IsL s.heap a (List.toArray vs) n/\aB X s.heap ρ l vs:=by
 refine cps λG kG=>?_
 refine fq (I.gO h) ?_;rintro a o ob rfl h1 h2 h3 h4;rw[e] at h2;obtain rfl:=ag h2;obtain⟨h5,vs,n,h6,h7,h8,h9⟩:=h4;obtain⟨c,d,dt,sl⟩:=ob;refine kG ?_;simp only at h5 h6 h8 h9;subst h5 h6 h8 h9;exact qS a vs n rfl h1 h3 h7
theorem mA{k:Nat}{f:O->Mo γ}{st:St}:(gy k>>=f) st=match st.tr.get k with | some o=>f o st | none=>none:=by
 refine(?_:Mo.bind (gy k) f st=_);unfold Mo.bind gy;cases st.tr.get k<;>rfl
theorem pv{n:Nat}{f:Unit->Mo γ}{st:St}:(room n>>=f) st=if n<=aK then f () st else none:=by
 refine(?_:Mo.bind (room n) f st=_);unfold Mo.bind;rw[Tv]
 by_cases h:n<=aK<;>simp[h]
theorem aG.Fa{n:Nat}{f:Unit->Mo α}{R:Heap->List Addr->α->β->Prop}{Q:β->Shared->Prop}{E:WB}{G:Prop}(W:aG X C ρ s R ((room n>>=f) st) Q E)(g:n<=aK->aG X C ρ s R (f () st) Q E->G):G:=by
 replace W:=W.at pv
 by_cases h:n<=aK
 .exact g h (W.at (ar h))
 .exact (W.no (aj h)).elim
theorem fD{o:O}{f:Nat->Mo γ}{st:St}:(cf o>>=f) st=match (st.tr.put st.n o).get st.n with | some _=>f st.n {st with tr:=st.tr.put st.n o,n:=st.n+1} | none=>none:=by
 refine(?_:Mo.bind (cf o) f st=_);unfold Mo.bind cf;cases (st.tr.put st.n o).get st.n<;>rfl
theorem yb{o:O}{f:Nat->Mo γ}{st:St}(h:∀k st',f k st'=none):(cf o>>=f) st=none:=by
 refine tb fD ?_
 cases (st.tr.put st.n o).get st.n with
 |none=>rfl
 |some Y=>exact h _ _
theorem pu{l:List V}{vs:List Value}(I:ai X C ρ st s)(hr:aB X s.heap ρ l vs){Q:WB}{E:WB}(W:aG X C ρ s (av X) (cM l st) Q E) :
  vs.length<=sizeLine/\Q (.ref s.heap.objs.size) {s with heap:=s.heap.push {cls:=.type "list",data:=.seq vs.toArray}}:=by
 unfold cM at W;rw[pv] at W
 by_cases h:l.length<=aK
 .rw [ar h] at W;refine⟨by refine aR hr.length ?_;exact au h iA,?_⟩;replace W:=W.at fD;refine bX ((st.tr.put st.n (.list l)).get st.n) (λg=>?_) λo g=>?_
  .obtain W:=g▸W;exact(W:False).elim
  .
   rw[g] at W;replace W:aG X C ρ s (av X) (some (.ok (V.ref st.n) {st with tr:=st.tr.put st.n (.list l),n:=st.n+1})) Q E:=W;obtain hn:s.heap.get? s.heap.objs.size=none:=dc (bI _);have hk:∀b o,s.heap.get? b=some o->(s.heap.push {cls:=.type "list",data:=.seq vs.toArray}).get? b=some o:=λb o e=>bn _ e
   obtain ext:ca s.heap ρ (ρ++[s.heap.objs.size]):=⟨[_],rfl,λb hb=>by rw[List.mem_singleton.mp hb];exact hn⟩
   obtain kv:=I.bB (bZ.of_keeps hk) ext;refine W.now (am.push I hk (by simp) hn (cj _ rfl) ⟨rfl,vs,0,rfl,hr.mono kv,rfl,rfl⟩ (tb g rfl) I.sz) ?_;exact⟨_,rfl,by refine sb I.len ?_;simp⟩
 .rw [aj h] at W;exact(W:False).elim
theorem kI{l:List V}{vs:List Value}(I:ai X C ρ st s)(hr:aB X s.heap ρ l vs){Q:WB}{E:WB}(W:aG X C ρ s (av X) (js l st) Q E) :
  vs.length<=sizeLine/\(∀a,IsTup s.heap a vs.toArray->Q (.ref a) s)/\Q (.ref s.heap.objs.size) {s with heap:=s.heap.push {cls:=.type "tuple",data:=.seq vs.toArray}}:=by
 unfold js at W;rw[pv] at W
 by_cases h:l.length<=aK
 .replace W:=W.at (ar h);refine⟨by refine aR hr.length ?_;exact au h iA,λa ha=>W.now (.refl I) (bF a vs rfl ha hr),?_⟩;obtain hk:∀b o,s.heap.get? b=some o->(s.heap.push {cls:=.type "tuple",data:=.seq vs.toArray}).get? b=some o:=λb o e=>bn _ e
  refine W.now (am.quiet I hk (by simp)) ?_;dsimp only[av];exact bF _ vs rfl ⟨_,cj _ rfl,rfl,0,rfl⟩ (hr.mono (I.bB (bZ.of_keeps hk) .refl))
 .replace W:=(aj h)▸W;exact(W:False).elim
theorem UK(a b:aN):aJ a++aJ b=aJ (a++b):=by
 refine(?_:Str.append _ _=_);simp[Str.append,aJ]
theorem UL(a:aN):(aJ a).length=a.length:=by rfl
theorem rC{a b:aN}(h:aJ a=aJ b):a=b:=by
 have:=ay (λx=>x.cps.toList) h
 simpa [aJ] using this
theorem lC:∀a b:aN,dC a b=decide (a=b)
 |[],[]=>by rfl
 |[],_::_=>by rfl
 |_::_,[]=>by rfl
 |a::r,b::s=>by
  refine(?_:(match Nat.beq a b with | true=>dC r s | false=>false)=_);rw[dh]
  by_cases h:a=b
  .subst h;rw[eZ rfl];exact(lC r s).trans (decide_eq_decide.mpr ⟨λe=>sb e rfl,λe=>(List.cons.inj e).2⟩)
  .rw [dJ h];exact(dJ λe=>h (List.cons.inj e).1).symm
theorem FV{h:Heap}{a:Addr}{vs:Array Value}(x:IsTup h a vs):∃dd n sl,h.get? a=some {cls:=.type "tuple",dict:=dd,data:=.seq vs n,slots:=sl}:=by
 obtain⟨⟨c,d,dt,sl⟩,h1,h2,n,h3⟩:=x;simp only at h2 h3;subst h2 h3;exact mV d n sl h1
theorem xP{h:Heap}{a:Addr}{vs:Array Value}(x:h.IsList a vs):∃dd n sl,h.get? a=some {cls:=.type "list",dict:=dd,data:=.seq vs n,slots:=sl}:=by
 obtain⟨⟨c,d,dt,sl⟩,h1,h2,n,h3⟩:=x;simp only at h2 h3;subst h2 h3;exact mV d n sl h1
theorem GU{prog:Program}{w:World}{A:Around}{E:WB}{l b:Addr}{vs ws:List Value}{Q:WB}(hl:IsTup s.heap l vs.toArray)(hb:IsTup s.heap b ws.toArray)(cy:vs.length+ws.length<=sizeLine)(h1:∀a,IsTup s.heap a (vs++ws).toArray->Q (.ref a) s)(h2:Q (.ref s.heap.objs.size) {s with heap:=s.heap.push {cls:=.type "tuple",data:=.seq (vs++ws).toArray}}) :
  wpAny (model prog w) A (binaryOp .Add (.ref l) (.ref b)) Q E s:=by
 refine kS (FV hl) λdd n sl ho=>kS (FV hb) λdd2 n2 sl2 fe=>?_
 have e:vs.toArray++ws.toArray=(vs++ws).toArray:=by simp
 by_cases z:vs=[]
 .subst z;exact concat_meets (ao _ ho rfl) (ao _ fe rfl) noFill_tuple_add seq_tuple_add PySem.F.slot_tuple_add PySem.F.entry_tuple_add (PySem.F.args_tuple_add_2 _ _) (tuple_addW0 l b _ _ n n2 dd dd2 sl sl2 rfl) ⟨ho,fe,h1 b (hb)⟩
 .by_cases y:ws=[]
  .subst y;exact concat_meets (ao _ ho rfl) (ao _ fe rfl) noFill_tuple_add seq_tuple_add PySem.F.slot_tuple_add PySem.F.entry_tuple_add (PySem.F.args_tuple_add_2 _ _) (tuple_addW1 l b _ _ n n2 dd dd2 sl sl2 (by simpa using z) rfl) ⟨ho,fe,h1 l (by simpa using hl)⟩
  .exact concat_meets (ao _ ho rfl) (ao _ fe rfl) noFill_tuple_add seq_tuple_add PySem.F.slot_tuple_add PySem.F.entry_tuple_add (PySem.F.args_tuple_add_2 _ _) (tuple_addW2 l b _ _ n n2 dd dd2 sl sl2 (by simpa using z) (by simpa using y) (cy)) ⟨ho,fe,by refine tb e ?_;exact h2⟩
theorem GR{prog:Program}{w:World}{A:Around}{E:WB}{l b:Addr}{vs ws:List Value}{Q:WB}(hl:s.heap.IsList l vs.toArray)(hb:s.heap.IsList b ws.toArray)(cy:vs.length+ws.length<=sizeLine)(h2:Q (.ref s.heap.objs.size) {s with heap:=s.heap.push {cls:=.type "list",data:=.seq (vs++ws).toArray}}) :
  wpAny (model prog w) A (binaryOp .Add (.ref l) (.ref b)) Q E s:=by
 refine kS (xP hl) λdd n sl ho=>kS (xP hb) λdd2 n2 sl2 fe=>?_
 obtain e:vs.toArray++ws.toArray=(vs++ws).toArray:=by simp
 exact concat_meets (ao _ ho rfl) (ao _ fe rfl) noFill_list_add seq_list_add PySem.F.slot_list_add PySem.F.entry_list_add (PySem.F.args_list_add_2 _ _) (list_addW l b _ _ n n2 dd dd2 sl sl2 (cy)) ⟨ho,fe,by refine tb e ?_;exact h2⟩
end
end
section
open PySem.Spec
theorem Dp:∀a b:aN,mU a b=decide (a<b)
 |[],[]=>by refine ck (ltCps_eq _ _) ?_;rfl
 |[],b::t=>by refine ck (ltCps_eq _ _) ?_;rfl
 |a::r,[]=>by refine ck (ltCps_eq _ _) ?_;rfl
 |a::r,b::t=>by
  obtain ih:=Dp r t;rw[<- ltCps_eq] at ih ⊢;refine(?_:(Nat.blt a b || (Nat.beq a b&&mU r t))=(decide (a<b) || (a==b&&ltCps r t)));obtain h1:Nat.blt a b=decide (a<b):=by rw[Bool.eq_iff_iff,iu,decide_eq_true_iff]
  obtain h2:Nat.beq a b=(a==b):=by rw[dh,Bool.eq_iff_iff,decide_eq_true_iff,beq_iff_eq]
  refine sb ih ?_;refine sb h1 ?_;exact sb h2 rfl
theorem Tt:∀{l:List aN} {p:aN},kJ (p::l)=true->∀x∈l,p<x:=by
 intro x9
 induction x9 with
 |nil=>
  intro Y Y x h
  cases h
 |cons y r ih=>
  intro p h x hx;obtain h:(mU p y&&kJ (y::r))=true:=h;simp only[bQ,Dp,dX] at h
  cases hx with
  |head=>exact h.1
  |tail _ hx=>exact List.lt_trans h.1 (ih h.2 x hx)
theorem E8:∀{l:List aN},kJ l=true->l.Pairwise λa b=>a<b:=by
 intro x9
 induction x9 with
 |nil=>
  intro Y
  exact .nil
 |cons x r ih=>
  intro h
  exact .cons (Tt h) (ih (by
  induction r using List.casesOn with
  |nil=>rfl
  |cons y r=>
   obtain h:(mU x y&&kJ (y::r))=true:=h;simp only[bQ] at h
   exact h.2))
theorem Uh:∀{l:List Str} {p:Str},risingS p l=true->∀x∈l,¬ x.cps.toList<p.cps.toList:=by
 intro x9
 induction x9 with
 |nil=>
  intro Y Y x h
  cases h
 |cons y r ih=>
  intro p h x hx;obtain h:(!ltCps y.cps.toList p.cps.toList&&risingS y r)=true:=h;simp only[bQ,Bool.not_eq_true',ltCps_eq,decide_eq_false_iff_not] at h
  cases hx with
  |head=>exact h.1
  |tail _ hx=>exact λq=>h.1 (List.lt_of_le_of_lt (List.not_lt.mp (ih h.2 x hx)) q)
theorem Ui:∀{l:List Str},sortedS l=true->l.Pairwise λa b=>¬ b.cps.toList<a.cps.toList:=by
 intro x9
 induction x9 with
 |nil=>
  intro Y
  exact .nil
 |cons x r ih=>
  intro h
  exact .cons (Uh h) (ih (by
  induction r using List.casesOn with
  |nil=>rfl
  |cons y r=>
   obtain h:(!ltCps y.cps.toList x.cps.toList&&risingS y r)=true:=h;simp only[bQ] at h
   exact h.2))
theorem FE(a:aN):(aJ a).cps.toList=a:=by rfl
theorem E7{l:List aN}(h:kJ l=true):l.Nodup:=(E8 h).imp λ{a b} q e=>by subst e;exact List.lt_irrefl _ q
theorem Uj{ss:List Str}{r:List aN}(hn:ss.Nodup)(hs:sortedS ss=true)(hr:kJ r=true)(hm:∀k,k∈ss↔k∈r.map aJ):ss=r.map aJ:=by
 obtain cF:(r.map aJ).Nodup:=List.pairwise_map.mpr ((E7 hr).imp λ{a b} q e=>q (rC e));refine List.Perm.eq_of_pairwise (le:=λa b=>¬ b.cps.toList<a.cps.toList) (λa b Y Y h1 h2=>?_) (Ui hs) ?_ ((List.perm_ext_iff_of_nodup hn cF).mpr hm)
 .have:=List.le_antisymm (List.not_lt.mp h1) (List.not_lt.mp h2);cases a;cases b
  simpa using this
 .refine List.pairwise_map.mpr ((E8 hr).imp λ{a b} q=>?_);rw[FE,FE];exact λq2=>List.lt_irrefl _ (List.lt_trans q q2)
theorem uS{l m:List aN}(h:y7 l m=true):∀x∈l,x∈m:=λx hx=>by
 have:=List.all_eq_true.mp h x hx;refine af (List.any_eq_true.mp this) λy hy e=>?_
 obtain e:=aW e (lC _ _);refine bh (bG e) ?_;exact hy
theorem Ut{l r:List V}(h:Fw l=some r):∃ks,pD l=some ks/\ks.length<=4/\r=(gI ks).map V.str/\kJ (gI ks)=true/\(∀k,k∈ks↔k∈gI ks)/\∃a b,a∈ks/\b∈ks/\a≠b:=by
 refine ax h λks e h=>bk h λq e9=>?_
 obtain rfl:=ag e9;refine fX (fw q) λq1 q2 q3 q4 q5=>?_
 replace q2:=eM q2;refine QM ks e (eM q1) rfl q3 (λk=>⟨uS q4 k,uS q5 k⟩) ?_;obtain hn:=E7 q3;generalize gI ks=l at q2 hn q5
 cases l with
 |nil=>exact absurd q2 (show ¬ 2<=0 by decide)
 |cons a r=>cases r with
  |nil=>exact absurd q2 (show ¬ 2<=1 by decide)
  |cons b r=>exact bF a b (uS q5 a (.head _)) (uS q5 b (.tail _ (.head _))) λe=>(List.nodup_cons.mp hn).1 (sb e (.head _))
theorem T8{l:List V}{n:Nat}(h:uO l=some n):∃ks,rD l=some ks/\n=l.length/\l.length<=76/\ks.Nodup :=
 ax h λks e h=>bk h λq e9=>⟨ks,e,(ag e9).symm,eM (aD q).1,bG (aD q).2⟩
end
section
section
theorem mj{τ:Type}[BEq τ][LawfulBEq τ][DecidableEq τ](a b:τ):(a==b)=decide (a=b):=by by_cases h:a=b<;>simp[h]
theorem UM{s:aN}(h:(s.all λc=>Nat.blt c 128)=true):(PyData.str (aJ s)).canLay0=true:=by
 refine(?_:(Array.all s.toArray λc=>decide (c<0x110000))=true);rw[List.all_toArray,List.all_eq_true];rw[List.all_eq_true] at h;intro x hx;have:=h x hx;have:x<128:=eM this;simp only[dX];exact bL this (ce rfl:128<1114112)
theorem E3{h:Heap}{n:Nat}{f:V->Option PyData}(F:∀{v:V} {d:PyData} {val:Value},f v=some d->av X h ρ v val->∃as,Reads h val d as/\d.canLay0=true/\d.depth<=n){l:List V} :
  ∀{ds:List PyData} {vs:List Value},pn f l=some ds->aB X h ρ l vs->∃as,ReadsAll h vs ds as/\PyData.canLayAll0 ds=true/\PyData.depthAll ds<=n:=by
 induction l with
 |nil=>
  intro ds vs e r;obtain rfl:[]=ds:=ag e;obtain rfl:vs=[]:=r
  exact⟨_,.nil,rfl,cc _⟩
 |cons v l ih=>
  intro ds vs e r;refine aA r ?_;rintro w ws rfl h1 h2;refine ax e λd e1 e=>ax e λds' e2 e=>?_
  obtain rfl:=ag e
  exact bE (F e1 h1) λas g1 g2 g3=>bE (ih e2 h2) λbs k1 k2 k3=>⟨_,.cons g1 k1,gN g2 k2,Nat.max_le.mpr ⟨g3,k3⟩⟩
theorem yN{h:Heap}{n:Nat}:∀{v:V} {d:PyData} {val:Value},fo n v=some d->av X h ρ v val->∃as,Reads h val d as/\d.canLay0=true/\d.depth<=n:=by
 induction n with
 |zero=>intro v d val e;exact aP e
 |succ n ih=>
  intro v d val e r
  induction v using Internal.V.casesOn with
  |none=>obtain rfl:=ag e;obtain rfl:val=.none:=r;exact⟨_,.none,rfl,cc _⟩
  |int i=>obtain rfl:=ag e;refine aF r ?_;rintro t rfl;exact⟨_,.int i t,rfl,cc _⟩
  |str x=>refine bk e λq e=>?_;obtain rfl:=ag e;refine aF r ?_;rintro t rfl;exact⟨_,.str _ t,UM q,cc _⟩
  |tup l=>
   refine aA r ?_;rintro a vs rfl hx h4;refine bE hx λo h1 h2 h3=>ax e λds q e=>?_
   obtain rfl:=ag e
   exact bE (E3 ih q h4) λas g1 g2 g3=>⟨_,.tuple h1 h2 h3.choose_spec g1,g2,dg g3⟩
  |_=>exact aP e
theorem uE{h:Heap}{l:List V}{ds:List PyData}{vs:List Value}(e:nq l=some ds)(r:aB X h ρ l vs):∃as,ReadsAll h vs ds as/\PyData.canLayAll0 ds=true/\PyData.depthAll ds<=8:=E3 yN e r
theorem ai.room(I:ai X C ρ st s):C.A.units+60<cLine:=by have:=I.units;exact dx (iY (et _ (40*_)) 60) this
theorem hU{v:V}{val:Value}{l:List V}(I:ai X C ρ st s)(h:av X s.heap ρ v val)(e:cI st v=some l):∃a vs,val=.ref a/\s.heap.IsList a (List.toArray vs)/\aB X s.heap ρ l vs:=by
 refine bN e (λe=>ax e λk e1 e=>ax e λo e2 e3=>?_) λe=>?_
 .obtain rfl:=jC e1;obtain rfl:=o9 e3
  exact dQ (I.xO h e2) λa vs q Y h2 h3=>⟨a,vs,q,h2,h3⟩
 .obtain rfl:=zf e
  exact dQ h λa vs q h2 h3 Y=>⟨a,vs,q,h2,h3⟩
def nP(X:Sx)(C:bw)(s:Shared)(t:Sem Value)(r:Bool):Prop :=
 ∀(E:WB) (Q:WB),(∀tk,Q (.bool r) {s with toks:=tk})->wpAny (model X.prog X.w) C.A t Q E s
theorem nP.of{t:Sem Value}{r:Bool}(h:∀(E:WB) (Q:WB),Q (.bool r) s->wpAny (model X.prog X.w) C.A t Q E s):nP X C s t r:=λE Q q=>h E Q (q s.toks)
def jR(X:Sx)(C:bw)(s:Shared)(o1 o2:CmpOp)(va vb:Value)(r:Bool):Prop:=nP X C s (compareOp o1 va vb) r/\nP X C s (compareOp o2 va vb) (!r)
theorem Bj{l m:List V}{r:Bool}{vs ws:List Value}{h:Heap}{G:Prop}(e:ix l m=some r)(h2:aB X h ρ l vs)(h4:aB X h ρ m ws)(g:∀ds es as bs,ReadsAll h vs ds as->ReadsAll h ws es bs->PyData.canLayAll0 ds=true->PyData.canLayAll0 es=true->PyData.depthAll ds<=8->PyData.eqvAll ds es=r->G):G :=
 ax e λds q1 e=>ax e λes q2 e=>bE (uE q1 h2) λas g1 g2 g3=>bE (uE q2 h4) λbs k1 k2 k3=>g ds es as bs g1 k1 g2 k2 g3 (ag e)
theorem LG{l m:List V}{r:Bool}{x y:Addr}{vs ws:List Value}(I:ai X C ρ st s)(h1:s.heap.IsList x (List.toArray vs))(h2:aB X s.heap ρ l vs)(h3:s.heap.IsList y (List.toArray ws))(h4:aB X s.heap ρ m ws)(e:sy l m=some r) :
  jR X C s .Eq .NotEq (.ref x) (.ref y) r:=by
 obtain hu:=I.room;obtain e:cond (Nat.beq l.length m.length) (ix l m) (some false)=some r:=e;refine mm (Nat.beq l.length m.length) (λq=>?_) λq=>?_
 .obtain e:ix l m=some r:=(ay (cond · (ix l m) (some false)) q).symm.trans e;refine Bj e h2 h4 λds es as bs g1 k1 g2 k2 g3 hr=>bE h1 λo1 p1 p2 p3=>bE h3 λo2 z1 z2 z3=>?_
  subst hr;obtain R1:Reads s.heap (.ref x) (.list ds) (x::as):=.list p1 p2 p3.choose_spec g1;obtain R2:Reads s.heap (.ref y) (.list es) (y::bs):=.list z1 z2 z3.choose_spec k1;obtain hd:C.A.units+min (PyData.list ds).depth (PyData.list es).depth<cLine:=zT hu g3;exact⟨.of λE Q q=>SeqAt.compareEq_reads R1 R2 g2 k2 hd q,.of λE Q q=>SeqAt.compareNe_reads R1 R2 g2 k2 hd q⟩
 .obtain rfl:false=r:=ag ((ay (cond · (ix l m) (some false)) q).symm.trans e);obtain z:((List.toArray vs).size != (List.toArray ws).size)=true:=bne_iff_ne.mpr λz=>Nat.ne_of_beq_eq_false q (h2.length.symm.trans (aE z h4.length))
  exact⟨.of λE Q q=>SeqAt.RcAt.lists_lengths h1 h3 z (mR hu) _ _ E Q q,.of λE Q q=>SeqAt.RcNeAt.lists_lengths h1 h3 z (mR hu) _ _ E Q q⟩
theorem LH{l m:List V}{r:Bool}{x y:Addr}{vs ws:List Value}(I:ai X C ρ st s)(h1:IsTup s.heap x (List.toArray vs))(h2:aB X s.heap ρ l vs)(h3:IsTup s.heap y (List.toArray ws))(h4:aB X s.heap ρ m ws)(e:Bl l m=some r) :
  jR X C s .Eq .NotEq (.ref x) (.ref y) r:=by
 obtain hu:=I.room;obtain e:cond (l.isEmpty || m.isEmpty) (some (decide (l.length=m.length))) (ix l m)=some r:=e;refine gn (l.isEmpty || m.isEmpty) (λq=>?_) λq=>?_
 .obtain e:ix l m=some r:=(ay (cond · (some (decide (l.length=m.length))) (ix l m)) q).symm.trans e;refine Bj e h2 h4 λds es as bs g1 k1 g2 k2 g3 hr=>bE h1 λo1 p1 p2 p3=>bE h3 λo2 z1 z2 z3=>?_
  subst hr;obtain R1:Reads s.heap (.ref x) (.tuple ds) as:=.tuple p1 p2 p3.choose_spec g1;obtain R2:Reads s.heap (.ref y) (.tuple es) bs:=.tuple z1 z2 z3.choose_spec k1;obtain hd:C.A.units+min (PyData.tuple ds).depth (PyData.tuple es).depth<cLine:=zT hu g3;exact⟨.of λE Q q=>SeqAt.compareEq_reads R1 R2 g2 k2 hd q,.of λE Q q=>SeqAt.compareNe_reads R1 R2 g2 k2 hd q⟩
 .obtain rfl:decide (l.length=m.length)=r:=ag ((ay (cond · (some (decide (l.length=m.length))) (ix l m)) q).symm.trans e);obtain hm:min (List.toArray vs).size (List.toArray ws).size=0:=((Bool.or_eq_true _ _).mp q).elim (λq=>(ay (min · _) (h2.length.trans (ay List.length (List.isEmpty_iff.mp q)))).trans (Nat.zero_min _)) λq=>(ay (min _) (h4.length.trans (ay List.length (List.isEmpty_iff.mp q)))).trans (Nat.min_zero _)
  rw[<- h2.length,<- h4.length];refine⟨.of λE Q q=>SeqAt.RcAt.tuples (e:=λY=>true) h1 h3 (mR hu) (λi h5 h6=>absurd (bx (Nat.lt_min.mpr ⟨h5,h6⟩) (cb hm)) (l8 _)) _ _ E Q ?_,.of λE Q q=>SeqAt.RcNeAt.tuples (e:=λY=>true) h1 h3 (mR hu) (λi h5 h6=>absurd (bx (Nat.lt_min.mpr ⟨h5,h6⟩) (cb hm)) (l8 _)) _ _ E Q ?_⟩
  .rw [hm,mj];exact q
  .rw [hm,mj];exact q
theorem FC(a b:aN):(aJ a==aJ b)=dC a b:=by
 refine bh (lC _ _) ?_
 by_cases h:a=b
 .subst h;simp
 .refine bh (dJ h) ?_;exact beq_eq_false_iff_ne.mpr λq=>h (rC q)
theorem Bk{a b:V}{va vb:Value}{r:Bool}(I:ai X C ρ st s)(ha:av X s.heap ρ a va)(hb:av X s.heap ρ b vb)(e:sA st a b=some r):jR X C s .Eq .NotEq va vb r:=by
 refine bN e (λe=>bN e (λe=>ax e λi e1 e=>ax e λj e2 e=>?_) λe=>bN e (λe=>ax e λx e1 e=>ax e λy e2 e=>?_) λe=>ax e λl e1 e=>ax e λm e2 e=>?_) λe=>ax e λl e1 e=>ax e λm e2 e=>?_
 .obtain rfl:=fH e1;obtain rfl:=fH e2;obtain rfl:=ag e;refine aF ha ?_;rintro t rfl;refine aF hb ?_;rintro u rfl;exact⟨.of λE Q q=>P.eq_int (by rw[mj];exact q),.of λE Q q=>P.ne_int (by rw[bne,mj];exact q)⟩
 .obtain rfl:=iT e1;obtain rfl:=iT e2;obtain rfl:=ag e;refine aF ha ?_;rintro t rfl;refine aF hb ?_;rintro u rfl;exact⟨.of λE Q q=>P.eq_str (by show Q (.bool (x==y)) s;rw[mj,<- lC];exact q),.of λE Q q=>P.ne_str (by show Q (.bool (!(x==y))) s;rw[mj,<- lC];exact q)⟩
 .obtain rfl:=gJ e1;obtain rfl:=gJ e2;refine aA ha ?_;rintro x vs rfl h1 h2;refine aA hb ?_;rintro y ws rfl h3 h4;exact LH I h1 h2 h3 h4 e
 .refine aA (hU I ha e1) ?_;rintro x vs rfl h1 h2;refine aA (hU I hb e2) ?_;rintro y ws rfl h3 h4;exact LG I h1 h2 h3 h4 e
end
end
section
section
theorem jV{x:Mo α}{f:α->Mo β}(h:x st=none):(x>>=f) st=none:=by
 refine(?_:Mo.bind x f st=none);unfold Mo.bind;exact tb h rfl
theorem jb{x:Mo α}{f:α->Mo β}{a:α}(h:x st=some (.ok a st')):(x>>=f) st=f a st':=by
 refine(?_:Mo.bind x f st=_);unfold Mo.bind;exact tb h rfl
theorem Ad{x:Mo α}{f:α->Mo β}{k:Nat}(h:x st=some (.ex k st')):(x>>=f) st=some (.ex k st'):=by
 refine(?_:Mo.bind x f st=_);unfold Mo.bind;exact tb h rfl
theorem CN{a:V}{l:List V}{r:Bool}(e:kq a l=some r):∃d ds,fo 8 a=some d/\nq l=some ds/\r=ds.any λy=>PyData.eqv y d :=
 ax e λd e1 e=>ax e λds e2 e=>⟨d,ds,e1,e2,(ag e).symm⟩
theorem PV{a:V}{va:Value}{l:List V}{x:Addr}{vs:List Value}{r:Bool}(I:ai X C ρ st s)(ha:av X s.heap ρ a va)(hl:s.heap.IsList x vs.toArray)(hr:aB X s.heap ρ l vs)(e:kq a l=some r) :
  jR X C s .In .NotIn va (.ref x) r:=by
 refine cps λG kG=>?_
 obtain hu:=I.room;refine aA (CN e) ?_;rintro d ds e1 e2 rfl;refine bE (uE e2 hr) λas g1 g2 g3=>bE (yN e1 ha) λbs k1 k2 k3=>?_
 obtain⟨o1,p1,p2,n1,p3⟩:=hl;refine kG ?_;obtain R1:Reads s.heap (.ref x) (.list ds) (x::as):=.list p1 p2 p3 (g1);exact⟨.of λE Q q=>SeqAt.in_list_reads R1 k1 g2 k2 (sd hu g3) q,.of λE Q q=>SeqAt.notIn_list_reads R1 k1 g2 k2 (sd hu g3) q⟩
theorem PW{a:V}{va:Value}{l:List V}{x:Addr}{vs:List Value}{r:Bool}(I:ai X C ρ st s)(ha:av X s.heap ρ a va)(hl:IsTup s.heap x vs.toArray)(hr:aB X s.heap ρ l vs)(e:kq a l=some r) :
  jR X C s .In .NotIn va (.ref x) r:=by
 refine cps λG kG=>?_
 obtain hu:=I.room;refine aA (CN e) ?_;rintro d ds e1 e2 rfl;refine bE (uE e2 hr) λas g1 g2 g3=>bE (yN e1 ha) λbs k1 k2 k3=>?_
 obtain⟨o1,p1,p2,n1,p3⟩:=hl;refine kG ?_;obtain R1:Reads s.heap (.ref x) (.tuple ds) as:=.tuple p1 p2 p3 (g1);exact⟨.of λE Q q=>SeqAt.in_tuple_reads R1 k1 g2 k2 (sd hu g3) q,.of λE Q q=>SeqAt.notIn_tuple_reads R1 k1 g2 k2 (sd hu g3) q⟩
theorem AV{h:Heap}:∀{es:List (aN×V)} {ds:List DictEntry} {x:aN},gK X h ρ es ds->
  (match gD es x with
   |some v=>∃e∈ds,ds.find? (λe=>Value.isStrOf (aJ x) e.key)=some e/\av X h ρ v e.val
   |none=>ds.find? (λe=>Value.isStrOf (aJ x) e.key)=none):=by
 intro x9
 induction x9 with
 |nil=>
  intro ds x r
  exact tb (show _=[] from r) rfl
 |cons q0 es ih=>
  obtain⟨y,v⟩:=q0;intro ds x r;refine fK r ?_;rintro t val ds' rfl h1 h2;obtain ih:=ih (x:=x) h2;rw[QG];obtain hk:Value.isStrOf (aJ x) (.str (aJ y) t)=dC y x:=by refine nU (isStr_of _ _) ?_;exact FC y x
  cases q:dC y x with
  |true=>
   refine cL _ (.head _) ?_ h1
   refine tb (List.find?_cons) ?_;refine tb hk ?_;exact tb q rfl
  |false=>
   dsimp only;refine tb (List.find?_cons) ?_;refine tb hk ?_;refine tb q ?_
   cases q2:gD es x with
   |none=>obtain ih:=iD ih q2;exact ih
   |some w=>
    obtain ih:=iD ih q2;exact bE ih λe m1 m2 m3=>cL e (.tail _ m1) m2 m3
theorem AW{h:Heap}{a:Addr}{es:List (aN×V)}{ob:Obj}(h1:h.get? a=some ob)(h2:dV X h ρ a (.dict es) ob):∃ds n,ob.data=.dict (List.toArray ds) n/\gK X h ρ es ds/\h.MapOf (strKind X.prog X.w) a (λk=>findBy Value.isStrOf (List.toArray ds) k):=by
 obtain⟨g1,gd,gs,ds,n,g2,g3⟩:=h2;refine⟨ds,n,g2,g3,ob,ds.toArray,n,h1,bP g1 gd gs,g2,λe he=>?_,λY=>rfl⟩;obtain m:e∈ds:=by simpa using he
 clear g2 h1 he
 induction es generalizing ds with
 |nil=>obtain rfl:ds=[]:=g3;cases m
 |cons p es ih=>
  obtain⟨y,v⟩:=p;refine fK g3 ?_;rintro t val ds' rfl Y g4;rcases List.mem_cons.mp m with rfl | m
  .exact ao (aJ y) (strKind_is X.prog X.w _ _) rfl
  .exact ih ds' g4 m
theorem PU{k:Nat}{x:aN}{va vb:Value}{es:List (aN×V)}(I:ai X C ρ st s)(ha:av X s.heap ρ (.str x) va)(hb:av X s.heap ρ (.ref k) vb)(e:st.tr.get k=some (.dict es)) :
  jR X C s .In .NotIn va vb (gD es x).isSome:=by
 dsimp only[av] at ha;refine aF ha ?_;rintro t rfl;refine fq (I.gO hb) ?_;rintro a o ob rfl h1 h2 h3 h4;obtain rfl:=ag (aE (bU e) h2);refine aA (AW h3 h4) λds n g2 g3 g4=>?_
 obtain q:=AV (X:=X) (ρ:=ρ) (x:=x) g3
 have lo:(a==sysModules)=false:=by
  refine beq_eq_false_iff_ne.mpr λq=>?_
  have:=I.big a (bV h1);obtain this:=eU this q;exact absurd this (by decide)
 have fb:(findBy Value.isStrOf ds.toArray (aJ x)).isSome=(gD es x).isSome:=by
  unfold findBy;rw[List.find?_toArray]
  cases q2:gD es x with
  |none=>obtain q:=iD q q2;rw[q];rfl
  |some v=>obtain q:=iD q q2;refine bE q λen Y q3 Y=>?_;refine tb q3 ?_;rfl
 exact⟨λE Q q=>wpAny_in_of (strKind_is X.prog X.w _ _) lo g4 (by rw[fb];exact q _),λE Q q=>wpAny_notIn_of (strKind_is X.prog X.w _ _) lo g4 (by rw[fb];exact q _)⟩
theorem CO{a b:V}{va vb:Value}{r:Bool}(I:ai X C ρ st s)(ha:av X s.heap ρ a va)(hb:av X s.heap ρ b vb)(e:tB st a b=some r):jR X C s .In .NotIn va vb r:=by
 refine bN e (λe=>ax e λl e1 e=>?_) λe=>bN e (λe=>ax e λl e1 e=>?_) λe=>ax e λk e1 e=>ax e λo e2 e=>ax e λes e3 e=>ax e λx e4 e=>?_
 .obtain rfl:=gJ e1;refine aA hb ?_;rintro y ws rfl h3 h4;exact PW I ha h3 h4 e
 .refine aA (hU I hb e1) ?_;rintro y ws rfl h3 h4;exact PV I ha h3 h4 e
 .obtain rfl:=jC e1;obtain rfl:=uh e3;obtain rfl:=iT e4;exact sb (ag e) (PU I ha hb e2)
theorem Fg{a b:V}{va vb:Value}{r:Bool}(ha:av X s.heap ρ a va)(hb:av X s.heap ρ b vb)(e:yW a b=some r):jR X C s .Is .IsNot va vb r:=by
 refine bk e λq e=>?_
 obtain rfl:=vd q;obtain rfl:vb=.none:=hb;have key:∀r,(va==.none)=r->jR X C s .Is .IsNot va .none r:=λr h=>sb h ⟨.of λE Q q=>is_none q,.of λE Q q=>isNot_none q⟩
 refine bN e (λe=>bk e λq e=>?_) λe=>bk e λq e=>?_
 .obtain rfl:=vd q;obtain rfl:va=.none:=ha;exact sb (ag e) (key _ rfl)
 .refine sb (ag e) (key _ ?_);clear key
  induction a using Internal.V.casesOn with
  |int i=>refine aF ha ?_;rintro t rfl;rfl
  |str i=>refine aF ha ?_;rintro t rfl;rfl
  |tup i=>refine ci ha ?_;rintro t u rfl h;rfl
  |fl i=>refine ci ha ?_;rintro t u rfl h;rfl
  |ref i=>refine af ha ?_;rintro t rfl h;rfl
  |_=>exact aC q
theorem AF{o:Cp}{op:CmpOp}{a b:V}{va vb:Value}{r:Bool}(I:ai X C ρ st s)(ha:av X s.heap ρ a va)(hb:av X s.heap ρ b vb)(he:Bd o op=true)(e:AE st o a b=some r):nP X C s (compareOp op va vb) r:=by
 obtain rfl:op=AN o:=bG he
 induction o using Internal.Cp.casesOn with
 |eq=>exact(Bk I ha hb e).1
 |ne=>exact ax e λq e1 e=>sb (ag e) ((Bk I ha hb e1).2)
 |lt=>
  refine ax e λi e1 e=>ax e λj e2 e=>?_
  obtain rfl:=fH e1;obtain rfl:=fH e2;obtain rfl:=ag e;refine aF ha ?_;rintro t rfl;refine aF hb ?_;rintro u rfl
  exact .of λE Q q=>P.lt_int q
 |gt=>
  refine ax e λi e1 e=>ax e λj e2 e=>?_
  obtain rfl:=fH e1;obtain rfl:=fH e2;obtain rfl:=ag e;refine aF ha ?_;rintro t rfl;refine aF hb ?_;rintro u rfl
  exact .of λE Q q=>P.gt_int q
 |isIn=>exact(CO I ha hb e).1
 |jt=>exact ax e λq e1 e=>sb (ag e) ((CO I ha hb e1).2)
 |same=>exact(Fg ha hb e).1
 |jv=>exact ax e λq e1 e=>sb (ag e) ((Fg ha hb e1).2)
end
end
section
section
theorem iR{n:Nat}(h:small n=true):n<=aK:=eM h
theorem tJ{v:V}{val:Value}{l:List V}(I:ai X C ρ st s)(h:av X s.heap ρ v val)(e:oQ st v=some l):∃a vs,val=.ref a/\(IsTup s.heap a (List.toArray vs)\/s.heap.IsList a (List.toArray vs))/\aB X s.heap ρ l vs:=by
 refine bN e (λe=>?_) λe=>aA (hU I h e) λa vs q h1 h2=>⟨a,vs,q,.inr h1,h2⟩
 obtain rfl:=gJ e
 exact aA h λa vs q h1 h2=>⟨a,vs,q,.inl h1,h2⟩
theorem P5{α β : Type}{l:List α}{m:List β}(h:m.length=l.length):l.isEmpty=m.isEmpty:=by
 cases l with
 |nil=>cases m with
  |nil=>rfl
  |cons b m=>exact absurd h (Nat.succ_ne_zero _)
 |cons a l=>cases m with
  |nil=>exact absurd h.symm (Nat.succ_ne_zero _)
  |cons b m=>rfl
theorem FT{v:V}{val:Value}(I:ai X C ρ st s)(h:av X s.heap ρ v val):iw X C ρ s (truthy val) (pG v st):=by
 intro Q E W;refine W.ob λr e W=>bN e (λe=>bk e λq e=>?_) λe=>bN e (λe=>?_) λe=>bN e (λe=>ax e λi e1 e=>?_) λe=>ax e λl e1 e=>bk e λhz e=>?_
 .obtain rfl:=vd q;obtain rfl:=ag e;obtain rfl:val=.none:=h;exact truthy_none (W.now (.refl I) rfl)
 .obtain rfl:=F4 e;obtain rfl:val=.bool r:=h;exact wpAny_truthy_bool (W.now (.refl I) rfl)
 .obtain rfl:=fH e1;obtain rfl:=ag e;refine aF h ?_;rintro t rfl;exact P.truthy_int (W.now (.refl I) rfl)
 .obtain rfl:=ag e;refine aA (hU I h e1) ?_;rintro a vs rfl h2 h3;refine wpAny_truthy_list h2 (Dh (n:=vs.length) (by rw[h3.length];exact eM hz)) (W.now (am.tok I) ?_);rw[P5 h3.length];simp
theorem GQ{l m:List V}{a b:Addr}{vs ws:List Value}(I:ai X C ρ st s)(h1:s.heap.IsList a vs.toArray)(h2:aB X s.heap ρ l vs)(h3:s.heap.IsList b ws.toArray)(h4:aB X s.heap ρ m ws) :
  bl X C ρ s (binaryOp .Add (.ref a) (.ref b)) (cM (l++m) st):=by
 intro Q E W;have:=pu I (h2.append h4) W;exact GR h1 h3 (by simpa using this.1) this.2
theorem Ji{o:Op}{op:Operator}{a b:V}{va vb:Value}(I:ai X C ρ st s)(ha:av X s.heap ρ a va)(hb:av X s.heap ρ b vb)(he:Bf o op=true):bl X C ρ s (binaryOp op va vb) (jU o a b st):=by
 intro Q E W;obtain rfl:op=EA o:=bG he;refine W.ob λm e W=>bN e (λe=>ax e λi e1 e=>ax e λj e2 e=>?_) λe=>bk e λq e=>?_
 .obtain rfl:=fH e1;obtain rfl:=fH e2;obtain rfl:=ag e;refine aF ha ?_;rintro t rfl;refine aF hb ?_;rintro u rfl
  induction o using Internal.Op.casesOn with
  |add=>exact P.add_int (W.now (am.tok I) (⟨_,rfl⟩))
  |sub=>exact P.sub_int (W.now (am.tok I) (⟨_,rfl⟩))
 .induction o using Internal.Op.casesOn with
  |sub=>exact aC q
  |add=>
   refine bN e (λe=>ax e λx e1 e=>ax e λy e2 e=>?_) λe=>bN e (λe=>ax e λl e1 e=>ax e λm e2 e=>?_) λe=>ax e λl e1 e=>ax e λm e2 e=>?_
   .obtain rfl:=iT e1;obtain rfl:=iT e2;obtain rfl:=ag e;refine aF ha ?_;rintro t rfl;refine aF hb ?_;rintro u rfl;exact W.Fa λh W=>PyProof.Rows.add_str (λt' tk=>W.now (am.tok I) ⟨t',ay (Value.str · t') (UK _ _)⟩) (au h iA)
   .obtain rfl:=gJ e1;obtain rfl:=gJ e2;obtain rfl:=ag e;refine aA ha ?_;rintro x vs rfl h1 h2;refine aA hb ?_;rintro y ws rfl h3 h4;exact d7 (kI I (h2.append h4) W) λz1 z2 z3=>GU h1 h3 (sb bA z1) z2 z3
   .obtain rfl:=ag e;refine aA (hU I ha e1) ?_;rintro x vs rfl h1 h2;refine aA (hU I hb e2) ?_;rintro y ws rfl h3 h4;exact GQ I h1 h2 h3 h4 _ _ W
theorem SO{i:Int}{n j:Nat}(h:EQ i n=some j):seqIndex? i n=some j/\j<n:=by
 unfold seqIndex?
 cases i with
 |ofNat k=>
  refine bk h λhk e=>?_
  obtain hk:k<n:=gm hk;obtain rfl:=ag e;refine⟨?_,hk⟩;have:¬ (Int.ofNat k<0):=by simp
  simp only[this,if_false]
  rw[ar (by simp;exact zR hk)];simp
 |negSucc k=>
  refine bk h λhk e=>?_
  obtain hk:k+1<=n:=eM hk;obtain rfl:=ag e;refine⟨?_,by exact Nat.sub_lt (bx (Nat.succ_pos _) hk) (Nat.succ_pos _)⟩;have:Int.negSucc k<0:=by exact by simp +arith
  simp only[this,if_true];refine aE (ar (by simp;exact HS hk)) ?_
  congr 1
  exact(ay Int.toNat (Int.subNatNat_eq_coe (m:=_) (n:=_+1))).trans (Int.toNat_sub _ (_+1))
theorem Rg{i:Int}(h:i.natAbs<=aK) : -(2 ^ 63)<=i:=Int.le_trans (Int.neg_le_neg (Int.ofNat_le.mpr (au h (by decide:aK<=2 ^ 63)))) (Int.neg_le_of_neg_le (sb (Int.natAbs_neg i) Int.le_natAbs))
theorem Rf{i:Int}(h:i.natAbs<=aK):i<2 ^ 63:=Int.lt_of_le_of_lt Int.le_natAbs (qR (Nat.lt_succ_of_le h))
def zv(x:PySem.Expr):Prop:=∀o i:Value,subscripted x false o i=operate [o,i] (getItem o i)
theorem UQ{o i:V}{vo vi:Value}{value slice:PySem.Expr}(I:ai X C ρ st s)(ho:av X s.heap ρ o vo)(hi:av X s.heap ρ i vi)(hs:zv slice) :
  bl X C ρ s (subscriptTail value slice vo vi) (pE o i st):=by
 intro Q E W;refine W.ob λv e W1=>ax e λi e1 e=>ax e λl e2 e=>bk e λhz e=>ax e λj e3 e4=>?_
 obtain rfl:=fH e1;refine aF hi ?_;rintro t rfl;refine aA (tJ I ho e2) ?_;rintro a vs rfl h1 h2;refine af (h2.get e4) λw g1 g2=>aL (SO e3) λp1 p2=>?_
 obtain h4:=iR (aD hz).2;obtain hq:Q w s:=W1.now (.refl I) g2;obtain ba:=h2.length;obtain b1 : -(2 ^ 63)<=i:=Rg h4;obtain b2:i<2 ^ 63:=Rf h4;rcases h1 with h1 | h1
 .exact item_tupleT h1 b1 b2 (tb ba p1) g1 hq (hs _ _)
 .refine tail_any h1.typeIs slot_list_getitem.lookup ?_ (hs _ _)
  cases i with
  |ofNat k=>
   refine bk e3 λhk e=>?_
   obtain rfl:=ag e
   exact wpAny_getItem_list h1 (Int.natCast_nonneg k) b2 (by simpa using g1) hq
  |negSucc k=>
   refine bk e3 λhk e=>?_
   obtain rfl:=ag e;refine wpAny_getItem_list_neg h1 (by simp +arith) (by simp[ba];exact Int.neg_le_neg (Int.ofNat_le.mpr (eM hk))) b1 ?_ hq;have:(Int.negSucc k+(vs.toArray.size:Int)).toNat=l.length - (k+1):=by simp[ba];exact(ay Int.toNat (Int.subNatNat_eq_coe (m:=_) (n:=_+1))).trans (Int.toNat_sub _ (_+1))
   rw[this];simpa using g1
end
end
section
section
theorem JN(i:Int)(n:Nat):pW i n<=n:=by
 unfold pW;cases i<;>simp<;>exact IJ
theorem nW{v:Option Int}{d n:Nat}(h:d<=n):cl v d n<=n:=by
 induction v using Option.casesOn with
 |none=>exact h
 |some i=>exact JN i n
theorem cA(n k:Nat):max (Int.negSucc k+(n:Int)) 0=((n - (k+1):Nat):Int):=by
 rw[<- Int.toNat_eq_max];exact ay _ ((ay Int.toNat (Int.subNatNat_eq_coe (m:=n) (n:=k+1))).trans (Int.toNat_sub n (k+1)))
theorem cB(n k:Nat):max 0 (min (Int.negSucc k+(n:Int)) n)=((n - (k+1):Nat):Int):=by
 rw[Int.min_eq_left (Int.add_le_of_le_sub_right (by rw[Int.sub_self];exact Int.le_of_lt (Int.negSucc_lt_zero k))),Int.max_comm,cA]
theorem cC(n k:Nat):(min (k:Int) n)=((min k n:Nat):Int):=by
 refine bR (Nat.le_total k n) (λh=>?_) (λh=>?_)
 .rw [iZ h];exact Int.min_eq_left (Int.ofNat_le.mpr h)
 .rw [Nat.min_eq_right h];exact Int.min_eq_right (Int.ofNat_le.mpr h)
theorem cD(n k:Nat):max 0 (min (k:Int) n)=((min k n:Nat):Int):=by
 rw[cC];exact Int.max_eq_right (Int.natCast_nonneg _)
theorem vJ(lo hi:Option Int)(n:Nat):sliceBounds lo hi none n=(((cl lo 0 n:Nat):Int),((cl hi n n:Nat):Int),1):=by
 have key:∀i:Int,(max 0 (min (if i<0 then i+(n:Int) else i) n))=(pW i n:Nat):=λi =>
  match i with
  |.ofNat k=>cD n k
  |.negSucc k=>by refine tb (ar (Int.negSucc_lt_zero k)) ?_;exact cB n k
 cases lo with
 |none=>cases hi with
  |none=>rfl
  |some j=>exact Prod.ext rfl (Prod.ext (key j) rfl)
 |some i=>cases hi with
  |none=>exact Prod.ext (key i) rfl
  |some j=>exact Prod.ext (key i) (Prod.ext (key j) rfl)
theorem SM(items:Array Value)(lo hi:Option Int):slicePick items lo hi none=((items.toList.take (cl hi items.size items.size)).drop (cl lo 0 items.size)).toArray:=by
 obtain hb:=vJ lo hi items.size
 obtain e:slicePick items lo hi none=slicePick items (some (cl lo 0 items.size:Nat)) (some (cl hi items.size items.size:Nat)) none:=by
  obtain kf:=vJ (some (cl lo 0 items.size:Nat)) (some (cl hi items.size items.size:Nat)) items.size
  obtain e1:cl (some ((cl lo 0 items.size:Nat):Int)) 0 items.size=cl lo 0 items.size:=by
   exact iZ (nW (cc _))
  have e2:cl (some ((cl hi items.size items.size:Nat):Int)) items.size items.size=cl hi items.size items.size:=by
   exact iZ (nW (bI _))
  rw[e1,e2] at kf;unfold slicePick;refine tb hb ?_;exact sb kf rfl
 refine aE e ?_
 by_cases h:cl lo 0 items.size<=cl hi items.size items.size
 .rw [slicePick_run _ _ _ (nW (bI _)) h,List.drop_take]
 .obtain kf:=vJ (some (cl lo 0 items.size:Nat)) (some (cl hi items.size items.size:Nat)) items.size;obtain e1:cl (some ((cl lo 0 items.size:Nat):Int)) 0 items.size=cl lo 0 items.size:=iZ (nW (cc _));obtain e2:cl (some ((cl hi items.size items.size:Nat):Int)) items.size items.size=cl hi items.size items.size:=iZ (nW (bI _));rw[e1,e2] at kf;unfold slicePick;rw[kf];dsimp only;unfold sliceRange;dsimp only;rw[ar (by decide),aj (HT h)];simp;exact au (Nat.min_le_left _ _) (Nat.le_of_not_le h)
theorem GX(lo hi:Option Int)(n:Nat):Builtin.Slice.sliceAdjust lo hi 1 (n:Int)=(((cl lo 0 n:Nat):Int),((cl hi n n:Nat):Int)):=by
 have key:∀i:Int,(if i<0 then max (i+(n:Int)) 0 else min i n)=(pW i n:Nat):=λi =>
  match i with
  |.ofNat k=>cC n k
  |.negSucc k=>by refine tb (ar (Int.negSucc_lt_zero k)) ?_;exact cA n k
 cases lo with
 |none=>cases hi with
  |none=>rfl
  |some j=>exact Prod.ext rfl (key j)
 |some i=>cases hi with
  |none=>exact Prod.ext (key i) rfl
  |some j=>exact Prod.ext (key i) (key j)
theorem SP(a b:Nat):Builtin.Slice.slicePlaces (a:Int) (b:Int) 1=b - a:=by
 unfold Builtin.Slice.slicePlaces;have h1:(1:Int)>0:=by decide
 simp only[h1,if_true,Int.ediv_one]
 split
 .exact (ay Int.toNat (Int.sub_add_cancel _ 1)).trans (Int.toNat_sub b a)
 .rename_i h;exact(Nat.sub_eq_zero_of_le (Nat.le_of_not_lt λk=>h (Int.ofNat_lt.mpr k))).symm
theorem EH{prog:Program}{w:World}{A:Around}{E:WB}{v:Value}{o:Option Int}{Q:Option Int->Shared->Prop}(p:IsPart v o)(h:Q o s):wpAny (model prog w) A (Builtin.Slice.slicePartIndex v) Q E s:=by
 cases p with
 |none=>exact slicePart_none h
 |int i t=>exact slicePart_int h
theorem G1{prog:Program}{w:World}{A:Around}{E:WB}{sl:Addr}{vl vu:Value}{lo hi:Option Int}{n:Nat}{Q:Int×Int×Nat->Shared->Prop}(hs:s.heap.IsSliceOf sl vl vu .none)(p1:IsPart vl lo)(p2:IsPart vu hi)(h:Q ((cl lo 0 n:Nat),1,cl hi n n - cl lo 0 n) s):wpAny (model prog w) A (Builtin.Slice.sliceApplied (.ref sl) (pure (n:Int))) Q E s:=by
 refine bE (id hs) λos qD jj sW=>ab (ab (ij qD sW (x:=vl) rfl (ab (ij qD sW (x:=vu) rfl (ab (ij qD sW (x:=.none) rfl (aq (ab (slicePart_none (bq (aj (by decide)) (ab (EH p1 (ab (EH p2 (ab (aq (?_:wpAny _ _ (match Builtin.Slice.sliceAdjust lo hi 1 (n:Int) with | (lo,hi)=>pure (lo,(1:Int),Builtin.Slice.slicePlaces lo hi 1)) _ _ s)))))))))))))))))
 rw[GX];refine(?_:wpAny _ _ (pure (((cl lo 0 n:Nat):Int),(1:Int),Builtin.Slice.slicePlaces (cl lo 0 n:Nat) (cl hi n n:Nat) 1)) _ _ s);rw[SP];exact aq h
theorem SJ(xs:List Value)(a k:Nat):((List.range k).filterMap λ(j:Nat)=>xs[((a:Int)+(j:Int)*1).toNat]?)=(xs.drop a).take k:=by
 obtain e:(λ(j:Nat)=>xs[((a:Int)+(j:Int)*1).toNat]?)=λj=>(xs.drop a)[j]? := by
  funext j
  have:((a:Int)+(j:Int)*1).toNat=a+j:=by exact(ay (λx=>((_:Int)+x).toNat) (Int.mul_one (_:Int))).trans rfl
  refine tb this ?_;exact sb (List.getElem?_drop) rfl
 rw[e]
 induction k with
 |zero=>simp
 |succ k ih=>
  rw[List.range_succ,List.filterMap_append,ih];refine bh List.take_add_one ?_
  congr 1
theorem Vr{prog:Program}{w:World}{A:Around}{E:WB}{t sl:Addr}{vs:List Value}{vl vu:Value}{lo hi:Option Int}{Q:WB}(ht:IsTup s.heap t vs.toArray)(hs:s.heap.IsSliceOf sl vl vu .none)(p1:IsPart vl lo)(p2:IsPart vu hi)(h1:∀a,IsTup s.heap a ((vs.take (cl hi vs.length vs.length)).drop (cl lo 0 vs.length)).toArray->Q (.ref a) s)(h2:Q (.ref s.heap.objs.size) {s with heap:=s.heap.push {cls:=.type "tuple",data:=.seq ((vs.take (cl hi vs.length vs.length)).drop (cl lo 0 vs.length)).toArray}})(cy:vs.length<=sizeLine):wpAny (model prog w) A (getItem (.ref t) (.ref sl)) Q E s:=by
 obtain sV:sizeOk (.seq ((vs.take (cl hi vs.length vs.length)).drop (cl lo 0 vs.length)).toArray):=by
  refine(?_:Array.size _<=sizeLine);rw[eL,List.length_drop,fN];exact au (Nat.sub_le _ _) (au (Nat.min_le_right _ _) cy)
 refine bE (id hs) λos qD jj sW=>?_
 obtain hTs:s.TypeIs (.ref sl) "slice" := (ao os qD jj)
 refine cR (ab (wpAny_sequenceKey ht.typeIs (by decide) ?_))
 refine ab (wpAny_callSpecial?_slot (name:=Str.ofString "__getitem__") ht.typeIs PyProof.Rows.slot_tuple_getitem
  (wpAny_call_entry PyProof.Rows.slot_tuple_getitem ht.typeIs PyProof.Rows.entry_tuple_getitem ?_ (PyProof.Rows.args_tuple_getitem _ _)))
 refine(?_:wpAny _ _ (Builtin.Tuple.tupleItemsOf (.ref t)>>=_) _ _ s);refine ab (tupleItemsOf_ ht ?_);refine ab (wpAny_typeOf hTs ?_);refine bq (ar (by decide)) ?_;refine ab (G1 (n:=vs.toArray.size) hs p1 p2 ?_);refine tb eL ?_
 obtain hp:(List.filterMap (λ(k:Nat)=>vs.toArray[(((cl lo 0 vs.length:Nat):Int)+(k:Int)*1).toNat]?) (List.range (cl hi vs.length vs.length - cl lo 0 vs.length))).toArray=((vs.take (cl hi vs.length vs.length)).drop (cl lo 0 vs.length)).toArray:=by
  have:=SJ vs (cl lo 0 vs.length) (cl hi vs.length vs.length - cl lo 0 vs.length);obtain this:=eU this (bU List.drop_take)
  simpa using this
 by_cases hw:(((cl lo 0 vs.length:Nat):Int)==0&&(1:Int)==1&&(cl hi vs.length vs.length - cl lo 0 vs.length)==vs.length)=true
 .show wpAny _ _ (if (((cl lo 0 vs.length:Nat):Int)==0&&(1:Int)==1&&(cl hi vs.length vs.length - cl lo 0 vs.length)==vs.toArray.size)=true then _ else _) _ _ s;rw[eL,ar hw]
  obtain hq:IsTup s.heap t ((vs.take (cl hi vs.length vs.length)).drop (cl lo 0 vs.length)).toArray:=by
   simp only[bQ,beq_iff_eq] at hw;obtain e1:cl lo 0 vs.length=0:=by exact Int.ofNat.inj hw.1.1
   have e2:cl hi vs.length vs.length=vs.length:=by
    have:=nW (v:=hi) (bI vs.length);exact HU hw
   rw[e1,e2];simpa using ht
  exact ab (ab (wpAny_typeOf ht.typeIs (aq (bq (ar (by decide)) (ab (wpAny_rule (aq (ao _ rfl (aq (h1 t hq))))))))))
 .show wpAny _ _ (if (((cl lo 0 vs.length:Nat):Int)==0&&(1:Int)==1&&(cl hi vs.length vs.length - cl lo 0 vs.length)==vs.toArray.size)=true then _ else _) _ _ s;rw[eL,aj hw];refine tb hp ?_
  first
   |exact ab (m:=Builtin.Tuple.tupleExact _) (fJ (aq (ao _ rfl (aq h2))) sV)
   |exact ab (m:=Builtin.Tuple.tupleExact _) (fJ (ab (aq (aq ⟨_,rfl,aq h2⟩))) sV)
   |exact ab (ab (m:=Builtin.Tuple.tupleExact _) (fJ (aq (aq ⟨_,rfl,aq h2⟩)) sV))
   |exact ab (ab (m:=Builtin.Tuple.tupleExact _) (fJ (aq ⟨_,rfl,aq h2⟩) sV))
theorem GD{v:V}{val:Value}{i:Int}{h:Heap}(e:v=.int i)(r:av X h ρ v val):IsPart val (some i):=by
 subst e;dsimp only[av] at r;refine aF r ?_;rintro t rfl;exact .int i t
def ma(X:Sx)(h:Heap)(ρ:List Addr):Option V->Value->Prop
 |none,v=>v=.none
 |some x,v=>av X h ρ x v
theorem Ag{b:Option V}{vb:Value}{hh:Heap}{o:Option Int}(r:ma X hh ρ b vb)(e:sg b=some o):IsPart vb o:=by
 induction b using Option.casesOn with
 |none=>obtain rfl:=ag e;obtain rfl:vb=.none:=r;exact .none
 |some x=>refine ax e λi e1 e=>bk e λY e=>?_;obtain rfl:=ag e;exact GD (fH e1) r
theorem FI{l u:Option PySem.Expr}{p:Pos}{o i:Value}:subscripted (.Slice l u none p) false o i=operate [i,o] (getItem o i):=rfl
theorem US{l u:Option PySem.Expr}{e:PySem.Expr}{p:Pos}{o i:Value}:subscripted (.Slice l u (some e) p) false o i=operate [o,i] (getItem o i):=rfl
theorem Ua{o:V}{lo hi:Option V}{vo pJ pI:Value}{value:PySem.Expr}{l u:Option PySem.Expr}{p:Pos}(I:ai X C ρ st s)(ho:av X s.heap ρ o vo)(r1:ma X s.heap ρ lo pJ)(r2:ma X s.heap ρ hi pI) :
  ∀Q E,aG X C ρ s (av X) (py o lo hi false st) Q E->
   wpAny (model X.prog X.w) C.A (subscriptTail value (.Slice l u none p) vo (.ref s.heap.objs.size)) Q E {s with heap:=s.heap.push {cls:=.type "slice",data:=.fields #[pJ,pI,.none]}}:=by
 intro Q E W;obtain hk:∀b o,s.heap.get? b=some o->(s.heap.push {cls:=.type "slice",data:=.fields #[pJ,pI,.none]}).get? b=some o:=λb o e=>bn _ e
 have A1:am X C ρ s st ρ {s with heap:=s.heap.push {cls:=.type "slice",data:=.fields #[pJ,pI,.none]}}:=am.quiet (t':=s.toks) I hk (by simp);obtain kv:=A1.bB I;obtain W:=W.after A1;obtain I1:=A1.inv;obtain ti:=ho.mono kv;obtain tu:(s.heap.push {cls:=.type "slice",data:=.fields #[pJ,pI,.none]}).IsSliceOf s.heap.objs.size pJ pI .none:=Heap.IsSliceOf.new ..;refine W.ob λm e W2=>ax e λa ea e=>ax e λb eb e=>?_
 obtain p1:=Ag r1 ea;obtain p2:=Ag r2 eb;refine bN e (λe=>ax e λxs e1 e=>bk e λh e=>?_) λe=>ax e λxs e1 e=>bk e λh e=>?_
 .obtain rfl:=ag e;obtain rfl:=gJ e1;refine aA ti ?_;rintro t vs rfl h1 h2;obtain q:=kI I1 ((h2.take (cl b xs.length xs.length)).drop (cl a 0 xs.length)) W2;obtain q:=h2.length▸q;exact tail_any h1.typeIs PyProof.Rows.slot_tuple_getitem.lookup (Vr h1 tu p1 p2 q.2.1 q.2.2 (au (cb h2.length) (au (iR h) iA))) FI
 .obtain rfl:=ag e;refine aA (hU I1 ti e1) ?_;rintro t vs rfl h1 h2;obtain q:=pu I1 ((h2.take (cl b xs.length xs.length)).drop (cl a 0 xs.length)) W2;obtain q:=h2.length▸q;refine tail_any h1.typeIs slot_list_getitem.lookup (wpAny_getItem_list_slice h1 tu p1 p2 .none (by decide) ?_ (au (cb h2.length) (au (iR h) iA))) FI;rw[SM];exact q.2
theorem Ub{o:V}{vo:Value}{value e:PySem.Expr}{l u:Option PySem.Expr}{p:Pos}{t:Tok}(I:ai X C ρ st s)(ho:av X s.heap ρ o vo) :
  ∀Q E,aG X C ρ s (av X) (py o none none true st) Q E->
   wpAny (model X.prog X.w) C.A (subscriptTail value (.Slice l u (some e) p) vo (.ref s.heap.objs.size)) Q E {s with heap:=s.heap.push {cls:=.type "slice",data:=.fields #[.none,.none,.int (-1) t]}}:=by
 intro Q E W;obtain hk:∀b o,s.heap.get? b=some o->(s.heap.push {cls:=.type "slice",data:=.fields #[.none,.none,.int (-1) t]}).get? b=some o:=λb o e=>bn _ e
 have A1:am X C ρ s st ρ {s with heap:=s.heap.push {cls:=.type "slice",data:=.fields #[.none,.none,.int (-1) t]}}:=am.quiet (t':=s.toks) I hk (by simp);obtain kv:=A1.bB I;obtain W:=W.after A1;obtain I1:=A1.inv;obtain ti:=ho.mono kv;obtain tu:(s.heap.push {cls:=.type "slice",data:=.fields #[.none,.none,.int (-1) t]}).IsSliceOf s.heap.objs.size .none .none (.int (-1) t):=Heap.IsSliceOf.new ..;refine W.ob λm e W2=>ax (o:=cI st o) (f:=λl=>cond (small l.length) (some (cM l.reverse)) none) e λxs e1 e=>bk e λh e=>?_
 obtain rfl:=ag e;refine aA (hU I1 ti e1) ?_;rintro y vs rfl h1 h2;refine tail_any h1.typeIs slot_list_getitem.lookup (wpAny_getItem_list_slice h1 tu .none .none (.int _ _) (by decide) ?_ (au (cb h2.length) (au (iR h) iA))) US;rw[krv_pick];exact(pu I1 h2.reverse W2).2
end
end
section
open Builtin Builtin.ObjectAttr
section
theorem DK(Z:aU X)(x y:Nat):(X.nm y==X.nm x)=Nat.beq y x:=by
 refine bh (dh _ _) ?_
 by_cases h:y=x
 .subst h;simp
 .refine bh (dJ h) ?_;exact beq_eq_false_iff_ne.mpr λq=>h (Z.nm _ _ q)
theorem Ry(Z:aU X){h:Heap}:∀{es:List (Nat×V)} {ds:List DictEntry} {x:Nat},eN X h ρ es ds->
  (match aw es x with
   |some v=>∃e,ds.find? (λe=>e.key.isStr (X.nm x))=some e/\av X h ρ v e.val
   |none=>ds.find? (λe=>e.key.isStr (X.nm x))=none):=by
 intro x9
 induction x9 with
 |nil=>
  intro ds x r
  exact tb (show _=[] from r) rfl
 |cons q0 es ih=>
  obtain⟨y,v⟩:=q0;intro ds x r;refine fK r ?_;rintro t val ds' rfl h1 h2;obtain ih:=ih (x:=x) h2;rw[QI];obtain hk:Value.isStr (.str (X.nm y) t) (X.nm x)=Nat.beq y x:=DK Z x y
  cases q:Nat.beq y x with
  |true=>exact ao _ (by rw[List.find?_cons,hk,q]) h1
  |false=>
   dsimp only;refine tb (List.find?_cons) ?_;refine tb hk ?_;refine tb q ?_
   cases q2:aw es x with
   |none=>obtain ih:=iD ih q2;exact ih
   |some w=>obtain ih:=iD ih q2;exact ih
theorem yj{h:Heap}:∀{es:List (Nat×V)} {ds:List DictEntry},eN X h ρ es ds->ds.any (·.refKey)=false/\ds.length=es.length:=by
 intro x9
 induction x9 with
 |nil=>
  intro ds r
  exact tb (show _=[] from r) ⟨rfl,rfl⟩
 |cons q0 es ih=>
  obtain⟨y,v⟩:=q0;intro ds r;refine fK r ?_;rintro t val ds' rfl h1 h2;obtain a:=(ih h2).1;obtain b:=(ih h2).2;exact⟨by rw[List.any_cons];exact sb a rfl,by simp[b]⟩
theorem DP(Z:aU X){h:Heap}{es:List (Nat×V)}{ds:List DictEntry}{x:Nat}{o:Obj}{n:Nat}(r:eN X h ρ es ds)(hd:o.data=.dict ds.toArray n) :
  match aw es x with
   |some v=>∃val,lookIn (X.nm x) o=some (some val)/\av X h ρ v val
   |none=>lookIn (X.nm x) o=some none:=by
 obtain q:=Ry Z (x:=x) r;obtain k:=(yj r).1;unfold lookIn;refine tb hd ?_;dsimp only
 cases e:aw es x with
 |some v=>obtain q:=iD q e;refine af q λen q1 q2=>?_;refine tb q1 ?_;exact ao _ rfl q2
 |none=>obtain q:=iD q e;refine tb q ?_;refine tb k ?_;rfl
theorem Tb(Z:aU X){h:Heap}{x:Nat}{v:V}{val:Value}{t:Tok}(hv:av X h ρ v val):∀{es:List (Nat×V)} {ds:List DictEntry},eN X h ρ es ds->
  eN X h ρ (aI es x v) (putL (X.nm x) (PyData.keyHash X.w.params (X.nm x)) (.str (X.nm x) t) val ds):=by
 intro x9
 induction x9 with
 |nil=>
  intro ds r;obtain rfl:ds=[]:=r
  exact jr t val ([]) rfl hv rfl
 |cons q0 es ih=>
  obtain⟨y,u⟩:=q0;intro ds r;refine fK r ?_;rintro t' val' ds' rfl h1 h2;rw[Fk];unfold putL;obtain hk:Value.isStr (.str (X.nm y) t') (X.nm x)=Nat.beq y x:=DK Z x y;rw[hk]
  cases q:Nat.beq y x with
  |true=>
   exact bh (ar rfl) (jr t' val ds' rfl hv h2)
  |false=>
   exact bh (aj il) (jr t' val' _ rfl h1 (ih h2))
theorem ai.CS(I:ai X C ρ st s){k d c:Nat}{v:Value}{es:List (Nat×V)}(h:av X s.heap ρ (.ref k) v)(e:st.tr.get k=some (.inst c d))(ed:st.tr.get d=some (.ns es)) :
  ∃a x ob ds n,v=.ref a/\ρ[k]?=some a/\ρ[d]?=some x/\s.heap.get? x=some (dictOf ds n)/\eN X s.heap ρ es ds/\InstAt s.heap a ob (X.ad c) (some (dictOf ds n))/\ob.dict=some x/\ob.data=.plain/\X.P.exc c=false/\(X.P.init c).isSome=true:=by
 refine cps λG kG=>?_
 refine fq (I.gO h) ?_;rintro a o ob rfl h1 h2 h3 h4;rw[e] at h2;obtain rfl:=ag h2;refine fX h4 ?_;rintro g1;intro q0;refine af q0 ?_;clear q0;rintro x g2 g3 g4 g5 g6;refine aA (I.obj d x g2) λo' ob' k1 k2 k3=>?_
 rw[ed] at k1;obtain rfl:=ag k1;obtain⟨p1,p2,p3,ds,n,p4,p5⟩:=k3;refine kG ?_
 obtain ho:ob'=dictOf ds n:=by
  obtain⟨c',d',dt,sl⟩:=ob';simp only at p1 p2 p3 p4;subst p1 p2 p3 p4;rfl
 subst ho;exact⟨a,x,ob,ds,n,rfl,h1,g2,k2,p5,⟨h3,g1,by unfold notCls;exact tb g4 rfl,by refine tb g3 ?_;exact k2⟩,g3,g4,g5,g6⟩
theorem aU.gZ(Z:aU X)(I:ai X C ρ st s):X.K.In s.heap:=Z.CK.keeps I.stay
theorem wQ{h:Heap}{v:V}{val:Value}(r:av X h ρ v val):handedIn val=true:=by
 induction v using Internal.V.casesOn with
 |blt n=>dsimp only[av] at r;subst r;exact Jn (P:=λb=>handedIn (.builtin b)=true) (by decide +kernel) (by decide +kernel) (by decide +kernel)
 |tup l=>refine ci r ?_;rintro a vs rfl Y;rfl
 |fl l=>refine ci r ?_;rintro a vs rfl Y;rfl
 |bg n=>refine zq r ?_;rintro a Y Y Y rfl Y;rfl
 |ref k=>dsimp only[av] at r;refine af r ?_;rintro a rfl Y;rfl
 |int i=>dsimp only[av] at r;refine aF r ?_;rintro t rfl;rfl
 |str i=>dsimp only[av] at r;refine aF r ?_;rintro t rfl;rfl
 |bytes i=>dsimp only[av] at r;refine aF r ?_;rintro t rfl;rfl
 |any=>exact r
 |tok i=>dsimp only[av] at r;exact r.2
 |_=>dsimp only[av] at r;subst r;rfl
theorem Tj(self:Value){l:List Value}(e:ri l=true):refuseLoop self "__setattr__" l=pure () :=
 ED (P:=λl=>refuseLoop self "__setattr__" l=pure ()) (PySem.F.store_Exception.passes self) (λc r h=>by rw[refuseLoop_ref];exact h) e
theorem Br{l:List Value}(e:ri l=true):l.contains (.type "object")=true/\l.contains (.type "BaseException")=true :=
 ED (P:=λl=>l.contains (.type "object")=true/\l.contains (.type "BaseException")=true) ⟨by decide +kernel,by decide +kernel⟩ (λc r q9=>aL q9 λa b=>⟨by rw[nI,a,Bool.or_true],by rw[nI,b,Bool.or_true]⟩) e
def la(K:Frag)(C:Addr):Prop:=∃cd,clsIn K C=some cd/\cd.mro.isEmpty=false/\cd.mro.contains (.type "object")=true/\∀self,refuseLoop self "__setattr__" cd.mro=pure ()
theorem la.plain{K:Frag}{C:Addr}(h:plainOver K C=true):la K C:=by
 exact af (any_some h) λcd hc ho=>QL cd hc (by cases q:cd.mro with | nil=>rw[q] at ho;cases ho | cons _ _=>rfl) (only_has ho) (λself=>refuse_only self ho)
theorem la.exc{K:Frag}{C:Addr}(h:sF K C=true):la K C:=by
 exact af (any_some h) λcd hc ho=>⟨cd,hc,by cases q:cd.mro with | nil=>replace ho:=q▸ho;cases ho | cons _ _=>rfl,(Br ho).1,λself=>Tj self ho⟩
theorem EC{prog:Program}{w:World}{A:Around}{K:Frag}{a Cl:Addr}{ox:Obj}{od:Option Obj}{name:Str}{tk:Tok}{v:Value}{r:Option Value}{R:Result->Shared->Prop}(XK:K.In s.heap)(I:InstAt s.heap a ox Cl od)(hp:la K Cl)(ht:takerIn K Cl name=some r)(h:∀b,wpAny (model prog w) A.in1 (match r with | some t=>setByDescriptor t (.ref a) v | none=>storeInOwnDict (.ref a) (.ref Cl) (.str name tk) name v b)
   (λfin s'=>match fin with | .done f=>R (.ok f) s' | .again c'=>c'.quiet=true/\codeAny (model prog w) A c' R s') (λe s'=>R (.error e) s') s) :
  codeAny (model prog w) A (.call (.builtin "object.__setattr__") ⟨[.ref a,.str name tk,v],[]⟩) R s:=by
 obtain SF:=PySem.F.store_object;refine zn hp λcd hc ne ho Pw=>?_
 obtain sub:Looks (model prog w) s.heap (isInstance (.ref a) (.type "object")) true:=I.type.andThen (looks_mroIn XK (by unfold mroIn;refine tb hc ?_;rw[Option.bind_some,aj (by rw[ne];decide),ho]));refine codeAny_call_builtin SF.slot.plain SF.entry (@check_slot (model prog w) _ _ s "object.__setattr__" "object" "__setattr__" (.ref a) [.str name tk,v] [] _ SF.kind SF.split sub (SF.args (.ref a) (.str name tk) v) (af (Option.bind_eq_some_iff.mp ht) λattr ha hr=>?_));obtain hm:Looks (model prog w) s.heap (mroOf (.ref Cl)) cd.mro:=(looks_clsIn XK hc).andThen .now
 obtain L3:Looks (model prog w) s.heap (storeTaker? attr) r:=by
  induction attr using Option.casesOn with
  |none=>refine ck (ag hr) ?_;exact .now
  |some t=>
   refine af (Option.map_eq_some_iff.mp hr) λb hb qq=>?_;refine ck qq ((looks_takesIn XK hb).andThen ?_)
   cases b<;>exact .now
 rw[osa_eq,refuse_eq];exact ab (ab (I.type.here (ab (hm.here (bq (Pw _) (aq (ab (I.type.here (ab ((looks_findIn XK ha).here (ab (L3.here (h _)))))))))))))
theorem UH{prog:Program}{w:World}{A:Around}{K:Frag}{a x Cl:Addr}{ox:Obj}{ds:List DictEntry}{n:Nat}{name:Str}{v:Value}{E:WB}{Q:Unit->Shared->Prop}(XK:K.In s.heap)(I:InstAt s.heap a ox Cl (some (dictOf ds n)))(hx:ox.dict=some x)(hs:findIn K (.ref Cl) "__setattr__" = some (some (.builtin "object.__setattr__")))(hp:la K Cl)(ht:findIn K (.ref Cl) name=some none)(hh:hasDictIn K Cl=true)(hr:ds.any (·.refKey)=false)(hz:ds.length<=1000)(h:∀tk tk',Q () {s with heap:=s.heap.update x (Obj.putName name (PyData.keyHash w.params name) (.str name tk) v),toks:=tk'}) :
  wpAny (model prog w) A (PySem.setAttr (.ref a) name v) Q E s:=by
 obtain⟨hh',gg,v5,ii,os⟩:=s;change K.In hh' at XK;change InstAt hh' a ox Cl _ at I;refine set_plain XK I hs ?_;obtain ht':takerIn K Cl name=some none:=by unfold takerIn;rw[ht];rfl
 refine EC XK I hp ht' λb=>cps λG kG=>af (any_some hh) λcd hc hd'=>?_
 obtain⟨PL,dj,hn,dk⟩:=I;rw[hx] at dk;have D:hh'.get? x=some (dictOf ds n):=dk;obtain⟨oc,odi,oda,osl⟩:=ox;refine kG ?_;dsimp only at dj hx;subst dj hx;refine ab (aq (ab (ab (wpAny_loadPart PL (ab ((looks_clsIn XK hc).here ?_))))));rw[hd'];refine aq (a:=some x) (ab (aq (ab (ab (ab (nF (aq (ab (wpAny_mkText (ab (wpAny_loadPart D ?_)))))))))));dsimp only
 obtain c:(!ds.toArray.any (·.key.isStr name)&&ds.toArray.any (·.refKey))=false:=by
  refine sb Array.any_toList ?_;rw[<- Array.any_toList];rw[hr,Bool.and_false]
 rw[aRefKeyMayBeTheName_at,c];refine wpAny_updatePart D ?_
 obtain D':(hh'.update x (Obj.putName name (PyData.keyHash w.params name) (.str name (ii+1)) v)).get? x=some (dictOf (putL name (PyData.keyHash w.params name) (.str name (ii+1)) v ds) (putN name ds n)):=by
  rw[<- putName_dict];exact eI _ D (by rw[putName_dict];rfl)
 obtain hz':(putL name (PyData.keyHash w.params name) (.str name (ii+1)) v ds).length<=1001:=by
  have:∀l:List DictEntry,(putL name (PyData.keyHash w.params name) (.str name (ii+1)) v l).length<=l.length+1:=by
   intro l
   induction l with
   |nil=>simp[putL]
   |cons e r ih=>unfold putL;split<;>simp<;>exact HV ih
  have:=this ds;exact au this (dg hz)
 refine ab (wpAny_lookBehind (s:={gens:=gg,drawn:=v5,os:=os,heap:=hh'.update x (Obj.putName name (PyData.keyHash w.params name) (.str name (ii+1)) v),toks:=ii+1+1}) D' (pastItsLine_dict (by refine tb eL ?_;refine tb iQ ?_;exact au hz' c9)) ?_);exact aq (h _ _)
end
end
section
open Builtin Builtin.ObjectAttr
theorem Qj:builtinKind "BaseException.__getattribute__" = some .slot:=by decide +kernel
theorem Uo:splitId "BaseException.__getattribute__" = some ("BaseException", "__getattribute__"):=by decide +kernel
theorem SW:plainId "BaseException.__getattribute__" = true:=by decide +kernel
theorem Jl(self:Value):bindSpecial (.builtin "BaseException.__getattribute__") self=pure (.builtin "BaseException.__getattribute__",[self]):=PySem.F.excAttr_ValueError.ga.bind self
section
variable {prog:Program}{w:World}{A:Around}{E:WB}{s:Shared}{K:Frag}{x Cl:Addr}{ox:Obj}{od:Option Obj}{name:Str}{expr:Bool}{Q:WB}
theorem Nl{v:Value}(XK:K.In s.heap)(I:InstAt s.heap x ox Cl od)(OL:findIn K (.ref Cl) "__getattribute__" = some (some (.builtin "BaseException.__getattribute__")))(OO:findIn K (.ref Cl) "__getattr__" = some none)(hp:sF K Cl=true)(hf:findObj K Cl od name=some (.value v))(hh:handedIn v=true)(h:Q v {s with toks:=s.toks+1}):wpAny (model prog w) A (PySem.getAttr (.ref x) name expr) Q E s:=by
 obtain⟨hh',g,d,t,os⟩:=s;change K.In hh' at XK;refine af (any_some hp) λcd hc hm=>?_
 obtain ne:cd.mro.isEmpty=false:=by cases q:cd.mro with | nil=>replace hm:=q▸hm;cases hm | cons _ _=>rfl
 have L0:=I.type (M:=model prog w);obtain L1:=looks_findIn (M:=model prog w) XK OL;obtain L2:=looks_findIn (M:=model prog w) XK OO;obtain L3:=looks_find (M:=model prog w) XK I hf;obtain sub:Looks (model prog w) hh' (isInstance (.ref x) (.type "BaseException")) true:=L0.andThen (looks_mroIn XK (by unfold mroIn;refine tb hc ?_;rw[Option.bind_some,aj (by rw[ne];decide),(Br hm).2]));refine ab (wpAny_mkText (cR (ab (L0.at (ab (L1.at (ab (m:=hookBefore (.ref Cl)) (L2.at (ab (wpAny_attempt (cR ?_)))))))))));obtain e:callGetattribute (.ref x) (.str name t) (.builtin "BaseException.__getattribute__") expr=boundAndCalled (.builtin "BaseException.__getattribute__") (.ref x) (.str name t):=by cases expr<;>rfl
 refine bq e ?_;unfold boundAndCalled;rw[Jl];exact ab (aq (wpAny_call (codeAny_call_builtin SW PySem.F.entry_bexc_ga (@check_slot (model prog w) _ _ _ "BaseException.__getattribute__" "BaseException" "__getattribute__" (.ref x) [.str name t] [] _ Qj Uo sub (PySem.F.args_bexc_ga _ _) (ab (aq (ab (aq (ab (L0.at (ab (L3.at (aq (bq (handedOut_of hh) (aq h):wpAny _ _ (handedOut v) _ _ _))))))))))))))
end
section
theorem ai.EE(I:ai X C ρ st s){k d c:Nat}{v:Value}{es:List (Nat×V)}(h:av X s.heap ρ (.ref k) v)(e:st.tr.get k=some (.inst c d)\/st.tr.get k=some (.exc c (some d)))(ed:st.tr.get d=some (.ns es)) :
  ∃a x ob ds n,v=.ref a/\ρ[k]?=some a/\ρ[d]?=some x/\s.heap.get? x=some (dictOf ds n)/\eN X s.heap ρ es ds/\InstAt s.heap a ob (X.ad c) (some (dictOf ds n))/\ob.dict=some x/\(X.P.init c).isSome=true:=by
 refine bR e (λe=>?_) (λe=>?_)
 .refine Gl (I.CS h e ed) ?_;rintro a x ob ds n h1 h2 h3 h4 h5 h6 h7 Y Y h8;exact Dw a x ob ds n h1 h2 h3 h4 h5 h6 h7 h8
 .refine cps λG kG=>?_
  refine fq (I.gO h) ?_;rintro a o ob rfl h1 h2 h3 h4;rw[e] at h2;obtain rfl:=ag h2;obtain⟨g1,⟨x,g2,g3⟩,⟨g4,g5⟩,vs,g6,Y⟩:=h4;refine aA (I.obj d x g2) λo' ob' k1 k2 k3=>?_
  rw[ed] at k1;obtain rfl:=ag k1;obtain⟨p1,p2,p3,ds,n,p4,p5⟩:=k3;refine kG ?_
  obtain ho:ob'=dictOf ds n:=by
   obtain⟨c',d',dt,sl⟩:=ob';simp only at p1 p2 p3 p4;subst p1 p2 p3 p4;rfl
  subst ho;exact Dw a x ob ds n rfl h1 g2 k2 p5 ⟨h3,g1,by unfold notCls;exact tb g6 rfl,by refine tb g3 ?_;exact k2⟩ g3 g5
set_option tactic.hygienic true in
theorem vV{k:Nat}{f:Nat×Nat->Mo γ}{st:St}:(lh k>>=f) st=match st.tr.get k with | some (.inst c d)=>f (c,d) st | some (.exc c (some d))=>f (c,d) st | _=>none:=by
 refine(?_:Mo.bind (lh k) f st=_);unfold Mo.bind lh;refine tb mA ?_
 cases st.tr.get k with
 |none=>rfl
 |some o=>cases o<;>first | rfl | (rename_i c d;cases d<;>rfl)
theorem Nj(Z:aU X){o:V}{x:Nat}{ov:Value}{expr:Bool}(I:ai X C ρ st s)(hr:av X s.heap ρ o ov):bl X C ρ s (PySem.getAttr ov (X.nm x) expr) (getAttr X.P o x st):=by
 intro Q E W;unfold getAttr at W
 induction o using Internal.V.casesOn with
 |ref k=>
  dsimp only at W;obtain W:=W.at vV
  obtain⟨c,d,hk,W⟩:∃c d,(st.tr.get k=some (.inst c d)\/st.tr.get k=some (.exc c (some d)))/\aG X C ρ s (av X) (qm X.P x (c,d) st) Q E:=by
   cases g:st.tr.get k with
   |none=>obtain W:=g▸W;exact(W:False).elim
   |some o=>
    obtain W:=g▸W
    induction o using Internal.O.casesOn with
    |inst c d=>exact aT c d (.inl rfl) W
    |exc c d=>induction d using Option.casesOn with
     |some d=>exact aT c d (.inr rfl) W
     |none=>exact(W:False).elim
    |_=>exact(W:False).elim
  unfold qm at W
  cases ha:X.P.at_ c x with
  |false=>rw[ha] at W;exact(W:False).elim
  |true=>
   rw[ha] at W;dsimp only at W;replace W:=W.at mA;refine bX (st.tr.get d) (λgd=>?_) λod gd=>?_
   .obtain W:=gd▸W;exact(W:False).elim
   .
    obtain W:=gd▸W
    induction od using Internal.O.casesOn with
    |ns es=>
     dsimp only at W
     cases hl:aw es x with
     |none=>obtain W:=hl▸W;exact(W:False).elim
     |some v=>
      obtain W:=hl▸W;refine Gm (I.EE hr hk gd) ?_;rintro a y ob ds n rfl h1 h2 h3 h4 h5 h6 h7;obtain q:=DP Z (x:=x) (o:=dictOf ds n) h4 rfl;obtain q:=iD q hl;refine af q λval q1 q2=>?_
      obtain hq:Q val {s with toks:=s.toks+1}:=W.now (am.tok I) q2;refine gn (X.P.exc c) (λhe=>?_) λhe=>?_
      .
       have c1:=Z.cls c h7 he;exact get_value (Z.gZ I) h5 c1.ga (findObj_own c1.hd (c1.at_ x ha) rfl q1) (wQ q2) hq
      .
       have c1:=Z.exc c h7 he
       exact Nl (Z.gZ I) h5 c1.ga c1.gt c1.po (findObj_own c1.hd (c1.at_ x ha) rfl q1) (wQ q2) hq
    |_=>exact(W:False).elim
 |_=>exact(W:False).elim
theorem T0(Z:aU X){k:Nat}{v:V}{x:Nat}{ov val:Value}(I:ai X C ρ st s)(hr:av X s.heap ρ (.ref k) ov)(hv:av X s.heap ρ v val):nO X C ρ s (PySem.setAttr ov (X.nm x) val) ((do nv X.P x v (<- lh k):Mo Unit) st):=by
  intro Q E W;obtain W:=W.at vV
  obtain⟨c,d,hk,W⟩:∃c d,(st.tr.get k=some (.inst c d)\/st.tr.get k=some (.exc c (some d)))/\aG X C ρ s (λY Y Y Y=>True) (nv X.P x v (c,d) st) Q E:=by
   cases g:st.tr.get k with
   |none=>obtain W:=g▸W;exact(W:False).elim
   |some o=>
    obtain W:=g▸W
    induction o using Internal.O.casesOn with
    |inst c d=>exact aT c d (.inl rfl) W
    |exc c d=>induction d using Option.casesOn with
     |some d=>exact aT c d (.inr rfl) W
     |none=>exact(W:False).elim
    |_=>exact(W:False).elim
  unfold nv at W
  cases ha:X.P.at_ c x with
  |false=>rw[ha] at W;exact(W:False).elim
  |true=>
   rw[ha] at W;dsimp only at W;replace W:=W.at mA;refine bX (st.tr.get d) (λgd=>?_) λod gd=>?_
   .obtain W:=gd▸W;exact(W:False).elim
   .
    obtain W:=gd▸W
    induction od using Internal.O.casesOn with
    |ns es=>
     dsimp only at W;rw[pv] at W
     by_cases hz:es.length*2000<=aK
     .replace W:=W.at (ar hz);unfold cW at W;obtain W:=gd▸W;obtain aQ:Nat.ble st.lo d=true:=by cases aQ:Nat.ble st.lo d with | true=>rfl | false=>rw[aQ] at W;exact(W:False).elim
      obtain W:=aQ▸W;refine Gm (I.EE hr hk gd) ?_;rintro a y ob ds n rfl h1 h2 h3 h4 h5 h6 h7
      obtain c1:findIn X.K (.ref (X.ad c)) "__setattr__" = some (some (.builtin "object.__setattr__"))/\la X.K (X.ad c)/\findIn X.K (.ref (X.ad c)) (X.nm x)=some none/\hasDictIn X.K (X.ad c)=true:=by
       refine gn (X.P.exc c) (λhe=>?_) λhe=>?_
       .have c1:=Z.cls c h7 he;exact⟨c1.sa,.plain c1.po,c1.at_ x ha,c1.hd⟩
       .have c1:=Z.exc c h7 he;exact⟨c1.sa,.exc c1.po,c1.at_ x ha,c1.hd⟩
      obtain k1:=(yj h4).1;obtain k2:=(yj h4).2;refine UH (Z.gZ I) h5 h6 c1.1 c1.2.1 c1.2.2.1 c1.2.2.2 k1 (by refine aR k2 ?_;unfold aK at hz;exact ak [_] 1 0x6087d09807d095008091f4170 rfl hz) λtk tk'=>?_
      obtain D:(s.heap.update y (Obj.putName (X.nm x) (PyData.keyHash X.w.params (X.nm x)) (.str (X.nm x) tk) val)).get? y=some (dictOf (putL (X.nm x) (PyData.keyHash X.w.params (X.nm x)) (.str (X.nm x) tk) val ds) (putN (X.nm x) ds n)):=by
       rw[<- putName_dict];exact eI _ h3 (by rw[putName_dict];rfl)
      refine W.now (am.cW (o:=.ns (aI es x v)) I (λb o hb e=>?_) (by simp) h2 aQ gd (.inl λY Y=>nofun) D λkv=>?_) trivial
      .refine ck e ?_;exact kV _ _ _ _ hb
      .exact ⟨rfl,rfl,rfl,_,_,rfl,Tb Z (hv.mono kv) (eN.mono kv h4)⟩
     .rw [aj hz] at W;exact(W:False).elim
    |_=>exact(W:False).elim
end
end
section
noncomputable def oj(a:Bool)(op:BoolOp):Bool:=match a,op with | true,.And=>true | false,.Or=>true | _,_=>false
noncomputable def nN(X:Sx)(h:Heap)(ρ:List Addr):List aN->List V->List (Value×Value)->Prop
 |[],l,ps=>l=[]/\ps=[]
 |k::ks,l,ps=>∃t v val l' ps',l=v::l'/\ps=(.str (aJ k) t,val)::ps'/\av X h ρ v val/\nN X h ρ ks l' ps'
def rL(Q:WB)(E:WB)(r:Result)(s':Shared):Prop:=match r with | .ok (.ret v)=>Q v s' | .ok _=>False | .error e=>E e s'
def mc(X:Sx)(C:bw)(ρ:List Addr)(s:Shared)(c:Code)(bt:Option (a9 V)):Prop:=∀Q E,aG X C ρ s (av X) bt Q E->codeAny (model X.prog X.w) C.A c (rL Q E) s
theorem mc.call{X:Sx}{C:bw}{ρ:List Addr}{s:Shared}{f:Value}{vs:List Value}{bt:Option (a9 V)}(h:mc X C ρ s (.call f ⟨vs,[]⟩) bt):bl X C ρ s (PySem.call f vs) bt :=
 λQ E W=>wpAny_call (codeAny_mono (h Q E W) λr s' z=>by rcases r with e | (_ | _ | _ | v)<;>exact z)
def Gq(x:PySem.Expr):Prop:=∀(rest:List PySem.Expr) (env:Env),starEach (x::rest) env=(false,eval x env)::starEach rest env
def Gp(x:PySem.Expr):Prop:=∀(env:Env) (v:Value),foldedSetIterable x env v=pure v
def zt(x:PySem.Expr):Prop:=∀(a:Str) (env:Env) (t:Sem Value),attributeBase x a env t=t
def zu(x:PySem.Expr):Prop:=∀(xs:List PySem.Expr) (pos:Pos) (env:Env),eval (.Call x xs [] pos) env=eval x env>>=λf=>callWith pos f [] (backTo pos (starEach xs env)) []
def Gr(x:PySem.Expr):Prop:=∀(t:Option PySem.Expr) (n:Nat) (env:Env),swapsWith x t n env=pure false
def Gu(x:PySem.Expr):Prop:=∀env:Env,isTrue x env (eval x env)=(do let v <- eval x env;standAt x.pos;holding [v] (truthy v))
noncomputable def SQ:E->Bool
 |.not _=>false
 |.bo _ _=>false
 |.ite _ _ _=>false
 |.cmp _ _ _=>false
 |.neg _=>false
 |_=>true
def XF(b c:Bool)(x:PySem.Expr):Prop:=(Gq x/\Gp x)/\(zv x/\(qK x=false->zt x))/\(tD x=false->zu x)/\(b=false->Gr x)/\(c=true->Gu x)
theorem xf{b c:Bool}{x:PySem.Expr}(h1:Gq x)(h2:Gp x)(h3:zv x)(h4:qK x=false->zt x)(h5:tD x=false->zu x)(h6:b=false->Gr x)(h7:c=true->Gu x):XF b c x:=⟨⟨h1,h2⟩,⟨h3,h4⟩,h5,h6,h7⟩
theorem Qx{f:PySem.Expr->List Comprehension->Scope->Pos->Bool}{x:PySem.Expr}{G:Prop}(h:Ep f x=true)(g:∀a b c d,x=.ListComp a b c d->G):G :=
 b8 h λq Y=>PySem.Expr.ListComp.elim (motive_1:=λx=>(∀a b c d,x=.ListComp a b c d->G)->G) x q (λa b c d g=>g a b c d rfl) g
theorem jZ{nm:Nat->Str}{sc:Scope}{m:E}{x:PySem.Expr}(h:aO nm sc m x=true):XF (ku m) (SQ m) x:=by
 induction m using Internal.E.casesOn with
 |c v=>exact ux h λa b c e Y=>tb e (f:=XF _ _) (xf (λY Y=>rfl) (λY Y=>rfl) (λY Y=>rfl) (λY Y Y t=>@rfl _ t) (λY Y Y Y=>rfl) (λY Y Y Y=>rfl) λY Y=>rfl)
 |loc z=>exact ig h λa b e Y=>tb e (f:=XF _ _) (xf (λY Y=>rfl) (λY Y=>rfl) (λY Y=>rfl) (λY Y Y t=>@rfl _ t) (λY Y Y Y=>rfl) (λY Y Y Y=>rfl) λY Y=>rfl)
 |ae z=>exact ig h λa b e Y=>tb e (f:=XF _ _) (xf (λY Y=>rfl) (λY Y=>rfl) (λY Y=>rfl) (λY Y Y t=>@rfl _ t) (λY Y Y Y=>rfl) (λY Y Y Y=>rfl) λY Y=>rfl)
 |ah z=>exact ig h λa b e Y=>tb e (f:=XF _ _) (xf (λY Y=>rfl) (λY Y=>rfl) (λY Y=>rfl) (λY Y Y t=>@rfl _ t) (λY Y Y Y=>rfl) (λY Y Y Y=>rfl) λY Y=>rfl)
 |bo a l=>exact yu h λa b c e Y=>tb e (f:=XF _ _) (xf (λY Y=>rfl) (λY Y=>rfl) (λY Y=>rfl) (λY Y Y t=>@rfl _ t) (λY Y Y Y=>rfl) (λY Y Y Y=>rfl) λe=>aC e)
 |bin o a b=>exact Ee h λa b c d e Y=>tb e (f:=XF _ _) (xf (λY Y=>rfl) (λY Y=>rfl) (λY Y=>rfl) (λY Y Y t=>@rfl _ t) (λY Y Y Y=>rfl) (λY Y Y Y=>rfl) λY Y=>rfl)
 | «not» a=>exact ph h λa b c e Y=>tb e (f:=XF _ _) (xf (λY Y=>rfl) (λY Y=>rfl) (λY Y=>rfl) (λY Y Y t=>@rfl _ t) (λY Y Y Y=>rfl) (λY Y Y Y=>rfl) λe=>aC e)
 |neg n=>exact ph h λa b c e Y=>tb e (f:=XF _ _) (xf (λY Y=>rfl) (λY Y=>rfl) (λY Y=>rfl) (λY Y Y t=>@rfl _ t) (λY Y Y Y=>rfl) (λY Y Y Y=>rfl) λe=>aC e)
 |ite a b c=>exact yy h λa b c d e Y=>tb e (f:=XF _ _) (xf (λY Y=>rfl) (λY Y=>rfl) (λY Y=>rfl) (λY Y Y t=>@rfl _ t) (λY Y Y Y=>rfl) (λY Y Y Y=>rfl) λe=>aC e)
 |dict a b=>exact Ej h λa b c e Y=>tb e (f:=XF _ _) (xf (λY Y=>rfl) (λY Y=>rfl) (λY Y=>rfl) (λY Y Y t=>@rfl _ t) (λY Y Y Y=>rfl) (λY Y Y Y=>rfl) λY Y=>rfl)
 |list l=>exact Er h λa b e Y=>tb e (f:=XF _ _) (xf (λY Y=>rfl) (λY Y=>rfl) (λY Y=>rfl) (λY Y Y t=>@rfl _ t) (λY Y Y Y=>rfl) (λY Y Y Y=>rfl) λY Y=>rfl)
 |tuple l=>exact rg h λa b c e Y=>tb e (f:=XF _ _) (xf (λY Y=>rfl) (λY Y=>rfl) (λY Y=>rfl) (λY Y Y t=>@rfl _ t) (λY Y Y Y=>rfl) (λY Y Y Y=>rfl) λY Y=>rfl)
 |comp a b=>exact Qx h λa b c d e=>tb e (f:=XF _ _) (xf (λY Y=>rfl) (λY Y=>rfl) (λY Y=>rfl) (λY Y Y t=>@rfl _ t) (λY Y Y Y=>rfl) (λe=>kM e) λY Y=>rfl)
 |cmp a b c=>exact yw h λa b c d e Y=>tb e (f:=XF _ _) (xf (λY Y=>rfl) (λY Y=>rfl) (λY Y=>rfl) (λY Y Y t=>@rfl _ t) (λY Y Y Y=>rfl) (λY Y Y Y=>rfl) λe=>aC e)
 |call a b=>exact lL h λa b c d e Y=>tb e (f:=XF _ _) (xf (λY Y=>rfl) (λY Y=>rfl) (λY Y=>rfl) (λe=>kM e) (λY Y Y Y=>rfl) (λY Y Y Y=>rfl) λY Y=>rfl)
 |meth a b c=>exact lL h λa b c d e Y=>tb e (f:=XF _ _) (xf (λY Y=>rfl) (λY Y=>rfl) (λY Y=>rfl) (λe=>kM e) (λY Y Y Y=>rfl) (λY Y Y Y=>rfl) λY Y=>rfl)
 |attr a b=>exact uw h λa b c e Y=>tb e (f:=XF _ _) (xf (λY Y=>rfl) (λY Y=>rfl) (λY Y=>rfl) (λY Y Y t=>@rfl _ t) (λe=>kM e) (λY Y Y Y=>rfl) λY Y=>rfl)
 |sub a b=>exact uy h λa b c e Y=>tb e (f:=XF _ _) (xf (λY Y=>rfl) (λY Y=>rfl) (λY Y=>rfl) (λY Y Y t=>@rfl _ t) (λY Y Y Y=>rfl) (λY Y Y Y=>rfl) λY Y=>rfl)
 |slc a b c d=>exact uy h λa b c e Y=>tb e (f:=XF _ _) (xf (λY Y=>rfl) (λY Y=>rfl) (λY Y=>rfl) (λY Y Y t=>@rfl _ t) (λY Y Y Y=>rfl) (λY Y Y Y=>rfl) λY Y=>rfl)
 |sset a b c=>exact lL h λa b c d e Y=>tb e (f:=XF _ _) (xf (λY Y=>rfl) (λY Y=>rfl) (λY Y=>rfl) (λe=>kM e) (λY Y Y Y=>rfl) (λY Y Y Y=>rfl) λY Y=>rfl)
 |lP a b c=>exact lL h λa b c d e Y=>tb e (f:=XF _ _) (xf (λY Y=>rfl) (λY Y=>rfl) (λY Y=>rfl) (λe=>kM e) (λY Y Y Y=>rfl) (λY Y Y Y=>rfl) λY Y=>rfl)
theorem uQ{m:E}{x:PySem.Expr}{rest:List PySem.Expr}{env:Env}{nm:Nat->Str}{sc:Scope}(h:aO nm sc m x=true):starEach (x::rest) env=(false,eval x env)::starEach rest env:=(jZ h).1.1 rest env
structure aV(X:Sx)(ih:Fs):Prop where
 e:∀{C:bw} {ρ:List Addr} {s:Shared} {st:St} {m:E} {x:PySem.Expr},ai X C ρ st s->aO X.nm C.env.scope m x=true->bl X C ρ s (eval x C.env) (ih.e m st)
 es:∀{C:bw} {ρ:List Addr} {s:Shared} {st:St} {l:List E} {xs:List PySem.Expr} {pos:Pos},ai X C ρ st s->bD X.nm C.env.scope l xs=true->zA X C ρ s (spliced (backTo pos (starEach xs C.env))) (ih.es l st)
 t:∀{C:bw} {ρ:List Addr} {s:Shared} {st:St} {m:E} {x:PySem.Expr},ai X C ρ st s->aO X.nm C.env.scope m x=true->iw X C ρ s (isTrue x C.env (eval x C.env)) (ih.t m st)
 ts:∀{C:bw} {ρ:List Addr} {s:Shared} {st:St} {a:Bool} {op:BoolOp} {l:List E} {xs:List PySem.Expr},ai X C ρ st s->oj a op=true->bD X.nm C.env.scope l xs=true->iw X C ρ s (allTrue op xs C.env) (ih.ts a l st)
 bo:∀{C:bw} {ρ:List Addr} {s:Shared} {st:St} {a:Bool} {op:BoolOp} {l:List E} {xs:List PySem.Expr} {pos:Pos},ai X C ρ st s->oj a op=true->bD X.nm C.env.scope l xs=true->bl X C ρ s (boolOp pos op (evalEach xs C.env)) (ih.bo a l st)
 ps:∀{C:bw} {ρ:List Addr} {s:Shared} {st:St} {ks:List aN} {l:List E} {keys:List (Option PySem.Expr)} {xs:List PySem.Expr} {pos:Pos},ai X C ρ st s->li ks keys=true->ks.length=l.length->bD X.nm C.env.scope l xs=true->i7 X C ρ s (λh ρ l ps=>nN X h ρ ks l ps) (evalPairs (pairTrees keys xs C.env pos)) (ih.es l st)
 s:∀{C:bw} {ρ:List Addr} {s:Shared} {st:St} {m:S} {x:Stmt},ai X C ρ st s->eA X.nm C.env.scope m x=true->dW X C ρ s (exec x C.env) (ih.s m st)
 body:∀{C:bw} {ρ:List Addr} {s:Shared} {st:St} {fd:FD} {clo:List (Nat×Nat)} {l:List V} {vs:List Value} {a:Addr} {ob:Obj} {data:FuncData},ai X C ρ st s->s.heap.get? a=some ob->ob.data=.func data->kU X fd data->
  s.heap.CodeRec data.code data.qualname->(∃o:Option (Array Value),Looks (model X.prog X.w) s.heap (seqItems? data.defaults) o/\aB X s.heap ρ fd.ds (o.getD #[]).toList)->(∀x k,aw clo x=some k->∃y,ρ[k]?=some y/\data.closure.lookup (X.nm x)=some y)->
  aB X s.heap ρ l vs->mc X C ρ s (.call (.ref a) ⟨vs,[]⟩) (ih.body fd clo l st)
 call:∀{C:bw} {ρ:List Addr} {s:Shared} {st:St} {f:V} {l:List V} {fv:Value} {vs:List Value},ai X C ρ st s->av X s.heap ρ f fv->aB X s.heap ρ l vs->bl X C ρ s (call fv vs) (ih.call f l st)
 ss:∀{C:bw} {ρ:List Addr} {s:Shared} {st:St} {l:List S} {xs:List Stmt},ai X C ρ st s->eQ X.nm C.env.scope l xs=true->dW X C ρ s (execs xs C.env) (ih.ss l st)
section
theorem bp{R:Heap->List Addr->α->β->Prop}{R':Heap->List Addr->γ->δ->Prop}{t:Sem β}{x:Mo α}{g:α->Mo γ}{Q1:β->Shared->Prop}{Q:δ->Shared->Prop}{E:WB}(H:i7 X C ρ s R t (x st))(W:aG X C ρ s R' ((x>>=g) st) Q E)(k:∀a st' b ρ' s',x st=some (.ok a st')->am X C ρ s st' ρ' s'->R s'.heap ρ' a b->aG X C ρ' s' R' (g a st') Q E->Q1 b s'):wpAny (model X.prog X.w) C.A t Q1 E s:=by
 refine H Q1 E ?_;change aG X C ρ s R' (Mo.bind x g st) Q E at W;unfold Mo.bind at W
 cases e:x st with
 |none=>obtain W:=e▸W;exact W
 |some r=>induction r using Internal.a9.casesOn with
  |ok a st'=>obtain W:=e▸W;exact λb ρ' s' A r=>k a st' b ρ' s' e A r (W.after A)
  |ex k' st'=>obtain W:=e▸W;exact W
theorem K3(S:aV X ih)(I:ai X C ρ st s){o:Op}{a b:E}{x:PySem.Expr}(h:aO X.nm C.env.scope (.bin o a b) x=true):bl X C ρ s (eval x C.env) ((step X.P D ih).e (.bin o a b) st):=by
 intro Q E W;refine Ee h ?_;rintro l op r pos rfl h;replace h:=nR h;exact wpAny_BinOp (bp (S.e I h.1.2) W λv1 aH b1 be s1 e1 A1 r1 W1=>bp (S.e A1.inv h.2) W1 λv2 st2 b2 bT s2 e2 A2 r2 W2=>Ji A2.inv (r1.mono (A2.bB A1.inv)) r2 h.1.1 _ _ W2)
theorem K9(S:aV X ih)(I:ai X C ρ st s){c a b:E}{x:PySem.Expr}(h:aO X.nm C.env.scope (.ite c a b) x=true):bl X C ρ s (eval x C.env) ((step X.P D ih).e (.ite c a b) st):=by
 intro Q E W;refine yy h ?_;rintro t y z pos rfl h;replace h:=nR h;refine wpAny_IfExp (bp (S.t I h.1.1) W λv1 aH b1 be s1 e1 A1 r1 W1=>?_);subst r1
 induction b1 using Bool.casesOn with
 |true=>exact S.e A1.inv h.1.2 _ _ W1
 |false=>exact S.e A1.inv h.2 _ _ W1
theorem U'(S:aV X ih)(I:ai X C ρ st s){c a b:E}{x:PySem.Expr}(h:aO X.nm C.env.scope (.ite c a b) x=true):iw X C ρ s (isTrue x C.env (eval x C.env)) ((step X.P D ih).t (.ite c a b) st):=by
 intro Q E W;refine yy h ?_;rintro t y z pos rfl h;replace h:=nR h;refine ab (bp (S.t I h.1.1) W λv1 aH b1 be s1 e1 A1 r1 W1=>?_);subst r1
 induction b1 using Bool.casesOn with
 |true=>exact S.t A1.inv h.1.2 _ _ W1
 |false=>exact S.t A1.inv h.2 _ _ W1
theorem Va(S:aV X ih)(I:ai X C ρ st s){a:E}{x:PySem.Expr}(h:aO X.nm C.env.scope (.not a) x=true):iw X C ρ s (isTrue x C.env (eval x C.env)) ((step X.P D ih).t (.not a) st):=by
 intro Q E W;refine ph h ?_;rintro op y pos rfl h
 cases op with
 |Not=>
  obtain h:aO X.nm C.env.scope a y=true:=h;refine wpAny_isTrue_Not (bp (S.t I h) W λv1 aH b1 be s1 e1 A1 r1 W1=>?_);subst r1
  exact W1.now (.refl A1.inv) rfl
 |_=>exact aC h
theorem TW{r:Bool}{t:Sem Value}{Q:WB}{E:WB}(I:ai X C ρ st s)(h:nP X C s t r)(W:aG X C ρ s (av X) (some (.ok (V.bool r) st)) Q E):wpAny (model X.prog X.w) C.A t Q E s :=
 h E Q λtk=>W.now (am.tok I) (by dsimp only[av])
theorem K6(S:aV X ih)(I:ai X C ρ st s){o:Cp}{a b:E}{x:PySem.Expr}(h:aO X.nm C.env.scope (.cmp o a b) x=true):bl X C ρ s (eval x C.env) ((step X.P D ih).e (.cmp o a b) st):=by
 intro Q E W;refine yw h ?_;rintro l ops rs pos rfl h;refine jx h ?_;rintro op rfl h;refine jx h ?_;rintro r rfl h;refine fW (ez h) λh1 h2 h3 h4=>?_
 replace h2:=eD h2;exact wpAny_Compare1 (hm:=h2) (bp (S.e I h3) W λv1 aH b1 be s1 e1 A1 r1 W1=>bp (S.e A1.inv h4) W1 λv2 st2 b2 bT s2 e2 A2 r2 W2=>W2.pq λr q W2=>TW A2.inv (AF A2.inv (r1.mono (A2.bB A1.inv)) r2 h1 q) W2)
theorem U9(S:aV X ih)(I:ai X C ρ st s){o:Cp}{a b:E}{x:PySem.Expr}(h:aO X.nm C.env.scope (.cmp o a b) x=true):iw X C ρ s (isTrue x C.env (eval x C.env)) ((step X.P D ih).t (.cmp o a b) st):=by
 intro Q E W;refine yw h ?_;rintro l ops rs pos rfl h;refine jx h ?_;rintro op rfl h;refine jx h ?_;rintro r rfl h;refine fW (ez h) λh1 h2 h3 h4=>?_
 replace h2:=eD h2;exact wpAny_isTrue_Compare1 (hm:=h2) (bp (S.e I h3) W λv1 aH b1 be s1 e1 A1 r1 W1=>bp (S.e A1.inv h4) W1 λv2 st2 b2 bT s2 e2 A2 r2 W2=>W2.ob λr q W2=>AF A2.inv (r1.mono (A2.bB A1.inv)) r2 h1 q _ _ λtk=>aq (W2.now (am.tok A2.inv) rfl))
theorem K'(S:aV X ih)(I:ai X C ρ st s){l:List E}{x:PySem.Expr}(h:aO X.nm C.env.scope (.list l) x=true):bl X C ρ s (eval x C.env) ((step X.P D ih).e (.list l) st):=by
 intro Q E W;refine Er h ?_;rintro es pos rfl h;have h:bD X.nm C.env.scope l es=true:=h;exact wpAny_List_spliced (bp (S.es I h) W λv1 aH b1 be s1 e1 A1 r1 W1=>pu A1.inv r1 W1)
theorem Rl{l:List V}{vs:List Value}(I:ai X C ρ st s)(r:aB X s.heap ρ l vs):bl X C ρ s (newTuple vs) (js l st):=by
 intro Q E W;obtain q1:=(kI I r W).1;obtain q2:=(kI I r W).2.1;obtain q3:=(kI I r W).2.2;exact wpAny_newTuple q3 q1
theorem Lj(S:aV X ih)(I:ai X C ρ st s){l:List E}{x:PySem.Expr}(h:aO X.nm C.env.scope (.tuple l) x=true):bl X C ρ s (eval x C.env) ((step X.P D ih).e (.tuple l) st):=by
 intro Q E W;refine rg h ?_;rintro es k pos rfl h;have h:bD X.nm C.env.scope l es=true:=h;exact Tuple_ (bp (S.es I h) W λv1 aH b1 be s1 e1 A1 r1 W1=>Rl A1.inv r1 _ _ W1)
theorem Li(S:aV X ih)(I:ai X C ρ st s){o i:E}{x:PySem.Expr}(h:aO X.nm C.env.scope (.sub o i) x=true):bl X C ρ s (eval x C.env) ((step X.P D ih).e (.sub o i) st):=by
 intro Q E W;refine uy h ?_;rintro oe ie pos rfl h;replace h:=aD h;exact Subscript_ (bp (S.e I h.1) W λv1 aH b1 be s1 e1 A1 r1 W1=>bp (S.e A1.inv h.2) W1 λv2 st2 b2 bT s2 e2 A2 r2 W2=>UQ A2.inv (r1.mono (A2.bB A1.inv)) r2 (jZ h.2).2.1.1 _ _ W2)
theorem EI(S:aV X ih)(I:ai X C ρ st s){m:Option E}{x:Option PySem.Expr}(h:qg X.nm C.env.scope m x=true):i7 X C ρ s (ma X) (evalPart x C.env) (ni ih.e m st):=by
 intro Q E W;cases m<;>cases x<;>first | exact aC h | skip
 .exact aq (W.now (.refl I) rfl)
 .exact wpAny_evalPart_some (bp (S.e I h) W λv1 aH b1 be s1 e1 A1 r1 W1=>W1.now (.refl A1.inv) r1)
theorem ma.mono{h h':Heap}(k:bM X h ρ h' ρ'){m:Option V}{v:Value}(r:ma X h ρ m v):ma X h' ρ' m v:=by
 induction m using Option.casesOn with
 |none=>exact r
 |some v=>exact av.mono k r
theorem T7{nm:Nat->Str}{sc:Scope}{o:E}{lo hi:Option E}{rev:Bool}{x:PySem.Expr}(h:aO nm sc (.slc o lo hi rev) x=true):∃oe l u stp p pos,x=.Subscript oe (.Slice l u stp p) pos/\(aO nm sc o oe&&qg nm sc lo l&&qg nm sc hi u&&wc rev stp)=true:=by
 refine uy h ?_;rintro oe ie pos rfl h;refine Sn h ?_;rintro l u stp p rfl h;exact QW _ _ _ _ _ _ rfl h
theorem Ls{i:Int}{c:Const}(h:mu (.int i) c=true):c=.int i:=by cases c<;>first | exact aC h | exact ay Const.int (bG h).symm
theorem UF{stp:Option PySem.Expr}(h:wc true stp=true):∃b p q,stp=some (.UnaryOp .USub (.Constant (.int 1) b p) q):=by
 refine db h λx e h=>ph h λop y q e2 h=>ux (aD h).2 λc b p e3 h3=>?_
 subst e e2 e3;obtain rfl:=xE (aD h).1;obtain rfl:=Ls h3;exact mV _ _ _ rfl
theorem Ld(S:aV X ih)(I:ai X C ρ st s){o:E}{lo hi:Option E}{rev:Bool}{x:PySem.Expr}(h:aO X.nm C.env.scope (.slc o lo hi rev) x=true):bl X C ρ s (eval x C.env) ((step X.P D ih).e (.slc o lo hi rev) st):=by
 intro Q E W;refine V3 (T7 h) ?_;rintro oe l u stp p pos rfl h;refine fW (ez h) λh1 h2 h3 h4=>Subscript_ (bp (S.e I h1) W λv1 aH b1 be s1 e1 A1 r1 W1=>wpAny_Slice (bp (EI S A1.inv h2) W1 λv2 st2 b2 bT s2 e2 A2 r2 W2=>bp (EI S A2.inv h3) W2 λv3 st3 b3 eX s3 e3 A3 r3 W3=>?_))
 have k3:=A3.bB A2.inv;have r1':=(r1.mono (A2.bB A1.inv)).mono k3
 induction rev using Bool.casesOn with
 |false=>
  induction stp using Option.casesOn with
  |none=>exact aq (Ua A3.inv r1' (r2.mono k3) r3 _ _ W3)
  |some e=>exact aC h4
 |true=>
  refine kS (UF h4) ?_;rintro b p q rfl;obtain z:=W3.ob λm e Y=>bk e λq Y=>aD q
  obtain rfl:=Option.isNone_iff_eq_none.mp z.1;obtain rfl:=Option.isNone_iff_eq_none.mp z.2;obtain rfl:b2=.none:=r2;obtain rfl:b3=.none:=r3;exact wpAny_evalPart_some (ab (wpAny_mkInt (ab (eG (cR (PySem.P.neg_int (Ub (A3.trans (am.tok (t':=s3.toks+1+1) A3.inv)).inv r1' _ _ (W3.after (am.tok A3.inv)))))))))
set_option tactic.hygienic true in
theorem LJ(S:aV X ih)(I:ai X C ρ st s){l:List E}{xs:List PySem.Expr}{pos:Pos}(h:bD X.nm C.env.scope l xs=true):zA X C ρ s (spliced (backTo pos (starEach xs C.env))) ((step X.P D ih).es l st):=by
 intro Q E W;cases l<;>cases xs<;>first | exact aC h | skip
 .exact args_nil (W.now (.refl I) rfl)
 .rename_i m r x xs;obtain h:(aO X.nm C.env.scope m x&&bD X.nm C.env.scope r xs)=true:=h;simp only[bQ] at h;exact args_cons (he:=uQ h.1) (bp (S.e I h.1) W λv1 aH b1 be s1 e1 A1 r1 W1=>bp (S.es A1.inv h.2) W1 λv2 st2 b2 bT s2 e2 A2 r2 W2=>W2.now (.refl A2.inv) (bF b1 b2 rfl (r1.mono (A2.bB A1.inv)) r2))
end
end
section
section
theorem K1(Z:aU X)(S:aV X ih)(I:ai X C ρ st s){o:E}{n:Nat}{x:PySem.Expr}(h:aO X.nm C.env.scope (.attr o n) x=true):bl X C ρ s (eval x C.env) ((step X.P D ih).e (.attr o n) st):=by
 intro Q E W;refine uw h ?_;rintro oe name pos rfl h;obtain h:(decide (name=X.nm n) && !qK oe&&aO X.nm C.env.scope o oe)=true:=h;simp only[bQ,Bool.not_eq_true',dX] at h;refine aL h ?_;rintro⟨rfl,h2⟩ h3;refine(?_:wpAny _ _ (attributeBase oe (X.nm n) C.env (eval oe C.env)>>=_) _ _ _);refine tb ((jZ h3).2.1.2 h2 _ _ _) ?_;refine ab (bp (S.e I h3) W λv1 aH b1 be s1 e1 A1 r1 W1=>?_);refine ab (eG (ab (cR (Nj Z A1.inv r1 _ _ ?_))));exact W1.imp λb s' q=>ab (wpAny_letTemporaryGo (aq q))
theorem Lc(I:ai X C ρ st s){n:Nat}{x:PySem.Expr}(h:aO X.nm C.env.scope (.neg n) x=true):bl X C ρ s (eval x C.env) ((step X.P D ih).e (.neg n) st):=by
 intro Q E W;refine ph h ?_;rintro op y pos rfl h;obtain h1:=(aD h).1;obtain h2:=(aD h).2;obtain rfl:=xE h1;refine ux h2 ?_;rintro c k p rfl h;cases c<;>try exact aC h
 obtain rfl:=bG (show decide (_=_)=true from h);exact ab (wpAny_mkInt (ab (eG (cR (PySem.P.neg_int (W.now (am.tok (t':=s.toks+1+1) I) ⟨_,rfl⟩))))))
theorem K4(S:aV X ih)(I:ai X C ρ st s){a:Bool}{l:List E}{x:PySem.Expr}(h:aO X.nm C.env.scope (.bo a l) x=true):bl X C ρ s (eval x C.env) ((step X.P D ih).e (.bo a l) st):=by
 intro Q E W;refine yu h ?_;rintro op es pos rfl h;replace h:=aD (show (oj a op&&bD X.nm C.env.scope l es)=true from h);rw[arm_eval_BoolOp];exact S.bo I h.1 h.2 _ _ W
theorem UZ(S:aV X ih)(I:ai X C ρ st s){a:Bool}{l:List E}{x:PySem.Expr}(h:aO X.nm C.env.scope (.bo a l) x=true):iw X C ρ s (isTrue x C.env (eval x C.env)) ((step X.P D ih).t (.bo a l) st):=by
 intro Q E W;refine yu h ?_;rintro op es pos rfl h;replace h:=aD (show (oj a op&&bD X.nm C.env.scope l es)=true from h);exact wpAny_isTrue_BoolOp (S.ts I h.1 h.2 _ _ W)
set_option tactic.hygienic true in
theorem Vq(S:aV X ih)(I:ai X C ρ st s){a:Bool}{op:BoolOp}{l:List E}{xs:List PySem.Expr}(ho:oj a op=true)(h:bD X.nm C.env.scope l xs=true):iw X C ρ s (allTrue op xs C.env) ((step X.P D ih).ts a l st):=by
 intro Q E W;cases l<;>cases xs<;>first | exact aC h | skip
 .cases a<;>cases op<;>first | exact aC ho | skip
  .exact aq (W.now (.refl I) rfl)
  .exact aq (W.now (.refl I) rfl)
 .rename_i m r x xs;replace h:=aD (show (aO X.nm C.env.scope m x&&bD X.nm C.env.scope r xs)=true from h);refine ab (bp (S.t I h.1) W λv1 aH b1 be s1 e1 A1 r1 W1=>?_);subst r1;have ho':=ho;cases a<;>cases op<;>first | exact aC ho | skip
  .induction b1 using Bool.casesOn with
   |true=>exact aq (W1.now (.refl A1.inv) rfl)
   |false=>exact S.ts A1.inv ho' h.2 _ _ W1
  .induction b1 using Bool.casesOn with
   |true=>exact S.ts A1.inv ho' h.2 _ _ W1
   |false=>exact aq (W1.now (.refl A1.inv) rfl)
set_option tactic.hygienic true in
theorem Jt(S:aV X ih)(I:ai X C ρ st s){a:Bool}{op:BoolOp}{l:List E}{xs:List PySem.Expr}{pos:Pos}(ho:oj a op=true)(h:bD X.nm C.env.scope l xs=true):bl X C ρ s (boolOp pos op (evalEach xs C.env)) ((step X.P D ih).bo a l st):=by
 intro Q E W;cases l<;>cases xs<;>first | exact aC h | skip
 .exact (W:False).elim
 .rename_i m r x xs;replace h:=aD (show (aO X.nm C.env.scope m x&&bD X.nm C.env.scope r xs)=true from h);cases r<;>cases xs<;>first | exact absurd (show false=true from h.2) il | skip
  .exact S.e I h.1 _ _ W
  .rename_i m2 r x2 xs;refine ab (bp (S.e I h.1) W λv1 aH b1 be s1 e1 A1 r1 W1=>ab (eG (ab (cR (bp (FT A1.inv r1) W1 λv2 st2 b2 bT s2 e2 A2 r2 W2=>?_)))));subst r2;obtain r1':=r1.mono (A2.bB A1.inv);have ho':=ho;cases a<;>cases op<;>first | exact aC ho | skip
   .induction b2 using Bool.casesOn with
    |true=>exact aq (W2.now (.refl A2.inv) r1')
    |false=>exact S.bo A2.inv ho' h.2 _ _ W2
   .induction b2 using Bool.casesOn with
    |true=>exact S.bo A2.inv ho' h.2 _ _ W2
    |false=>exact aq (W2.now (.refl A2.inv) r1')
theorem FK(S:aV X ih)(I:ai X C ρ st s){m:E}{x:PySem.Expr}(h:aO X.nm C.env.scope m x=true)(hm:isTrue x C.env (eval x C.env)=(do let v <- eval x C.env;standAt x.pos;holding [v] (truthy v))) :
  iw X C ρ s (isTrue x C.env (eval x C.env)) ((do pG (<- ih.e m):Mo Bool) st):=by
 intro Q E W;exact wpAny_isTrue_value (bp (S.e I h) W λv1 aH b1 be s1 e1 A1 r1 W1=>FT A1.inv r1 _ _ W1) hm
theorem Rh{nm:Nat->Str}{sc:Scope}{n:Nat}{x:PySem.Expr}(h:aO nm sc (.neg n) x=true):∃y p,x=.UnaryOp .USub y p:=by
 refine ph h ?_;rintro op y pos rfl h;exact⟨y,pos,by exact sb (xE (aD h).1) rfl⟩
theorem Vb(S:aV X ih)(I:ai X C ρ st s){m:E}{x:PySem.Expr}(h:aO X.nm C.env.scope m x=true):iw X C ρ s (isTrue x C.env (eval x C.env)) ((step X.P D ih).t m st):=by
 induction m using Internal.E.casesOn with
 |not a=>exact Va S I h
 |bo a l=>exact UZ S I h
 |ite a b c=>exact U' S I h
 |cmp o a b=>exact U9 S I h
 |neg n=>
  refine kR (Rh h) ?_;rintro y p rfl
  exact FK S I h rfl
 |_=>exact FK S I h ((jZ h).2.2.2.2 rfl _)
end
end
section
section
set_option tactic.hygienic true in
theorem S2(S:aV X ih)(I:ai X C ρ st s){ks:List aN}{l:List E}{keys:List (Option PySem.Expr)}{xs:List PySem.Expr}{pos:Pos}(hk:li ks keys=true)(hl:ks.length=l.length)(h:bD X.nm C.env.scope l xs=true) :
  i7 X C ρ s (λh ρ l ps=>nN X h ρ ks l ps) (evalPairs (pairTrees keys xs C.env pos)) ((step X.P D ih).es l st):=by
 intro Q E W
 induction l using List.casesOn with
 |nil=>
  obtain rfl:=cH h
  induction ks using List.casesOn with
  |cons _ _=>cases hl
  |nil=>
   obtain rfl:=cH hk
   exact evalPairs_nil (W.now (.refl I) ⟨rfl,rfl⟩)
 |cons m r=>
  refine kC h ?_;rintro x xs rfl h;replace h:=aD h
  induction ks using List.casesOn with
  |nil=>cases hl
  |cons k ks=>
   refine Be hk ?_;rintro kd p keys rfl xh;exact evalPairs_cons (wpAny_mkText (ab (bp (S.e (am.tok (t':=s.toks+1) I).inv h.1) (W.after (am.tok I)) λv1 aH b1 be s1 e1 A1 r1 W1=>ab (eG (aq (bp (S.ps A1.inv xh (by simpa using hl) h.2) W1 λv2 st2 b2 bT s2 e2 A2 r2 W2=>W2.now (.refl A2.inv) (QS _ v1 b1 v2 b2 rfl rfl (r1.mono (A2.bB A1.inv)) r2)))))))
theorem JH{h:Heap}:∀{ks:List aN} {l:List V} {ps:List (Value×Value)},nN X h ρ ks l ps->Carries (strKind X.prog X.w) ps ((ks.map aJ).zip (ps.map (·.2))):=by
 intro x9
 induction x9 with
 |nil=>
  intro l ps r
  refine aL r ?_;rintro rfl rfl;trivial
 |cons k ks ih=>
  intro l ps r;refine zr r ?_;rintro t v val l' ps' rfl rfl Y r';exact bP (strKind_is X.prog X.w _ _) rfl (ih r')
theorem EF{h:Heap}:∀{ks:List aN} {l:List V} {ps:List (Value×Value)},nN X h ρ ks l ps->ps.length=ks.length:=by
 intro x9
 induction x9 with
 |nil=>
  intro l ps r
  refine aL r ?_;rintro rfl rfl;rfl
 |cons k ks ih=>
  intro l ps r;refine zr r ?_;rintro t v val l' ps' rfl rfl Y r';simp[ih r']
theorem AY:∀{ks:List aN},nZ ks=true->(ks.map aJ).Nodup:=by
 intro x9
 induction x9 with
 |nil=>
  intro Y
  exact .nil
 |cons k ks ih=>
  intro h
  replace h:(ks.any (dC k))=false/\nZ ks=true:=⟨eD (aD h).1,(aD h).2⟩
  refine List.nodup_cons.mpr ⟨λq=>af (List.mem_map.mp q) λk' m e=>?_,ih h.2⟩;obtain rfl:=rC e;have:ks.any (dC k')=true:=List.any_eq_true.mpr (ao k' m (by refine aE (lC _ _) ?_;simp));obtain h:=this▸h;exact absurd h.1 (by decide)
set_option tactic.hygienic true in
theorem KH{h h':Heap}{Gy:List Addr}(kv:bM X h ρ h' Gy):∀{ks:List aN} {l:List V} {ps:List (Value×Value)} {ds:List DictEntry},nN X h ρ ks l ps->Pairs (strKind X.prog X.w) ds ((ks.map aJ).zip (ps.map (·.2)))->
  (∀e∈ds,∃k,(strKind X.prog X.w).is k e.key=true/\e.hash=(strKind X.prog X.w).hash k)->gK X h' Gy (ks.zip l) ds:=by
 intro x9
 induction x9 with
 |nil=>
  intro l ps ds r p Y
  refine aL r ?_;rintro rfl rfl;cases p;rfl
 |cons k ks ih=>
  intro l ps ds r p hh;refine zr r ?_;rintro t v val l' ps' rfl rfl hr r'
  cases p with
  |cons h1 h2 p'=>
   rename_i e ds';refine af (hh e (.head _)) λk' g1 g2=>?_
   have hk:∃u,e.key=.str (aJ k) u:=by
    cases q:e.key with
    |str x u=>rw[q] at h1;exact⟨u,by exact(show x=aJ k from(beq_iff_eq.mp (show (x==aJ k)=true from h1)))▸rfl⟩
    |_=>obtain h1:=q▸h1;exact aC h1
   refine aF hk λu hu=>?_
   obtain hk':k'=aJ k:=by
    obtain g1:=hu▸g1;exact(beq_iff_eq.mp (show (aJ k==k')=true from g1)).symm
   subst hk';refine jr u val ds' ?_ (hr.mono kv) (ih r' p' λe he=>hh e (.tail _ he));obtain⟨eh,ek,ev⟩:=e;simp only at hu h2 g2;subst hu h2 g2;rfl
set_option tactic.hygienic true in
theorem K8(S:aV X ih)(I:ai X C ρ st s){ks:List aN}{vs:List E}{x:PySem.Expr}(h:aO X.nm C.env.scope (.dict ks vs) x=true):bl X C ρ s (eval x C.env) ((step X.P D ih).e (.dict ks vs) st):=by
 intro Q E W;refine Ej h ?_;rintro keys fV pos rfl h;obtain h:(li ks keys&&bD X.nm C.env.scope vs fV&&decide (ks.length<=15)&&decide (ks.length=vs.length)&&nZ ks)=true:=h;simp only[bQ,dX] at h;refine aL h ?_;rintro⟨⟨⟨h1,h2⟩,h3⟩,h4⟩ h5;have hn:s.heap.get? s.heap.objs.size=none:=dc (bI _);obtain hk:∀b o,s.heap.get? b=some o->(s.heap.push {cls:=.type "dict",data:=.dict #[]}).get? b=some o:=λb o e=>bn _ e
 have c6:(ρ++[s.heap.objs.size])[st.n]?=some s.heap.objs.size:=by rw[<- I.len];simp
 have A0:((st.tr.put st.n (.dict [])).get st.n).isSome=true->am X C ρ s {st with tr:=st.tr.put st.n (.dict []),n:=st.n+1} (ρ++[s.heap.objs.size]) {s with heap:=s.heap.push {cls:=.type "dict",data:=.dict #[]}} :=
  λg=>am.push I hk (by simp) hn (cj _ rfl) ⟨rfl,rfl,rfl,[],0,rfl,rfl⟩ g I.sz
 induction ks using List.casesOn with
 |nil=>
  obtain rfl:=cH h1;obtain rfl:=List.length_eq_zero_iff.mp h4.symm;obtain rfl:=cH h2;refine wpAny_Dict_empty ?_;replace W:aG X C ρ s (av X) ((cf (.dict [])>>=λk=>(pure (.ref k):Mo V)) st) Q E:=W;obtain W:=W.at fD;refine bX ((st.tr.put st.n (.dict [])).get st.n) (λg=>?_) λo₀ g=>?_
  .replace W:=g▸W;exact(W:False).elim
  .
   rw[g] at W
   exact W.now (A0 (by rw[g];rfl)) (⟨_,rfl,c6⟩)
 |cons k₁ kr=>
  replace W:aG X C ρ s (av X) ((cf (.dict [])>>=λk=>(do let l <- ih.es vs;match <- gy k with | .dict []=>(do cW k (.dict ((k₁::kr).zip l));pure (.ref k)) | _=>Mo.fail:Mo V)) st) Q E:=W;rw[fD] at W;refine bX ((st.tr.put st.n (.dict [])).get st.n) (λg=>?_) λo₀ g=>?_
  .rw [g] at W;exact(W:False).elim
  .
   replace W:=g▸W;dsimp only at W;obtain A0:=A0 (by rw[g];rfl);have W0:=W.after A0;generalize xj:k₁::kr=ks at *
   have h0:keys≠[]:=by
    intro q;subst q xj;exact aC h1
   have eR:∀{ks:List aN} {keys:List (Option PySem.Expr)},li ks keys=true->keys.all (·.isSome)=true/\keys.length=ks.length:=by
    intro ks
    induction ks with
    |nil=>exact λh=>tb (cH h) ⟨rfl,rfl⟩
    |cons k ks CH=>exact λh=>Be h λY Y r e h=>tb e ⟨(CH h).1,ay Nat.succ (CH h).2⟩
   have ba:∀{vs:List Internal.E} {fV:List PySem.Expr},bD X.nm C.env.scope vs fV=true->fV.length=vs.length:=by
    intro vs
    induction vs with
    |nil=>exact λh=>tb (cH h) rfl
    |cons v vs PS=>exact λh=>kC h λx r e h=>tb e (ay Nat.succ (PS (aD h).2))
   obtain a1:=(eR h1).1;obtain a2:=(eR h1).2;refine wpAny_Dict_any a1 (by refine tb a2 ?_;refine tb h4 ?_;exact sb (ba h2) rfl) h0 (by refine aR a2 ?_;exact h3) ?_;refine bp (S.ps A0.inv h1 h4 h2) W0 λl1 aH b1 be s1 e1 A1 r1 W1=>?_
   rw[mA] at W1;refine aA (A1.inv.obj _ _ (A1.ext.get c6)) λo' ob' k1 k2 k3=>?_
   rw[k1] at W1
   induction o' using Internal.O.casesOn with
   |dict es=>
    induction es using List.casesOn with
    |nil=>
     dsimp only at W1
     have aQ:Nat.ble aH.lo st.n=true:=by
      cases aQ:Nat.ble aH.lo st.n with
      |true=>rfl
      |false=>
       exfalso
       have e:(cW st.n (.dict (ks.zip l1))>>=λY=>(pure (.ref st.n):Mo V)) aH=none:=by
        show Mo.bind _ _ _=_;unfold Mo.bind cW;rw[aQ]
       obtain W1:=W1.at e;exact W1
     replace W1:aG X C be s1 (av X) (some (.ok (V.ref st.n) {aH with tr:=aH.tr.put st.n (.dict (ks.zip l1))})) Q E:=by
      obtain e:(cW st.n (.dict (ks.zip l1))>>=λY=>(pure (.ref st.n):Mo V)) aH=some (.ok (V.ref st.n) {aH with tr:=aH.tr.put st.n (.dict (ks.zip l1))}):=by
       show Mo.bind _ _ _=_;unfold Mo.bind cW;refine tb k1 ?_;refine tb aQ ?_;rfl
      refine Jx e ?_;exact W1
     obtain⟨p1,p2,p3,ds,n,p4,p5⟩:=k3;obtain rfl:ds=[]:=p5
     obtain hm:s1.heap.DictOf (strKind X.prog X.w) s.heap.objs.size []:=(QP ob' (#[]) n k2 ⟨p1,p2,p3⟩ p4 (λe he=>by simp at he) .nil .nil)
     obtain hc:=JH r1;refine wpAny_storeAll b1 _ [] s1 _ hc hm (by rw[hc.length,EF r1,iQ];simp;exact IK h) λh' hm' hs'=>VY hm' λo2 es2 n2 z1 z2 z3 z4 z5 z6=>?_
     obtain O8:merged [] ((ks.map aJ).zip (b1.map (·.2)))=(ks.map aJ).zip (b1.map (·.2)):=by
      rw[merged_append_of_fresh];rfl;exact bh (List.map_fst_zip (by simp[EF r1])) (AY h5)
     replace z5:=eU z5 O8
     refine W1.now (am.cW A1.inv (λb o hb e=>(hs'.2 b hb).trans e) (.inl trivial) (A1.ext.get c6) aQ k1 (.inl λY Y=>nofun) z1 λkv=>⟨z2.1,z2.2.1,z2.2.2,es2.toList,n2,by rw[z3],KH kv r1 z5 λe he=>z4 e (by simpa using he)⟩) (⟨_,rfl,A1.ext.get c6⟩)
    |cons _ _=>exact(W1:False).elim
   |_=>exact(W1:False).elim
end
end
section
theorem pB{nm:Nat->Str}{sc:Scope}{env:Env}{pos:Pos}:∀{l:List E} {xs:List PySem.Expr},bD nm sc l xs=true->(backTo pos (starEach xs env)).any (·.1)=false/\(backTo pos (starEach xs env)).all (λx => !x.1)=true/\xs.length=l.length
 |[],[],_=>(bP rfl rfl rfl)
 |[],_::_,h=>aC h
 |_::_,[],h=>aC h
 |m::l,x::xs,h=>by
  obtain h:(aO nm sc m x&&bD nm sc l xs)=true:=h;simp only[bQ] at h;obtain a:=(pB (env:=env) (pos:=pos) h.2).1;obtain b:=(pB (env:=env) (pos:=pos) h.2).2.1;obtain c:=(pB (env:=env) (pos:=pos) h.2).2.2;rw[uQ h.1];unfold backTo at a b ⊢;rw[List.map_cons,List.any_cons,List.all_cons,a,b];exact⟨rfl,rfl,by simp[c]⟩
def jH(M:Model)(f:Value)(h:Heap):Prop:=∃k,(k=Keeper.frame\/k=Keeper.machine\/k=Keeper.boundFrame)/\Looks M h (keeperOf f) k
theorem jH.builtin{M:Model}{i:String}{h:Heap}:jH M (.builtin i) h:=(ao .machine (.inr (.inl rfl)) (.of_pure rfl))
theorem jH.type{M:Model}{i:String}{h:Heap}:jH M (.type i) h:=(ao .machine (.inr (.inl rfl)) (.of_pure rfl))
theorem jH.func{M:Model}{a:Addr}{o:Obj}{fd:FuncData}{h:Heap}(e:h.get? a=some o)(d:o.data=.func fd):jH M (.ref a) h :=
 ⟨.frame,.inl rfl,by
  intro A Q E s k q;refine ab (wpAny_load (k _ _ e) ?_)
  refine tb d ?_;exact aq q⟩
section
variable {M:Model}{A:Around}{E:WB}{s:Shared}{nm:Nat->Str}{sc:Scope}{env:Env}{Q:WB}
set_option tactic.hygienic true in
theorem LL{f:Value}{pos:Pos}{l:List Internal.E}{xs:List PySem.Expr}{Q:Args->Shared->Prop}(h:bD nm sc l xs=true)(k:wpAny M A (spliced (backTo pos (starEach xs env))) (λvs s'=>Q {pos:=vs} s') E s):wpAny M A (evalArgs f true (backTo pos (starEach xs env)) []) Q E s:=by
 cases l<;>cases xs<;>first | exact aC h | skip
 .unfold evalArgs;exact ab (wpAny_mono k (λvs s' q=>ab (aq (cR (ab (aq (ab (aq (aq q)))))))) λY Y e=>e)
 .rename_i m r x xs;obtain h:(aO nm sc m x&&bD nm sc r xs)=true:=h;simp only[bQ] at h;rw[uQ h.1] at k ⊢;exact evalArgs_plain k
theorem jX{f:Value}{first:List Value}{pos:Pos}{l:List Internal.E}{xs:List PySem.Expr}(h:bD nm sc l xs=true)(k:wpAny M A (spliced (backTo pos (starEach xs env))) (λvs s'=>jH M f s'.heap/\wpAny M A (call f (first++vs)) Q E s') E s):wpAny M A (callWith pos f first (backTo pos (starEach xs env)) []) Q E s:=by
 obtain a:=(pB (env:=env) (pos:=pos) h).1;exact callWith_of (P:=jH M f) (by rw[a];rfl) (λY x=>x) (LL h k)
theorem rM{g:PySem.Expr}{xs:List PySem.Expr}{pos:Pos}(hg:zu g)(k:wpAny M A (eval g env) (λf s₁=>wpAny M A (callWith pos f [] (backTo pos (starEach xs env)) []) Q E s₁) E s) :
  wpAny M A (eval (.Call g xs [] pos) env) Q E s:=by
 exact tb (hg xs pos env) (ab k)
theorem Gz{o:PySem.Expr}{name:Str}{apos pos:Pos}{l:List Internal.E}{xs:List PySem.Expr}(ho:zt o)(h:bD nm sc l xs=true)(hz:xs.length<=15)(O4:(apos.endLine==pos.line)=true)(k:wpAny M A (eval o env) (λov s₁=>wpAny M A (getMethod ov name (do return (<- importBound o env).getD true)) (λp s₂=>wpAny M A (callWith pos p.1 p.2 (backTo pos (starEach xs env)) []) Q E s₂) E s₁) E s) :
  wpAny M A (eval (.Call (.Attribute o name apos) xs [] pos) env) Q E s:=by
 rw[arm_eval_Call,ho];refine ab (wpAny_mono k (λov s₁ h₁=>ab (eG ?_)) λY Y e=>e);obtain a:=(pB (env:=env) (pos:=pos) h).2.1;obtain b:=(pB (env:=env) (pos:=pos) h).2.2
 obtain OK:methodCallForm (xs.length+([]:List Keyword).length) (backTo pos (starEach xs env)) (backToKw pos (keywordEach [] env))=true:=by
  unfold methodCallForm;rw[a];have:(backToKw pos (keywordEach [] env))=[]:=rfl;refine tb this ?_;simp;exact dx hz (ce rfl:15<30)
 obtain jn:methodCallPos true o env apos pos=pure pos:=by unfold methodCallPos;simp[O4]
 unfold methodCall;refine tb OK (ab (cR (wpAny_mono h₁ (λp s₂ h₂=>?_) λY Y e=>e)));obtain f:=p.1;obtain first:=p.2
 exact ab (wpAny_of_eq jn h₂)
end
end
section
open Builtin Builtin.ObjectAttr
theorem UG{prog:Program}{w:World}{A:Around}{K:Frag}{s:Shared}{a Cl:Addr}{ox:Obj}{vs:Array Value}{name:Str}{v:Value}{E:WB}{Q:Unit->Shared->Prop}(XK:K.In s.heap)(tm:s.heap.get? a=some ox)(dj:ox.cls=.ref Cl)(wY:ox.data=.fields vs)(hx:ox.dict=none)(hs:findIn K (.ref Cl) "__setattr__" = some (some (.builtin "object.__setattr__")))(hp:la K Cl)(ht:findIn K (.ref Cl) name=some none)(hh:hasDictIn K Cl=true)(h:∀tk tk',Q () {s with heap:=((s.heap.push emptyDict).update a λo=>{o with dict:=some s.heap.objs.size}).update s.heap.objs.size (Obj.putName name (PyData.keyHash w.params name) (.str name tk) v),toks:=tk'}) :
  wpAny (model prog w) A (PySem.setAttr (.ref a) name v) Q E s:=by
 obtain⟨hh',gg,v5,ii,os⟩:=s;change K.In hh' at XK
 have I:InstAt hh' a ox Cl none:=⟨tm,dj,by unfold notCls;exact tb wY rfl,by refine tb hx ?_;trivial⟩
 refine set_plain XK I hs ?_;obtain ht':takerIn K Cl name=some none:=by unfold takerIn;rw[ht];rfl
 refine EC XK I hp ht' λb=>af (any_some hh) λcd hc hd'=>?_
 obtain⟨oc,odi,oda,osl⟩:=ox;dsimp only at dj hx wY;subst dj hx wY;refine ab (aq (ab (ab (wpAny_loadPart tm (ab ((looks_clsIn XK hc).here ?_))))));rw[hd'];obtain ha:(hh'.push emptyDict).get? a=some {cls:=.ref Cl,dict:=none,data:=.fields vs,slots:=osl}:=bn _ tm;refine ab (wpAny_alloc (ab (wpAny_updatePart ha (aq (ab (aq (ab ?_)))))));obtain cG:hh'.objs.size≠a:=dU (dR tm)
 obtain D:((hh'.push emptyDict).update a λo=>{o with dict:=some hh'.objs.size}).get? hh'.objs.size=some emptyDict:=by
  refine aE (kV _ _ _ _ cG) ?_;exact cj _ rfl
 refine ab (ab (nF (aq (ab (wpAny_mkText (ab (wpAny_loadPart D ?_)))))));dsimp only;obtain c:(!(#[]:Array DictEntry).any (·.key.isStr name)&&(#[]:Array DictEntry).any (·.refKey))=false:=by simp
 rw[aRefKeyMayBeTheName_at,c];refine wpAny_updatePart D ?_
 obtain D':(((hh'.push emptyDict).update a λo=>{o with dict:=some hh'.objs.size}).update hh'.objs.size (Obj.putName name (PyData.keyHash w.params name) (.str name (ii+1)) v)).get? hh'.objs.size=some (dictOf [⟨PyData.keyHash w.params name,.str name (ii+1),v⟩] 1):=by
  have:=putName_dict name (PyData.keyHash w.params name) (.str name (ii+1)) v [] 0;rw[eI _ D (by rw[this];rfl)];exact ay some this
 refine ab (wpAny_lookBehind (s:={gens:=gg,drawn:=v5,os:=os,heap:=((hh'.push emptyDict).update a λo=>{o with dict:=some hh'.objs.size}).update hh'.objs.size (Obj.putName name (PyData.keyHash w.params name) (.str name (ii+1)) v),toks:=ii+1+1}) D' (pastItsLine_dict (by refine tb eL ?_;refine tb iQ ?_;simp)) ?_);exact aq (h _ _)
section
theorem Nq{k:Nat}{f:Unit->Mo γ}{st:St}:(qo k>>=f) st=match st.tr.get k with
  |none=>none
  |some (.exc c none)=>(match (st.tr.put st.n (.ns [])).get st.n with
   |some _=>(match Nat.ble st.lo k,(st.tr.put st.n (.ns [])).get k with
    |true,some _=>f () {st with tr:=(st.tr.put st.n (.ns [])).put k (.exc c (some st.n)),n:=st.n+1}
    |_,_=>none)
   |none=>none)
  |some _=>f () st:=by
 refine(?_:Mo.bind (qo k) f st=_);unfold Mo.bind qo;refine tb mA ?_
 cases st.tr.get k with
 |none=>rfl
 |some o=>
  induction o using Internal.O.casesOn with
  |exc c d=>
   induction d using Option.casesOn with
   |some d=>rfl
   |none=>
    dsimp only;refine tb fD ?_
    cases (st.tr.put st.n (.ns [])).get st.n with
    |none=>rfl
    |some _=>
     unfold cW;dsimp only
     cases Nat.ble st.lo k<;>cases (st.tr.put st.n (.ns [])).get k<;>rfl
  |_=>rfl
theorem TY(Z:aU X){o v:V}{x:Nat}{ov val:Value}(I:ai X C ρ st s)(hr:av X s.heap ρ o ov)(hv:av X s.heap ρ v val):nO X C ρ s (PySem.setAttr ov (X.nm x) val) (setAttr X.P o x v st):=by
 intro Q E W;unfold setAttr at W
 induction o using Internal.V.casesOn with
 |ref k=>
  dsimp only at W;rw[Nq] at W;refine fq (I.gO hr) ?_;rintro a o ob rfl h1 h2 h3 h4;rw[h2] at W
  by_cases hx:∃c,o=.exc c none
  .refine aF hx ?_;rintro c rfl;dsimp only at W;refine bX ((st.tr.put st.n (.ns [])).get st.n) (λg=>?_) λo₀ g=>?_
   .obtain W:=g▸W;exact(W:False).elim
   .
    rw[g] at W;have hg:((st.tr.put st.n (.ns [])).get st.n).isSome=true:=by rw[g];rfl
    have jl:k≠st.n:=bz (I.dom _ _ h2);have gk:(st.tr.put st.n (.ns [])).get k=some (.exc c none):=by rw[Tr.fy hg,aj jl];exact h2
    rw[gk] at W;have aQ:Nat.ble st.lo k=true:=by cases aQ:Nat.ble st.lo k with | true=>rfl | false=>rw[aQ] at W;exact(W:False).elim
    replace W:=aQ▸W;dsimp only at W;obtain⟨g1,g2,⟨g3,g4⟩,vs,g5,g6,g7,g8,g9⟩:=h4;obtain c1:=Z.exc c g4 g3;obtain hn:s.heap.get? s.heap.objs.size=none:=dc (bI _);have hk:∀b o,s.heap.get? b=some o->(s.heap.push emptyDict).get? b=some o:=λb o e=>bn _ e
    have A0:am X C ρ s {st with tr:=st.tr.put st.n (.ns []),n:=st.n+1} (ρ++[s.heap.objs.size]) {s with heap:=s.heap.push emptyDict} :=
     am.push I hk (by simp) hn (cj _ rfl) ⟨rfl,rfl,rfl,[],0,rfl,rfl⟩ hg I.sz
    have c6:(ρ++[s.heap.objs.size])[st.n]?=some s.heap.objs.size:=by refine sb I.len ?_;simp
    obtain ha:(s.heap.push emptyDict).get? a=some ob:=hk _ _ h3;obtain cG:s.heap.objs.size≠a:=dU (dR h3)
    obtain kp:((s.heap.push emptyDict).update a λo=>{o with dict:=some s.heap.objs.size}).get? a=some {ob with dict:=some s.heap.objs.size} :=
     eI _ ha (nL g5)
    obtain A1:am X C (ρ++[s.heap.objs.size]) {s with heap:=s.heap.push emptyDict} {st with tr:=(st.tr.put st.n (.ns [])).put k (.exc c (some st.n)),n:=st.n+1} (ρ++[s.heap.objs.size])
      {s with heap:=(s.heap.push emptyDict).update a λo=>{o with dict:=some s.heap.objs.size}}:=by
     refine am.cW A0.inv (λb o hb e=>by refine ck e ?_;exact kV _ _ _ _ hb) (by simp) (A0.ext.get h1) aQ gk (.inr (kx _ _ rfl)) kp λkv=>?_
     exact⟨g1,ao _ c6 rfl,⟨g3,g4⟩,vs,g5,g6,g7,(jQ.mono (A0.bB I) g8).mono kv,g9⟩
    have A01:=A0.trans A1;have hk':((st.tr.put st.n (.ns [])).put k (.exc c (some st.n))).get k=some (.exc c (some st.n)):=Tr.rp gk
    have hn':((st.tr.put st.n (.ns [])).put k (.exc c (some st.n))).get st.n=some (.ns []):=by
     rw[Tr.fy (by rw[hk'];rfl),aj (bO jl),Tr.fy hg,ar rfl]
    have W1:=W.after A01;rw[vV] at W1;dsimp only at W1;rw[hk'] at W1;dsimp only at W1;unfold nv at W1;dsimp only at W1
    cases wR:X.P.at_ c x with
    |false=>rw[wR] at W1;exact(W1:False).elim
    |true=>
     rw[wR] at W1;dsimp only at W1;rw[mA] at W1;dsimp only at W1;rw[hn'] at W1;dsimp only at W1;rw[pv] at W1;replace W1:=W1.at (ar (by decide));unfold cW at W1;dsimp only at W1;rw[hn'] at W1;have ls:Nat.ble st.lo st.n=true:=by cases aQ:Nat.ble st.lo st.n with | true=>rfl | false=>obtain W1:=aQ▸W1;exact(W1:False).elim
     rw[ls] at W1;dsimp only at W1;refine UG (Z.gZ I) h3 g1 g5 g2 c1.sa (.exc c1.po) (c1.at_ x wR) c1.hd λtk tk'=>?_
     obtain D:((s.heap.push emptyDict).update a λo=>{o with dict:=some s.heap.objs.size}).get? s.heap.objs.size=some (dictOf [] 0):=by
      refine aE (kV _ _ _ _ cG) ?_;exact cj _ rfl
     obtain D':(((s.heap.push emptyDict).update a λo=>{o with dict:=some s.heap.objs.size}).update s.heap.objs.size (Obj.putName (X.nm x) (PyData.keyHash X.w.params (X.nm x)) (.str (X.nm x) tk) val)).get? s.heap.objs.size=some (dictOf [⟨PyData.keyHash X.w.params (X.nm x),.str (X.nm x) tk,val⟩] 1):=by
      have:=putName_dict (X.nm x) (PyData.keyHash X.w.params (X.nm x)) (.str (X.nm x) tk) val [] 0;rw[eI _ D (by rw[this];rfl),this];rfl
     refine W1.now (am.cW (t':=tk') A01.inv (λb o hb e=>by refine ck e ?_;exact kV _ _ _ _ hb) (by simp) c6 ls hn' (.inl λY Y=>nofun) D' λkv=>?_) trivial;exact⟨rfl,rfl,rfl,_,_,rfl,jr tk val ([]) rfl ((hv.mono (A01.bB I)).mono kv) rfl⟩
  .obtain W':aG X C ρ s (λY Y Y Y=>True) ((do nv X.P x v (<- lh k):Mo Unit) st) Q E:=by
    induction o using Internal.O.casesOn with
    |exc c d=>induction d using Option.casesOn with
     |none=>exact absurd ⟨c,rfl⟩ hx
     |some d=>exact W
    |_=>exact W
   exact T0 Z I hr hv _ _ W'
 |_=>exact(W:False).elim
end
end
section
open Builtin Builtin.ObjectAttr
section
noncomputable def xR(i:LM):String:=match i with | .app => "list.append" |.ext => "list.extend" |.pop => "list.pop" |.cnt => "list.count"
theorem uX(I:ai X C ρ st s){k:Nat}{a:Addr}{xs ys:List V}{vs ws:List Value}{n t':Nat}{f:Array Value->Array Value}(e:ρ[k]?=some a)(aQ:Nat.ble st.lo k=true)(g:st.tr.get k=some (.list xs))(h:IsL s.heap a vs.toArray n)(hf:f vs.toArray=ws.toArray)(hr:aB X s.heap ρ ys ws) :
  am X C ρ s {st with tr:=st.tr.put k (.list ys)} ρ {s with heap:=s.heap.update a (Obj.mapSeq f),toks:=t'}:=by
 obtain u:=IsL.update h f;obtain u:=aW u hf;refine am.cW I (λb o hb q=>by refine ck q ?_;exact kV _ _ _ _ hb) (by simp) e aQ g (.inl λY Y=>nofun) u λkv=>?_
 exact⟨rfl,ws,_,rfl,aB.mono kv hr,rfl,rfl⟩
theorem Nk{α : Type}:∀{l:List α} {v:α},l.getLast? = some v->l=l.dropLast++[v]:=by
 intro l v h;refine aF (List.getLast?_eq_some_iff.mp h) ?_;rintro ys rfl;simp
theorem LR(l:Addr)(items:Array Value)(n:Nat)(b:Addr)(items2:Array Value)(n2:Nat)(dd:Option Addr)(sl:Array (Option Value))(Wb:¬(!items.isEmpty&&Builtin.List.listTooLong (items.size+items2.size))=true)(NX:items.size<=sizeLine)(tq:items.size+items2.size<=sizeLine+1) :
  Meets (Builtin.«list.extend» ⟨[.ref l,.ref b],[]⟩) (λY R s=>s.heap.get? l=some {cls:=.type "list",dict:=none,data:=.seq items n,slots := #[]}/\s.heap.get? b=some {cls:=.type "list",dict:=dd,data:=.seq items2 n2,slots:=sl}/\R (.ok (.ret Value.none)) {s with heap:=s.heap.update l (Obj.mapSeq λx=>x++items2),toks:=s.toks}) :=
 .of_wp λprog w A R s h=>by
  obtain⟨hp,g,d,tk,os⟩:=s;obtain hl:=h.1;obtain hb:=h.2.1;obtain h:=h.2.2;obtain q1:=PySem.AutoSeq1.idx_int;obtain q2:=PySem.AutoSeq1.sub_tuple_tuple;obtain q3:=PySem.AutoSeq1.sub_list_list;obtain q4:=PySem.AutoSeq1.sub_tuple_list;obtain q5:=PySem.AutoSeq1.sub_list_tuple;have hz':(items++items2).size<=sizeLine+1:=by refine aR Array.size_append ?_;exact tq
  wp_walk using (wpAny_updateSeq hl rfl (hz:=NX) (_hz':=hz')),PySem.AutoSeq1.wpAny_loadPart' hl,PySem.AutoSeq1.wpAny_loadPart' hb
  exact ao _ rfl h
theorem y6{h:Heap}{l:List V}:∀{ks:List aN} {vs:List Value},pD l=some ks->aB X h ρ l vs->StrsAre vs (ks.map aJ):=by
 induction l with
 |nil=>intro ks vs e r;obtain rfl:=ag e;obtain rfl:vs=[]:=r;exact .nil
 |cons v l ih=>
  intro ks vs e r;refine aA r ?_;rintro x ws rfl r1 r2;refine ax e λs e1 e=>ax e λk e2 e9=>?_
  obtain rfl:=iT e1;obtain rfl:=ag e9;refine aF r1 ?_;rintro t rfl;exact .cons _ t (ih e2 r2)
theorem Kg{c:aN}:∀{ks:List aN} {vs:List Value},StrsAre vs (ks.map aJ)->vs.countP (λy=>match y with | .str a _=>a==aJ c | _=>false)=ks.countP λy=>dC y c:=by
 intro x9
 induction x9 with
 |nil=>
  intro vs h
  cases h;rfl
 |cons k ks ih=>
  intro vs h
  cases h with
  |cons x t r=>
   rw[List.countP_cons,List.countP_cons,ih r]
   congr 1
   refine(?_:(if (aJ k==aJ c)=true then 1 else 0)=_);exact sb (FC k c) rfl
theorem pg{l:List V}{v:V}{vs:List Value}{h:Heap}(e:nh l=some v)(r:aB X h ρ l vs):∃val,vs=[val]/\av X h ρ v val:=by
 cases l with
 |nil=>exact aP e
 |cons w l=>
  refine bk e λq e=>?_
  obtain rfl:=List.isEmpty_iff.mp q;obtain rfl:=ag e;refine aA r ?_;rintro val ws rfl r1 r2;exact⟨val,ay (val :: ·) r2,r1⟩
theorem FX{l:List V}{p:V×V}(h:nB l=some p):l=[p.1,p.2]:=by
 cases l with
 |nil=>exact aP h
 |cons a r=>cases r with
  |nil=>exact aP h
  |cons b q=>refine bk h λz e=>?_;obtain rfl:=ag e;exact ay (a::b :: ·) (List.isEmpty_iff.mp z)
theorem uY{l:List V}{p:V×V}{vs:List Value}{h:Heap}(e:nB l=some p)(r:aB X h ρ l vs):∃a b,vs=[a,b]/\av X h ρ p.1 a/\av X h ρ p.2 b:=by
 obtain rfl:=FX e;refine aA r ?_;rintro a ws rfl r1 r;refine aA r ?_;rintro b us rfl r2 r;exact⟨a,b,ay (a::b :: ·) r,r1,r2⟩
theorem QF(I:ai X C ρ st s){k:Nat}{a:Addr}{l:List V}{args:List Value}{i:LM}(e:ρ[k]?=some a)(r:aB X s.heap ρ l args):bl X C ρ s (call (.builtin (xR i)) (.ref a::args)) (pk (mS i k l) st):=by
 intro Q E W;refine W.ob λm Lq W1=>ax Lq λo g v6=>ax v6 λxs eo em=>?_
 obtain rfl:=o9 eo;refine nG (I.CU ⟨a,rfl,e⟩ g) λa' vs n ha q1 q2 q3=>?_
 obtain rfl:=gM ha
 induction i using Internal.LM.casesOn with
 |app=>
  refine ax em λv e1 em=>bk em λhz e9=>?_
  obtain rfl:=ag e9;refine af (pg e1 r) ?_;rintro val rfl r1
  exact call_meets PySem.F.slot_list_append (ao _ q2 rfl) PySem.F.entry_list_append (PySem.F.args_list_append_2 _ _) (PySem.AutoListH.list_append_list_val_0 a vs.toArray n val (au (cb q3.length) (au (cq (iR (aD hz).1)) iA))) ⟨q2,(W1.now (uX (ws:=vs++[val]) I e (aD hz).2 g q2 (by simp) (q3.append (.one r1))) rfl)⟩
 |ext=>
  refine ax em λv e1 em=>ax em λys e2 em=>bk em λhz e9=>?_
  obtain rfl:=ag e9;refine af (pg e1 r) ?_;rintro val rfl r1;refine aA (hU I r1 e2) ?_;rintro b us rfl p2 p3;refine kS (xP p2) λdd n2 sl p2=>?_
  obtain cy:vs.toArray.size+us.toArray.size<=sizeLine:=au (cb (congr (ay HAdd.hAdd q3.length) p3.length)) (au (iR (aD hz).1) iA)
  exact call_meets PySem.F.slot_list_extend (ao _ q2 rfl) PySem.F.entry_list_extend (PySem.F.args_list_extend_2 _ _) (LR a vs.toArray n b us.toArray n2 dd sl (extend_door cy) (au (et _ _) cy) (Nat.le_succ_of_le cy)) (bP q2 p2 (W1.now (uX (ws:=vs++us) I e (aD hz).2 g q2 (by simp) (q3.append p3)) rfl))
 |pop=>
  refine bk em λhl em=>ax em λv gl em=>bk em λhz e9=>?_
  obtain rfl:=ag e9;obtain rfl:=List.isEmpty_iff.mp hl;obtain rfl:args=[]:=r;have cy:vs.toArray.size<=sizeLine:=au (cb q3.length) (au (iR (aD hz).1) iA);obtain hx:=Nk gl;obtain jn:xs.length=xs.dropLast.length+1:=by rw[hx];simp
  refine af (q3.get (i:=xs.length - 1) (x:=v) (List.getLast?_eq_getElem?.symm.trans gl)) λy hy ry=>?_
  obtain hy':vs.toArray[vs.toArray.size - 1]?=some y:=by rw[eL,q3.length];simpa using hy
  obtain cE:vs.dropLast=vs.take (xs.length - 1):=by rw[List.dropLast_eq_take,q3.length]
  refine call_meets PySem.F.slot_list_pop (ao _ q2 rfl) PySem.F.entry_list_pop (PySem.F.args_list_pop_1 _) (PySem.MeetsSeq.list_pop_last a vs.toArray n y hy' cy) ⟨q2,?_⟩
  obtain lA:=uX (t':=s.toks) (ws:=vs.dropLast) (ys:=xs.dropLast) (f:=λx=>x.eraseIdxIfInBounds (vs.toArray.size - 1)) I e (aD hz).2 g q2 (by
   unfold Array.eraseIdxIfInBounds;have:vs.toArray.size - 1<vs.toArray.size:=by rw[eL,q3.length];exact HW jn
   refine aE (dif_pos this) ?_;simp only[List.eraseIdx_toArray,eL]
   rw[List.eraseIdx_length_sub_one]) (by rw[cE,List.dropLast_eq_take];exact q3.take _)
  exact W1.now lA (ry.mono (lA.bB I))
 |cnt=>
  refine ax em λv e1 em=>ax em λc e2 em=>ax em λks xj e9=>?_
  obtain rfl:=ag e9;obtain rfl:=iT e2;refine af (pg e1 r) ?_;rintro val rfl r1;refine aF r1 ?_;rintro tc rfl;obtain hS:=y6 xj q3;refine call_meets PySem.F.slot_list_count (ao _ q2 rfl) PySem.F.entry_list_count (PySem.F.args_list_count_2 _ _) (SeqAt.list_countAt a vs.toArray n none #[] (.str (aJ c) tc) (λy=>match y with | .str a _=>a==aJ c | _=>false)) (bP q2 (λy hy=>?_) ?_)
  .refine kR (hS.all y (by simpa using hy)) ?_;rintro x t rfl;exact SeqAt.EqAt.str_str x t (aJ c) tc
  .refine tb List.toList_toArray ?_;exact tb (Kg hS) (W1.now (am.tok I) ⟨_,rfl⟩)
theorem Di(Z:aU X){m:Nat}{i:LM}(h:tW X.P m=some i):Slot "list" (X.nm m) (xR i)/\typeOf (.builtin (xR i))=pure (.type "method_descriptor"):=by
 refine bN h (λh=>bk h λq e=>?_) λh=>bN h (λh=>bk h λq e=>?_) λh=>bN h (λh=>bk h λq e=>?_) λh=>bk h λq e=>?_
 .obtain rfl:=ag e;obtain rfl:=bY q;exact⟨tb Z.o0 PySem.F.slot_list_append,PySem.F.type_list_append⟩
 .obtain rfl:=ag e;obtain rfl:=bY q;exact⟨tb Z.o5 PySem.F.slot_list_extend,PySem.F.type_list_extend⟩
 .obtain rfl:=ag e;obtain rfl:=bY q;exact⟨tb Z.o6 PySem.F.slot_list_pop,PySem.F.type_list_pop⟩
 .obtain rfl:=ag e;obtain rfl:=bY q;exact⟨tb Z.o4 PySem.F.slot_list_count,PySem.F.type_list_count⟩
end
end
section
open Builtin Builtin.ObjectAttr
theorem VA:typeOf (.type "Exception")=pure (.type "type"):=by kernel_rfl
theorem UP:Manifest.isStub "Exception" = false:=by decide +kernel
section
variable {M:Model}{A:Around}{E:WB}{s:Shared}{K:Frag}
theorem Q6{v:Value}{name:Str}{pl:Sem Bool}{Q:Value×List Value->Shared->Prop}{prog:Program}{w:World}(XK:K.In s.heap)(e:findCls K (.type "Exception") (.type "type") name=some (.val v))(hh:handedIn v=true)(h:Q (v,[]) {s with toks:=s.toks+1}):wpAny (model prog w) A (getMethod (.type "Exception") name pl) Q E s:=by
 obtain PD:opaqueClassAbove (.type "Exception")=pure none:=by unfold opaqueClassAbove;dsimp only;refine tb UP ?_;rfl
 obtain L0:Looks (model prog w) s.heap (typeOf (.type "Exception")) (.type "type"):=Looks.of_pure VA;obtain hg:findIn K (.type "type") "__getattribute__" = some (some (.builtin "type.__getattribute__")):=type_tga;refine ab (ab (L0.here ((looks_findIn XK hg).here ?_)));dsimp only;refine bq (ar canon_tga) (ab (wpAny_mono (Q:=λv=>Q (v,[])) (E:=E) ?_ (λY Y z=>aq z) λY Y z=>z));obtain LO:Looks (model prog w) s.heap (opaqueClassAbove (.type "Exception")) none:=Looks.of_pure PD
 refine cls_open XK LO L0 hg (looks_hook XK (r:=none) (by rfl)) (by show subIn K _ _=_;rfl) e
  (aq (by refine(?_:wpAny _ _ (handedOut v) _ _ _);refine bq (handedOut_of hh) ?_;exact aq h))
theorem JP{h:Heap}{C:Addr}{cd:ClassData}(x:K.In h)(e:clsIn K C=some cd):∃o,h.get? C=some o/\o.data=.cls cd:=by
 refine bX (K.lookup C) (λq=>aP ((ay (clsIn.match_1 (λY=>Option ClassData) · (λY Y c Y=>some c) λY=>none) q).symm.trans e)) λo q=>?_
 replace e:=(ay (clsIn.match_1 (λY=>Option ClassData) · (λY Y c Y=>some c) λY=>none) q).symm.trans e;refine ao o (x _ _ q) ?_;clear q;obtain⟨a,b,d,f⟩:=o;cases d<;>first | exact aP e | exact ay Data.cls (ag e)
theorem JK{e Cl:Addr}{oe:Obj}{rest:List Value}{Q:Unit->Shared->Prop}(XK:K.In s.heap)(he:s.heap.get? e=some oe)(B1:oe.cls=.ref Cl)(hi:mroIn K Cl (.type "Exception")=some true)(q:Q () s) :
  wpAny M A (checkBuiltinCall "Exception.__init__" ⟨.ref e::rest,[]⟩) Q E s:=by
 obtain⟨h,g,d,t,os⟩:=s;obtain F:=rW;obtain ly:=F.noStar;refine af (Option.bind_eq_some_iff.mp (show (clsIn K Cl).bind _=some true from hi)) λcd hc hm=>?_
 refine af (JP XK hc) ?_;rintro⟨Wv,Ww,Wx,Wy⟩ hC jg;dsimp only at jg;subst jg;simp only[checkBuiltinCall,F.initKind,F.initSplit,F.initRow];refine ab (ab (ab (lT he (tb B1 (aq ((looks_mroIn XK hi).at ?_))))));simp only[Bool.not_true,Bool.false_eq_true,if_false];unfold Bind.checkArgs
 repeat (first | (with_reducible refine lT he ?_;refine tb B1 ?_) | with_reducible refine lT hC ?_ | (with_reducible refine(looks_mroIn XK hi).at ?_) | wp_step)
 all_goals first
  |(refine wpAny_onRaise ?_;rw[show ∀(a b:String) (n:Nat),Bind.check ⟨.positional, "*", "Exception",.self,[⟨"args",.varPos,false⟩]⟩ a b n (List.map (λx=>x.fst) ({pos:=Value.ref e::rest}:Args).kw)=pure () from λa b n=>check_star_args _ _ _ _ _ _];exact aq q)
  |skip
end
end
section
open Builtin Builtin.ObjectAttr
section
theorem LP(Z:aU X)(I:ai X C ρ st s){k c:Nat}{d:Option Nat}{ev:Value}{args:List Value}(h:av X s.heap ρ (.ref k) ev)(aQ:Nat.ble st.lo k=true)(g:st.tr.get k=some (.exc c d))(hz:args.length<=sizeLine) :
  bl X C ρ s (call (.builtin "Exception.__init__") (ev::args)) (some (.ok .none {st with tr:=st.tr.put k (.exc c d)})):=by
 intro Q E W;refine cps λG kG=>?_
 refine fq (I.gO h) ?_;rintro e o ob rfl h1 h2 h3 h4;rw[g] at h2;obtain rfl:=ag h2;obtain⟨g1,g2,⟨g3,g4⟩,vs,g5,g6,g7,g8,t0,g9⟩:=h4;refine kG ?_;obtain F:=rW;obtain c1:=Z.exc c g4 g3;refine wpAny_call (codeAny_call_builtin F.init.plain F.initEntry (JK (Z.gZ I) h3 g1 c1.P4 ?_));unfold Builtin.«BaseException.__init__»;dsimp only;refine bq (aj (by decide)) ?_;have he₁:=bn (h:=s.heap) {cls:=.type "tuple",data:=.seq args.toArray} h3;refine ab (fJ (ab (ab (ij he₁ g5 g9 (ab (wpAny_setField he₁ g5 (bL (ce rfl:0<3) g6) ?_))))) (by refine(?_:args.toArray.size<=sizeLine);refine aR eL ?_;exact hz));refine wpAny_letGo (aq ?_);obtain hk:∀b o,s.heap.get? b=some o->(s.heap.push {cls:=.type "tuple",data:=.seq args.toArray}).get? b=some o:=λb o e=>bn _ e
 have A0:am X C ρ s st ρ {s with heap:=s.heap.push {cls:=.type "tuple",data:=.seq args.toArray}}:=am.quiet I hk (by simp);obtain hd:(Obj.mapFields (·.setIfInBounds 0 (.ref s.heap.objs.size)) ob).data=.fields (vs.setIfInBounds 0 (.ref s.heap.objs.size)):=nK g5 _
 obtain kp:((s.heap.push {cls:=.type "tuple",data:=.seq args.toArray}).update e (Obj.mapFields (·.setIfInBounds 0 (.ref s.heap.objs.size)))).get? e=some (Obj.mapFields (·.setIfInBounds 0 (.ref s.heap.objs.size)) ob) :=
  eI _ he₁ (nL hd)
 have B7:(Obj.mapFields (·.setIfInBounds 0 (.ref s.heap.objs.size)) ob).dict=ob.dict:=by
  obtain⟨a1,a2,a3,a4⟩:=ob;dsimp only at g5;subst g5;rfl
 refine W.now (A0.trans (am.cW A0.inv (λb o hb q=>by refine ck q ?_;exact kV _ _ _ _ hb) (by simp) h1 aQ g (.inr (kx _ _ rfl)) kp λkv=>?_)) rfl;refine⟨(Obj.cls_mapFields _ _).trans g1,?_,⟨g3,g4⟩,_,hd,by refine bh Array.size_setIfInBounds ?_;exact g6,by refine aE (Array.getElem?_setIfInBounds_ne (by decide)) ?_;exact g7,?_,_,by exact(Array.getElem?_setIfInBounds_self_of_lt (bL (ce rfl:0<3) g6))⟩
 .induction d using Option.casesOn with
  |none=>exact B7.trans g2
  |some d=>refine af g2 λx q1 q2=>?_;exact ao x q1 (B7.trans q2)
 .have:=(jQ.mono (A0.bB I) g8).mono kv;unfold jQ at this ⊢;rw[Array.getElem?_setIfInBounds_ne (by decide)];exact this
theorem Uq(I:ai X C ρ st s){t u:Tok}:bl X C ρ s (call (.builtin "str.split") [.str (aJ jT) t,.str (aJ [32]) u]) (cM vC st):=by
 intro Q E W;refine call_meets PySem.F.slot_str_split (typeIs_str _ _ _) PySem.F.entry_str_split (PySem.F.args_str_split_2 _ _) (meets_str_split_sep (aJ jT) (aJ [32]) t u (by decide +kernel) (by decide +kernel) (by decide +kernel) (by rw[UL,iQ];decide) (by refine bh iQ ?_;decide +kernel)) ?_;obtain e:Builtin.Str.partsBetween (aJ jT) (Builtin.Str.occurrences (aJ jT) (aJ [32]) 0 (aJ jT).length ((aJ jT).length+1)) (aJ [32]).length=[aJ [43],aJ [45],aJ [42],aJ [47],aJ [42,42]]:=by decide +kernel
 refine tb e ?_;obtain A0:am X C ρ s st ρ {s with toks:=s.toks+5}:=am.tok I
 obtain r:aB X s.heap ρ vC (strsFrom s.toks [aJ [43],aJ [45],aJ [42],aJ [47],aJ [42,42]]) :=
  ⟨_,_,rfl,⟨_,rfl⟩,_,_,rfl,⟨_,rfl⟩,_,_,rfl,⟨_,rfl⟩,_,_,rfl,⟨_,rfl⟩,_,_,rfl,⟨_,rfl⟩,rfl⟩
 exact(pu A0.inv r (W.after A0)).2
theorem KG(I:ai X C ρ st s){k:Nat}{a:Addr}{x:aN}{es:List (aN×V)}{d:V}{dv:Value}{t:Tok}(e:ρ[k]?=some a)(g:st.tr.get k=some (.dict es))(hd:av X s.heap ρ d dv) :
  bl X C ρ s (call (.builtin "dict.get") [.ref a,.str (aJ x) t,dv]) (some (.ok ((gD es x).getD d) st)):=by
 intro Q E W;refine cps λG kG=>aA (I.obj k a e) λo ob h2 h3 h4=>?_
 rw[g] at h2;obtain rfl:=ag h2;refine aA (AW h3 h4) λds n g2 g3 g4=>kG ?_
 obtain q:=AV (X:=X) (ρ:=ρ) (x:=x) g3
 have lo:(a==sysModules)=false:=by
  refine beq_eq_false_iff_ne.mpr λq=>?_
  have:=I.big a (bV e);obtain this:=eU this q;exact absurd this (by decide)
 refine call_meetsIn PySem.F.slot_dict_get g4.typeIs PySem.F.entry_dict_get (PySem.F.args_dict_get_3 _ _ _) (meets_dict_get_default (strKind X.prog X.w) a (strKind_is X.prog X.w _ _) lo dv) (ao _ g4 ?_)
 have:av X s.heap ρ ((gD es x).getD d) ((findBy Value.isStrOf ds.toArray (aJ x)).getD dv):=by
  unfold findBy;rw[List.find?_toArray]
  cases q2:gD es x with
  |none=>obtain q:=iD q q2;refine tb q ?_;exact hd
  |some v=>obtain q:=iD q q2;refine bE q λen Y q3 q4=>?_;refine tb q3 ?_;exact q4
 exact W.now (am.tok I) this
theorem sJ{P:Pg}{f:Nat}{fd:FD}(h:my P f=some fd):P.nest f=false/\P.fd f=some fd:=by
 obtain h:cond (P.nest f) none (P.fd f)=some fd:=h;refine gn (P.nest f) (λq=>?_) λq=>?_
 .rw [q] at h;exact⟨q,h⟩
 .rw [q] at h;exact aP h
theorem Av(Z:aU X){g:V}{gv:Value}{u:Unit}(I:ai X C ρ st s)(h:av X s.heap ρ g gv)(e:Au X.P g st=some u):jH (model X.prog X.w) gv s.heap:=by
 refine bN e (λe=>ax e λf e1 e=>ax e λfd e2 Y=>?_) λe=>bN e (λe=>ax e λc e1 e=>ax e λf e2 Y=>?_) λe=>bN e (λe=>ax e λn e1 Y=>?_) λe=>bN e (λe=>ax e λn e1 Y=>?_) λe=>ax e λk e1 e=>ax e λo e2 e=>ax e λq e3 Y=>?_
 .obtain rfl:=F' e1;obtain rfl:gv=.ref (X.ad f):=h;exact aA (Z.fn f fd (sJ e2).2 (sJ e2).1) λob data h1 h2 Y=>.func (I.stay _ _ h1) h2
 .obtain rfl:=F7 e1;obtain rfl:gv=.ref (X.ad c):=h;exact keeps_K (Z.keep c (by rw[e2];rfl)) _ (Z.gZ I)
 .obtain rfl:=vg e1;obtain rfl:gv=.type (lS n):=h;exact .type
 .obtain rfl:=zb e1;obtain rfl:gv=.builtin (jW n):=h;exact .builtin
 .obtain rfl:=jC e1;obtain rfl:=DQ e3;refine fq (I.gO h) ?_;rintro a o ob rfl h1 h2 h3 h4;obtain rfl:=ag (e2.symm.trans h2);exact af h4.2 λfd g2 Y=>.func h3 g2
theorem K5(Z:aU X)(S:aV X ih)(I:ai X C ρ st s){f:E}{a:List E}{x:PySem.Expr}(h:aO X.nm C.env.scope (.call f a) x=true):bl X C ρ s (eval x C.env) ((step X.P D ih).e (.call f a) st):=by
 intro Q E W;refine lL h ?_;rintro g es kws pos rfl h;obtain hk:=(aD h).1;obtain h:=(aD h).2;obtain rfl:=cH hk;obtain hg:=(ez h).1;obtain h2:=(ez h).2.1;obtain h3:=(ez h).2.2.1;obtain h4:=(ez h).2.2.2;refine rM ((jZ h2).2.2.1 (eD hg)) (bp (S.e I h2) W λv1 aH b1 be s1 e1 A1 r1 W1=>jX h3 (bp (S.es A1.inv h3) W1 λv2 st2 b2 bT s2 e2 A2 r2 W2=>?_));have r1':=r1.mono (A2.bB A1.inv)
 exact W2.pq λu eu W3=>⟨Av Z A2.inv r1' eu,S.call A2.inv r1' r2 _ _ W3⟩
end
end
section
open Builtin Builtin.ObjectAttr
section
def MG(X:Sx)(C:bw)(ov:Value)(m:Nat)(B:Sem Bool)(pos:Pos)(es:List PySem.Expr)(Q:WB)(E:WB)(s:Shared):Prop :=
 wpAny (model X.prog X.w) C.A (getMethod ov (X.nm m) B) (λp s₂=>wpAny (model X.prog X.w) C.A (callWith pos p.1 p.2 (backTo pos (starEach es C.env)) []) Q E s₂) E s
section
variable {m:Nat}{a:List Internal.E}{es:List PySem.Expr}{pos:Pos}{B:Sem Bool}{ov:Value}{mo:Mo V}{Q:WB}{E:WB}
theorem QZ(Z:aU X)(S:aV X ih)(I:ai X C ρ st s){k:Nat}{o:O}{ad:Addr}(h5:bD X.nm C.env.scope a es=true)(r1:av X s.heap ρ (.ref k) (.ref ad))(eo:st.tr.get k=some o)(em:xX X.P ih k m a st o=some mo)(W:aG X C ρ s (av X) (mo st) Q E) :
  MG X C (.ref ad) m B pos es Q E s:=by
 refine ax em λcd ei em=>ax em λf hm em=>ax em λod gd em=>ax em λes' en em=>bk em λhl e9=>?_
 obtain rfl:=ag e9;obtain rfl:=RE ei;obtain rfl:=RF en;refine Gl (I.CS r1 eo gd) λa' y obj ds n ha' p1 p2 p3 p4 p5 p6 p7 p8 p9=>?_
 obtain rfl:=gM ha';have c1:=Z.cls cd.1 p9 p8;obtain m1:=(c1.mt m f hm).1;obtain m2:=(c1.mt m f hm).2;obtain q:=DP Z (x:=m) (o:=dictOf ds n) p4 rfl;rw[Option.isNone_iff_eq_none.mp hl] at q;refine method_fn (Z.gZ I) p5 c1.ga c1.gt m1 m2 (by show (lookIn (X.nm m) (dictOf ds n)).map (·.isSome)=some false;rw[q];rfl) (jX h5 (bp (S.es I h5) W λv2 st2 b2 bT s2 e2 A2 r2 W2=>?_));obtain rf:av X s2.heap bT (.fn f) (.ref (X.ad f)):=rfl
 exact W2.pq λu eu W3=>⟨Av Z A2.inv rf eu,S.call A2.inv rf (show aB X s2.heap bT (.ref k::v2) (.ref ad::b2) from⟨_,_,rfl,r1.mono (A2.bB I),r2⟩) _ _ W3⟩
theorem Q2(Z:aU X)(S:aV X ih)(I:ai X C ρ st s){k:Nat}{o:O}{ob:Obj}{ad:Addr}(h5:bD X.nm C.env.scope a es=true)(k1:ρ[k]?=some ad)(k3:s.heap.get? ad=some ob)(k4:dV X s.heap ρ ad o ob)(em:xY X.P ih k m a o=some mo)(W:aG X C ρ s (av X) (mo st) Q E) :
  MG X C (.ref ad) m B pos es Q E s:=by
 refine ax em λl0 el em=>ax em λi hi e9=>?_
 obtain rfl:=ag e9;obtain rfl:=o9 el;obtain q1:=(Di Z hi).1;obtain q2:=(Di Z hi).2;exact getMethod_builtin ⟨_,k3,k4.1⟩ PySem.F.plainAttrs_list q1 q2 (λb e=>sb (gM e) ⟨ob,k3,k4.2.choose_spec.choose_spec.2.2.1⟩) (jX h5 (bp (S.es I h5) W λv2 st2 b2 bT s2 e2 A2 r2 W2=>⟨.builtin,QF A2.inv (A2.ext.get k1) r2 _ _ W2⟩))
theorem KE(I:ai X C ρ st s){k:Nat}{ad:Addr}{l:List V}{vs:List Value}{u:V}(k1:ρ[k]?=some ad)(r:aB X s.heap ρ l vs)(eu:AU k l st=some u):bl X C ρ s (call (.builtin "dict.get") (.ref ad::vs)) (some (.ok u st)):=by
 refine ax eu λo2 gk eu=>ax eu λes2 Lk eu=>ax eu λp ep eu=>ax eu λkey ek2 e9=>?_
 obtain rfl:=ag e9;obtain rfl:=uh Lk;refine aA (uY ep r) ?_;rintro kv dv rfl q1 rd;rw[iT ek2] at q1;refine aF q1 ?_;rintro t rfl;exact KG I k1 gk rd
theorem QY(Z:aU X)(S:aV X ih)(I:ai X C ρ st s){k:Nat}{o:O}{ob:Obj}{ad:Addr}(h5:bD X.nm C.env.scope a es=true)(k1:ρ[k]?=some ad)(k3:s.heap.get? ad=some ob)(k4:dV X s.heap ρ ad o ob)(em:xW X.P ih k m a o=some mo)(W:aG X C ρ s (av X) (mo st) Q E) :
  MG X C (.ref ad) m B pos es Q E s:=by
 refine ax em λBm ed em=>bk em λhm e9=>?_
 obtain rfl:=ag e9;obtain rfl:=uh ed;obtain rfl:m=X.P.mX:=bY hm;refine getMethod_builtin (id := "dict.get") ⟨_,k3,k4.1⟩ PySem.F.plainAttrs_dict (by refine aR Z.mX ?_;exact PySem.F.slot_dict_get) PySem.F.type_dict_get (λb e=>sb (gM e) ⟨ob,k3,k4.2.1⟩) ?_;exact jX h5 (bp (S.es I h5) W λv2 st2 b2 bT s2 e2 A2 r2 W2=>⟨.builtin,W2.ob λu eu W3=>KE A2.inv (A2.ext.get k1) r2 eu _ _ W3⟩)
theorem Q3(Z:aU X)(S:aV X ih)(I:ai X C ρ st s){v:V}(h5:bD X.nm C.env.scope a es=true)(r1:av X s.heap ρ v ov)(em:DB X.P ih v m a st=some mo)(W:aG X C ρ s (av X) (mo st) Q E):MG X C ov m B pos es Q E s:=by
 refine ax em λk ek v6=>ax v6 λo eo Lr=>?_
 obtain rfl:=jC ek;refine fq (I.gO r1) ?_;rintro ad ob obj rfl k1 k2 k3 k4;obtain rfl:=ag (eo.symm.trans k2);exact bN Lr (λem=>QZ Z S I h5 r1 eo em W) λem=>bN em (λem=>Q2 Z S I h5 k1 k3 k4 em W) λem=>QY Z S I h5 k1 k3 k4 em W
theorem Um(I:ai X C ρ st s){l:List V}{vs:List Value}{t:Tok}{u:Mo V}(r:aB X s.heap ρ l vs)(eu:Fu l st=some u):bl X C ρ s (call (.builtin "str.split") (.str (aJ jT) t::vs)) (u st):=by
 refine ax eu λv ev eu=>ax eu λc ec eu=>bk eu λhc e9=>?_
 obtain rfl:=ag e9;obtain rfl:=iT ec;obtain rfl:c=[32]:=bG ((lC _ _).symm.trans hc);refine af (pg ev r) ?_;rintro kv rfl q1;refine aF q1 ?_;rintro u rfl;exact Uq I
theorem Q4(Z:aU X)(S:aV X ih)(I:ai X C ρ st s){v:V}(h5:bD X.nm C.env.scope a es=true)(r1:av X s.heap ρ v ov)(em:DD X.P ih v m a=some mo)(W:aG X C ρ s (av X) (mo st) Q E):MG X C ov m B pos es Q E s:=by
 refine ax em λk ek em=>bk em λhm e9=>?_
 obtain rfl:=ag e9;obtain rfl:=iT ek;obtain rfl:m=X.P.mZ:=bY (aD hm).1;obtain rfl:k=jT:=bG ((lC _ _).symm.trans (aD hm).2);refine aF r1 ?_;rintro t rfl;refine getMethod_builtin (id := "str.split") (typeIs_str _ _ _) PySem.F.plainAttrs_str (by refine aR Z.mZ ?_;exact PySem.F.slot_str_split) PySem.F.type_str_split (λb e=>nomatch e) ?_;exact jX h5 (bp (S.es I h5) W λv2 st2 b2 bT s2 e2 A2 r2 W2=>⟨.builtin,W2.ob λu eu W3=>Um A2.inv r2 eu _ _ W3⟩)
theorem V4(Z:aU X)(I:ai X C ρ st s){l:List V}{vs:List Value}{u:Mo V}(r:aB X s.heap ρ l vs)(eu:Gv l st=some u):bl X C ρ s (call (.builtin "Exception.__init__") vs) (u st):=by
 refine ax eu λp ep eu=>ax eu λk ek eu=>ax eu λw ew eu=>ax eu λo2 gk eu=>ax eu λcd ec eu=>bk eu λaQ e9=>?_
 obtain rfl:=ag e9;obtain rfl:=RG ec;refine aA (uY ep r) ?_;rintro ev tv rfl re rt;rw[jC ek] at re;exact LP Z I re aQ gk (by refine bh iQ ?_;simp)
theorem Q5(Z:aU X)(S:aV X ih)(I:ai X C ρ st s){v:V}(h5:bD X.nm C.env.scope a es=true)(r1:av X s.heap ρ v ov)(em:DE X.P ih v m a=some mo)(W:aG X C ρ s (av X) (mo st) Q E):MG X C ov m B pos es Q E s:=by
 refine ax em λn en em=>bk em λhm e9=>?_
 obtain rfl:=ag e9;obtain rfl:=vg en;obtain rfl:n=8:=bY (aD hm).1;obtain rfl:m=X.P.mY:=bY (aD hm).2;obtain rfl:ov=.type (lS 8):=r1;obtain A0:=am.tok (t':=s.toks+1) I;exact Q6 (v:=.builtin "Exception.__init__") (Z.gZ I) (by rw[Z.mY];exact Z.Bq) (by decide +kernel) (jX h5 (bp (S.es A0.inv h5) (W.after A0) λv2 st2 b2 bT s2 e2 A2 r2 W2=>⟨.builtin,W2.ob λu eu W3=>V4 Z A2.inv r2 eu _ _ W3⟩))
end
theorem Lb(Z:aU X)(S:aV X ih)(I:ai X C ρ st s){o:E}{m:Nat}{a:List E}{x:PySem.Expr}(h:aO X.nm C.env.scope (.meth o m a) x=true):bl X C ρ s (eval x C.env) ((step X.P D ih).e (.meth o m a) st):=by
 intro Q E W;refine lL h ?_;rintro g es kws pos rfl h;obtain hk:=(aD h).1;obtain h:=(aD h).2;obtain rfl:=cH hk;refine uw h ?_;rintro oe name apos rfl h;refine Gh (mf h) λh1 h2 h3 h4 h5 h6=>?_
 obtain rfl:=bG h1;replace h3:=eD h3;replace h6:=bG h6;exact Gz ((jZ h4).2.1.2 h3) h5 h6 h2 (bp (S.e I h4) W λv1 aH b1 be s1 e1 A1 r1 W1=>W1.ob λmo em W2=>bN em (λem=>Q3 Z S A1.inv h5 r1 em W2) λem=>bN em (λem=>Q4 Z S A1.inv h5 r1 em W2) λem=>Q5 Z S A1.inv h5 r1 em W2)
end
end
section
open Builtin
theorem KI:∀k:Fin 10,Str.ofString (toString ((k.val:Nat):Int))=aJ [48+k.val]:=by decide +kernel
section
theorem x8{i:Int}{k:Nat}(h:ua i=some k):i=(k:Int):=by cases i with
 |ofNat j=>exact ay Int.ofNat (ag h)
 |negSucc j=>exact aP h
theorem Vz{n:Nat}{l:List V}{vs:List Value}(I:ai X C ρ st s)(r:aB X s.heap ρ l vs):bl X C ρ s (call (.type (lS n)) vs) (nC n l st):=by
 intro Q E W;refine W.ob λm e W=>ax e λv e0 e=>?_
 refine af (pg e0 r) ?_;rintro val rfl r1;refine bN e (λe=>bk e λhn e=>ax e λi e1 e=>ax e λk e2 e=>bk e λhz e9=>?_) λe=>bN e (λe=>bk e λhn e=>ax e λl e1 e9=>?_) λe=>bN e (λe=>bk e λhn e=>ax e λl e1 e9=>?_) λe=>bk e λhn e=>ax e λi e1 e=>ax e λk e2 e=>bk e λhz e9=>?_
 .obtain rfl:=bY hn;obtain rfl:=fH e1;obtain rfl:=x8 e2;obtain rfl:=ag e9;refine aF r1 ?_;rintro t rfl;refine call_range_1 ?_;obtain hk:∀b o,s.heap.get? b=some o->(s.heap.push {cls:=.type "range",data:=.fields #[.int 0 s.toks,.int (Int.ofNat k) t,.int 1 (s.toks+1)]}).get? b=some o:=λb o e=>bn _ e
  exact W.now (am.quiet I hk (.inl trivial)) ⟨_,_,_,_,rfl,cj _ rfl⟩
 .obtain rfl:=bY hn;obtain rfl:=ag e9;refine aA (tJ I r1 e1) ?_;rintro a vs rfl q1 q2;obtain p1:=(kI I q2 W).1;obtain p2:=(kI I q2 W).2.1;obtain p3:=(kI I q2 W).2.2;rcases q1 with ht | hl
  .exact call_tuple_same ht (p2 a ht)
  .refine call_tuple_list hl (λh' hk=>?_) p1;obtain A0:am X C ρ s st ρ {s with heap:=h'}:=am.quiet I hk (.inl trivial);exact(kI A0.inv (aB.mono (A0.bB I) q2) (W.after A0)).2.2
 .obtain rfl:=bY hn;obtain rfl:=ag e9;refine aA (tJ I r1 e1) ?_;rintro a vs rfl q1 q2
  obtain⟨T,o,n,hT,ho,hc,hd⟩:∃T o n,(T = "list"\/T = "tuple")/\s.heap.get? a=some o/\o.cls=.type T/\o.data=.seq vs.toArray n:=by
   rcases q1 with ⟨o,e1,e2,n,e3⟩ | ⟨o,e1,e2,n,e3⟩
   .exact ⟨"tuple",o,n,.inr rfl,e1,e2,e3⟩
   .exact ⟨"list",o,n,.inl rfl,e1,e2,e3⟩
  refine call_list_seq a hT ho hc hd (λh' c' hk hg=>W.Fa λhz W=>?_) (pu I q2 W).1;replace W:=W.at fD;refine bX ((st.tr.put st.n (.list l)).get st.n) (λg=>?_) λo₀ g=>?_
  .rw [g] at W;exact(W:False).elim
  .rw [g] at W;obtain hn:s.heap.get? s.heap.objs.size=none:=dc (bI _)
   obtain ext:ca s.heap ρ (ρ++[s.heap.objs.size]):=⟨[_],rfl,λb hb=>by rw[List.mem_singleton.mp hb];exact hn⟩
   obtain kv:=I.bB (bZ.of_keeps hk) ext;obtain A0:=am.push (t':=s.toks) (o:=.list l) I hk (.inl trivial) hn hg ⟨rfl,vs,c',rfl,aB.mono kv q2,rfl,rfl⟩ (by rw[g];rfl) I.sz;exact W.now A0 (⟨_,rfl,by rw[<- I.len];simp⟩)
 .obtain rfl:=bY hn;obtain rfl:=fH e1;obtain rfl:=x8 e2;obtain rfl:=ag e9;obtain hk':k<10:=gm hz;refine aF r1 ?_;rintro t rfl;exact str_of_int_fit (N:=10) (by split<;>first | exact Int.ofNat_lt.mpr hk' | exact Int.lt_of_le_of_lt (Int.sub_nonpos_of_le (Int.natCast_nonneg _)) (by decide)) (by decide) λY=>W.now (am.tok I) ⟨_,by rw[<- KI ⟨k,hk'⟩]⟩
theorem Jq{n:Nat}{l:List V}{vs:List Value}(I:ai X C ρ st s)(r:aB X s.heap ρ l vs):bl X C ρ s (call (.builtin (jW n)) vs) (sf n l st):=by
 intro Q E W;refine W.ob λu e W=>ax e λv e0 e=>bk e λhn e=>ax e λl e1 e=>bk e λhz e9=>?_
 obtain rfl:=bY hn;obtain rfl:=ag e9;refine af (pg e0 r) ?_;rintro val rfl r1;refine aA (tJ I r1 e1) ?_;rintro a vs rfl q1 q2;obtain hs:((vs.toArray).size:Int)<2 ^ 63:=Dh (n:=vs.length) (by rw[q2.length];exact iR hz);obtain hq:Q (.int ((vs.toArray.size:Nat):Int) (s.toks+1)) {s with toks:=s.toks+1+1}:=W.now (am.tok I) ⟨_,by rw[eL,q2.length]⟩;rcases q1 with ht | hl
 .exact len_tuple ht hs hq
 .exact call_len_list hl hs hq
end
end
section
section
variable {α : Type}
theorem Dn:∀{l:List (Str×α)} {n:Str},n∈l.map (·.1)->(l.lookup n).isSome=true:=by
 intro x9
 induction x9 with
 |nil=>
  intro Y h
  simp at h
 |cons q0 r ih=>
  obtain⟨k,v⟩:=q0;intro n h;rw[eK]
  cases hb:n==k with
  |true=>rfl
  |false=>
   refine ih (bR (List.mem_cons.mp h) (λe=>?_) (λe=>?_))
   .subst e;simp at hb
   .exact e
theorem Dm:∀{l:List (Str×α)} {n:Str},n∉l.map (·.1)->l.lookup n=none:=by
 intro x9
 induction x9 with
 |nil=>
  intro Y Y
  exact rfl
 |cons q0 r ih=>
  obtain⟨k,v⟩:=q0;intro n h;rw[eK];have:(n==k)=false:=beq_eq_false_iff_ne.mpr λe=>h (by rw[e];simp)
  exact tb this (ih λq=>h (List.mem_cons_of_mem _ q))
theorem Uf(f:Str×α->List (Str×α)->Sem (ForInStep (List (Str×α))))(hf:∀p S,f p S=if (S.lookup p.1).isNone=true then pure (.yield (S++[p])) else pure (.yield S)){S:List (Str×α)} :
  ∀{l:List (Str×α)},(∀p∈l,p.1∈S.map (·.1))->∀{m:List (Str×α)},forIn (l++m) S f=forIn m S f:=by
 intro x9
 induction x9 with
 |nil=>
  intro Y m
  exact rfl
 |cons p l ih=>
  intro h m;rw[List.cons_append,List.forIn_cons,hf];have:=Dn (h p (.head _));rw[aj (by cases q:S.lookup p.1 with | none=>replace this:=q▸this;cases this | some _=>simp),pure_bind];exact(ih λq hq=>h q (.tail _ hq):forIn (l++m) S f=_)
theorem Ue(f:Str×α->List (Str×α)->Sem (ForInStep (List (Str×α))))(hf:∀p S,f p S=if (S.lookup p.1).isNone=true then pure (.yield (S++[p])) else pure (.yield S)) :
  ∀{l:List (Str×α)} {S:List (Str×α)},((S++l).map (·.1)).Nodup->forIn l S f=pure (S++l):=by
 intro x9
 induction x9 with
 |nil=>
  intro S Y
  rw[List.forIn_nil,lX]
 |cons p l ih=>
  intro S h;rw[List.forIn_cons,hf]
  have hn:p.1∉S.map (·.1):=λq=>by
   rw[gb,List.nodup_append] at h;exact h.2.2 _ q _ (by simp) rfl
  rw[ar (by rw[Dm hn];rfl),pure_bind];refine(?_:forIn l (S++[p]) f=_);rw[ih (by rw[iW];exact h)];simp
theorem rJ:∀{ps:List Str} {ws:List α},ws.length<=ps.length->(ps.zip ws).map (·.1)=ps.take ws.length
 |[],[],_=>rfl
 |[],_::_,h=>by simp at h
 |p::ps,[],_=>rfl
 |p::ps,w::ws,h=>by
  rw[List.zip_cons_cons,List.map_cons,rJ (by simpa using h)];rfl
theorem vn:∀{ps:List Str} {ws us:List α},ws.length<=ps.length->ps.zip (ws++us)=ps.zip ws++(ps.drop ws.length).zip us
 |ps,[],us,_=>by simp
 |[],_::_,us,h=>by simp at h
 |p::ps,w::ws,us,h=>by
  rw[List.cons_append,List.zip_cons_cons,List.zip_cons_cons,vn (by simpa using h)];rfl
theorem V6:∀{ps:List Str} {ws:List α},ps.Nodup->ps.length=ws.length->ps.filterMap (λn=>((ps.zip ws).lookup n).map λv=>(n,v))=ps.zip ws:=by
 have gen:∀(ps:List Str) (ws:List α) (pre:List (Str×α)),(pre.map (·.1)++ps).Nodup->ps.length=ws.length->ps.filterMap (λn=>((pre++ps.zip ws).lookup n).map λv=>(n,v))=ps.zip ws:=by
  intro ps
  induction ps with
  |nil=>intro ws pre _ _;rfl
  |cons p ps ih=>
   intro ws pre hn hl
   induction ws using List.casesOn with
   |nil=>cases hl
   |cons w ws=>
    have hp:p∉pre.map (·.1):=λq=>by rw[List.nodup_append] at hn;exact hn.2.2 _ q _ (.head _) rfl
    have e1:(pre++(p::ps).zip (w::ws)).lookup p=some w:=by
     rw[List.zip_cons_cons,List.lookup_append,Dm hp,eK];simp
    rw[List.filterMap_cons,e1]
    congr 1
    have:=ih ws (pre++[(p,w)]) (by simpa using hn) (by simpa using hl)
    simpa using this
 intro ps ws h1 h2;exact gen ps ws [] (h1) h2
theorem Ud(f:Str×α->List (Str×α)->Sem (ForInStep (List (Str×α))))(hf:∀p S,f p S=if (S.lookup p.1).isNone=true then pure (.yield (S++[p])) else pure (.yield S)){ps:List Str}{vs D:List α}{k m:Nat}(hn:ps.Nodup)(e1:ps.length=D.length+k)(e2:vs.length=k+m)(e3:m<=D.length)(e4:ps.length=(vs++D.drop m).length) :
  forIn ((ps.drop k).zip D) (ps.zip vs) f=pure (ps.zip (vs++D.drop m)):=by
 have h1:vs.length<=ps.length:=ak [_,_,_,_,_] 5 0x18c60c2618d068a4a6344a30 rfl e1 e2 e3;have t:(D.take m).length=m:=List.length_take_of_le e3;have l:(ps.drop k).length=D.length:=by rw[List.length_drop,e1,Nat.add_sub_cancel]
 have z:=vn (ps:=ps.drop k) (ws:=D.take m) (us:=D.drop m) (by rw[t,l];exact e3);rw[List.take_append_drop,t,List.drop_drop,<- e2] at z;rw[z,Uf f hf,Ue f hf,vn h1]
 .refine sb (vn h1) ?_;rw[rJ (cb e4.symm)];exact(List.take_sublist _ _).nodup hn
 .intro p hp;have hm:=List.mem_map_of_mem (f:=(·.1)) hp;rw[rJ (by rw[t,l];exact e3),t] at hm;rw[rJ h1,e2,List.take_add];exact List.mem_append_right _ hm
end
theorem Jj{M:Model}{A:Around}{E:WB}{s:Shared}{fd:FuncData}{vs:List Value}{ps:List Str}{ds:Option (Array Value)}{Q:List (Str×Value)->Shared->Prop}(po:fd.params.posonlyargs=[])(hp:fd.params.args.map (·.arg)=ps)(va:fd.params.vararg=none)(ko:fd.params.kwonlyargs=[])(kw:fd.params.kwarg=none)(hn:ps.Nodup)(hd:Looks M s.heap (seqItems? fd.defaults) ds)(h1:vs.length<=ps.length)(h2:ps.length - vs.length<=(ds.getD #[]).size)(h3:(ds.getD #[]).size<=ps.length)(h:Q (ps.zip (vs++(ds.getD #[]).toList.drop ((ds.getD #[]).size - (ps.length - vs.length)))) s):wpAny M A (bindArgs fd ⟨vs,[]⟩) Q E s:=by
 have hP:fd.params.posonlyargs.map (·.arg)++fd.params.args.map (·.arg)=ps:=by refine tb po ?_;exact hp
 rw[<- d8] at h h2 h3;generalize hD:(ds.getD #[]).toList=D at h h2 h3;have e3:D.length - (ps.length - vs.length)<=D.length:=Nat.sub_le _ _;have e2:vs.length=(ps.length - D.length)+(D.length - (ps.length - vs.length)):=Ir h1 h2 h3;generalize D.length - (ps.length - vs.length)=m at h e2 e3;have e1:ps.length=D.length+(ps.length - D.length):=(Nat.add_sub_cancel' h3).symm;have e0:D.drop (D.length - ps.length)=D:=by refine tb (Nat.sub_eq_zero_of_le h3) ?_;rfl
 have e5:ps.length=(vs++D.drop m).length:=by rw[bA,List.length_drop];exact It h1 h3 e2
 have hf:¬ (!((ps.take (ps.length - D.length)).filter λn=>((ps.zip vs).lookup n).isNone).isEmpty)=true:=λw=>by
  rw[List.filter_eq_nil_iff.mpr] at w
  .cases w
  .intro n hm y;exact Option.isSome_iff_ne_none.mp (Dn (n:=n) ((rJ h1).symm▸(List.take_prefix_take_left (Iu h2)).subset hm)) (Option.isNone_iff_eq_none.mp y)
 refine ab (aq (ab (hd.here (bq (aj (show ¬ (decide (vs.length>(fd.params.posonlyargs.map (·.arg)++fd.params.args.map (·.arg)).length)&&fd.params.vararg.isNone)=true by rw[hP,va,bQ,dX];exact λx=>Nat.not_lt.mpr h1 x.1)) (bq (aj (show ¬ (!(((fd.params.posonlyargs.map (·.arg)++fd.params.args.map (·.arg)).take ((fd.params.posonlyargs.map (·.arg)++fd.params.args.map (·.arg)).length - ((ds.getD #[]).toList.drop ((ds.getD #[]).toList.length - (fd.params.posonlyargs.map (·.arg)++fd.params.args.map (·.arg)).length)).length)).filter λn=>(((fd.params.posonlyargs.map (·.arg)++fd.params.args.map (·.arg)).zip vs).lookup n).isNone).isEmpty)=true by rw[hP,hD,e0];exact hf)) (ab (bq (show forIn ((List.drop ((fd.params.posonlyargs.map (·.arg)++fd.params.args.map (·.arg)).length - ((ds.getD #[]).toList.drop ((ds.getD #[]).toList.length - (fd.params.posonlyargs.map (·.arg)++fd.params.args.map (·.arg)).length)).length) (fd.params.posonlyargs.map (·.arg)++fd.params.args.map (·.arg))).zip ((ds.getD #[]).toList.drop ((ds.getD #[]).toList.length - (fd.params.posonlyargs.map (·.arg)++fd.params.args.map (·.arg)).length))) ((fd.params.posonlyargs.map (·.arg)++fd.params.args.map (·.arg)).zip vs) _=_ by rw[hP,hD,e0];exact Ud _ (λp S=>rfl) hn e1 e2 e3 e5) (aq ?_))))))));refine tb ko ?_;refine tb va ?_;rw[kw];refine ab (aq (aq (?_:Q (((fd.params.posonlyargs.map Arg.arg++fd.params.args.map Arg.arg)++[]).filterMap λn=>((ps.zip (vs++D.drop m)).lookup n).map λv=>(n,v)) s)));rw[hP,lX,V6 hn e5];exact h
end
section
theorem Tc(name:Str)(hs:Int)(key v:Value)(o:Obj){es:Array DictEntry}{ep:Nat}(hd:o.data=.dict es ep)(hk:StrKeys es)(mI:∃t,key=.str name t) :
  ∃es' ep',Obj.putName name hs key v o={o with data:=.dict es' ep'}/\StrKeys es'/\∀x,nsFind es' x=if x=name then some v else nsFind es x:=by
 refine aF mI ?_;rintro t rfl;obtain⟨c,d,dt,sl⟩:=o;dsimp only at hd;subst hd;refine lN (es.findIdx? (·.key.isStr name)) (λi hi=>?_) λhi=>?_
 .
  exact bF _ ep (by simp only[Obj.putName_eq,Obj.putNameByArray,hi]) (hk.modify i v) (λx=>findBy_modify (λn v=>v.isStr n) Value.isStr_inj es name x v i hi)
 .
  refine bF (es.push ⟨hs,.str name t,v⟩) (ep+1) (by simp only[Obj.putName_eq,Obj.putNameByArray,hi]) (hk.push _ _ _ _) (λx=>?_)
  exact findBy_push (λn v=>v.isStr n) es name x _ _ v (λy=>by
   refine(aE (mj _ _) ?_:(name==y)=decide (y=name))
   by_cases h:y=name
   .simp [h]
   .simp [h,bO h]) hi
theorem yi{prog:Program}{w:World}{A:Around}{E:WB}{s:Shared}{a:Addr}{m:Str->Option Value}{name:Str}{v:Value}{Q:Unit->Shared->Prop}(hn:s.heap.Ns a m)(h:∀h',h'.Ns a (λx=>if x=name then some v else m x)->Heap.SameBut a s.heap h'->(∀o,s.heap.get? a=some o->∃d,h'.get? a=some {o with data:=d})->Q () {s with heap:=h',toks:=s.toks+1}) :
  wpAny (model prog w) A (nsSet a name v) Q E s:=by
 refine nG hn λo es ep ho hd hk hm=>?_
 obtain NR:es.any (·.refKey)=false:=by
  rw[Array.any_eq_false'];intro e he;refine kR (hk e he) λn t h=>?_;simp[DictEntry.refKey,h]
 refine ab (ab (nF (aq (ab (wpAny_mkText (ab (wpAny_loadPart (s:={s with toks:=s.toks+1}) ho ?_)))))));rw[hd];dsimp only;rw[aRefKeyMayBeTheName_at,NR,Bool.and_false];refine aA (Tc name (PyData.keyHash w.params name) (.str name s.toks) v o hd hk ⟨_,rfl⟩) λes' ep' e1 e2 e3=>?_
 have kp:(s.heap.update a (Obj.putName name (PyData.keyHash w.params name) (.str name s.toks) v)).get? a=some {o with data:=.dict es' ep'}:=by
  rw[eI _ ho (by rw[e1];rfl),e1]
 refine wpAny_updatePart (s:={s with toks:=s.toks+1}) ho (h _ (qS _ es' ep' kp rfl e2 (λx=>by rw[e3,hm])) (Heap.SameBut.update ..) λo' ho'=>?_);obtain rfl:=ag (aE (bU ho) ho');exact⟨_,kp⟩
end
section
theorem bf{α : Type}(x:Nat)(v:α):∀(l:List (Nat×α)) (y:Nat),aw (aI l x v) y=if y=x then some v else aw l y:=by
 intro y9
 induction y9 with
 |nil=>
  intro y;refine(?_:(match Nat.beq x y with | true=>some v | false=>aw [] y)=_);rw[dh]
  by_cases h:x=y
  .subst h;simp
  .rw [dJ h,aj (bO h)]
 |cons h9 r ih=>
  obtain⟨z,u⟩:=h9;intro y;refine(?_:aw (match Nat.beq z x with | true=>(z,v)::r | false=>(z,u)::aI r x v) y=_);rw[dh]
  by_cases h:z=x
  .subst h;rw[eZ rfl];refine(?_:(match Nat.beq z y with | true=>some v | false=>aw r y)=if y=z then some v else (match Nat.beq z y with | true=>some u | false=>aw r y));rw[dh]
   by_cases q:z=y
   .subst q;simp
   .rw [dJ q,aj (bO q)]
  .rw [dJ h];refine(?_:(match Nat.beq z y with | true=>some u | false=>aw (aI r x v) y)=if y=x then some v else (match Nat.beq z y with | true=>some u | false=>aw r y));rw[dh]
   by_cases q:z=y
   .subst q;rw[eZ rfl,aj h]
   .rw [dJ q,ih y]
theorem wC{h h' base:Heap}:∀{l:List Env},h.FunFrames base l->(∀L∈l.filterMap (·.frame),∀o,h.get? L=some o->(∀vs,o.data≠.fields vs)->∃o',h'.get? L=some o'/\∀vs,o'.data≠.fields vs)->h'.FunFrames base l
 |[],_,_=>trivial
 |env::l,⟨hk,⟨L,o,hf,hn,ho,hd⟩,hr⟩,k=>by
  refine af (k L (List.mem_filterMap.mpr (ao env (.head _) hf)) o ho hd) λo' h1 h2=>?_
  exact bP hk (hX L o' hf hn h1 h2) (wC hr λL' hL'=>k L' (by
   refine af (List.mem_filterMap.mp hL') λe he hf'=>?_
   exact List.mem_filterMap.mpr (ao e (.tail _ he) hf')))
section
theorem am.uW(I:ai X C ρ st s){h':Heap}{t':Nat}{loc':List (Nat×V)}{m':Str->Option Value}(hn:h'.Ns C.env.locals m')(hs:Heap.SameBut C.env.locals s.heap h')(ho:∀o,s.heap.get? C.env.locals=some o->∃d,h'.get? C.env.locals=some {o with data:=d})(hl:∀x v,aw loc' x=some v->∃val,m' (X.nm x)=some val/\av X s.heap ρ v val):am X C ρ s {st with loc:=loc'} ρ {s with heap:=h',toks:=t'}:=by
 have hk:∀b o,b≠C.env.locals->s.heap.get? b=some o->h'.get? b=some o:=λb o hb e=>(hs.2 b hb).trans e
 have step {σ : List Addr}:bZ X C σ s.heap h':=λb o e Y Y Y n=>⟨⟨o.slots,hk b o n e⟩,λY=>hk b o n e⟩
 refine cps λG kG=>?_
 have kv:bM X s.heap ρ h' ρ:=I.bB step .refl;refine af I.loc ?_;rintro m ⟨oL,es,ep,hL,hLd,Y⟩ Y;have hx:∀b o,s.heap.get? b=some o->(∀es ep,o.data≠.dict es ep)->h'.get? b=some o:=λb o e hd=>hk b o (λq=>by subst q;replace e:=aE (bU hL) e;obtain rfl:=ag e;exact hd _ _ hLd) e
 refine aF (ho _ hL) λd hL'=>kG ?_
 have dk:∃es' ep',d=.dict es' ep':=by
  refine fK hn λo' es' ep' e1 e2 Y=>?_
  obtain rfl:=ag (aE (bU hL') e1);exact kx es' ep' e2
 refine kR dk ?_;rintro es' ep' rfl;refine⟨⟨I.cfg,λb o q=>hk b o (λz=>by obtain q:=z▸q;obtain q:=I.dN▸q;exact aP q) (I.stay b o q),I.len,λk a e=>?_,I.dom,I.nd,I.new,I.apart,(ao m' hn (λx v e=>af (hl x v e) λval a b=>(ao val a (b.mono kv)))),?_,I.dN,I.ae,?_,λL jf=>?_,?_,I.dn,I.cY,?_,I.dq,I.top,I.big,I.depth,I.units,I.hdn,I.lo,I.hand⟩,step,.refl,rfl,trivial,rfl⟩
 .exact aA (I.obj k a e) λo ob h1 h2 h3=>bF o ob h1 (hk a ob (I.apart a (bV e)).2.2.1 h2) (h3.mono kv)
 .refine af I.cK λo' g1 g2=>?_
  replace g1:=aW g1 hL;obtain rfl:=ag g1;exact ao _ hL' (kx _ _ rfl)
 .refine wC I.fr λL jf o e hd=>?_
  by_cases q:L=C.env.locals
  .subst q;exact ao _ hL' (λvs z=>by cases z)
  .exact ao o (hk L o q e) hd
 .refine af (I.frC L jf) λo h1 h2=>?_
  by_cases q:L=C.env.locals
  .subst q;obtain rfl:=ag (aE (bU hL) h1);exact ao _ hL' (kx _ _ rfl)
  .exact ao o (hk L o q h1) h2
 .obtain ⟨⟨n,t,⟨o1,g1,g2,c1,g3⟩,h2⟩,⟨vs,⟨o2,g4,g5,c2,g6⟩,h4⟩⟩:=I.dr;exact⟨(aT n t ⟨o1,hx _ _ g1 (λY Y q=>by obtain q:=aW q g3;cases q),g2,c1,g3⟩ h2),(ao vs ⟨o2,hx _ _ g4 (λY Y q=>by replace q:=aW q g6;cases q),g5,c2,g6⟩ h4)⟩
 .refine bE I.tab.at_ λps h1 h2 h3=>⟨ps,hx _ _ h1 (λY Y q=>by cases q),h2,λpos c' q=>cps λG kG=>?_⟩
  refine dQ (h3 pos c' q) ?_;rintro c co e1 e2 e3 ⟨d,o',vs,t,f1,f2,f3,f4⟩;obtain rfl:d=c:=by obtain e1:=aW e1 f1;exact gM e1
  refine kG ?_;obtain kc:=hx d o' f2 (λY Y q=>by replace q:=aW q f3;cases q);replace e2:=aW e2 f2;obtain rfl:=ag e2;exact hX d _ e1 kc e3 (kz d _ vs t f1 kc f3 f4)
theorem lO(Z:aU X)(I:ai X C ρ st s){x:Nat}{v:V}{val:Value}{A:Around}{Q:Unit->Shared->Prop}{E:WB}(hx:C.env.scope.names.lookup (X.nm x)=some .local)(hv:av X s.heap ρ v val)(W:∀s',am X C ρ s {st with loc:=aI st.loc x v} ρ s'->Q () s'):wpAny (model X.prog X.w) A (storeName C.env (X.nm x) val) Q E s:=by
 refine af I.loc λm hm hl=>bq (storeName_local hx (tb I.cfg.kind rfl) _) (yi hm λh' hn hs ho=>W _ (am.uW I hn hs ho λy u e=>?_))
 rw[bf] at e
 by_cases q:y=x
 .subst q;replace e:=aE (bU (ar rfl)) e;obtain rfl:=ag e;exact ao val (by simp) hv
 .rw [aj q] at e;exact af (hl y u e) λw h1 h2=>ao w (by show (if X.nm y=X.nm x then some val else m (X.nm y))=some w;refine aE (aj λz=>q (Z.nm _ _ z)) ?_;exact h1) h2
theorem VU{M:Model}{A:Around}{E:WB}{c:Addr}{o:Obj}{v₀:Option Value}{v:Option Value}{Q:Unit->Shared->Prop}(ho:s.heap.get? c=some o)(hd:o.data=.cell v₀)(h:∀h',h'.get? c=some {o with data:=.cell v}->Heap.SameBut c s.heap h'->Q () {s with heap:=h'}):wpAny M A (cellSet c v) Q E s:=by
 exact ab (wpAny_load ho (tb hd (wpAny_update ho (h _ (eI _ ho rfl) (Heap.SameBut.update ..)))))
theorem T5(Z:aU X)(I:ai X C ρ st s){x:Nat}{v:V}{val:Value}(hx:C.env.scope.names.lookup (X.nm x)=some .local)(hv:av X s.heap ρ v val) :
  nO X C ρ s (storeName C.env (X.nm x) val) (ny x v st):=λY Y W=>lO Z I hx hv λY A=>W.now A trivial
theorem UI{env:Env}{n:Str}{v:Value}(hl:env.kindOf n=some .cell)(hk:env.scope.kind=.function):storeName env n v=(do cellSet (<- cellOf env n) (some v)):=by
 unfold storeName;rw[hl,hk];rfl
theorem Fj(I:ai X C ρ st s){x:Nat}{v:V}{val:Value}{A:Around}{Q:Unit->Shared->Prop}{E:WB}{bt:a9 Unit}(hx:C.env.scope.names.lookup (X.nm x)=some .cell)(hv:av X s.heap ρ v val)(e:rz x v st=some bt)(W:∀st' s' ρ',bt=.ok () st'->am X C ρ s st' ρ' s'->Q () s'):wpAny (model X.prog X.w) A (storeName C.env (X.nm x) val) Q E s:=by
 refine ax e λk e e1=>ax e1 λo g0 e2=>ax e2 λu e3 e4=>bk e4 λaQ e5=>?_
 obtain rfl:=DS e3;refine af (I.ae x k e) λa h1 h2=>aA (I.obj k a h1) λo ob g1 g2 g3=>?_
 obtain rfl:=ag (g0.symm.trans g1)
 obtain hd:∃u₀,ob.data=.cell u₀:=by
  induction u using Option.casesOn with
  |none=>exact⟨_,g3.2⟩
  |some u=>obtain⟨Y,w,q,Y⟩:=g3;exact⟨_,q⟩
 exact aF hd λu₀ hd=>bq (UI hx I.cfg.kind) (ab (wpAny_cellOf (h2 (.inl hx)) (VU g2 hd λh' hg hs=>W _ _ _ (ag e5).symm (am.cW I (λb o hb e=>(hs.2 b hb).trans e) (.inl trivial) h1 aQ g1 (.inl λY Y=>nofun) hg λkv=>⟨g3.1,val,rfl,hv.mono kv⟩))))
theorem TZ(I:ai X C ρ st s){x:Nat}{v:V}{val:Value}(hx:C.env.scope.names.lookup (X.nm x)=some .cell)(hv:av X s.heap ρ v val) :
  nO X C ρ s (storeName C.env (X.nm x) val) (rz x v st):=λY Y W=>bX (rz x v st) (λe=>(W.no e).elim) λr e=>Fj I hx hv e λst' s' ρ' q A=>(W.at (e.trans (ay some q))).now A trivial
end
end
section
theorem Ay{n:Str}:∀{names:List (Str×NameKind)} {k:Nat} {acc:List (Str×Addr)},n∉(names.filter (·.2==.cell)).map (·.1)->(cellsFrom k names acc).lookup n=acc.lookup n:=by
 intro x9
 induction x9 with
 |nil=>
  intro Y Y Y
  exact rfl
 |cons q0 r ih=>
  obtain⟨name,kind⟩:=q0;intro k acc h;unfold cellsFrom
  cases q:kind==.cell with
  |true=>
   rw[ar rfl];obtain hf:((name,kind)::r).filter (·.2==.cell)=(name,kind)::r.filter (·.2==.cell):=by refine aE List.filter_cons ?_;simp[q]
   rw[hf] at h;rw[ih (λm=>h (List.mem_cons_of_mem _ m)),eK];have:(n==name)=false:=beq_eq_false_iff_ne.mpr λe=>h (by refine bh e ?_;simp)
   exact tb this rfl
  |false=>
   rw[aj il];refine ih λm=>h ?_
   rw[List.filter_cons];simp only[q,Bool.false_eq_true,if_false];exact m
theorem QH{α : Type}:∀{l m:List (Nat×α)} {x:Nat} {v:α},aw (l++m) x=some v->aw l x=some v\/((∀p∈l,p.1≠x)/\aw m x=some v):=by
 intro x9
 induction x9 with
 |nil=>
  intro Y Y Y h
  exact .inr ⟨λY q=>(nomatch q),h⟩
 |cons q0 l ih=>
  obtain⟨y,u⟩:=q0;intro m x v h;change (match Nat.beq y x with | true=>some u | false=>aw (l++m) x)=some v at h;refine(?_:(match Nat.beq y x with | true=>some u | false=>aw l x)=some v\/_);rw[dh] at h ⊢
  by_cases q:y=x
  .rw [eZ q] at h ⊢;exact .inl h
  .rw [dJ q] at h ⊢;refine bR (ih h) (λa=>?_) (λq8=>aL q8 λa b=>?_)
   .exact .inl a
   .exact .inr ⟨λp hp=>(List.mem_cons.mp hp).elim (λe=>by rw[e];exact q) (a p),b⟩
section
theorem Q7(Z:aU X):∀{names:List (Str×NameKind)} {cs:List Nat} {acc:List (Str×Addr)} {ρ:List Addr} {s:Shared} {st:St},ai X C ρ st s->(names.filter (·.2==.cell)).map (·.1)=cs.map X.nm->cs.Nodup->
  iC cs st=none\/∃l st' ρ',iC cs st=some (.ok l st')/\am X C ρ s st' ρ' {s with heap:=pushCells s.heap names}/\st'.dp=st.dp/\l.map (·.1)=cs/\
   ∀x k,aw l x=some k->∃a,ρ'[k]?=some a/\(cellsFrom s.heap.objs.size names acc).lookup (X.nm x)=some a:=by
 intro y9
 induction y9 with
 |nil=>
  intro cs acc ρ s st I h Y
  induction cs using List.casesOn with
  |cons _ _=>exact(nofun:_->_) h
  |nil=>exact .inr (qT ([]) st ρ rfl (.refl I) rfl rfl (λx k e=>nomatch e))
 |cons h9 r ih=>
  obtain⟨name,kind⟩:=h9;intro cs acc ρ s st I h hn;refine gn (kind==.cell) (λq=>?_) λq=>?_
  .
   obtain hf:((name,kind)::r).filter (·.2==.cell)=r.filter (·.2==.cell):=by refine aE List.filter_cons ?_;simp[q]
   obtain h:=hf▸h;unfold pushCells cellsFrom;exact tb q (ih I h hn)
  .
   have hf:((name,kind)::r).filter (·.2==.cell)=(name,kind)::r.filter (·.2==.cell):=by rw[List.filter_cons];simp[q]
   rw[hf] at h
   induction cs using List.casesOn with
   |nil=>cases h
   |cons x cs=>
    refine aL (List.cons.inj h) ?_;rintro rfl h2;obtain e0:iC (x::cs) st=(cf (.cell none)>>=λk=>(do let l <- iC cs;return (x,k)::l:Mo (List (Nat×Nat)))) st:=rfl;refine tb e0 ?_;refine tb fD ?_
    cases g:(st.tr.put st.n (.cell none)).get st.n with
    |none=>exact .inl rfl
    |some o₀=>
     dsimp only;obtain O9:s.heap.get? s.heap.objs.size=none:=dc (bI _);obtain hk:∀b o,s.heap.get? b=some o->(s.heap.push {cls:=.type "cell",data:=.cell none}).get? b=some o:=λb o e=>bn _ e
     have A0:am X C ρ s {st with tr:=st.tr.put st.n (.cell none),n:=st.n+1} (ρ++[s.heap.objs.size]) {s with heap:=s.heap.push {cls:=.type "cell",data:=.cell none}} :=
      am.push I hk (.inl trivial) O9 (cj _ rfl) ⟨rfl,rfl⟩ (tb g rfl) I.sz
     obtain c6:(ρ++[s.heap.objs.size])[st.n]?=some s.heap.objs.size:=by refine sb I.len ?_;simp
     obtain hx:=(List.nodup_cons.mp hn).1;obtain hn':=(List.nodup_cons.mp hn).2;refine bR (ih (acc:=(X.nm x,s.heap.objs.size)::acc) A0.inv h2 hn') (λz=>?_) (λq8=>fq q8 λl st' ρ' z1 z2 z3 z4 z5=>?_)
     .exact .inl (jV z)
     .refine .inr (qT ((x,st.n)::l) st' ρ' (by refine tb (jb z1) ?_;rfl) ?_ z3 (by refine tb List.map_cons ?_;exact sb z4 rfl) ?_)
      .unfold pushCells;rw[q];exact A0.trans z2
      .intro y k e;unfold cellsFrom;refine sb q ?_;refine tb (ar rfl) ?_;have Gw:=z5;simp only[f8] at Gw;change (match Nat.beq x y with | true=>some st.n | false=>aw l y)=some k at e;rw[dh] at e
       by_cases hy:x=y
       .subst hy;rw[eZ rfl] at e;obtain rfl:=ag e;refine ao _ (z2.ext.get c6) ?_
        rw[Ay (by
         refine tb h2 ?_;intro m;refine af (List.mem_map.mp m) λy PM PN=>?_
         exact hx (sb (Z.nm _ _ PN) PM)),eK]
        simp
       .rw [dJ hy] at e;exact Gw y k e
theorem ai.gG(I:ai X C ρ st s){Ax:List (Nat×Nat)}(hc:∀x k,aw Ax x=some k->∃a,ρ[k]?=some a/\(C.env.scope.names.lookup (X.nm x)=some .cell\/C.env.scope.names.lookup (X.nm x)=some .free->C.env.cells.lookup (X.nm x)=some a)) :
  ai X C ρ {st with loc:=[],ae:=Ax} s :=
 ⟨I.cfg,I.stay,I.len,I.obj,I.dom,I.nd,I.new,I.apart,af I.loc λm h Y=>(ao m h (λx v e=>nomatch e)),I.cK,I.dN,hc,I.fr,I.frC,I.dr,I.dn,I.cY,I.tab,I.dq,I.top,I.big,I.depth,I.units,I.hdn,I.lo,I.hand⟩
noncomputable def jF(X:Sx)(h:Heap)(ρ:List Addr):List (Nat×V)->List (Str×Value)->Prop
 |[],bs=>bs=[]
 |(x,v)::r,bs=>∃val bs',bs=(X.nm x,val)::bs'/\av X h ρ v val/\jF X h ρ r bs'
theorem jF.mono{h h':Heap}(k:bM X h ρ h' ρ'):∀{l:List (Nat×V)} {bs:List (Str×Value)},jF X h ρ l bs->jF X h' ρ' l bs:=by
 intro x9
 induction x9 with
 |nil=>
  intro Y e
  exact e
 |cons q0 r ih=>
  obtain⟨x,v⟩:=q0;intro bs q9;exact aA q9 λval bs' e a b=>bF val bs' e (av.mono k a) (ih b)
theorem Ac{h:Heap}:∀{ps:List Nat} {l:List V} {vs:List Value},aB X h ρ l vs->jF X h ρ (ps.zip l) ((ps.map X.nm).zip vs)
 |[],_,_,_=>by rfl
 |p::ps,[],vs,r=>tb (show _=[] from r) rfl
 |p::ps,x::l,vs,r=>by
  refine aA r ?_;rintro v ws rfl a b;exact bF v _ rfl a (Ac b)
theorem Jk(Z:aU X){A:Around}{E E':WB}{cs:List Nat}(f:Str×Value->PUnit->Sem (ForInStep PUnit))(hf:∀n v u,f (n,v) u=(do storeName C.env n v;pure (.yield ⟨⟩))) :
  ∀{bs:List (Nat×V)} {binds:List (Str×Value)} {ρ:List Addr} {s:Shared} {st:St} {Q:PUnit->Shared->Prop},ai X C ρ st s->jF X s.heap ρ bs binds->
   (∀p∈bs,C.env.scope.names.lookup (X.nm p.1)=some (if cs.contains p.1 then NameKind.cell else NameKind.local))->
   aG X C ρ s (λY Y Y Y=>True) (fP cs bs st) Q E'->wpAny (model X.prog X.w) A (forIn binds ⟨⟩ f) Q E s:=by
 intro x9
 induction x9 with
 |nil=>
  intro binds ρ s st Q I r Y W;obtain rfl:binds=[]:=r;rw[List.forIn_nil]
  exact aq (W.now (.refl I) trivial)
 |cons q0 bs ih=>
  obtain⟨x,v⟩:=q0;intro binds ρ s st Q I r hk W;refine aA r ?_;rintro val bs' rfl a b;rw[List.forIn_cons,hf];obtain W:aG X C ρ s (λY Y Y Y=>True) ((kL (cs.contains x) x v>>=λY=>fP cs bs) st) Q E':=W;obtain h0:=hk (x,v) (.head _);dsimp only at h0;refine ab (ab (mm (cs.contains x) (λhc=>?_) λhc=>?_))
  .
   rw[hc] at W h0;rw[ar rfl] at h0;refine bX (rz x v st) (λe=>(W.no (jV e)).elim) λr e=>Fj I h0 a e ?_
   rintro st' s' ρ' rfl A';exact aq (ih A'.inv (b.mono (A'.bB I)) (λp hp=>hk p (.tail _ hp)) ((W.at (jb e)).after A'))
  .
   rw[hc] at W h0;rw[aj il] at h0;exact lO Z I h0 a λs' A'=>aq (ih A'.inv (b.mono (A'.bB I)) (λp hp=>hk p (.tail _ hp)) (aG.after (st':={st with loc:=aI st.loc x v}) W A'))
end
end
section
section
theorem JJ{n:Str}:∀{names:List (Str×NameKind)} {k:Nat} {acc:List (Str×Addr)},(names.lookup n=some .cell\/∃a,acc.lookup n=some a)->∃a,(cellsFrom k names acc).lookup n=some a:=by
 intro x9
 induction x9 with
 |nil=>
  intro Y Y h
  exact h.elim (λe=>nomatch e) id
 |cons q0 r ih=>
  obtain⟨name,kind⟩:=q0;intro k acc h;unfold cellsFrom
  by_cases e:n=name
  .subst e
   cases q:kind==.cell with
   |true=>refine tb (ar rfl) ?_;exact ih (.inr ⟨k,by simp⟩)
   |false=>
    refine tb (aj il) ?_;rcases h with h | h
    .rw [eK,ml] at h;obtain rfl:=ag h;simp at q
    .exact ih (.inr h)
  .obtain hb:(n==name)=false:=beq_eq_false_iff_ne.mpr e;rcases h with h | ⟨a,h⟩
   .rw [eK,hb] at h
    split
    .exact ih (.inl h)
    .exact ih (.inl h)
   .split
    .exact ih (.inr ⟨a,by rw[eK];refine tb hb ?_;exact h⟩)
    .exact ih (.inr ⟨a,h⟩)
noncomputable abbrev fg(C:bw)(env:Env):bw:=⟨env,env,C.fenv::C.outer,C.A.deeper env⟩
theorem ai.enter(I:ai X C ρ st s){env:Env}{dp:Nat}(hk:env.scope.kind=.function)(hg:env.globals=mainGlobals)(hb:env.builtins=builtinsNs)(hl:env.locals=s.heap.objs.size)(hf:env.frame=some s.heap.objs.size)(hd:st.dp=dp+1)(jj:∀n,env.scope.names.lookup n=some .cell->∃a,env.cells.lookup n=some a)(mO:env.scope.names.lookup ("seen" : Str)=some .local->env.code=.ref X.cQ/\env.qual++("seen" : Str)=X.ch) :
  ai X (fg C env) ρ {st with loc:=[],ae:=[],dp:=dp} {s with heap:=s.heap.push {cls:=.type "frame",data:=.dict #[]}}:=by
 obtain hn:s.heap.get? s.heap.objs.size=none:=dc (bI _);have keep:∀b o,s.heap.get? b=some o->(s.heap.push {cls:=.type "frame",data:=.dict #[]}).get? b=some o:=λb o e=>bn _ e
 have I':ai X C ρ st {s with heap:=s.heap.push {cls:=.type "frame",data:=.dict #[]}}:=I.quiet (t':=s.toks) (λb o e=>keep _ _ (I.stay b o e)) λb o e Y=>keep b o e
 obtain hL:(s.heap.push {cls:=.type "frame",data:=.dict #[]}).get? s.heap.objs.size=some {cls:=.type "frame",data:=.dict #[]}:=cj _ rfl;refine lU (I.get_none hn) λn0 n1 n2 n3 n4 n5 n6=>?_
 have gT:(fg C env).Fs=s.heap.objs.size::C.Fs:=by
  refine(?_:(env::C.fenv::C.outer).filterMap (·.frame)=_);rw[List.filterMap_cons,hf]
 refine⟨⟨hk,hg,hb,rfl,Around.frames_deeper I.cfg.frames,jj,mO⟩,I'.stay,I'.len,I'.obj,I'.dom,I'.nd,I'.new,λa ha=>?_,?_,?_,?_,λx k e=>(nomatch e),?_,λL jf=>?_,I'.dr,I'.dn,I'.cY,I'.tab,I'.dq,I'.top,I'.big,?_,?_,I.hdn,I.lo,I'.hand⟩
 .obtain a1:=(I.apart a ha).1;obtain a2:=(I.apart a ha).2.1;obtain a3:=(I.apart a ha).2.2.1;obtain a4:=(I.apart a ha).2.2.2.1;obtain a5:=(I.apart a ha).2.2.2.2;refine hV a1 a2 ?_ ?_ a5
  .refine bh hl ?_;rintro rfl;exact n1 ha
  .rw [gT];exact λq=>(List.mem_cons.mp q).elim (λe=>n1 (sb e ha)) a4
 .refine ⟨λY=>none,?_,λx v e=>(nomatch e)⟩;refine aR hl ?_;exact Heap.Ns.new _ _
 .show ∃o,_/\_;exact ao _ (tb hl hL) ⟨_,_,rfl⟩
 .refine tb hl ?_;exact n0
 .exact bP (by refine aR hk ?_;decide) (hX _ _ hf n0 hL (λvs e=>by cases e)) I'.fr
 .replace jf:=aW jf gT;rcases List.mem_cons.mp jf with rfl | h
  .exact ao _ hL ⟨_,_,rfl⟩
  .exact I'.frC L h
 .have:=I.depth;refine(?_:C.A.depth+1+3*dp+10<recursionLimit);exact ak [_,_,_,_] 4 0x630a68002928000d5140002990a68002928000d5090d0000a630 rfl hd this
 .have:=I.units;refine(?_:C.A.units+3+40*dp+60<cLine);exact ak [_,_,_,_] 4 0x630a6800f12800a15140006990a6800f12800a15090d0000a630 rfl hd this
theorem am.back(I:ai X C ρ st s){env:Env}{s₁:Shared}{ik:List Addr}{st':St}(hl:env.locals=s.heap.objs.size)(hf:env.frame=some s.heap.objs.size)(hk:∀b o,s.heap.get? b=some o->s₁.heap.get? b=some o)(b9:ca s.heap ρ ik)(qF:s₁.gens=s.gens/\s₁.drawn=s.drawn/\s₁.os=s.os)(A:am X (fg C env) ik s₁ st' ρ' s') :
  am X C ρ s {st' with loc:=st.loc,ae:=st.ae,dp:=st.dp} ρ' s':=by
 have hn:s.heap.get? s.heap.objs.size=none:=dc (bI _);have I':=A.inv
 have gT:(fg C env).Fs=s.heap.objs.size::C.Fs:=by
  refine(?_:(env::C.fenv::C.outer).filterMap (·.frame)=_);rw[List.filterMap_cons,hf]
 have ext:ca s.heap ρ ρ':=by
  obtain e2:ca s.heap ik ρ':=A.ext.ui λa o e=>⟨o,hk a o e⟩
  exact b9.trans e2
 have d0:bZ X C (ρ.drop X.lo) s.heap s'.heap:=λb o e h1 h2 h3 h4=>by
  have hb:b≠s.heap.objs.size:=λq=>by obtain e:=q▸e;obtain e:=hn▸e;exact aP e
  obtain lq:b∉ik.drop X.lo:=(b9.drop _).ia h1 e;refine aL (A.d0 b o (hk b o e) lq h2 h3 (by refine bh hl ?_;exact hb)) λp1 p2=>?_
  exact⟨p1,λq=>p2 (by rw[gT];exact λz=>(List.mem_cons.mp z).elim hb q)⟩
 refine cps λG kG=>?_
 obtain step:=d0.weak;refine af I.cK λoL hL hLc=>?_
 have mC:C.env.locals∉ρ:=λq=>(I.apart _ q).2.2.1 rfl
 refine af I.loc ?_;rintro m ⟨o,es,ep,g1,g2,g3,g4⟩ hm;refine kG ?_
 obtain hLs:C.env.locals≠X.src:=λq=>by
  refine ci I.dr.src ?_;rintro Y Y ⟨o',h1,Y,Y,h3⟩ Y;rw[<- q,g1] at h1;obtain rfl:=ag h1;obtain h3:=aW h3 g2;cases h3
 obtain hLt:C.env.locals≠X.tab:=λq=>by
  refine af I.tab.at_ λps h1 Y=>?_
  obtain h1:=q▸h1;obtain h1:=g1▸h1;obtain rfl:=ag h1;cases g2
 obtain on:C.env.locals≠s.heap.objs.size:=λq=>by obtain g1:=q▸g1;obtain g1:=hn▸g1;exact aP g1
 refine aL (A.step _ _ (hk _ _ g1) (b9.ia mC g1) hLs hLt (by refine bh hl ?_;exact on)) ?_;intro q0;refine aF q0 ?_;clear q0;rintro sl hL' Y
 have xL:bM X s.heap ρ s'.heap ρ':=by
  refine ci I.dr.src λns ts ff Y=>af I.tab.at_ λps gY Y=>⟨λa o e i=>?_,λa vs e n1 n2=>?_,λk a e=>ext.get e⟩
  .refine (step a o e (λq=>?_) (λq=>?_) (λq=>?_) λq=>?_).2 λq=>?_
   .refine aF (jI q) λk hk=>?_
    refine aA (I.obj k a hk) λo' ob Y h2 h3=>?_
    obtain rfl:=ag (aE (bU e) h2);exact h3.iF i
   .exact ue (tG ff (sb q e)) (by decide) i
   .rw [q,gY] at e;obtain rfl:=ag e;simp[jp] at i
   .rw [q,hL] at e;obtain rfl:=ag e;exact hLc.iF i
   .refine af (I.frC a q) λo' h1 h2=>?_
    obtain rfl:=ag (aE (bU e) h1);exact h2.iF i
  .refine bE e λo h1 h2 h3=>⟨(cL o ((step a o h1 n1 n2 (λq=>?_) λq=>?_).2 λq=>?_) h2 h3),ext.ia n1 h1⟩
   .rw [q,gY] at h1;obtain rfl:=ag h1;cases h2
   .rw [q,hL] at h1;obtain rfl:=ag h1;exact hLc.noSeq h3.choose_spec
   .refine af (I.frC a q) λo' g1 g2=>?_
    obtain rfl:=ag (aE (bU h1) g1);exact g2.noSeq h3.choose_spec
 refine⟨⟨I.cfg,I'.stay,I'.len,I'.obj,I'.dom,I'.nd,I'.new,λa ha=>?_,?_,?_,I.dN,λx k e=>?_,I'.fr.2.2,λL jf=>I'.frC L (by refine aR gT ?_;exact .tail _ jf),I'.dr,I'.dn,I'.cY,I'.tab,I'.dq,I'.top,I'.big,I.depth,I.units,I'.hdn,I'.lo,?_⟩,d0,ext,A.gens.trans qF.1,trivial,A.os.trans qF.2.2⟩
 .refine fX (I'.apart a ha) λa1 a2 a3 a4 a5=>hV a1 a2 ?_ (λq=>a4 (by refine aR gT ?_;exact .tail _ q)) a5
  rintro rfl;exact ext.ia mC g1 ha
 .exact ao m (qS _ es ep hL' g2 g3 g4) (λx v e=>af (hm x v e) λval a b=>(ao val a (b.mono xL)))
 .obtain rfl:=ag (aE (bU hL) g1);exact ao _ hL' hLc
 .exact af (I.ae x k e) λa h1 h2=>ao a (ext.get h1) h2
 .exact I'.hand
end
end
section
section
def rT(X:Sx):Prop:=∀{C:bw} {ρ:List Addr} {s:Shared} {st:St} {k c:Nat} {d:Option Nat} {a:Addr} {Q:Unit->Shared->Prop} {E:WB},ai X C ρ st s->C.env=C.fenv->ρ[k]?=some a->st.tr.get k=some (.exc c d)->X.lo<=k->
 (∀s',am X C ρ s st ρ s'->Q () s')->wpAny (model X.prog X.w) C.A (leaving C.env (.ref a)) Q E s
theorem KA{M:Model}{h:Heap}{ds:List V}{v:Value}(x:pL X h ds v):∃o:Option (Array Value),Looks M h (seqItems? v) o/\aB X h [] ds (o.getD #[]).toList:=by
 rcases x with ⟨rfl,rfl⟩ | ⟨a,vs,rfl,⟨o,h1,h2,n,h3⟩,r⟩
 .exact ao none (Looks.of_pure rfl) rfl
 .refine ao (some vs.toArray) ?_ (r);intro A Q E s k q;refine ab (wpAny_load (k _ _ h1) ?_);refine tb h3 ?_;exact aq q
theorem Ta{h:Heap}{names:List (Str×NameKind)}:∀b o,h.get? b=some o->(pushCells h names).get? b=some o:=λb o e=>pushCells_keeps names h b o e
def pO(C:bw)(s s':Shared):Prop:=∀o,s.heap.get? C.env.locals=some o->(∃sl,s'.heap.get? C.env.locals=some {o with slots:=sl})/\(C.env.locals∉C.Fs->s'.heap.get? C.env.locals=some o)
def me(X:Sx)(C:bw)(ρ:List Addr)(s:Shared)(bt:Option (a9 V))(Q:WB)(E:WB):Prop:=match bt with
 |none=>False
 |some (.ok a st')=>∀b ρ' s',am X C ρ s st' ρ' s'->pO C s s'->av X s'.heap ρ' a b->Q b s'
 |some (.ex k st')=>∀a ρ' s',am X C ρ s st' ρ' s'->pO C s s'->ρ'[k]?=some a->(∃c d,st'.tr.get k=some (.exc c d)/\X.lo<=k)->E (.ref a) s'
theorem aG.k{bt:Option (a9 V)}{Q:WB}{E:WB}(W:aG X C ρ s (av X) bt Q E):me X C ρ s bt Q E:=by
 induction bt using Option.casesOn with
 |none=>exact W
 |some r=>
  induction r using a9.casesOn with
  |ok a st'=>exact λb ρ' s' A Y r=>W b ρ' s' A r
  |ex a st'=>exact λa ρ' s' A Y r e=>W a ρ' s' A r e
noncomputable def Ah(fd:FD)(g:Mo Fl)(clo:List (Nat×Nat))(l:List V):Mo V:=λst=>match lf fd l,st.dp with
  |some bs,dp+1=>(match ((do
    gG [] []
    let cs <- iC fd.cs
    gG [] (cs++clo)
    fP fd.cs bs
    g:Mo Fl) {st with dp:=dp}) with
   |none=>none
   |some (.ok f st')=>some (.ok (match f with | .ret v=>v | _=>.none) {st' with loc:=st.loc,ae:=st.ae,dp:=st.dp})
   |some (.ex k st')=>some (.ex k {st' with loc:=st.loc,ae:=st.ae,dp:=st.dp}))
  |_,_=>none
theorem Qh(I:ai X C ρ st s){env:Env}{s₁:Shared}{ik:List Addr}{st':St}(hl:env.locals=s.heap.objs.size)(hf:env.frame=some s.heap.objs.size)(hk:∀b o,s.heap.get? b=some o->s₁.heap.get? b=some o)(b9:ca s.heap ρ ik)(A:am X (fg C env) ik s₁ st' ρ' s'):pO C s s':=by
 intro o g1;have mC:C.env.locals∉ρ:=λq=>(I.apart _ q).2.2.1 rfl
 refine af I.loc ?_;rintro m ⟨o',es,ep,qk,g2,g3,g4⟩ hm;rw[g1] at qk;obtain rfl:=ag qk
 obtain hLs:C.env.locals≠X.src:=λq=>by
  refine ci I.dr.src ?_;rintro Y Y ⟨o',h1,Y,Y,h3⟩ Y;rw[<- q,g1] at h1;obtain rfl:=ag h1;obtain h3:=aW h3 g2;cases h3
 have hLt:C.env.locals≠X.tab:=λq=>by
  refine af I.tab.at_ λps h1 Y=>?_
  rw[<- q,g1] at h1;obtain rfl:=ag h1;cases g2
 have hn:s.heap.get? s.heap.objs.size=none:=dc (bI _);have on:C.env.locals≠s.heap.objs.size:=λq=>by rw[q,hn] at g1;exact aP g1
 refine aL (A.step _ _ (hk _ _ g1) (b9.ia mC g1) hLs hLt (by refine bh hl ?_;exact on)) λh1 h2=>?_
 refine⟨h1,λhn=>h2 λq=>?_⟩
 obtain gT:(fg C env).Fs=s.heap.objs.size::C.Fs:=by
  refine(?_:(env::C.fenv::C.outer).filterMap (·.frame)=_);rw[List.filterMap_cons,hf]
 obtain q:=aW q gT;exact(List.mem_cons.mp q).elim on hn
theorem Aj(Z:aU X)(LV:rT X)(I:ai X C ρ st s){fd:FD}{clo:List (Nat×Nat)}{l:List V}{vs:List Value}{a:Addr}{ob:Obj}{data:FuncData}{body:List Stmt}{g:Mo Fl}(ho:s.heap.get? a=some ob)(hd:ob.data=.func data)(F:rR X fd data)(qu:data.body=.stmts body)(HB:∀{env:Env} {ρ:List Addr} {s:Shared} {st:St},env.scope=data.scope->ai X (fg C env) ρ st s->dW X (fg C env) ρ s (execs body env) (g st))(jg:s.heap.CodeRec data.code data.qualname)(df:∃o:Option (Array Value),Looks (model X.prog X.w) s.heap (seqItems? data.defaults) o/\aB X s.heap ρ fd.ds (o.getD #[]).toList)(mE:∀x k,aw clo x=some k->∃y,ρ[k]?=some y/\data.closure.lookup (X.nm x)=some y)(r:aB X s.heap ρ l vs){Q:WB}{E:WB}(W:me X C ρ s (Ah fd g clo l st) Q E) :
  codeAny (model X.prog X.w) C.A (.call (.ref a) ⟨vs,[]⟩) (rL Q E) s:=by
 obtain eC:C.A.depth<recursionLimit:=by have:=I.depth;exact mR (mR this)
 replace W:me X C ρ s (match lf fd l,st.dp with
  |some bs,dp+1=>(match ((do
    gG [] []
    let cs <- iC fd.cs
    gG [] (cs++clo)
    fP fd.cs bs
    g:Mo Fl) {st with dp:=dp}) with
   |none=>none
   |some (.ok f st')=>some (.ok (match f with | .ret v=>v | _=>.none) {st' with loc:=st.loc,ae:=st.ae,dp:=st.dp})
   |some (.ex k st')=>some (.ex k {st' with loc:=st.loc,ae:=st.ae,dp:=st.dp}))
  |_,_=>none) Q E:=W
 refine bX (lf fd l) (λhb=>?_) λbs hb=>?_
 .obtain W:=hb▸W;exact(W:False).elim
 .
  cases aS:st.dp with
  |zero=>obtain W:=hb▸W;obtain W:=aS▸W;exact(W:False).elim
  |succ dp=>
   rw[hb,aS] at W;dsimp only at W;refine af df λo xn E4=>?_
   obtain ba:fd.ds.length=(o.getD #[]).size:=by exact E4.length▸rfl
   unfold lf at hb;dsimp only at hb
   have Oa:l.length<=fd.ps.length/\fd.ps.length - l.length<=fd.ds.length/\bs=fd.ps.zip (l++fd.ds.drop (fd.ds.length - (fd.ps.length - l.length))):=by
    split at hb
    .rename_i q;simp only[bQ,Nat.ble_eq] at q;exact bP q.1 q.2 ((ag hb).symm)
    .exact aP hb
   refine d7 Oa ?_;rintro c1 c2 rfl;clear hb;refine codeAny_call_function eC ho hd F.co F.gen qu jg ?_;obtain xx:vs.length=l.length:=r.length;refine Jj (ps:=fd.ps.map X.nm) (ds:=o) F.po F.ps F.va F.ko F.kw ?_ xn (by rw[aX,xx];exact c1) (by rw[aX,xx,<- ba];exact c2) (by rw[aX,<- ba];exact F.dl) ?_
   .exact List.Pairwise.map _ (λx y dB e=>dB (Z.nm _ _ e)) F.SX
   have xv:jF X s.heap ρ (fd.ps.zip (l++fd.ds.drop (fd.ds.length - (fd.ps.length - l.length)))) ((fd.ps.map X.nm).zip (vs++(o.getD #[]).toList.drop ((o.getD #[]).size - ((fd.ps.map X.nm).length - vs.length)))):=by
    rw[aX,xx,<- ba];exact Ac (r.append (E4.drop _))
   generalize NW:fd.ps.zip (l++fd.ds.drop (fd.ds.length - (fd.ps.length - l.length)))=bs at W xv;generalize ((fd.ps.map X.nm).zip (vs++(o.getD #[]).toList.drop ((o.getD #[]).size - ((fd.ps.map X.nm).length - vs.length))))=binds at xv
   obtain Pq:∀p∈bs,data.scope.names.lookup (X.nm p.1)=some (if fd.cs.contains p.1 then NameKind.cell else NameKind.local):=by
    intro p hp;obtain hp:=NW▸hp;exact F.pk p.1 (List.of_mem_zip (show (p.1,p.2)∈_ from hp)).1
   generalize eS:newEnv data.scope s.heap.objs.size data.globals (cellsFrom (s.heap.objs.size+1) data.scope.names data.closure) (data.qualname ++ ".<locals>.") (some a) data.code none data.builtins=env;have c8:env.scope=data.scope:=by refine sb eS ?_;rfl
   obtain gV:env.locals=s.heap.objs.size:=by refine sb eS ?_;rfl
   obtain gU:env.frame=some s.heap.objs.size:=by refine sb eS ?_;rfl
   obtain dj:env.cells=cellsFrom (s.heap.objs.size+1) data.scope.names data.closure:=by refine sb eS ?_;rfl
   have I0:ai X (fg C env) ρ {st with loc:=[],ae:=[],dp:=dp} {s with heap:=s.heap.push {cls:=.type "frame",data:=.dict #[]}} :=
    I.enter (by refine c8▸?_;exact F.kind) (by refine eS▸?_;exact F.glob) (by refine eS▸?_;exact F.bi) gV gU aS (λn e=>by obtain e:=c8▸e;refine dj▸?_;exact JJ (.inl e)) (λe=>by replace e:=c8▸e;refine eS▸?_;exact F.tab e)
   have W0:me X C ρ s (match ((iC fd.cs>>=λcs=>(do gG [] (cs++clo);fP fd.cs bs;g:Mo Fl)) {st with loc:=[],ae:=[],dp:=dp}) with
     |none=>none
     |some (.ok f st')=>some (.ok (match f with | .ret v=>v | _=>.none) {st' with loc:=st.loc,ae:=st.ae,dp:=dp+1})
     |some (.ex k st')=>some (.ex k {st' with loc:=st.loc,ae:=st.ae,dp:=dp+1})) Q E:=W
   refine bR (Q7 Z (acc:=data.closure) I0 F.cs F.nd) (λz=>?_) (λq8=>fq q8 λcl aH be z1 A1 z3 z4 z5=>?_)
   .rw [jV z] at W0;exact(W0:False).elim
   .obtain W0:=(jb z1)▸W0
    have ou:∀x k,aw (cl++clo) x=some k->∃y,be[k]?=some y/\(fg C env).env.cells.lookup (X.nm x)=some y:=by
     intro x k e;refine tb dj ?_;rcases QH e with q | ⟨q1,q2⟩
     .have:=z5 x k q;simp only[f8] at this;exact this
     .refine af (mE x k q2) λy y1 y2=>ao y (A1.ext.get y1) ?_
      rw[Ay]
      .exact y2
      .refine tb F.cs ?_;intro m;refine af (List.mem_map.mp m) λx' m1 m2=>?_
       obtain rfl:=Z.nm _ _ m2;obtain m1:=z4▸m1;exact af (List.mem_map.mp m1) λp p1 p2=>q1 p p1 p2
    obtain I1:=A1.inv.gG λx k e=>af (ou x k e) λy a b=>(ao y a (λY=>b))
    obtain oz:∀b o,s.heap.get? b=some o->(pushCells (s.heap.push {cls:=.type "frame",data:=.dict #[]}) data.scope.names).get? b=some o:=λb o e=>Ta b o (bn _ e)
    have b9:ca s.heap ρ be:=A1.ext.ui λb o e=>⟨o,bn _ e⟩
    have back:∀{st':St} {ρ':List Addr} {s':Shared},am X (fg C env) be {s with heap:=pushCells (s.heap.push {cls:=.type "frame",data:=.dict #[]}) data.scope.names} st' ρ' s'->
      am X C ρ s {st' with loc:=st.loc,ae:=st.ae,dp:=st.dp} ρ' s'/\pO C s s':=λA=>⟨am.back (s₁:={s with heap:=pushCells (s.heap.push {cls:=.type "frame",data:=.dict #[]}) data.scope.names}) I gV gU oz b9 (bP rfl rfl rfl) A,Qh (s₁:={s with heap:=pushCells (s.heap.push {cls:=.type "frame",data:=.dict #[]}) data.scope.names}) I gV gU oz b9 A⟩
    simp only[newFunctionEnv,Option.isSome_none,Bool.false_eq_true,if_false];refine ab (wpAny_alloc (ab (wpAny_layCells _ (λname kind cells=>by cases O0:kind==NameKind.cell<;>simp[O0]) _ _ _ _ (tb (show ({s with heap:=s.heap.push {cls:=.type "frame",data:=.dict #[]}}:Shared).heap.objs.size=s.heap.objs.size+1 from f8 ..) ?_))));have OA:({scope:=data.scope,locals:=s.heap.objs.size,globals:=data.globals,cells:=cellsFrom (s.heap.objs.size+1) data.scope.names data.closure,qual:=data.qualname ++ ".<locals>.",func:=some a,code:=data.code,frame:=some s.heap.objs.size,builtins:=data.builtins}:Env)=env:=eS;refine tb OA ?_
    replace W0:me X C ρ s (match ((fP fd.cs bs>>=λY=>g) {aH with loc:=[],ae:=cl++clo}) with
     |none=>none
     |some (.ok f st')=>some (.ok (match f with | .ret v=>v | _=>.none) {st' with loc:=st.loc,ae:=st.ae,dp:=dp+1})
     |some (.ex k st')=>some (.ex k {st' with loc:=st.loc,ae:=st.ae,dp:=dp+1})) Q E:=W0
    refine ab (Jk (C:=fg C env) (E':=λY Y=>True) Z _ (λn v u=>rfl) I1 (jF.mono (am.bB I0 A1) (jF.mono (I.bB (bZ.of_keeps λb o e=>bn _ e) .refl) xv)) (tb c8 Pq) ?_)
    cases e1:fP fd.cs bs {aH with loc:=[],ae:=cl++clo} with
    |none=>obtain W0:=(jV e1)▸W0;exact(W0:False).elim
    |some r1=>
     induction r1 using Internal.a9.casesOn with
     |ex k st2=>exact λY Y Y Y Y Y=>trivial
     |ok u st2=>
      rw[jb e1] at W0;intro _ bT s2 A2 _;refine aq ⟨Z.limit.keeps A2.inv.stay,codeAny_func (HB c8 A2.inv _ _ ?_)⟩;replace W0:=aS▸W0
      cases e2:g st2 with
      |none=>obtain W0:=e2▸W0;exact(W0:False).elim
      |some r2=>
       obtain W0:=e2▸W0
       induction r2 using Internal.a9.casesOn with
       |ok f st3=>
        intro fl eX s3 A3 rf;refine aL (back (A2.trans A3)) λA13 k13=>?_
        induction f using Internal.Fl.casesOn with
        |ret v=>refine af rf ?_;rintro val rfl rv;exact W0 _ _ _ A13 k13 rv
        |next=>obtain rfl:=rf;exact W0 _ _ _ A13 k13 (by dsimp only[av])
        |brk=>obtain rfl:=rf;exact W0 _ _ _ A13 k13 (by dsimp only[av])
        |cont=>obtain rfl:=rf;exact W0 _ _ _ A13 k13 (by dsimp only[av])
       |ex k st3=>
        intro b eX s3 A3 qt ⟨c,d,sS,Ck⟩;exact LV (C:=fg C env) A3.inv rfl qt sS Ck λs4 A4=>W0 b eX s4 (back ((A2.trans A3).trans A4)).1 (back ((A2.trans A3).trans A4)).2 qt (aT c d sS Ck)
theorem vH(Z:aU X)(S:aV X ih)(LV:rT X)(I:ai X C ρ st s){fd:FD}{clo:List (Nat×Nat)}{l:List V}{vs:List Value}{a:Addr}{ob:Obj}{data:FuncData}(ho:s.heap.get? a=some ob)(hd:ob.data=.func data)(F:kU X fd data)(jg:s.heap.CodeRec data.code data.qualname)(df:∃o:Option (Array Value),Looks (model X.prog X.w) s.heap (seqItems? data.defaults) o/\aB X s.heap ρ fd.ds (o.getD #[]).toList)(mE:∀x k,aw clo x=some k->∃y,ρ[k]?=some y/\data.closure.lookup (X.nm x)=some y)(r:aB X s.heap ρ l vs){Q:WB}{E:WB}(W:me X C ρ s ((step X.P D ih).body fd clo l st) Q E):codeAny (model X.prog X.w) C.A (.call (.ref a) ⟨vs,[]⟩) (rL Q E) s:=by
 exact af F.body λbody qu w0=>Aj (g:=ih.ss fd.body) Z LV I ho hd F.torR qu (λc8 J=>S.ss J (by show eQ _ (Env.scope _) _ _=true;refine tb c8 ?_;exact w0)) jg df mE r W
theorem Jw(Z:aU X)(S:aV X ih)(LV:rT X)(I:ai X C ρ st s){fd:FD}{clo:List (Nat×Nat)}{l:List V}{vs:List Value}{a:Addr}{ob:Obj}{data:FuncData}(ho:s.heap.get? a=some ob)(hd:ob.data=.func data)(F:kU X fd data)(jg:s.heap.CodeRec data.code data.qualname)(df:∃o:Option (Array Value),Looks (model X.prog X.w) s.heap (seqItems? data.defaults) o/\aB X s.heap ρ fd.ds (o.getD #[]).toList)(mE:∀x k,aw clo x=some k->∃y,ρ[k]?=some y/\data.closure.lookup (X.nm x)=some y)(r:aB X s.heap ρ l vs) :
  mc X C ρ s (.call (.ref a) ⟨vs,[]⟩) ((step X.P D ih).body fd clo l st):=λY Y W=>vH Z S LV I ho hd F jg df mE r W.k
end
end
section
section
variable {prog:Program}{w:World}{M:Model}{A:Around}{E:WB}{R:Result->Shared->Prop}{h:Heap}{g:Array GenState}{d:Drawn}{t:Nat}{os:OsState}{K:Frag}
variable {C:Addr}
theorem JL{rest:List Value}{Q:Unit->Shared->Prop}(hC:h.get? C=some (nV C))(hq:Q () ⟨h,g,d,t,os⟩):wpAny M A (checkBuiltinCall "Exception.__new__" ⟨.ref C::rest,[]⟩) Q E ⟨h,g,d,t,os⟩ :=
 wpAny_check_new_subU rW Af .base hC hq
theorem J8{rest:List Value}(hC:h.get? C=some (nV C))(hq:R (.ok (.ret (.ref (h.objs.size+1)))) ⟨(h.push {cls:=.type "tuple",data:=.seq rest.toArray}).push
   {cls:=.ref C,data:=.fields #[.ref h.objs.size,.none,.none,.none,.bool false,.none]},g,d,t,os⟩)(tn:rest.length<=sizeLine) :
  codeAny (model prog w) A (.builtin "Exception.__new__" ⟨.ref C::rest,[]⟩) R ⟨h,g,d,t,os⟩:=by
 obtain F:=rW;obtain We:=F.ends;obtain hcB:(Value.ref C::jc).contains (.type "Exception")=true:=by rw[nI,Af,Bool.or_true]
 obtain hcA:(Value.ref C::jc).contains (.type "AttributeError")=false:=by rw[nI];refine sb Jr ?_;rfl
 obtain hcN:(Value.ref C::jc).contains (.type "NameError")=false:=by rw[nI];refine sb Js ?_;rfl
 refine PySem.codeAny_builtinAt F.entry (PySem.wpAt_bind (PySem.wpAt_bind (PySem.wpAt_stack λp below=>PySem.wpAt_of_wpAny ?_)))
 wp_walk
 refine PySem.wpAt_of_wpAny (tb F.owner ?_)
 repeat (first | with_reducible refine wpAny_madeHere_exc F.canon hC ?_ | with_reducible refine lT hC ?_ | (with_reducible refine wpAny_isSubtype_exc hC ?_;first | refine hcB▸?_ | refine hcA▸?_ | rw[hcN]) | wp_step)
 refine(?_:R _ _);rw[f8];exact hq
theorem VB{rest:List Value}{fI:Addr}{Q:Fin->Shared->Prop}(XK:K.In h)(hC:h.get? C=some (nV C))(hi:findIn K (.ref C) "__init__" = some (some (.ref fI)))(hf:typeIn K (.ref fI)=some (.type "function"))(hq:wpAny (model prog w) A (call (.ref fI) (.ref (h.objs.size+1)::rest)) (λr s'=>r=.none/\Q (.done (.ret (.ref (h.objs.size+1)))) s') E
   ⟨(h.push {cls:=.type "tuple",data:=.seq rest.toArray}).push {cls:=.ref C,data:=.fields #[.ref h.objs.size,.none,.none,.none,.bool false,.none]},g,d,t,os⟩)(tn:rest.length<=sizeLine) :
  wpAny (model prog w) A (Builtin.«type.__call__» ⟨.ref C::rest,[]⟩) Q E ⟨h,g,d,t,os⟩:=by
 obtain F:=rW
 repeat (first | with_reducible refine lT hC ?_ | with_reducible refine wpAny_madeBy_exc hC ?_ | wp_step)
 refine codeAny_call_builtin_code (Code.quiet_builtin _ F.quiet) (JL hC (J8 hC ?_ tn))
 obtain hk:∀b o,h.get? b=some o->((h.push {cls:=.type "tuple",data:=.seq rest.toArray}).push {cls:=.ref C,data:=.fields #[.ref h.objs.size,.none,.none,.none,.bool false,.none]}).get? b=some o :=
  λb o e=>bn _ (bn _ e)
 have hC₁:=hk _ _ hC;have zC:=XK.keeps hk
 obtain OM:((h.push {cls:=.type "tuple",data:=.seq rest.toArray}).push
   {cls:=.ref C,data:=.fields #[.ref h.objs.size,.none,.none,.none,.bool false,.none]}).get? (h.objs.size+1)=some
   {cls:=.ref C,data:=.fields #[.ref h.objs.size,.none,.none,.none,.bool false,.none]}:=by heap_get
 have hcC:(Value.ref C::jc).contains (.ref C)=true:=by simp
 repeat (first | with_reducible refine lT OM ?_ | (with_reducible refine wpAny_isSubtype_exc hC₁ ?_;rw[hcC]) | wp_step)
 refine(looks_findIn zC hi).at (cR (ab ((bind_fn zC _ hf).at (ab (wpAny_mono hq (λr s' hr=>?_) λY Y x=>x)))));refine aL hr ?_;rintro rfl hQ
 wp_walk
 exact hQ
theorem JF{rest:List Value}{fI:Addr}{Q:WB}(XK:K.In h)(hC:h.get? C=some (nV C))(hi:findIn K (.ref C) "__init__" = some (some (.ref fI)))(hf:typeIn K (.ref fI)=some (.type "function"))(hq:wpAny (model prog w) (A.under (.builtin "type.__call__" ⟨.ref C::rest,[]⟩)) (call (.ref fI) (.ref (h.objs.size+1)::rest)) (λr s'=>r=.none/\Q (.ref (h.objs.size+1)) s') E
   ⟨(h.push {cls:=.type "tuple",data:=.seq rest.toArray}).push {cls:=.ref C,data:=.fields #[.ref h.objs.size,.none,.none,.none,.bool false,.none]},g,d,t,os⟩)(tn:rest.length<=sizeLine) :
  wpAny (model prog w) A (call (.ref C) rest) Q E ⟨h,g,d,t,os⟩:=by
 obtain f1:=tc_lookup;obtain f2:=tc_bind (.ref C)
 obtain hT:(⟨h,g,d,t,os⟩:Shared).TypeIs (.ref C) "type" := (ao _ hC rfl)
 refine wpAny_call (codeAny_of_tree (?_:wpAny _ _ (callAny (.ref C) _) _ _ _))
 repeat (any_goals (first | assumption | with_reducible refine lT hC ?_ | wp_step))
 exact⟨rfl,(codeAny_call_builtin_at (Code.quiet_builtin _ (by decide +kernel)) entry_typeCall (wpAny_check_type_call_sub hC (VB XK hC hi hf hq tn)))⟩
end
end
section
def im(X:Sx):Prop:=∀{C:bw} {ρ:List Addr} {s:Shared} {st:St} {l v:Nat} {r:List Ev} {t:Tok},ai X C ρ st s->st.dr=.draw l v::r->0<st.dp->
 bl X C ρ s (call (.ref (X.ad X.P.cZ)) [.ref X.src,.int (Int.ofNat l) t]) (some (.ok (.int v) {st with dr:=r}))
def md(X:Sx)(D:Nat):Prop:=∀{C:bw} {ρ:List Addr} {s:Shared} {st:St} {d:Nat} {v:V} {fs:List V} {r:List Ev} {t:Tok},ai X C ρ st s->st.dr=.stat d v fs::r->d<D->12+2*d<=st.dp->st.hd=false->
 bl X C ρ s (call (.ref (X.ad X.P.ka)) [.ref X.src,.int (Int.ofNat d) t]) (some (.ok (.tup [v,.fl fs]) {st with dr:=r}))
section
theorem uR(Z:aU X)(I:ai X C ρ st s){ds:List V}{v:Value}(x:pL X X.hF ds v):∃o:Option (Array Value),Looks (model X.prog X.w) s.heap (seqItems? v) o/\aB X s.heap ρ ds (o.getD #[]).toList:=by
 exact af (KA (M:=model X.prog X.w) x) λo h1 h2=>ao o (h1.keeps I.stay) (aB.mono I.yl h2)
theorem ai.lower(I:ai X C ρ st s){A:Around}{dp:Nat}(h:st.dp=dp+1)(h1:A.handled=C.A.handled)(h2:A.frames=C.A.frames)(h3:A.depth<=C.A.depth+3)(h4:A.units<=C.A.units+40):ai X {C with A:=A} ρ {st with dp:=dp} s :=
 ⟨⟨I.cfg.kind,I.cfg.glob,I.cfg.bi,I.cfg.frm,h2.trans I.cfg.frames,I.cfg.cells,I.cfg.tab⟩,I.stay,I.len,I.obj,I.dom,I.nd,I.new,I.apart,I.loc,I.cK,I.dN,I.ae,I.fr,I.frC,I.dr,I.dn,I.cY,I.tab,I.dq,I.top,I.big,
  by have:=I.depth;refine(?_:A.depth+3*dp+10<_);exact ak [_,_,_,_,_] 5 0x63185440014940006a8c85440014940006a84c28000d3390d0000a630 rfl h h3 this,by have:=I.units;refine(?_:A.units+40*dp+60<_);exact ak [_,_,_,_,_] 5 0x63185440078940050a8c85440078940050a84c2800a13390d0000a630 rfl h h4 this,λq=>h1.trans (I.hdn q),I.lo,by refine tb h1 ?_;exact I.hand⟩
theorem am.OS(I:ai X C ρ st s){A:Around}(h1:A.handled=C.A.handled){st':St}(Yy:am X {C with A:=A} ρ s st' ρ' s'):am X C ρ s {st' with dp:=st.dp} ρ' s' :=
 have J:=Yy.inv
 ⟨⟨I.cfg,J.stay,J.len,J.obj,J.dom,J.nd,J.new,J.apart,J.loc,J.cK,J.dN,J.ae,J.fr,J.frC,J.dr,J.dn,J.cY,J.tab,J.dq,J.top,J.big,I.depth,I.units,λq=>h1.symm.trans (J.hdn q),J.lo,by
  have:=J.hand
  obtain this:=h1▸this;exact this⟩,Yy.d0,Yy.ext,Yy.gens,Yy.drawn,Yy.os⟩
theorem VD(A:Around)(Cl:Addr)(fV:List Value):(A.under (.builtin "type.__call__" ⟨.ref Cl::fV,[]⟩)).depth=A.depth+1:=rfl
theorem VE(A:Around)(Cl:Addr)(fV:List Value):(A.under (.builtin "type.__call__" ⟨.ref Cl::fV,[]⟩)).frames=A.frames:=rfl
theorem VG(A:Around)(Cl:Addr)(fV:List Value):(A.under (.builtin "type.__call__" ⟨.ref Cl::fV,[]⟩)).units=A.units+1:=rfl
theorem VF(A:Around)(Cl:Addr)(fV:List Value):(A.under (.builtin "type.__call__" ⟨.ref Cl::fV,[]⟩)).handled=A.handled:=rfl
theorem CQ(Z:aU X)(S:aV X ih)(I:ai X C ρ st s){c k f Cl:Nat}{e:Addr}{l:List V}{vs:List Value}{Q:WB}{E:WB}(hi:X.P.init c=some f)(he:ρ[k]?=some e)(r:aB X s.heap ρ l vs)(W:aG X C ρ s (av X) (kt X.P ih c k l st) Q E) :
  codeAny (model X.prog X.w) (C.A.under (.builtin "type.__call__" ⟨.ref Cl::vs,[]⟩)) (.call (.ref (X.ad f)) ⟨.ref e::vs,[]⟩) (rL (λr s'=>r=.none/\Q (.ref e) s') E) s:=by
 unfold kt at W;replace W:=hi▸W;dsimp only at W
 cases h1:X.P.nest f with
 |true=>obtain W:=h1▸W;exact(W:False).elim
 |false=>
  refine bX (X.P.fd f) (λh2=>?_) λfd h2=>?_
  .obtain W:=h1▸W;obtain W:=h2▸W;exact(W:False).elim
  .
   refine mm (Nat.beq f X.P.cZ) (λh3=>?_) λh3=>?_
   .obtain W:=h1▸W;obtain W:=h2▸W;obtain W:=h3▸W;exact(W:False).elim
   .
    obtain W:=h1▸W;obtain W:=h2▸W;obtain W:=h3▸W;dsimp only at W;obtain cG:f≠X.P.cZ:=Nat.ne_of_beq_eq_false h3;refine aA (Z.fn f fd h2 h1) λob data g1 g2 g3=>fW (g3 cG) λg3 g4 g5 g6=>?_
    replace W:aG X C ρ s (av X) ((lower (ih.body fd [] (.ref k::l))>>=λv=>(match v with | .none=>pure (.ref k) | _=>Mo.fail:Mo V)) st) Q E:=W
    cases aS:st.dp with
    |zero=>
     have:lower (ih.body fd [] (.ref k::l)) st=none:=by unfold lower;rw[aS]
     exact(W.no (jV this)).elim
    |succ dp=>
     obtain IL:ai X {C with A:=C.A.under (.builtin "type.__call__" ⟨.ref Cl::vs,[]⟩)} ρ {st with dp:=dp} s :=
      I.lower aS rfl (VE _ _ _) (by refine aR (VD _ _ _) ?_;exact dg (et _ 2)) (by refine aR (VG _ _ _) ?_;exact dg (et _ 39))
     obtain hb:=S.body (fd:=fd) (clo:=[]) (l:=.ref k::l) (vs:=.ref e::vs) IL (I.stay _ _ g1) g2 g3 (by
      refine Gj g4 λd o ws t q1 q2 q3 q4=>?_
      exact kz d o ws t q1 (I.stay _ _ q2) q3 q4) (uR Z I g5) (λx k q=>nomatch q) (show aB X s.heap ρ (.ref k::l) (.ref e::vs) from(bF _ _ rfl (by dsimp only[av];exact⟨_,rfl,he⟩) r))
     refine hb (λr s'=>r=.none/\Q (.ref e) s') E ?_
     have mK:lower (ih.body fd [] (.ref k::l)) st=match ih.body fd [] (.ref k::l) {st with dp:=dp} with
       |none=>none
       |some (.ok a st')=>some (.ok a {st' with dp:=st.dp})
       |some (.ex _ _)=>none:=by
      unfold lower;refine aS▸?_;dsimp only
      cases ih.body fd [] (.ref k::l) {st with dp:=dp} with
      |none=>rfl
      |some r=>cases r<;>rfl
     cases hr:ih.body fd [] (.ref k::l) {st with dp:=dp} with
     |none=>obtain mK:=hr▸mK;exact(W.no (jV mK)).elim
     |some bt=>
      induction bt using Internal.a9.casesOn with
      |ex _ _=>rw[hr] at mK;exact(W.no (jV mK)).elim
      |ok v st'=>
       rw[hr] at mK;replace W:=W.at (jb mK);intro b ρ' s' A rb
       induction v using Internal.V.casesOn with
       |none=>
        dsimp only[av] at rb;obtain A':am X C ρ s {st' with dp:=st.dp} ρ' s':=am.OS I (VF _ _ _) A
        exact⟨rb,W.now A' (ao _ rfl (A'.ext.get he))⟩
       |_=>exact(W:False).elim
theorem Rk{c:Nat}{f:Nat->Mo γ}:(lG X.P c>>=f) st=match X.P.exc c with
  |true=>(cf (.exc c none)>>=f) st
  |false=>(cf (.ns [])>>=λd=>cf (.inst c d)>>=f) st:=by
 refine(?_:Mo.bind (lG X.P c) f st=_);unfold Mo.bind lG
 cases X.P.exc c with
 |true=>rfl
 |false=>
  dsimp only;refine tb fD (?_:_=Mo.bind (cf (.ns [])) _ st);have:Mo.bind (cf (.ns [])) (λd=>cf (.inst c d)>>=f) st=(cf (.ns [])>>=λd=>cf (.inst c d)>>=f) st:=rfl;refine tb this ?_;refine tb fD ?_
  cases (st.tr.put st.n (.ns [])).get st.n with
  |none=>rfl
  |some _=>rfl
theorem JQ(Z:aU X)(S:aV X ih)(I:ai X C ρ st s){c:Nat}{l:List V}{vs:List Value}(r:aB X s.heap ρ l vs)(hz:vs.length<=sizeLine) :
  bl X C ρ s (call (.ref (X.ad c)) vs) ((do let k <- lG X.P c;kt X.P ih c k l:Mo V) st):=by
 intro Q E W;replace W:=W.at Rk;refine bX (X.P.init c) (λhi=>?_) λf hi=>?_
 .
  have:∀k st',kt X.P ih c k l st'=none:=by intro k st';unfold kt;refine tb hi ?_;rfl
  refine(W.no ?_).elim
  cases X.P.exc c with
  |true=>exact yb this
  |false=>exact yb λd st'=>yb this
 .
  have oH:(X.P.init c).isSome=true:=by rw[hi];rfl
  obtain hn:s.heap.get? s.heap.objs.size=none:=dc (bI _)
  cases hx:X.P.exc c with
  |true=>
   rw[hx] at W;dsimp only at W;replace W:=W.at fD
   cases g:(st.tr.put st.n (.exc c none)).get st.n with
   |none=>rw[g] at W;exact(W:False).elim
   |some o₀=>
    rw[g] at W;dsimp only at W;have c1:=Z.exc c oH hx;have w1:=c1.vP;refine aL (c1.init f hi) λi1 i2=>?_
    obtain⟨h,gg,dr,tk,os⟩:=s;obtain oz:∀b o,h.get? b=some o->(h.push {cls:=.type "tuple",data:=.seq vs.toArray}).get? b=some o:=λb o e=>bn _ e
    obtain xh:∀b o,h.get? b=some o->((h.push {cls:=.type "tuple",data:=.seq vs.toArray}).push {cls:=.ref (X.ad c),data:=.fields #[.ref h.objs.size,.none,.none,.none,.bool false,.none]}).get? b=some o :=
     λb o e=>bn _ (oz b o e)
    obtain dz:h.get? (h.objs.size+1)=none:=dc (Nat.le_succ _)
    obtain c6:((h.push {cls:=.type "tuple",data:=.seq vs.toArray}).push {cls:=.ref (X.ad c),data:=.fields #[.ref h.objs.size,.none,.none,.none,.bool false,.none]}).get? (h.objs.size+1) =
      some {cls:=.ref (X.ad c),data:=.fields #[.ref h.objs.size,.none,.none,.none,.bool false,.none]}:=by heap_get
    obtain A0:=am.push (t':=tk) (o:=.exc c none) I xh (.inl trivial) dz c6 ⟨rfl,rfl,⟨hx,oH⟩,_,rfl,by simp,rfl,.inl rfl,_,rfl⟩ (by rw[g];rfl) (jL I.sz)
    exact JF (Z.gZ I) (I.stay _ _ w1) i1 i2 (wpAny_call (codeAny_mono (CQ Z S A0.inv hi (by refine sb I.len ?_;simp) (aB.mono (A0.bB I) r) (W.after A0)) λr s' z=>by rcases r with e | (_ | _ | _ | v)<;>exact z)) hz
  |false=>
   rw[hx] at W;dsimp only at W;replace W:=W.at fD
   cases g:(st.tr.put st.n (.ns [])).get st.n with
   |none=>obtain W:=g▸W;exact(W:False).elim
   |some o₀=>
    rw[g] at W;dsimp only at W;rw[fD] at W;refine bX (((st.tr.put st.n (.ns [])).put (st.n+1) (.inst c st.n)).get (st.n+1)) (λg2=>?_) λo₁ g2=>?_
    .obtain W:=g2▸W;exact(W:False).elim
    .
     rw[g2] at W;dsimp only at W;obtain c1:=Z.cls c oH hx;obtain i1:=(c1.init f hi).1;obtain i2:=(c1.init f hi).2;obtain⟨h,gg,dr,tk,os⟩:=s
     have A0:am X C ρ ⟨h,gg,dr,tk,os⟩ {st with tr:=st.tr.put st.n (.ns []),n:=st.n+1} (ρ++[h.objs.size]) ⟨h.push emptyDict,gg,dr,tk,os⟩ :=
      am.push (t':=tk) I (λb o e=>bn _ e) (.inl trivial) hn (cj _ rfl) ⟨rfl,rfl,rfl,[],0,rfl,rfl⟩ (by rw[g];rfl) I.sz
     obtain c6:(ρ++[h.objs.size])[st.n]?=some h.objs.size:=by rw[<- I.len];simp
     obtain dz:(h.push emptyDict).get? (h.objs.size+1)=none:=dc (by refine aR (f8 _ _) ?_;exact bI _);have A1:=am.push (h':=(h.push emptyDict).push (instObj (X.ad c) h.objs.size)) (a:=h.objs.size+1) (ob:=instObj (X.ad c) h.objs.size) (t':=tk) (o:=.inst c st.n) A0.inv (λb o e=>bn _ e) (.inl trivial) dz (by heap_get) (hV rfl ⟨_,by refine aE (kX (List.getElem?_eq_some_iff.mp c6).1) ?_;exact c6,rfl⟩ rfl hx oH) (by rw[g2];rfl) (jL I.sz);obtain A01:=A0.trans A1;refine wpAny_call (make_core (makes_of (Z.gZ I) c1.Q8) (looks_findIn (Z.gZ I) i1) (λself=>bind_fn (Z.gZ I) self i2) (.inl rfl) ?_);obtain OG:=CQ (Cl:=X.ad c) (Q:=Q) (E:=E) Z S A1.inv hi (k:=st.n+1) (e:=h.objs.size+1) (by refine aE (io (by simp[I.len])) ?_;simp[I.len]) (aB.mono (A01.bB I) r) (W.after A01);exact codeAny_mono OG λr s' z=>by rcases r with e | (_ | _ | _ | v)<;>exact z
end
end
section
section
theorem Bn{e r:List Ev}{l v:Nat}(h:sD e l=some (v,r)):e=.draw l v::r:=by
 cases e with
 |nil=>exact aP h
 |cons e q=>cases e with
  |draw aK u=>refine bk h λz e9=>?_;obtain rfl:=bY z;cases e9;rfl
  |stat _ _ _=>exact aP h
theorem LK{e r:List Ev}{d:Nat}{v:V}{fs:List V}(h:Bo e d=some ((v,fs),r)):e=.stat d v fs::r:=by
 cases e with
 |nil=>exact aP h
 |cons e q=>cases e with
  |draw _ _=>exact aP h
  |stat d' u f=>refine bk h λz e9=>?_;obtain rfl:=bY z;cases e9;rfl
theorem ya{v:V}{k:Nat}(h:ub v=some k):v=.int (k:Int):=ax h λi e1 e2=>(fH e1).trans (ay V.int (x8 e2))
section
variable {f:V}{l:List V}{fv:Value}{vs:List Value}{m:Mo V}
theorem KU(DR:im X)(I:ai X C ρ st s)(r:aB X s.heap ρ l vs)(e:qc l st=some m):bl X C ρ s (call (.ref (X.ad X.P.cZ)) vs) (m st):=by
 refine ax e λp e2 e=>ax e λk e3 e=>bk e λq e=>ax e λu e4 e8=>?_
 obtain rfl:=ag e8;refine aA (uY e2 r) ?_;rintro a b rfl r1 r2;rw[zi (aD q).1] at r1;rw[ya e3] at r2;obtain rfl:a=.ref X.src:=r1;refine aF r2 ?_;rintro t rfl;exact DR I (Bn e4) (eM (aD q).2)
theorem UD(SR:md X D)(I:ai X C ρ st s)(r:aB X s.heap ρ l vs)(e:rB D l st=some m):bl X C ρ s (call (.ref (X.ad X.P.ka)) vs) (m st):=by
 refine ax e λp e2 e=>ax e λk e3 e=>bk e λq e=>ax e λu e4 e8=>?_
 obtain rfl:=ag e8;obtain q1:=(ez q).1;obtain q2:=(ez q).2.1;obtain q3:=(ez q).2.2.1;obtain q4:=(ez q).2.2.2;refine aA (uY e2 r) ?_;rintro a b rfl r1 r2;rw[zi q1] at r1;rw[ya e3] at r2;obtain rfl:a=.ref X.src:=r1;refine aF r2 ?_;rintro t rfl;exact SR I (LK e4) (gm q2) (eM q3) (eD q4)
theorem JB(Z:aU X)(S:aV X ih)(I:ai X C ρ st s){f:Nat}(r:aB X s.heap ρ l vs)(h1:f≠X.P.cZ)(e:Ao X.P ih f l=some m):bl X C ρ s (call (.ref (X.ad f)) vs) (m st):=by
 refine ax e λfd e2 e8=>?_
 obtain rfl:=ag e8;exact aA (Z.fn f fd (sJ e2).2 (sJ e2).1) λob data g1 g2 g3=>fW (g3 h1) λg3 g4 g5 g6=>(S.body (fd:=fd) (clo:=[]) I (I.stay _ _ g1) g2 g3 (Gj g4 λd o ws t q1 q2 q3 q4=>kz d o ws t q1 (I.stay _ _ q2) q3 q4) (uR Z I g5) (λx k q=>nomatch q) r).call
theorem JA(Z:aU X)(S:aV X ih)(DR:im X)(SR:md X D)(I:ai X C ρ st s)(rf:av X s.heap ρ f fv)(r:aB X s.heap ρ l vs)(e:An X.P D ih f l st=some m):bl X C ρ s (call fv vs) (m st):=by
 refine ax e λf e1 e9=>?_
 obtain rfl:=F' e1;obtain rfl:fv=.ref (X.ad f):=rf;refine mm (Nat.beq f X.P.cZ) (λh1=>?_) λh1=>?_
 .rw [h1] at e9;obtain rfl:=bY h1;exact KU DR I r e9
 .rw [h1] at e9;refine mm (Nat.beq f X.P.ka) (λh2=>?_) λh2=>?_
  .rw [h2] at e9;obtain rfl:=bY h2;exact UD SR I r e9
  .rw [h2] at e9;exact JB Z S I r (Nat.ne_of_beq_eq_false h1) e9
theorem Jz(Z:aU X)(S:aV X ih)(I:ai X C ρ st s)(rf:av X s.heap ρ f fv)(r:aB X s.heap ρ l vs)(e:Am X.P ih f l=some m):bl X C ρ s (call fv vs) (m st):=by
 refine ax e λc e1 e=>bk e λhz e9=>?_
 obtain rfl:=ag e9;obtain rfl:=F7 e1;obtain rfl:fv=.ref (X.ad c):=rf;exact JQ Z S I r (au (cb r.length) (au (iR hz) iA))
theorem JE(I:ai X C ρ st s)(rf:av X s.heap ρ f fv)(r:aB X s.heap ρ l vs)(e:Aq f l=some m):bl X C ρ s (call fv vs) (m st):=by
 refine bN e (λe=>ax e λn e1 e9=>?_) λe=>ax e λn e1 e9=>?_
 .obtain rfl:=ag e9;obtain rfl:=vg e1;obtain rfl:fv=.type (lS n):=rf;exact Vz I r
 .obtain rfl:=ag e9;obtain rfl:=zb e1;obtain rfl:fv=.builtin (jW n):=rf;exact Jq I r
theorem JD(S:aV X ih)(I:ai X C ρ st s)(rf:av X s.heap ρ f fv)(r:aB X s.heap ρ l vs)(e:Ap ih f l st=some m):bl X C ρ s (call fv vs) (m st):=by
 refine ax e λk e1 e=>ax e λo e2 e=>ax e λq e3 e9=>?_
 obtain rfl:=ag e9;obtain rfl:=jC e1;obtain rfl:=DQ e3;refine fq (I.gO rf) ?_;rintro a o ob rfl h1 h2 h3 h4;obtain rfl:=ag (e2.symm.trans h2);obtain⟨g1,data,g2,g4,g5,g6,g7,g8,g9⟩:=h4;refine(S.body (fd:=q.1) (clo:=q.2) I h3 g2 g4 g5 (ao none ?_ (by refine aR g7 ?_;rfl)) g9 r).call;rw[g6];exact Looks.of_pure rfl
end
theorem JG(Z:aU X)(S:aV X ih)(DR:im X)(SR:md X D)(I:ai X C ρ st s){f:V}{l:List V}{fv:Value}{vs:List Value}(rf:av X s.heap ρ f fv)(r:aB X s.heap ρ l vs) :
  bl X C ρ s (call fv vs) ((step X.P D ih).call f l st):=by
 intro Q E W;exact W.ob λm e W=>bN e (λe=>JA Z S DR SR I rf r e _ _ W) λe=>bN e (λe=>Jz Z S I rf r e _ _ W) λe=>bN e (λe=>JE I rf r e _ _ W) λe=>JD S I rf r e _ _ W
end
end
section
section
theorem uf{m:E}{nm:Nat->Str}{sc:Scope}{v:PySem.Expr}{t:Option PySem.Expr}{n:Nat}{env:Env}(h:aO nm sc m v=true)(hc:ku m=false):swapsWith v t n env=pure false:=(jZ h).2.2.2.1 hc t n env
theorem Us(S:aV X ih)(I:ai X C ρ st s){l:List Internal.S}{xs:List Stmt}(h:eQ X.nm C.env.scope l xs=true):dW X C ρ s (execs xs C.env) ((step X.P D ih).ss l st):=by
 intro Q E W
 induction l using List.casesOn with
 |nil=>
  obtain rfl:=cH h
  exact aq (W.now (.refl I) rfl)
 |cons m r=>
  refine kC h ?_;rintro x xs rfl h;replace h:=aD h;refine wpAny_execs_cons (bp (S.s I h.1) W λv1 aH b1 be s1 e1 A1 r1 W1=>?_)
  induction v1 using Internal.Fl.casesOn with
  |next=>
   obtain rfl:b1=.next:=r1
   exact S.ss A1.inv h.2 _ _ W1
  |brk=>
   obtain rfl:b1=.brk:=r1
   exact W1.now (.refl A1.inv) rfl
  |cont=>
   obtain rfl:b1=.cont:=r1
   exact W1.now (.refl A1.inv) rfl
  |ret v=>
   refine af r1 ?_;rintro val rfl rv;exact W1.now (.refl A1.inv) (ao val rfl rv)
theorem TN(S:aV X ih)(I:ai X C ρ st s){e:E}{x:Stmt}(h:eA X.nm C.env.scope (.ex e) x=true):dW X C ρ s (exec x C.env) ((step X.P D ih).s (.ex e) st):=by
 intro Q E W;refine Si h ?_;rintro v pos rfl h;replace h:=aD h;refine wpAny_Expr_any (bp (S.e I h.2) W λv1 aH b1 be s1 e1 A1 r1 W1=>W1.now (.refl A1.inv) rfl) ?_ (uf h.2 (eD h.1));unfold interactive;exact tb I.cfg.kind rfl
theorem Fi(Z:aU X)(I:ai X C ρ st s){x:Nat}{c:Bool}{v:V}{val:Value}(hx:ll C.env.scope (X.nm x) c=true)(hv:av X s.heap ρ v val) :
  nO X C ρ s (storeName C.env (X.nm x) val) (kL c x v st):=by
 induction c using Bool.casesOn with
 |true=>exact TZ I (bG hx) hv
 |false=>exact T5 Z I (bG hx) hv
theorem Ff(Z:aU X)(S:aV X ih)(I:ai X C ρ st s){x:Nat}{c:Bool}{e:E}{y:Str}{cU p:Pos}{v:PySem.Expr}(h:eA X.nm C.env.scope (.asg x c e) (.Assign [.Name y cU] v p)=true)(oM:swapsWith v (some (.Name y cU)) p.line C.env=pure false) :
  dW X C ρ s (exec (.Assign [.Name y cU] v p) C.env) ((step X.P D ih).s (.asg x c e) st):=by
 intro Q E W
 obtain h:(decide (y=X.nm x)&&ll C.env.scope y c&&aO X.nm C.env.scope e v &&
   sw C.env.scope y cU v p.line (ku e && !c))=true:=h
 simp only[bQ,dX] at h;refine aL h ?_;intro q0;refine aL q0 ?_;clear q0;intro q0;refine aL q0 ?_;clear q0;rintro rfl h2 h3 h4;exact wpAny_Assign_Name (bp (S.e I h3) W λv1 aH b1 be s1 e1 A1 r1 W1=>bp (Fi Z A1.inv h2 r1) W1 λv2 st2 b2 bT s2 e2 A2 r2 W2=>W2.now (.refl A2.inv) rfl) oM
theorem TH(Z:aU X)(S:aV X ih)(I:ai X C ρ st s){o e:E}{x:Nat}{m:Stmt}(h:eA X.nm C.env.scope (.aY o x e) m=true):dW X C ρ s (exec m C.env) ((step X.P D ih).s (.aY o x e) st):=by
 intro Q E W;refine yt h ?_;rintro ts v p rfl h;refine jx h ?_;rintro t rfl h;refine uw h ?_;rintro oe name ap rfl h;refine fW (ez h) λh1 h2 h3 h4=>?_
 obtain rfl:=bG h1;exact plainObj_wpAny_Assign_Attribute (bp (S.e I h4) W λv1 aH b1 be s1 e1 A1 r1 W1=>bp (S.e A1.inv h3) W1 λv2 st2 b2 bT s2 e2 A2 r2 W2=>bp (TY Z A2.inv r2 (r1.mono (A2.bB A1.inv))) W2 λv3 st3 b3 eX s3 e3 A3 r3 W3=>W3.now (.refl A3.inv) rfl) (uf h4 (eD h2))
theorem TP(S:aV X ih)(I:ai X C ρ st s){c:E}{a b:List Internal.S}{x:Stmt}(h:eA X.nm C.env.scope (.ite c a b) x=true):dW X C ρ s (exec x C.env) ((step X.P D ih).s (.ite c a b) st):=by
 intro Q E W;refine Sl h ?_;rintro t y z pos rfl h;obtain h1:=(eO h).1;obtain h2:=(eO h).2.1;obtain h3:=(eO h).2.2;refine wpAny_If (bp (S.t I h1) W λv1 aH b1 be s1 e1 A1 r1 W1=>?_);subst r1
 induction b1 using Bool.casesOn with
 |true=>exact S.ss A1.inv h2 _ _ W1
 |false=>exact S.ss A1.inv h3 _ _ W1
theorem TQ(S:aV X ih)(I:ai X C ρ st s){e:Option E}{x:Stmt}(h:eA X.nm C.env.scope (.ret e) x=true):dW X C ρ s (exec x C.env) ((step X.P D ih).s (.ret e) st):=by
 intro Q E W
 induction e using Option.casesOn with
 |none=>
  refine Es h ?_;rintro v pos rfl h;obtain rfl:=Option.isNone_iff_eq_none.mp h
  exact ab (eG (aq (W.now (.refl I) (ao _ rfl (by dsimp only[av])))))
 |some e=>
  refine Es h ?_;rintro v pos rfl h;refine db h ?_;rintro v rfl h;exact wpAny_Return_some (bp (S.e I h) W λv1 aH b1 be s1 e1 A1 r1 W1=>W1.now (.refl A1.inv) (ao _ rfl r1))
end
end
section
theorem LB:entryFor table "proto.unchain" = some Builtin.«proto.unchain» := entryFor_of_tree (by kernel_rfl)
section
variable {prog:Program}{w:World}{A:Around}{E:WB}{s:Shared}
theorem Te{α : Type}{e h:Addr}{oh oe:Obj}{vs ve:Array Value}{Q:α->Shared->Prop}(hh:A.handled=some (.ref h))(cG:h≠e)(ho:s.heap.get? h=some oh)(hd:oh.data=.fields vs)(h2:vs[2]?=some .none)(xq:s.heap.get? e=some oe)(B6:oe.data=.fields ve)(cy:2<ve.size)(hE:∀h',Heap.SameBut e s.heap h'->(∃oe',h'.get? e=some oe'/\oe'.cls=oe.cls)->E (.ref e) {s with heap:=h'}):wpAny (model prog w) A (raiseNew (.ref e):Sem α) Q E s:=by
 refine ab (wpAny_handled (tb hh ?_));dsimp only;have:((Value.ref h != Value.ref e)=true):=by simp[bne,cG]
 refine bq (ar this) (ab (cR (wpAny_runValue (mq LB ?_))));dsimp only;refine ab (ij ho hd h2 (bq (ar (show (Value.none==Value.none)=true from rfl)) (aq (ab (ab (wpAny_load xq (tb B6 ?_)))))));dsimp only;refine bq (ar cy) (wpAny_update xq (wpAny_throw (hE _ (Heap.SameBut.update ..) (ao _ (eI _ xq (nL (nK B6 _))) (Obj.cls_mapFields ..)))))
theorem Rm{it t:Addr}{i:Nat}{items:Array Value}{h:Addr}{oh:Obj}{vs:Array Value}{Q:Option Value->Shared->Prop}(hh:A.handled=some (.ref h))(bJ:h<s.heap.objs.size)(OQ:h≠it)(ho:s.heap.get? h=some oh)(hd':oh.data=.fields vs)(h2:vs[2]?=some .none)(fR:IsTupIter s.heap it t i)(ht:IsTup s.heap t items)(hx:items[i]?=none)(hQ:∀h',Heap.ExtBut it s.heap h'->Q none {s with heap:=h'}):wpAny (model prog w) A (pyNext (.ref it)) Q E s:=by
 refine cps λG kG=>bE (id fR) λo ho' hc hd=>?_
 obtain⟨ol,tj,Y,nl,cE⟩:=ht;refine kG ?_
 refine ab (wpAny_attempt (wpAny_callSpecial?_slot (name:=Str.ofString "__next__") fR.typeIs slot_tupleiter_next
  (wpAny_call_entry slot_tupleiter_next fR.typeIs entry_tupleiter_next ?_ (args_tupleiter_next _))))
 refine(?_:wpAny _ _ (field (.ref it) 0>>=_) _ _ s);refine ab (ij ho' hd (x:=.ref t) rfl ?_);refine bq (aj (show ¬ ((Value.ref t==Value.none)=true) from il)) ?_;refine ab (ij ho' hd (x:=.int i 0) rfl ?_);refine ab (wpAny_seqItems tj cE ?_);simp only[Int.toNat_natCast,hx];refine ab (wpAny_rule (ab (wpAny_setField ho' hd (by simp) (ab (ab (fJ (ab (m:=firstArgMember _ _) (wpAny_of_eq (a:=Value.none) (by first | rfl | (simp only[firstArgMember];rfl)) (fJ ?_ (by size_fits)))) (by size_fits)))))));obtain Ph:∀{H:Heap},H=s.heap.update it (Obj.mapFields (·.setIfInBounds 0 .none))->H.get? h=some oh:=λe=>by refine tb e ?_;rw[kV _ _ _ _ OQ];exact ho
 refine Te (h:=h) (oh:=oh) (vs:=vs) hh ?_ ?_ hd' h2 (cj _ rfl) rfl (by simp;exact ak [_] 1 637716849492041 rfl) λh' hs' q9=>af q9 λoe' he' hc'=>?_
 .exact bz (bx bJ (by simp only[f8,Heap.size_update];exact by simp +arith))
 .exact bn _ (bn _ (Ph rfl))
 .refine ab (wpAny_isInstance (T := "StopIteration") (b:=true) (ao oe' he' hc') isSubtype_stop (aq (hQ _ λb o' hb e=>?_)));obtain kf:b<s.heap.objs.size:=dR e;refine aE (hs'.2 b (bz (bx kf (by simp only[f8,Heap.size_update];exact by simp +arith)))) (bn _ (bn _ ?_));refine aE (kV _ _ _ _ hb) ?_;exact e
end
end
section
def fL(X:Sx)(h:Heap)(ρ:List Addr)(it:Addr):V->Nat->Prop
 |.tup l,i=>∃a vs,IsTupIter h it a i/\IsTup h a (List.toArray vs)/\aB X h ρ l vs
 |.fl l,i=>∃a vs,h.IsListIter it a i/\h.IsList a (List.toArray vs)/\aB X h ρ l vs/\a∉ρ/\a≠X.src
 |.bg n,i=>i<=n/\IsRangeIter h it (i:Int) ((n:Int) - (i:Int)) 1
 |.ref k,i=>∃a,ρ[k]?=some a/\h.IsListIter it a i
 |_,_=>False
theorem fL.cls{X:Sx}{h:Heap}{ρ:List Addr}{it:Addr}{v:V}{i:Nat}(x:fL X h ρ it v i):∃o,h.get? it=some o/\fB o:=by
 induction v using Internal.V.casesOn with
 |tup l=>refine ci x ?_;rintro a vs ⟨o,h1,h2,h3⟩ Y;exact⟨o,h1,.inr (.inl h2),λf=>f.fi h3⟩
 |fl l=>refine ci x ?_;rintro a vs ⟨o,h1,h2,h3⟩ Y;exact⟨o,h1,.inl h2,λf=>f.fi h3⟩
 |bg n=>obtain h1:=x.2;exact⟨_,h1,.inr (.inr (.inl rfl)),λf=>f.fi rfl⟩
 |ref k=>obtain⟨a,Y,o,h1,h2,h3⟩:=x;exact⟨o,h1,.inl h2,λf=>f.fi h3⟩
 |_=>exact x.elim
section
theorem CX{h h':Heap}{it:Addr}(hs:∀b o,b≠it->h.get? b=some o->h'.get? b=some o)(hi:∀o,h.get? it=some o->fB o):bM X h ρ h' ρ :=
 ⟨λa o e i=>hs a o (λq=>by subst q;exact i.ju (hi o e)) e,λa vs q9 n _=>bE q9 λo e c r=>⟨(cL o (hs a o (λq=>by subst q;exact o7 c (by decide) (hi o e)) e) c r),n⟩,λY Y e=>e⟩
theorem Ar{α : Type}{o p:Option α}(I:ai X C ρ st s)(e:lg st o=some p):o=p/\(p=none->C.A.handled=none) :=
 bk e λq e=>by
  obtain rfl:=ag e;exact⟨rfl,λz=>by subst z;exact I.hdn (eD q)⟩
theorem Qe(I:ai X C ρ st s){v:V}{i:Nat}{it:Addr}{l:List V}(hi:fL X s.heap ρ it v i)(e:cI st v=some l) :
  ∃a vs,s.heap.IsListIter it a i/\s.heap.IsList a (List.toArray vs)/\aB X s.heap ρ l vs/\∀h',bM X s.heap ρ h' ρ->h'.IsListIter it a (i+1)->fL X h' ρ it v (i+1):=by
 refine bN e (λe=>ax e λk e1 e=>ax e λo e2 e3=>?_) λe=>?_
 .obtain rfl:=jC e1;obtain rfl:=o9 e3;refine af hi λa h1 h2=>dQ (I.xO (v:=.ref a) ⟨a,rfl,h1⟩ e2) λa' vs hv g1 g2 g3=>?_
  obtain rfl:=gM hv;exact⟨a,vs,h2,g2,g3,λh' Y z=>⟨a,h1,z⟩⟩
 .obtain rfl:=zf e
  exact jD hi λa vs h1 h2 h3 h4 h5=>⟨a,vs,h1,h2,h3,λh' kv z=>⟨a,vs,z,(kv.fl a _ h2 h4 h5).1,aB.mono kv h3,(kv.fl a _ h2 h4 h5).2,h5⟩⟩
theorem Rn(I:ai X C ρ st s){v:V}{i:Nat}{it:Addr}{o:Option V}{Q:Option Value->Shared->Prop}{E:WB}(hi:fL X s.heap ρ it v i)(e:tL v i st=some o)(k1:∀x,o=some x->∀val h' tk,av X s.heap ρ x val->Heap.SameBut it s.heap h'->fL X h' ρ it v (i+1)->Q (some val) {s with heap:=h',toks:=tk})(k2:o=none->∀h',Heap.ExtBut it s.heap h'->Q none {s with heap:=h'}):wpAny (model X.prog X.w) C.A (pyNext (.ref it)) Q E s:=by
 refine af hi.cls λoi km jh=>?_
 have kv:∀{h':Heap},Heap.SameBut it s.heap h'->bM X s.heap ρ h' ρ:=λhs=>CX (it:=it) (λb o hb e=>(hs.2 b hb).trans e) λo e=>sb (ag (km.symm.trans e)) jh
 refine bN e (λe=>ax e λl e1 e9=>?_) λe=>bN e (λe=>ax e λl e1 e9=>?_) λe=>ax e λn e1 e9=>?_
 .obtain rfl:=gJ e1;obtain rfl:=ag e9;refine aA hi λa vs h1 h2 h3=>lN l[i]? (λx hx=>?_) λhx=>?_
  .exact af (h3.get hx) λval q1 q2=>next_tuple_item h1 h2 (List.getElem?_toArray.trans q1) λh' p1 p2=>k1 x hx val h' s.toks q2 p2 ⟨a,vs,p1,(kv p2).tup h2,aB.mono (kv p2) h3⟩
  .obtain hx':(List.toArray vs)[i]?=none:=List.getElem?_toArray.trans (List.getElem?_eq_none_iff.mpr (tb h3.length (List.getElem?_eq_none_iff.mp hx)));rcases I.hand with hh | ⟨kk,ee,c,d,g1,g2,g3⟩
   .exact next_tuple_end hh h1 h2 hx' (k2 hx)
   .refine cps λG kG=>aA (I.obj kk ee g2) λo ob z1 z2 z3=>?_
    obtain rfl:=ag (g3.symm.trans z1);have z4:=z3;obtain⟨Y,Y,Y,ws,w1,w2,w3,Y⟩:=z3;refine kG (Rm g1 (dR z2) (λq=>?_) z2 w1 w3 h1 h2 hx' (k2 hx));subst q;exact dV.ju z4 (sb (ag (km.symm.trans z2)) jh)
 .refine dQ (Qe I hi e1) λa vs h1 h2 h3 h4=>aL (Ar I e9) λc1 c2=>?_
  subst c1;refine lN l[i]? (λx hx=>?_) λhx=>?_
  .exact af (h3.get hx) λval q1 q2=>wpAny_pyNext_list_item h1 h2 (List.getElem?_toArray.trans q1) λh' p1 p2=>k1 x hx val h' s.toks q2 p2 (h4 h' (kv p2) p1)
  .exact wpAny_pyNext_list_end (c2 hx) h1 h2 (List.getElem?_toArray.trans (List.getElem?_eq_none_iff.mpr (tb h3.length (List.getElem?_eq_none_iff.mp hx)))) (k2 hx)
 .obtain rfl:=Ga e1;refine aL hi λh1 h2=>aL (Ar I e9) λc1 c2=>?_
  by_cases bJ:i<n
  .obtain rfl:some (.int i)=o:=(di (by rw[iu];exact bJ) rfl).symm.trans c1;refine wpAny_pyNext_range_item h2 (HO bJ) λh' p1 p2=>k1 _ rfl _ h' _ ⟨_,rfl⟩ p2 ⟨by exact bJ,?_⟩
   obtain e1:((i+1:Nat):Int)=(i:Int)+1:=by exact HQ
   obtain e2:(n:Int) - ((i+1:Nat):Int)=(n:Int) - (i:Int) - 1:=by exact by simp +arith
   rw[e1] at e2 ⊢;refine aR e2 ?_;exact p1
  .obtain rfl:none=o:=(Aw (Bool.eq_false_iff.mpr λq=>bJ (gm q))).symm.trans c1;exact wpAny_pyNext_range_end (c2 rfl) h2 (Int.sub_nonpos_of_le (Int.ofNat_le.mpr (Nat.le_of_not_lt bJ))) (k2 rfl)
end
end
section
section
theorem As{a:α}{f:α->Mo β}:(eP a>>=f) st=match st.hd with | false=>f a st | true=>none:=by
 refine(?_:Mo.bind (eP a) f st=_);unfold Mo.bind eP;cases st.hd<;>rfl
theorem ud{x:Mo α}{f:α->Mo β}(h:x st=none):bK (x>>=f) st=none:=by unfold bK;rw[jV h]
theorem yf{x:Mo α}{f:α->Mo β}{a:α}(h:x st=some (.ok a st')):bK (x>>=f) st=bK (f a) st':=by unfold bK;exact tb (jb h) rfl
theorem DL{x:Mo α}{f:α->Mo β}{k:Nat}(h:x st=some (.ex k st')):bK (x>>=f) st=none:=by unfold bK;rw[Ad h]
theorem yd{x:Mo α}{f:α->Mo β}{g:β->Mo γ}:bK ((x>>=f)>>=g) st=bK (x>>=λa=>f a>>=g) st:=by unfold bK;rw[DF]
theorem Ru{x:Mo α}{f:α->Mo β}{R:Heap->List Addr->β->γ->Prop}{Q:γ->Shared->Prop}{E:WB}{G:Prop}(W:aG X C ρ s R (bK (x>>=f) st) Q E)(k:∀{a:α} (st':St),bK x st=some (.ok a st')->aG X C ρ s R (bK (f a) st') Q E->G):G:=by
 cases e:x st with
 |none=>exact(W.no (ud e)).elim
 |some r=>induction r using Internal.a9.casesOn with
  |ok a st'=>exact k st' (by unfold bK;rw[e]) (W.at (yf e))
  |ex k' st'=>exact(W.no (DL e)).elim
theorem pw{R:Heap->List Addr->α->β->Prop}{R':Heap->List Addr->γ->δ->Prop}{t:Sem β}{x:Mo α}{g:α->Mo γ}{Q1:β->Shared->Prop}{Q:δ->Shared->Prop}{E E0:WB}{bH:List Addr}{s0:Shared}(H:i7 X C ρ s R t (x st))(W:aG X C bH s0 R' (bK (x>>=g) st) Q E0)(k:∀a st' b ρ' s',am X C ρ s st' ρ' s'->R s'.heap ρ' a b->aG X C bH s0 R' (bK (g a) st') Q E0->Q1 b s'):wpAny (model X.prog X.w) C.A t Q1 E s:=by
 refine H Q1 E ?_
 cases e:x st with
 |none=>exact(W.no (ud e)).elim
 |some r=>induction r using Internal.a9.casesOn with
  |ok a st'=>exact λb ρ' s' A r=>k a st' b ρ' s' A r (W.at (yf e))
  |ex k' st'=>exact(W.no (DL e)).elim
theorem aG.bj{τ:Type}{f:St->Option τ}{F:τ->Mo α}{R:Heap->List Addr->α->β->Prop}{Q:β->Shared->Prop}{E:WB}{G:Prop}(W:aG X C ρ s R (bK (rd f>>=F) st) Q E)(g:∀a,f st=some a->aG X C ρ s R (bK (F a) st) Q E->G):G:=by
 exact bX (f st) (λe=>(W.no (ud (by unfold rd;rw[e];rfl))).elim) λa e=>g a e (W.at (yf (by unfold rd;rw[e];rfl)))
theorem aG.EO{τ:Type}{f:St->Option (Mo τ)}{F:τ->Mo α}{R:Heap->List Addr->α->β->Prop}{Q:β->Shared->Prop}{E:WB}{G:Prop}(W:aG X C ρ s R (bK (pk f>>=F) st) Q E)(g:∀m,f st=some m->aG X C ρ s R (bK (m>>=F) st) Q E->G):G:=by
 refine bX (f st) (λe=>?_) λm e=>g m e (W.at ?_)
 .exact (W.no (ud (by unfold pk;rw[e];rfl))).elim
 .unfold bK;exact ay (λr=>match r with | some (.ok a st')=>some (a9.ok a st') | _=>none) (show Mo.bind (pk f) F st=Mo.bind m F st by unfold Mo.bind pk;rw[e];rfl)
theorem vD(Z:aU X)(I:ai X C ρ st s){z:Nat}{te:PySem.Expr}{x:V}{val:Value}(h:su X.nm C.env.scope z te=true)(r:av X s.heap ρ x val){Q:Unit->Shared->Prop}{E:WB}(k:∀s',am X C ρ s {st with loc:=aI st.loc z x} ρ s'->Q () s'):wpAny (model X.prog X.w) C.A (assign te C.env val) Q E s:=by
 refine ig h λy pos e h=>?_
 subst e;obtain h:=aD h;obtain rfl:=bG h.1;exact bq (PySem.assign_Name _ _ _) (ab (eG (wpAny_bindName (lO Z I (bG h.2) r k))))
theorem Je(Z:aU X)(I:ai X C ρ st s){t:T}{te:PySem.Expr}{x:V}{val:Value}{it:Addr}{oi:Obj}{g:Unit->Mo α}{R:Heap->List Addr->α->β->Prop}{bH:List Addr}{s0:Shared}{Q0:β->Shared->Prop}{E0:WB}{G:Prop}(h:mv X.nm C.env.scope t te=true)(r:av X s.heap ρ x val)(km:s.heap.get? it=some oi)(jh:fB oi)(W:aG X C bH s0 R (bK (cr t x>>=g) st) Q0 E0)(k:∀st',aG X C bH s0 R (bK (g ()) st') Q0 E0->(∀(Q:Unit->Shared->Prop) (E:WB),Q () s->wpAny (model X.prog X.w) C.A (letOwnedTupleGo te (.ref it) val) Q E s)->
   (∀(Q:Unit->Shared->Prop) (E:WB),(∀ρ' s',am X C ρ s st' ρ' s'->Q () s')->wpAny (model X.prog X.w) C.A (assign te C.env val) Q E s)->G):G:=by
 cases t with
 |loc z=>exact k _ W (λQ E q=>ig h λy pos e h=>tb e (aq q)) λQ E k=>vD Z I h r λs' A=>k _ _ A
 |two a b=>
  refine rg h λes kk pos e h=>kC h λx1 r1 e1 h=>jx h λx2 e2 h=>?_
  subst e e1 e2;refine W.EO λm em W1=>ax em λl e1 em=>ax em λp e2 em=>bk em λhd e9=>?_
  obtain rfl:=ag e9;obtain rfl:=gJ e1;obtain rfl:=FX e2;refine aA r ?_;rintro ad vs rfl ht rl;refine aA rl ?_;rintro v1 w1 rfl q1 rl;refine aA rl ?_;rintro v2 w2 rfl q2 rl;obtain rfl:w2=[]:=rl;refine k {st with loc:=aI (aI st.loc a p.1) b p.2} W1 (λQ E q=>ab (wpAny_load km ?_)) λQ E k9=>?_
  .obtain ⟨c,d,dt,sl⟩:=oi;replace jh:=jh.1;dsimp only at jh ⊢;rcases jh with rfl | rfl | rfl | rfl<;>(cases dt<;>first | exact aq q | (dsimp only;rw[aj (by simp)];exact aq q))
  .refine ig (aD h).1 λy1 p1 z1 h1=>ig (aD h).2 λy2 p2 z2 h2=>?_
   obtain h:=aD h;subst z1 z2;refine assign_Tuple_tuple (I.hdn (eD hd)) ht rfl rfl λh' he=>?_
   have A0:am X C ρ s st ρ {s with heap:=h'}:=am.quiet (t':=s.toks) I (λb o e=>he b o (bz (dR e)) e) (.inl trivial);obtain kv:=A0.bB I;exact ab (cR (vD Z A0.inv h.1 (q1.mono kv) λs1 A1=>ab (cR (vD Z A1.inv h.2 ((q2.mono kv).mono (A1.bB A0.inv)) λs2 A2=>aq (k9 _ _ (A0.trans (A1.trans A2)))))))
end
end
section
section
variable {cn:cz}
theorem am.iter{s0:Shared}{bH:List Addr}{h':Heap}{t':Nat}{it:Addr}(A:am X C bH s0 st ρ s)(h0:s0.heap.get? it=none)(hk:∀b o,b≠it->s.heap.get? b=some o->h'.get? b=some o)(hi:∀o,s.heap.get? it=some o->fB o)(hF:X.hF.get? it=none) :
  am X C bH s0 st ρ {s with heap:=h',toks:=t'}:=by
 refine⟨A.inv.quiet (λb o e=>hk b o (λq=>by rw[q,hF] at e;exact aP e) (A.inv.stay b o e)) λb o e hn=>hk b o (λq=>by subst q;exact hn (hi o e)) e,?_,A.ext,A.gens,A.drawn,A.os⟩;intro b o e n1 n2 n3 n4;have hb:b≠it:=λq=>by rw[q,h0] at e;exact aP e
 refine aL (A.d0 b o e n1 n2 n3 n4) ?_;rintro⟨sl,a1⟩ a2;exact⟨⟨sl,hk b _ hb a1⟩,λhn=>hk b o hb (a2 hn)⟩
theorem fL.keeps{h h':Heap}{it:Addr}{v:V}{i:Nat}(x:fL X h ρ it v i)(e:∀o,h.get? it=some o->h'.get? it=some o)(k:bM X h ρ h' ρ'):fL X h' ρ' it v i:=by
 induction v using Internal.V.casesOn with
 |tup l=>refine aA x ?_;rintro a vs;intro q0;refine af q0 ?_;clear q0;rintro o h1 h2 h3 h4;exact bF a vs ⟨o,e o h1,h2⟩ (k.tup h3) (aB.mono k h4)
 |fl l=>refine jD x ?_;rintro a vs;intro q0;refine af q0 ?_;clear q0;rintro o h1 h2 h3 h4 h5 h6;obtain q1:=(k.fl _ _ h3 h5 h6).1;obtain q2:=(k.fl _ _ h3 h5 h6).2;exact t5 a vs ⟨o,e o h1,h2⟩ q1 (aB.mono k h4) q2 h6
 |bg n=>obtain h1:=x.1;obtain h2:=x.2;exact⟨h1,e _ h2⟩
 |ref k'=>obtain⟨a,h1,o,h2,h3⟩:=x;exact⟨a,k.ref _ _ h1,o,e o h2,h3⟩
 |_=>exact x.elim
structure pM(X:Sx)(C:bw)(h:Heap)(it:Addr):Prop where
 h0:h.get? it=none
 hF:X.hF.get? it=none
 hL:it≠C.env.locals
 src:it≠X.src
 tab:it≠X.tab
 fs:it∉C.Fs
theorem ai.xI(I:ai X C ρ st s){a:Addr}(n:s.heap.get? a=none):pM X C s.heap a/\a∉ρ :=
 lU (I.get_none n) λn0 n1 n2 n3 n4 n5 n6=>⟨⟨n,n0,n4,n2,n6,n5⟩,n1⟩
structure iq(X:Sx)(C:bw)(bH:List Addr)(s0:Shared)(st:St)(ρ:List Addr)(s:Shared)(it:Addr)(v:V)(i:Nat):Prop where
 a:am X C bH s0 st ρ s
 yc:it∉ρ
 tM:fL X s.heap ρ it v i
theorem iq.step{bH:List Addr}{s0:Shared}{it:Addr}{v:V}{i:Nat}(L:iq X C bH s0 st ρ s it v i)(N:pM X C s0.heap it)(B:am X C ρ s st' ρ' s'):iq X C bH s0 st' ρ' s' it v i :=
 af L.tM.cls λoi km Y=>⟨L.a.trans B,B.ext.ia L.yc km,L.tM.keeps (λo e=>(B.step it o e L.yc N.src N.tab N.hL).2 N.fs) (B.bB L.a.inv)⟩
theorem FW(Z:aU X){bH:List Addr}{s0:Shared}{it:Addr}{v:V}{t:T}{te:PySem.Expr}{i:Nat}{nx g:Mo α}{R:Heap->List Addr->α->β->Prop}{Q0:β->Shared->Prop}{E0:WB}{Q:Option Value->Shared->Prop}{E:WB}(N:pM X C s0.heap it)(ht:mv X.nm C.env.scope t te=true)(L:iq X C bH s0 st ρ s it v i)(W:aG X C bH s0 R (bK (gC v i>>=λo=>yz o nx λx=>cr t x>>=λY=>g) st) Q0 E0)(k1:∀val s1 aH,aG X C bH s0 R (bK g aH) Q0 E0->(∀(Q:Unit->Shared->Prop) (E:WB),Q () s1->wpAny (model X.prog X.w) C.A (letOwnedTupleGo te (.ref it) val) Q E s1)->
   (∀(Q:Unit->Shared->Prop) (E:WB),(∀ρ' s',iq X C bH s0 aH ρ' s' it v (i+1)->Q () s')->wpAny (model X.prog X.w) C.A (assign te C.env val) Q E s1)->Q (some val) s1)(k2:∀h',am X C bH s0 st ρ {s with heap:=h'}->aG X C bH s0 R (bK nx st) Q0 E0->Q none {s with heap:=h'}):wpAny (model X.prog X.w) C.A (pyNext (.ref it)) Q E s:=by
 refine af L.tM.cls λoi km jh=>?_
 have wU:∀o,s.heap.get? it=some o->fB o:=λo e=>sb (ag (km.symm.trans e)) jh
 refine W.bj λo e W=>Rn L.a.inv L.tM e (λx ex val h' tk r1 hs hi'=>?_) λeo h' hs=>?_
 .subst ex;have A1:am X C bH s0 st ρ {s with heap:=h',toks:=tk}:=am.iter L.a N.h0 (λb o hb e=>(hs.2 b hb).trans e) wU N.hF;exact af hi'.cls λWz Pj N7=>Je Z A1.inv ht (r1.mono (CX (it:=it) (λb o hb e=>(hs.2 b hb).trans e) wU)) Pj N7 W λaH W1 own asg=>k1 val _ aH W1 own λQ E k=>asg Q E λρ' s' B=>k ρ' s' (iq.step ⟨A1,L.yc,hi'⟩ N B)
 .subst eo;exact k2 h' (am.iter L.a N.h0 (λb o hb e=>hs b o hb e) wU N.hF) W
theorem M8(Z:aU X){n:Nat}(H:∀m,m<n->aV X (ac X.P D cn m)){bH:List Addr}{s0:Shared}{it:Addr}{v:V}{t:T}{te:PySem.Expr}{b:List S}{body:List Stmt}{Q:Flow->Shared->Prop}{E0:WB}{R:Result->Shared->Prop}(ht:mv X.nm C.env.scope t te=true)(hb:eQ X.nm C.env.scope b body=true)(N:pM X C s0.heap it)(hR:∀f s',Q f s'->R (.ok f) s') :
  ∀(k:Nat) {s:Shared},(k<=n/\∃ρ st i,iq X C bH s0 st ρ s it v i/\aG X C bH s0 (eH X) (bK ((ac X.P D cn k).forL t v i b) st) Q E0)->
   codeAny (model X.prog X.w) C.A (.forLoop te (.ref it) body [] C.env) R s:=by
 intro k s hI;refine codeAny_forLoop_any (λk s=>k<=n/\∃ρ st i,iq X C bH s0 st ρ s it v i/\aG X C bH s0 (eH X) (bK ((ac X.P D cn k).forL t v i b) st) Q E0) (λk s hI=>aL hI λjl hI=>lV hI λρ st i L W=>?_) k hI
 induction k using Nat.casesOn with
 |zero=>exact(W:False).elim
 |succ k=>
  obtain Sd:=H k (Nat.lt_of_succ_le jl);refine FW Z N ht L W (λval s1 aH W1 own asg=>own _ _ (asg _ _ λbe s2 L1=>pw (Sd.ss L1.a.inv hb) W1 λf st2 fl bT s3 A2 rf W2=>?_)) λh' A1 W1=>wpAny_execs_nil (hR _ _ (W1.now A1 rfl))
  obtain L2:=L1.step N A2
  induction f using Internal.Fl.casesOn with
  |next=>obtain rfl:fl=.next:=rf;exact⟨k,dT _,cq jl,bT,st2,i+1,L2,W2⟩
  |cont=>obtain rfl:fl=.cont:=rf;exact⟨k,dT _,cq jl,bT,st2,i+1,L2,W2⟩
  |brk=>obtain rfl:fl=.brk:=rf;exact hR _ _ (W2.now L2.a rfl)
  |ret w=>refine af rf ?_;rintro val rfl rv;exact hR _ _ (W2.now L2.a ⟨val,rfl,rv⟩)
end
end
section
section
variable {cn:cz}
theorem VS{n:Nat}(H:∀m,m<n->aV X (ac X.P D cn m)){bH:List Addr}{s0:Shared}{c:E}{te:PySem.Expr}{b:List S}{body:List Stmt}{Q:Flow->Shared->Prop}{E0:WB}{R:Result->Shared->Prop}(ht:aO X.nm C.env.scope c te=true)(hb:eQ X.nm C.env.scope b body=true)(hR:∀f s',Q f s'->R (.ok f) s') :
  ∀(k:Nat) {s:Shared},(k<=n/\∃ρ st,am X C bH s0 st ρ s/\aG X C bH s0 (eH X) (bK ((ac X.P D cn k).nE c b) st) Q E0)->codeAny (model X.prog X.w) C.A (.whileLoop te body [] C.env) R s:=by
 intro k s hI;refine codeAny_whileLoop (λk s=>k<=n/\∃ρ st,am X C bH s0 st ρ s/\aG X C bH s0 (eH X) (bK ((ac X.P D cn k).nE c b) st) Q E0) (λk s hI=>?_) k hI;obtain⟨jl,ρ,st,A,W⟩:=hI
 induction k using Nat.casesOn with
 |zero=>exact(W:False).elim
 |succ k=>
  obtain Sd:=H k (Nat.lt_of_succ_le jl);refine pw (Sd.t A.inv ht) W λt aH bb be s1 A1 rb W=>?_
  subst rb
  induction bb using Bool.casesOn with
  |false=>exact wpAny_execs_nil (hR _ _ (W.now (A.trans A1) rfl))
  |true=>
   refine pw (Sd.ss A1.inv hb) W λf st2 fl bT s2 A2 rf W=>?_
   have AB:=(A.trans A1).trans A2
   induction f using Internal.Fl.casesOn with
   |next=>obtain rfl:fl=.next:=rf;exact⟨k,dT _,cq jl,bT,st2,AB,W⟩
   |cont=>obtain rfl:fl=.cont:=rf;exact⟨k,dT _,cq jl,bT,st2,AB,W⟩
   |brk=>obtain rfl:fl=.brk:=rf;exact hR _ _ (W.now AB rfl)
   |ret w=>refine af rf ?_;rintro val rfl rv;exact hR _ _ (W.now AB (ao val rfl rv))
theorem TV{n:Nat}(H:∀m,m<n->aV X (ac X.P D cn m))(I:ai X C ρ st s){c:E}{b:List S}{x:Stmt}(h:eA X.nm C.env.scope (.wh c b) x=true):dW X C ρ s (exec x C.env) ((step X.P D (ac X.P D cn n)).s (.wh c b) st):=by
 intro Q E W;refine Sp h ?_;rintro t y z pos rfl h;obtain h1:=(eO h).1;obtain h2:=(eO h).2.1;obtain h3:=(eO h).2.2;obtain rfl:=cH h3;exact wpAny_While (VS H h1 h2 (λf s' q=>q) n ⟨bI _,ρ,st,.refl I,W⟩)
end
end
section
section
theorem Fb(n:Nat):Builtin.Range.rangeSize 0 (n:Int) 1=(n:Int):=by
 unfold Builtin.Range.rangeSize
 by_cases h0:(0:Int)<n
 .simp;exact zS
 .simp;exact zS
theorem xJ(I:ai X C ρ st s){v:V}{val:Value}(r:av X s.heap ρ v val){u:Unit}(e:tK v st=some u){Q:WB}{E:WB}(k:∀ob,fB ob->fL X (s.heap.push ob) ρ s.heap.objs.size v 0->Q (.ref s.heap.objs.size) {s with heap:=s.heap.push ob}):wpAny (model X.prog X.w) C.A (pyIter val) Q E s:=by
 have kv:∀ob,bM X s.heap ρ (s.heap.push ob) ρ:=λob=>I.bB (bZ.of_keeps λb o e=>bn _ e) .refl
 refine bN e (λe=>ax e λl e1 Y=>?_) λe=>bN e (λe=>ax e λl e1 Y=>?_) λe=>ax e λn e1 e=>bk e λhz Y=>?_
 .obtain rfl:=gJ e1;refine aA r ?_;rintro a vs rfl ht rl;exact iter_tuple ht (k _ ⟨.inr (.inl rfl),λf=>f.fi rfl⟩ ⟨a,vs,⟨_,cj _ rfl,rfl,rfl⟩,(kv _).tup ht,aB.mono (kv _) rl⟩)
 .refine bN e1 (λe=>ax e λj e2 e=>ax e λo e3 e4=>?_) λe=>?_
  .obtain rfl:=jC e2;obtain rfl:=o9 e4;refine dQ (I.xO r e3) ?_;rintro a vs rfl h1 h2 h3;exact wpAny_pyIter_list h2 (k _ ⟨.inl rfl,λf=>f.fi rfl⟩ ⟨a,h1,_,cj _ rfl,rfl,rfl⟩)
  .obtain rfl:=zf e;refine jD r ?_;rintro a vs rfl hl rl h3 h4;exact wpAny_pyIter_list hl (k _ ⟨.inl rfl,λf=>f.fi rfl⟩ (aL ((kv {cls:=.type "list_iterator",data:=.fields #[.ref a,.int 0 0]}).fl _ _ hl h3 h4) λq1 q2=>⟨a,vs,⟨_,cj _ rfl,rfl,rfl⟩,q1,aB.mono (kv _) rl,h3,h4⟩))
 .obtain rfl:=Ga e1;refine zq r ?_;rintro a t u w rfl hr;refine wpAny_pyIter_range hr ?_ ?_
  .unfold Builtin.Range.small;rw[Fb];have hz:=iR hz;unfold aK at hz;simp[Builtin.Range.rangeFitsLong];exact⟨Int.ofNat_lt.mpr (dx hz (by decide)),.inr (Int.ofNat_lt.mpr (dx hz (by decide)))⟩
  .rw [Fb]
   exact k _ ⟨.inr (.inr (.inl rfl)),λf=>f.fi rfl⟩ ⟨cc _,by
    have:=cj s.heap (o:={cls:=.type "range_iterator",data:=.fields #[rawInt 0,rawInt (n:Int),rawInt 1]}) rfl
    exact this⟩
end
end
section
section
variable {cn:cz}
theorem GZ{α : Type}{o:Option α}{f:α->Bool}(h:o.any f=true):∃a,o=some a/\f a=true:=by cases o with
 |none=>exact aC h
 |some a=>exact⟨a,rfl,h⟩
theorem TO(Z:aU X){n:Nat}(S:aV X (ac X.P D cn n))(H:∀m,m<n->aV X (ac X.P D cn m))(I:ai X C ρ st s){t:T}{it:E}{b:List Internal.S}{x:Stmt}(h:eA X.nm C.env.scope (.fr t it b) x=true) :
  dW X C ρ s (exec x C.env) ((step X.P D (ac X.P D cn n)).s (.fr t it b) st):=by
 intro Q E W;refine Sj h ?_;rintro te ie body orelse pos rfl h';refine fW (ez h') λh1 h2 h3 h4=>?_;clear h h'
 obtain rfl:=cH h4;obtain OJ:=(jZ h2).1.2 C.env;refine wpAny_For (bp (S.e I h2) W λv1 aH b1 be s1 e1 A1 r1 W1=>?_) OJ;have I1:=A1.inv;refine W1.pq λem ee W1=>?_
 obtain rfl:v7 v1 aH=em:=ag ee;obtain hn:s1.heap.get? s1.heap.objs.size=none:=dc (bI _);refine gn (v7 v1 aH) (λq=>?_) λq=>?_
 .rw [q] at W1;refine W1.pq λu eu W2=>xJ I1 r1 eu λob xp hi=>aL (I1.xI hn) λN n1=>?_
  obtain A2:am X C be s1 aH be {s1 with heap:=s1.heap.push ob}:=am.quiet (t':=s1.toks) I1 (λb o e=>bn _ e) (.inl trivial);exact M8 Z H h1 h3 N (λf s' q=>q) n ⟨bI _,be,aH,0,⟨A2,n1,hi⟩,W2⟩
 .rw [q] at W1;refine af (GZ q) λes e1 e2=>ax e1 λk e3 e1=>ax e1 λo e4 e5=>?_
  obtain rfl:=jC e3;obtain rfl:=uh e5;obtain rfl:=List.isEmpty_iff.mp e2;refine fq (I1.gO r1) ?_;rintro a o ob rfl k1 k2 k3 k4;obtain rfl:=ag (e4.symm.trans k2)
  have hc:aH.hd=false:=by
   cases q:aH.hd with
   |false=>rfl
   |true=>exact(W1.no (show eP Fl.next aH=none by unfold eP;rw[q])).elim
  have W2:aG X C be s1 (eH X) (some (.ok .next aH)) Q E:=W1.at (show eP Fl.next aH=_ by unfold eP;rw[hc]);obtain⟨d1,d2,d3,ds,ep,d4,d5⟩:=k4;obtain rfl:ds=[]:=d5;obtain lo:(a==sysModules)=false:=beq_eq_false_iff_ne.mpr λq=>absurd (q▸I1.big a (bV k1)) (by decide)
  obtain hm:s1.heap.DictAt (strKind X.prog X.w) a [] ep:=(t6 ob (#[]) k3 ⟨d1,d2,d3⟩ d4 (λe he=>by simp at he) .nil .nil)
  refine wpAny_pyIter_dict lo hm ?_;obtain hx:=cj s1.heap (o:={cls:=.type "dict_keyiterator",data:=.fields #[.ref a,.int 0 0,.int ((([]:List (Str×Value)).length:Nat):Int) 0,.int ep 0]}) rfl;refine codeAny_forLoop_any (λY s=>s={s1 with heap:=s1.heap.push {cls:=.type "dict_keyiterator",data:=.fields #[.ref a,.int 0 0,.int ((([]:List (Str×Value)).length:Nat):Int) 0,.int ep 0]}}) (λk s hs=>bh hs (wpAny_pyNext_dict_end (knd:=strKind X.prog X.w) (kvs:=[]) (i:=0) (I1.hdn hc) (cL _ hx rfl rfl) (t6 ob (#[]) (bn _ k3) ⟨d1,d2,d3⟩ d4 (λe he=>by simp at he) .nil .nil) rfl λh' he=>?_)) 0 rfl;refine wpAny_execs_nil ?_;obtain A2:am X C be s1 aH be {s1 with heap:=h'}:=am.quiet (t':=s1.toks) I1 (λb o e=>he b o (bz (dR e)) (bn _ e)) (.inl trivial);exact W2.now A2 rfl
end
end
section
section
theorem ai.Lz(I:ai X C ρ st s){env:Env}(hk:env.scope.kind=.function)(hg:env.globals=mainGlobals)(hb:env.builtins=builtinsNs)(hl:env.locals=s.heap.objs.size)(hf:env.frame=C.env.frame)(hc:∀n a,C.env.cells.lookup n=some a->(env.scope.names.lookup n=some .cell\/env.scope.names.lookup n=some .free)->(C.env.scope.names.lookup n=some .cell\/C.env.scope.names.lookup n=some .free)/\env.cells.lookup n=some a)(mO:env.scope.names.lookup ("seen" : Str)=some .local->env.code=.ref X.cQ/\env.qual++("seen" : Str)=X.ch)(sS:∀n,env.scope.names.lookup n=some .cell->∃a,env.cells.lookup n=some a)(kg:∀n,(env.scope.names.lookup n=some .cell\/env.scope.names.lookup n=some .free)->(C.env.scope.names.lookup n=some .cell\/C.env.scope.names.lookup n=some .free)) :
  ai X {C with env:=env} ρ {st with loc:=[]} {s with heap:=s.heap.push {cls:=.type "dict",data:=.dict #[]}}:=by
 obtain hn:s.heap.get? s.heap.objs.size=none:=dc (bI _);have keep:∀b o,s.heap.get? b=some o->(s.heap.push {cls:=.type "dict",data:=.dict #[]}).get? b=some o:=λb o e=>bn _ e
 obtain I':ai X C ρ st {s with heap:=s.heap.push {cls:=.type "dict",data:=.dict #[]}}:=I.quiet (t':=s.toks) (λb o e=>keep _ _ (I.stay b o e)) λb o e Y=>keep b o e
 obtain hL:(s.heap.push {cls:=.type "dict",data:=.dict #[]}).get? s.heap.objs.size=some {cls:=.type "dict",data:=.dict #[]}:=cj _ rfl;obtain n0:=(I.get_none hn).1;obtain n1:=(I.get_none hn).2.1;obtain n2:=(I.get_none hn).2.2.1;obtain n3:=(I.get_none hn).2.2.2.1;obtain n4:=(I.get_none hn).2.2.2.2.1;obtain n5:=(I.get_none hn).2.2.2.2.2.1;obtain n6:=(I.get_none hn).2.2.2.2.2.2;refine⟨⟨hk,hg,hb,hf.trans I.cfg.frm,I.cfg.frames,sS,mO⟩,I'.stay,I'.len,I'.obj,I'.dom,I'.nd,I'.new,λa ha=>?_,?_,?_,?_,λx k e=>?_,I'.fr,I'.frC,I'.dr,I'.dn,I'.cY,I'.tab,I'.dq,I'.top,I'.big,I.depth,I.units,I.hdn,I.lo,I'.hand⟩
 .exact fX (I.apart a ha) λa1 a2 a3 a4 a5=>hV a1 a2 (by refine bh hl ?_;rintro rfl;exact n1 ha) a4 a5
 .refine ⟨λY=>none,?_,λx v e=>(nomatch e)⟩;refine aR hl ?_;exact Heap.Ns.new _ _
 .show ∃o,_/\_;exact⟨_,by exact tb hl hL,kx _ _ rfl⟩
 .refine tb hl ?_;exact n0
 .exact af (I.ae x k e) λa h1 h2=>ao a h1 (λq=>(hc _ _ (h2 (kg _ q)) q).2)
theorem am.Jh(I:ai X C ρ st s){env:Env}{s₁:Shared}{ik:List Addr}{st':St}(hn:s.heap.get? env.locals=none)(hk:∀b o,s.heap.get? b=some o->s₁.heap.get? b=some o)(b9:ca s.heap ρ ik)(qF:s₁.gens=s.gens/\s₁.drawn=s.drawn/\s₁.os=s.os)(A:am X {C with env:=env} ik s₁ st' ρ' s') :
  am X C ρ s {st' with loc:=st.loc,ae:=st.ae,dp:=st.dp,hd:=st.hd} ρ' s':=by
 obtain I':=A.inv
 have ext:ca s.heap ρ ρ':=by
  obtain e2:ca s.heap ik ρ':=A.ext.ui λa o e=>⟨o,hk a o e⟩
  exact b9.trans e2
 have d0:bZ X C (ρ.drop X.lo) s.heap s'.heap:=λb o e h1 h2 h3 h4=>by
  obtain hb:b≠env.locals:=λq=>by obtain e:=q▸e;obtain e:=hn▸e;exact aP e
  obtain lq:b∉ik.drop X.lo:=(b9.drop _).ia h1 e;obtain p1:=(A.d0 b o (hk b o e) lq h2 h3 hb).1;obtain p2:=(A.d0 b o (hk b o e) lq h2 h3 hb).2;exact⟨p1,p2⟩
 refine cps λG kG=>?_
 obtain step:=d0.weak;refine af I.cK λoL hL hLc=>?_
 have mC:C.env.locals∉ρ:=λq=>(I.apart _ q).2.2.1 rfl
 refine af I.loc ?_;rintro m ⟨o,es,ep,g1,g2,g3,g4⟩ hm;refine kG ?_
 obtain hLs:C.env.locals≠X.src:=λq=>by
  refine ci I.dr.src ?_;rintro Y Y ⟨o',h1,Y,Y,h3⟩ Y;rw[<- q,g1] at h1;obtain rfl:=ag h1;obtain h3:=aW h3 g2;cases h3
 obtain hLt:C.env.locals≠X.tab:=λq=>by
  refine af I.tab.at_ λps h1 Y=>?_
  obtain h1:=q▸h1;obtain h1:=g1▸h1;obtain rfl:=ag h1;cases g2
 obtain on:C.env.locals≠env.locals:=λq=>by obtain g1:=q▸g1;obtain g1:=hn▸g1;exact aP g1
 refine aL (A.step _ _ (hk _ _ g1) (b9.ia mC g1) hLs hLt on) ?_;intro q0;refine aF q0 ?_;clear q0;rintro sl hL' Y
 have xL:bM X s.heap ρ s'.heap ρ':=by
  refine ci I.dr.src λns ts ff Y=>af I.tab.at_ λps gY Y=>⟨λa o e i=>?_,λa vs e n1 n2=>?_,λk a e=>ext.get e⟩
  .refine (step a o e (λq=>?_) (λq=>?_) (λq=>?_) λq=>?_).2 λq=>?_
   .refine aF (jI q) λk hk=>?_
    refine aA (I.obj k a hk) λo' ob Y h2 h3=>?_
    obtain rfl:=ag (aE (bU e) h2);exact h3.iF i
   .exact ue (tG ff (sb q e)) (by decide) i
   .rw [q,gY] at e;obtain rfl:=ag e;simp[jp] at i
   .rw [q,hL] at e;obtain rfl:=ag e;exact hLc.iF i
   .refine af (I.frC a q) λo' h1 h2=>?_
    obtain rfl:=ag (aE (bU e) h1);exact h2.iF i
  .refine bE e λo h1 h2 h3=>⟨(cL o ((step a o h1 n1 n2 (λq=>?_) λq=>?_).2 λq=>?_) h2 h3),ext.ia n1 h1⟩
   .rw [q,gY] at h1;obtain rfl:=ag h1;cases h2
   .rw [q,hL] at h1;obtain rfl:=ag h1;exact hLc.noSeq h3.choose_spec
   .refine af (I.frC a q) λo' g1 g2=>?_
    obtain rfl:=ag (aE (bU h1) g1);exact g2.noSeq h3.choose_spec
 refine⟨⟨I.cfg,I'.stay,I'.len,I'.obj,I'.dom,I'.nd,I'.new,λa ha=>?_,?_,?_,I.dN,λx k e=>?_,I'.fr,λL jf=>I'.frC L jf,I'.dr,I'.dn,I'.cY,I'.tab,I'.dq,I'.top,I'.big,I.depth,I.units,I.hdn,I'.lo,?_⟩,d0,ext,A.gens.trans qF.1,trivial,A.os.trans qF.2.2⟩
 .refine fX (I'.apart a ha) λa1 a2 a3 a4 a5=>hV a1 a2 ?_ a4 a5
  rintro rfl;exact ext.ia mC g1 ha
 .exact ao m (qS _ es ep hL' g2 g3 g4) (λx v e=>af (hm x v e) λval a b=>(ao val a (b.mono xL)))
 .obtain rfl:=ag (aE (bU hL) g1);exact ao _ hL' hLc
 .exact af (I.ae x k e) λa h1 h2=>ao a (ext.get h1) h2
 .exact I'.hand
end
end
section
theorem JO{env:Env}(names:List (Str×NameKind)):∀(acc:List (Str×Addr)),(∀n,(n,NameKind.free)∈names->∃a,env.cells.lookup n=some a)->
  ∃cl,(forIn names acc λ(x:Str×NameKind) (cs:List (Str×Addr))=>(if (x.2==NameKind.free)=true then (do let a <- cellOf env x.1;pure (ForInStep.yield ((x.1,a)::cs))) else pure (ForInStep.yield cs):Sem (ForInStep (List (Str×Addr)))))=pure cl/\
   ∀n a,((n,NameKind.free)∈names\/acc.lookup n=env.cells.lookup n)->env.cells.lookup n=some a->cl.lookup n=some a:=by
 induction names with
 |nil=>exact λacc Y=>ao acc (List.forIn_nil) (λn a h e=>(h.resolve_left λz=>nomatch z).trans e)
 |cons x r ih=>
  intro acc h;obtain⟨n,k⟩:=x
  by_cases hk:(k==NameKind.free)=true
  .obtain rfl:k=.free:=eq_of_beq hk;refine aF (h n (.head _)) λb hb=>af (ih ((n,b)::acc) λn' m=>h n' (.tail _ m)) λcl h1 h2=>?_
   have c:cellOf env n=pure b:=by unfold cellOf;rw[hb]
   refine ao cl ((List.forIn_cons ..).trans ((ay (· >>= _) ((ar hk).trans (ay (· >>= _) c))).trans h1)) (λn' a q e=>h2 n' a ?_ e)
   by_cases hn:n'=n
   .subst hn;exact .inr (by refine aE eK ?_;simp[hb])
   .refine q.elim (λq=>(List.mem_cons.mp q).elim (λq=>absurd (ay Prod.fst q) hn) .inl) λq=>.inr ?_
    rw[eK];refine tb (beq_eq_false_iff_ne.mpr hn) ?_;exact q
  .exact af (ih acc λn' m=>h n' (.tail _ m)) λcl h1 h2=>ao cl ((List.forIn_cons ..).trans ((ay (· >>= _) (aj hk)).trans h1)) (λn' a q e=>h2 n' a (q.elim (λq=>(List.mem_cons.mp q).elim (λq=>absurd (ay (λx=>x.2==NameKind.free) q).symm hk) .inl) .inr) e)
end
section
theorem Az{scope:Scope}{env:Env}(h:∀n,(n,NameKind.free)∈scope.names->∃a,env.cells.lookup n=some a) :
  ∃cl,closureFor scope env=pure cl/\∀n a,(n,NameKind.free)∈scope.names->env.cells.lookup n=some a->cl.lookup n=some a:=by
 refine af (JO scope.names [] h) λcl h1 h2=>ao cl ?_ (λn a q e=>h2 n a (.inl q) e)
 unfold closureFor;have:=h1;simp only[bind_pure];exact h1
end
section
noncomputable def mP(env:Env)(cs:List PySem.Expr)(ok:Bool):Sem Bool:=forIn cs ok λc ok=>(if ok=true then (do let b <- isTrue c env (eval c env);pure (ForInStep.yield b)) else pure (ForInStep.yield ok):Sem (ForInStep Bool))
theorem PQ{env:Env}(cs:List PySem.Expr):mP env cs false=pure false:=by
 induction cs with
 |nil=>rfl
 |cons c cs ih=>exact(List.forIn_cons ..).trans ih
theorem PP{env:Env}{c:PySem.Expr}{cs:List PySem.Expr}:mP env (c::cs) true=(isTrue c env (eval c env)>>=λb=>mP env cs b):=by
 exact(List.forIn_cons ..).trans (bind_assoc _ _ _)
end
section
theorem Kb{elt target iter:PySem.Expr}{ifs:List PySem.Expr}{gens:List Comprehension}{scope:Scope}{pos:Pos}{it acc:Value}{env:Env}{d:Nat}(h:gens[d]?=some ⟨target,iter,ifs,0⟩)(h2:gens[d+1]?=none) :
  compTurn (.ListComp elt gens scope pos) d it acc env=(standAt iter.pos>>=λY=>pyNext it>>=λr=>match r with
   |none=>pure (.done .next)
   |some v=>letOwnedTupleGo target it v>>=λY=>assign target env v>>=λY=>mP env ifs true>>=λok=>
    if ok=true then ((eval elt env>>=λx=>call (.builtin "list.append") [acc,x]>>=λY=>pure ())>>=λY=>again (.compLoop (.ListComp elt gens scope pos) d it acc env))
    else again (.compLoop (.ListComp elt gens scope pos) d it acc env)):=by
 unfold compTurn;dsimp only;rw[h];rw[h2];rfl
theorem Kc{elt target iter target' iter':PySem.Expr}{ifs ifs':List PySem.Expr}{gens:List Comprehension}{scope:Scope}{pos:Pos}{it acc:Value}{env:Env}{d:Nat}(h:gens[d]?=some ⟨target,iter,ifs,0⟩)(h2:gens[d+1]?=some ⟨target',iter',ifs',0⟩) :
  compTurn (.ListComp elt gens scope pos) d it acc env=(standAt iter.pos>>=λY=>pyNext it>>=λr=>match r with
   |none=>pure (.done .next)
   |some v=>letOwnedTupleGo target it v>>=λY=>assign target env v>>=λY=>mP env ifs true>>=λok=>
    if ok=true then (eval iter' env>>=λx=>standAt iter'.pos>>=λY=>foldedSetIterable iter' env x>>=λx=>holding [x] (pyIter x)>>=λit'=>runOwn (.compStart (.ListComp elt gens scope pos) (d+1) it' acc env) env>>=λY =>
     again (.compLoop (.ListComp elt gens scope pos) d it acc env))
    else again (.compLoop (.ListComp elt gens scope pos) d it acc env)):=by
 unfold compTurn;dsimp only;rw[h];rw[h2];rfl
section
variable {prog:Program}{w:World}{A:Around}{R:Result->Shared->Prop}{s:Shared}
theorem AH{elt target iter:PySem.Expr}{ifs:List PySem.Expr}{gens:List Comprehension}{scope:Scope}{pos:Pos}{it acc:Value}{env:Env}{d:Nat}(hg:gens[d]?=some ⟨target,iter,ifs,0⟩)(h0:codeAny (model prog w) A (.compLoop (.ListComp elt gens scope pos) d it acc env) R s)(h:wpAny (model prog w) A (pyIter it) (λit' s'=>codeAny (model prog w) A (.compLoop (.ListComp elt gens scope pos) d it' acc env) R s')
   (notedBy (model prog w) A env λx s'=>R (.error x) s') s) :
  codeAny (model prog w) A (.compStart (.ListComp elt gens scope pos) d it acc env) R s:=by
 refine codeAny_of_tree (wpAny_notedAt ?_:wpAny _ A ((compStart (.ListComp elt gens scope pos) d it acc env).onRaise (λx=>do noteFrame x env;standAt theWindowsPlace)) _ _ s);have hc:(clausesOf (.ListComp elt gens scope pos))[d]?=some ⟨target,iter,ifs,0⟩:=hg;unfold compStart;refine tb hc (ab (nF (wpAny_ite ?_)))
 split
 .exact ab (aq (aq (And.intro rfl h0)))
 .exact ab (wpAny_rule (ab (eG (ab (wpAny_mono h (λit' s' h'=>aq (And.intro rfl h')) λY Y x=>x))):wpAny _ _ (standAt iter.pos>>=_) _ _ s))
end
end
section
section
variable {cn:cz}
theorem CY{v:V}{i:Nat}{it:Addr}(hi:fL X s.heap ρ it v i){A:Around}{Q:WB}{E:WB}(h:Q (.ref it) s):wpAny (model X.prog X.w) A (pyIter (.ref it)) Q E s:=by
 induction v using Internal.V.casesOn with
 |tup l=>refine ci hi λa vs h1 Y=>?_;exact wpAny_pyIter_tupleiter h1 h
 |fl l=>refine ci hi λa vs h1 Y=>?_;exact wpAny_pyIter_listiter h1 h
 |bg n=>obtain h1:=hi.2;exact wpAny_pyIter_rangeiter h1 h
 |ref k=>refine af hi λa Y h1=>?_;exact wpAny_pyIter_listiter h1 h
 |_=>exact hi.elim
theorem BE{nm:Nat->Str}{sc:Scope}{m:E}{ie:PySem.Expr}{env:Env}(h:aO nm sc m ie=true)(v:Value):foldedSetIterable ie env v=pure v:=(jZ h).1.2 env v
set_option tactic.hygienic true in
theorem PR{n:Nat}(H:∀m,m<n->aV X (ac X.P D cn m)):∀(k:Nat),k<=n->∀{C:bw} {ρ:List Addr} {s:Shared} {st:St} {l:List E} {cs:List PySem.Expr},ai X C ρ st s->bD X.nm C.env.scope l cs=true->
  iw X C ρ s (mP C.env cs true) ((ac X.P D cn k).ifs l st):=by
 intro y9
 induction y9 with
 |zero=>
  intro Y Y Y Y Y Y Y Y Y
  exact λY Y W=>(W:False).elim
 |succ k ih=>
  intro hk C ρ s st l cs I h;intro Q E W;cases l<;>cases cs<;>first | exact aC h | skip
  .exact aq (W.now (.refl I) rfl)
  .rename_i m r c cs;obtain h:(aO X.nm C.env.scope m c&&bD X.nm C.env.scope r cs)=true:=h;simp only[bQ] at h;refine bq PP ?_;replace W:aG X C ρ s (λY Y a b=>b=a) (((ac X.P D cn k).t m>>=λb=>(if b=true then (ac X.P D cn k).ifs r else pure false:Mo Bool)) st) Q E:=W;refine ab (bp ((H k (Nat.lt_of_succ_le hk)).t I h.1) W λv1 aH b1 be s1 e1 A1 r1 W1=>?_);subst r1
   induction b1 using Bool.casesOn with
   |true=>exact ih (k0 hk) A1.inv h.2 _ _ W1
   |false=>refine bq (PQ _) ?_;exact aq (W1.now (.refl A1.inv) rfl)
theorem G0(I:ai X C ρ st s){k:Nat}{a:Addr}{xs:List V}{y:V}{val:Value}(e:ρ[k]?=some a)(aQ:Nat.ble st.lo k=true)(g:st.tr.get k=some (.list xs))(r:av X s.heap ρ y val)(hz:xs.length+1<=aK){Q:WB}{E:WB}(hQ:∀s',am X C ρ s {st with tr:=st.tr.put k (.list (xs++[y]))} ρ s'->Q .none s'):wpAny (model X.prog X.w) C.A (call (.builtin "list.append") [.ref a,val]) Q E s:=by
 refine nG (I.CU (ao a rfl e) g) λa' vs n ha q1 q2 q3=>?_
 cases ha;refine call_meets PySem.F.slot_list_append (ao _ q2 rfl) PySem.F.entry_list_append (PySem.F.args_list_append_2 _ _) (PySem.AutoListH.list_append_list_val_0 a vs.toArray n val (by refine tb eL ?_;refine tb q3.length ?_;exact au (cq hz) iA)) ⟨q2,?_⟩;exact hQ _ (uX (ws:=vs++[val]) I e aQ g q2 (by simp) (q3.append (.one r)))
def rQ(X:Sx)(C:bw)(R:Result->Shared->Prop)(fin:Fin)(s':Shared):Prop:=match fin with | .done f=>R (.ok f) s' | .again c'=>c'.quiet=true/\codeAny (model X.prog X.w) C.A c' R s'
theorem Ke(Z:aU X){n:Nat}(H:∀m,m<n->aV X (ac X.P D cn m)){elt:E}{dK:PySem.Expr}{gens:List Comprehension}{scope:Scope}{pos:Pos}(he:aO X.nm C.env.scope elt dK=true){acc:Nat}{a:Addr} :
  ∀(k:Nat),k<=n->∀{d:Nat} {t:T} {te ie:PySem.Expr} {ifs:List E} {cs:List PySem.Expr} {gs:List G} {bH:List Addr} {s0:Shared} {it:Addr} {v:V} {Q:Shared->Prop} {E0:WB} {R:Result->Shared->Prop}
   (_:gens[d]?=some ⟨te,ie,cs,0⟩) (_:mv X.nm C.env.scope t te=true) (_:bD X.nm C.env.scope ifs cs=true) (_:qf X.nm C.env.scope C.env.scope gs (gens.drop (d+1))=true)
   (_:pM X C s0.heap it) (_:bH[acc]?=some a) (_:∀s',Q s'->R (.ok .next) s')
   {ρ:List Addr} {st:St} {s:Shared} {i:Nat},iq X C bH s0 st ρ s it v i->aG X C bH s0 (λY Y Y Y=>True) (bK ((ac X.P D cn k).dy elt gs t v i ifs acc) st) (λ(Y:Unit)=>Q) E0->
   codeAny (model X.prog X.w) C.A (.compLoop (.ListComp dK gens scope pos) d (.ref it) (.ref a) C.env) R s:=by
 intro k
 induction k with
 |zero=>intro _ d t te ie ifs cs gs bH s0 it v Q E0 R _ _ _ _ _ _ _ ρ st s i _ W;exact(W:False).elim
 |succ k IH=>
 intro hk d t te ie ifs cs gs bH s0 it v Q E0 R hg ht oy fz N lp hR ρ st s i L W;obtain Sd:=H k (Nat.lt_of_succ_le hk);obtain zz:=@IH (k0 hk);refine codeAny_of_tree (wpAny_noted ?_:wpAny _ C.A ((compTurn (.ListComp dK gens scope pos) d (.ref it) (.ref a) C.env).onRaise (λx=>do noteFrame x C.env;theTreesLotGoes x)) (rQ X C R) _ s);obtain quiet:(Code.compLoop (.ListComp dK gens scope pos) d (.ref it) (.ref a) C.env).quiet=true:=rfl
 obtain again_:∀{bT s2 st2},iq X C bH s0 st2 bT s2 it v (i+1)->aG X C bH s0 (λY Y Y Y=>True) (bK ((ac X.P D cn k).dy elt gs t v (i+1) ifs acc) st2) (λ(Y:Unit)=>Q) E0->rQ X C R (.again (.compLoop (.ListComp dK gens scope pos) d (.ref it) (.ref a) C.env)) s2 :=
  λL2 W2=>⟨quiet,zz hg ht oy fz N lp hR L2 W2⟩
 have turn:∀{F:Sem Fin} {E:WB},
   (∀{bT s2 st2} {E:WB},iq X C bH s0 st2 bT s2 it v (i+1)->aG X C bH s0 (λY Y Y Y=>True) (bK (AM (ac X.P D cn k) elt acc gs>>=λY=>(ac X.P D cn k).dy elt gs t v (i+1) ifs acc) st2) (λ(Y:Unit)=>Q) E0->wpAny (model X.prog X.w) C.A F (rQ X C R) E s2)->
   wpAny (model X.prog X.w) C.A (pyNext (.ref it)>>=λo=>match o with
    |none=>pure (.done .next)
    |some val=>letOwnedTupleGo te (.ref it) val>>=λY=>assign te C.env val>>=λY=>mP C.env cs true>>=λok=>if ok=true then F else again (.compLoop (.ListComp dK gens scope pos) d (.ref it) (.ref a) C.env)) (rQ X C R) E s:=λhF=>
  ab (FW Z N ht L W (λval s1 aH W1 own asg=>ab (own _ _ (ab (asg _ _ λbe s2 L1=>ab (pw (PR H k (k0 hk) L1.a.inv oy) W1 λb st2 bb bT s3 A2 rb W2=>by
   subst rb;obtain L2:=L1.step N A2
   induction bb using Bool.casesOn with
   |true=>exact hF L2 W2
   |false=>exact aq (again_ L2 W2)))))) λh' A1 W1=>aq (hR _ (W1.now (b:=()) A1 trivial)))
 induction gs using List.casesOn with
 |nil=>
  obtain h2:gens[d+1]?=none:=List.getElem?_eq_none (List.drop_eq_nil_iff.mp (cH fz));refine bq (Kb hg h2) (ab (eG (turn λ{bT s2 st2 E} L2 W2=>ab (ab (pw (Sd.e L2.a.inv he) (g:=λy=>pk (yJ acc y)>>=λY=>(ac X.P D cn k).dy elt [] t v (i+1) ifs acc) (W2.at yd) λy st3 yv eX s3 B3 ry W3=>W3.EO λm em W4=>ax em λo e1 em=>ax em λl e2 em=>bk em λhz e9=>?_)))));obtain rfl:=ag e9;obtain rfl:=o9 e2;obtain L3:=L2.step N B3
  exact ab (G0 B3.inv (L3.a.ext.get lp) (aD hz).2 e1 ry (iR (aD hz).1) λs4 B4=>aq (aq (again_ (L3.step N B4) W4)))
 |cons g more=>
  obtain⟨t',it',ifs'⟩:=g;refine kC fz λc r q fz=>?_
  obtain⟨FO,CE,cs',as'⟩:=c;refine fX (fw fz) λk1 k2 k3 k4 k5=>?_
  obtain rfl:as'=0:=bG k4
  have h2:gens[d+1]?=some ⟨FO,CE,cs',0⟩:=by
   have:(gens.drop (d+1))[0]?=some ⟨FO,CE,cs',0⟩:=by rw[q];rfl
   simpa using this
  obtain hr:gens.drop (d+1+1)=r:=List.drop_drop.symm.trans (ay (List.drop 1) q);refine bq (Kc hg h2) (ab (eG (turn λ{bT s2 st2 E} L2 W2=>ab (pw (Sd.e L2.a.inv k2) (g:=λw=>(fh w>>=λY=>(ac X.P D cn k).dy elt more t' w 0 ifs' acc)>>=λY=>(ac X.P D cn k).dy elt (.mk t' it' ifs'::more) t v (i+1) ifs acc) (W2.at yd) λy st3 yv eX s3 B3 ry W3=>ab (eG (ab (wpAny_of_eq (BE k2 yv) (ab (cR (aG.bj (W3.at yd) λu eu W4=>xJ B3.inv ry eu λob xp Ch=>?_))))))))));obtain N4:=(B3.inv.xI (dc (bI _))).1;obtain n1:=(B3.inv.xI (dc (bI _))).2;obtain B4:am X C eX s3 st3 eX {s3 with heap:=s3.heap.push ob}:=am.quiet (t':=s3.toks) B3.inv (λb o e=>bn _ e) (.inl trivial);obtain L3:=L2.step N B3;refine Ru W4 λFx e5 W5=>ab (wpAny_runOwn ?_)
  obtain fg:∀{R':Result->Shared->Prop},(∀s',(∃nH,am X C eX s3 Fx nH s')->R' (.ok .next) s')->
    codeAny (model X.prog X.w) C.A (.compLoop (.ListComp dK gens scope pos) (d+1) (.ref s3.heap.objs.size) (.ref a) C.env) R' {s3 with heap:=s3.heap.push ob}:=λhR' =>
   zz (Q:=λs'=>∃nH,am X C eX s3 Fx nH s') (E0:=λY Y=>True) h2 k1 k3 (tb hr k5) N4 (L3.a.ext.get lp) hR' ⟨B4,n1,Ch⟩ (by refine ja e5 ?_;exact λY nH s5 A5 Y=>⟨nH,A5⟩)
  refine AH h2 (fg ?_) (CY Ch (fg ?_))
  all_goals
   intro s5 ⟨nH,A5⟩;exact aq (again_ (L3.step N A5) W5)
end
end
section
theorem Ka{out:Scope}{n:Str}:∀{names:List (Str×NameKind)},(nX out names).lookup n=(names.lookup n).map λk=>if (k==.free&&out.kind==.function&&out.names.lookup n==some .cell)=true then .cell else k:=by
 intro x9
 induction x9 with
 |nil=>
  exact rfl
 |cons q0 r ih=>
  obtain⟨m,k⟩:=q0;refine(?_:List.lookup n ((if (k==NameKind.free&&out.kind==.function&&out.names.lookup m==some .cell)=true then (m,NameKind.cell) else (m,k))::nX out r)=_)
  by_cases e:n=m
  .subst e;rw[eK (a:=n) (k:=n),ml];refine(?_:_=some (if (k==NameKind.free&&out.kind==ScopeKind.function&&List.lookup n out.names==some NameKind.cell)=true then NameKind.cell else k))
   by_cases q:(k==NameKind.free&&out.kind==.function&&out.names.lookup n==some .cell)=true
   .rw [ar q,ar q,eK,ml]
   .rw [aj q,aj q,eK,ml]
  .obtain hb:(n==m)=false:=beq_eq_false_iff_ne.mpr e;rw[eK (a:=n) (k:=m),hb]
   by_cases q:(k==NameKind.free&&out.kind==.function&&out.names.lookup m==some .cell)=true
   .rw [ar q,eK,hb];exact ih
   .rw [aj q,eK,hb];exact ih
theorem Dl{α : Type}{n:Str}{k:α}:∀{l:List (Str×α)},l.lookup n=some k->(n,k)∈l
 |(m,z)::r,h=>by
  rw[eK] at h
  by_cases e:n=m
  .subst e;rw[ml] at h;obtain rfl:=ag h;exact .head _
  .obtain h:=(beq_eq_false_iff_ne.mpr e)▸h;exact .tail _ (Dl h)
theorem Rj{M:Model}{A:Around}{E:WB}{s:Shared}{scope:Scope}{globals:Addr}{cl:List (Str×Addr)}{qual:Str}{outer:Env}{Q:Env->Shared->Prop}(hc:∀x∈scope.names,x.2≠.cell)(hQ:Q {scope:=scope,locals:=s.heap.objs.size,globals:=globals,cells:=cl,qual:=qual,func:=none,code:=outer.code,frame:=outer.frame,builtins:=outer.builtins} {s with heap:=s.heap.push {cls:=.type "dict",data:=.dict #[]}}) :
  wpAny M A (newFunctionEnv scope globals cl [] qual none .none (some outer)) Q E s:=by
 dsimp only[newFunctionEnv,Option.isSome_some,if_true];refine ab (wpAny_alloc ?_)
 rw[forIn_yield_id cl (λx hx c=>by
  obtain⟨name,kind⟩:=x;have:(kind==NameKind.cell)=false:=by simpa using hc _ hx
  simp only[this,Bool.false_eq_true,if_false])]
 exact ab (aq (ab (aq (aq hQ))))
section
variable {cn:cz}
theorem am.oR{s0:Shared}{bH:List Addr}{h':Heap}{J:Addr}(A:am X C bH s0 st ρ s)(h0:s0.heap.get? J=none)(hk:∀b o,b≠J->s.heap.get? b=some o->h'.get? b=some o)(hc:∀o,s.heap.get? J=some o->dH o)(hF:X.hF.get? J=none)(b9:J∉ρ)(ff:J≠X.src)(kh:J≠X.ct)(hL:J≠C.env.locals)(gT:J∉C.Fs)(gY:J≠X.tab):am X C bH s0 st ρ {s with heap:=h'}:=by
 have I:=A.inv
 have kv:bM X s.heap ρ h' ρ:=⟨λa o e i=>hk a o (λq=>(hc o (sb q e)).iF i) e,λa vs q9 n _=>bE q9 λo e c r=>⟨(cL o (hk a o (λq=>(hc o (sb q e)).noSeq r.choose_spec) e) c r),n⟩,λY Y e=>e⟩
 obtain lst:∀{a:Addr} {vs:Array Value},a≠J->s.heap.IsList a vs->h'.IsList a vs:=λn q9=>bE q9 λo e c r=>cL o (hk _ o n e) c r
 refine⟨⟨I.cfg,λb o e=>hk b o (λq=>by obtain e:=q▸e;obtain e:=hF▸e;exact aP e) (I.stay b o e),I.len,λk a e=>?_,I.dom,I.nd,I.new,I.apart,?_,?_,I.dN,I.ae,?_,λL hL'=>?_,?_,I.dn,I.cY,?_,I.dq,I.top,I.big,I.depth,I.units,I.hdn,I.lo,I.hand⟩,?_,A.ext,A.gens,A.drawn,A.os⟩
 .exact aA (I.obj k a e) λo ob h1 h2 h3=>bF o ob h1 (hk a ob (λq=>b9 (sb q (bV e))) h2) (h3.mono kv)
 .refine af I.loc ?_;rintro m ⟨o,es,ep,h1,h2⟩ h3;exact ao m (ky o es ep (hk _ _ (bO hL) h1) h2) (λx v e=>af (h3 x v e) λval a b=>(ao val a (b.mono kv)))
 .exact af I.cK λo g1 g2=>ao o (hk _ _ (bO hL) g1) g2
 .exact qj I.fr λL hL'=>af (I.frC L hL') λo h1 h2=>ao o h1 (hk _ _ (λq=>gT (sb q hL')) h1)
 .exact af (I.frC L hL') λo h1 h2=>ao o (hk _ _ (λq=>gT (sb q hL')) h1) h2
 .obtain ⟨⟨n,t,h1,h2⟩,⟨vs,h3,h4⟩⟩:=I.dr;exact⟨aT n t (lst (bO ff) h1) h2,ao vs (lst (bO kh) h3) h4⟩
 .refine bE I.tab.at_ λps h1 h2 h3=>⟨ps,hk _ _ (bO gY) h1,h2,λpos c' e=>cps λG kG=>?_⟩
  refine dQ (h3 pos c' e) ?_;rintro c co e1 e2 e3 ⟨d,o,vs,t,f1,f2,f3,f4⟩;obtain rfl:d=c:=by obtain e1:=aW e1 f1;exact gM e1
  refine kG ?_;obtain rfl:=ag (aE (bU e2) f2);have cJ:d≠J:=λq=>(hc co (sb q e2)).fi f3
  exact hX d co e1 (hk _ _ cJ e2) e3 (kz d co vs t f1 (hk _ _ cJ e2) f3 f4)
 .intro b o e n1 n2 n3 n4;have hb:b≠J:=λq=>by obtain e:=q▸e;obtain e:=h0▸e;exact aP e
  refine aL (A.d0 b o e n1 n2 n3 n4) ?_;rintro⟨sl,a1⟩ a2;exact⟨⟨sl,hk b _ hb a1⟩,λhn=>hk b o hb (a2 hn)⟩
theorem Kd(Z:aU X){n:Nat}(H:∀m,m<n->aV X (ac X.P D cn m))(I:ai X C ρ st s){elt:E}{dK te ie:PySem.Expr}{t:T}{ifs:List E}{cs:List PySem.Expr}{more:List G}{gens:List Comprehension}{scope:Scope}{pos:Pos}{v:V}{it:Addr}{ob:Obj}{st2:St}{cl:List (Str×Addr)}{R:Value->Addr->Result->Shared->Prop}{E:WB}(ji:pX C.env.scope scope=true)(dj:∀n a,(n,NameKind.free)∈scope.names->C.env.cells.lookup n=some a->cl.lookup n=some a)(he:aO X.nm (jd C.env.scope scope) elt dK=true)(ht:mv X.nm (jd C.env.scope scope) t te=true)(oy:bD X.nm (jd C.env.scope scope) ifs cs=true)(fz:qf X.nm (jd C.env.scope scope) (jd C.env.scope scope) more gens=true)(fR:it=s.heap.objs.size)(hi:fL X (s.heap.push ob) ρ it v 0)(hg:((st.tr.put st.n (.list [])).get st.n).isSome=true)(mN:(ac X.P D cn n).dy elt more t v 0 ifs st.n {st with tr:=st.tr.put st.n (.list []),n:=st.n+1,loc:=[]}=some (.ok () st2))(hR:∀(a J:Addr) (ρ':List Addr) (s':Shared),am X C ρ s {st2 with loc:=st.loc,ae:=st.ae,dp:=st.dp,hd:=st.hd} ρ' s'->ρ'[st.n]?=some a->s.heap.get? J=none->(∃m,s'.heap.Ns J m)->(∀o,s'.heap.get? J=some o->dH o)->
   X.hF.get? J=none->J∉ρ'->J≠X.src->J≠X.ct->J≠C.env.locals->J∉C.Fs->J≠X.tab->R (.ref a) J (.ok .next) s') :
  wpAny (model X.prog X.w) C.A (newList []) (λacc s₃=>wpAny (model X.prog X.w) C.A (newFunctionEnv scope C.env.globals cl [] C.env.qual none .none (some C.env)) (λcenv s₄ =>
    codeAny (model X.prog X.w) C.A (.compStart (.ListComp dK (⟨te,ie,cs,0⟩::gens) scope pos) 0 (.ref it) acc {cenv with scope:=relabel scope C.env}) (R acc cenv.locals) s₄) E s₃) E {s with heap:=s.heap.push ob}:=by
 subst fR;unfold pX at ji;simp only[bQ,List.all_eq_true,Bool.or_eq_true,dX,bne_iff_ne,ne_eq] at ji;refine aL ji ?_;rintro⟨⟨oA,jm⟩,Y⟩ tt;obtain sT:∀y∈scope.names,y.2≠.cell:=λy hy=>(jm y hy).1.1
 have hn:s.heap.get? s.heap.objs.size=none:=dc (bI _);have A1:am X C ρ s st ρ {s with heap:=s.heap.push ob}:=am.quiet (t':=s.toks) I (λb o e=>bn _ e) (.inl trivial);refine fJ ?_ (by size_fits);obtain cF:(s.heap.push ob).get? (s.heap.push ob).objs.size=none:=dc (bI _)
 have A2:am X C ρ {s with heap:=s.heap.push ob} {st with tr:=st.tr.put st.n (.list []),n:=st.n+1} (ρ++[(s.heap.push ob).objs.size]) {s with heap:=(s.heap.push ob).push {cls:=.type "list",data:=.seq (([]:List Value).toArray)}} :=
  am.push (t':=s.toks) A1.inv (λb o e=>bn _ e) (.inl trivial) cF (cj _ rfl) ⟨rfl,[],0,rfl,rfl,rfl,rfl⟩ hg A1.inv.sz
 generalize hH:(s.heap.push ob).push {cls:=.type "list",data:=.seq (([]:List Value).toArray)}=H2 at A2;obtain A12:=A1.trans A2;refine Rj sT ?_;obtain fA:H2.get? H2.objs.size=none:=dc (bI _);obtain ON:s.heap.objs.size<=H2.objs.size:=by refine sb hH ?_;simp only[f8];exact H6
 obtain hJ0:s.heap.get? H2.objs.size=none:=dc ON;obtain n0:=(A12.inv.get_none fA).1;obtain n1:=(A12.inv.get_none fA).2.1;obtain n2:=(A12.inv.get_none fA).2.2.1;obtain n3:=(A12.inv.get_none fA).2.2.2.1;obtain n4:=(A12.inv.get_none fA).2.2.2.2.1;obtain n5:=(A12.inv.get_none fA).2.2.2.2.2.1;obtain n6:=(A12.inv.get_none fA).2.2.2.2.2.2;generalize eS:({scope:=relabel scope C.env,locals:=H2.objs.size,globals:=C.env.globals,cells:=cl,qual:=C.env.qual,func:=none,code:=C.env.code,frame:=C.env.frame,builtins:=C.env.builtins}:Env)=env;have c8:env.scope=jd C.env.scope scope:=by rw[<- eS];rfl
 have xn:∀m,env.scope.names.lookup m=(scope.names.lookup m).map λk=>if (k==.free&&C.env.scope.kind==.function&&C.env.scope.names.lookup m==some .cell)=true then .cell else k:=λm=>by
  rw[c8];exact Ka
 have sX:∀m,(env.scope.names.lookup m=some .cell\/env.scope.names.lookup m=some .free)->(m,NameKind.free)∈scope.names/\C.env.scope.names.lookup m=some .cell:=by
  intro m hm;rw[xn m] at hm;refine bX (scope.names.lookup m) (λhk=>?_) λk hk=>?_
  .rw [hk] at hm;rcases hm with q | q<;>exact aP q
  .
   rw[hk] at hm;obtain mem:=Dl hk;refine aL (jm _ mem) ?_;intro q0;refine aL q0 ?_;clear q0;rintro m1 m2 m3
   by_cases xi:k=.free
   .subst xi;exact⟨mem,m3.resolve_left (λq=>q rfl)⟩
   .obtain cG:(k==NameKind.free)=false:=beq_eq_false_iff_ne.mpr xi;simp only[Option.map_some,cG,Bool.false_and,Bool.false_eq_true,if_false,Option.some.injEq] at hm;rcases hm with q | q
    .exact absurd q m1
    .exact absurd q xi
 obtain IC:ai X {C with env:=env} (ρ++[(s.heap.push ob).objs.size]) {st with tr:=st.tr.put st.n (.list []),n:=st.n+1,loc:=[]} {s with heap:=H2.push {cls:=.type "dict",data:=.dict #[]}}:=by
  refine ai.Lz A12.inv (env:=env) (by refine c8▸?_;exact oA) (by refine eS▸?_;exact I.cfg.glob) (by refine eS▸?_;exact I.cfg.bi) (eS▸rfl) (eS▸rfl) ?_ (λe=>by obtain e:=c8▸e;simp only[Bool.not_eq_true',decide_eq_false_iff_not] at tt;exact absurd e tt) ?_ ?_
  .intro m x hx hm;obtain h1:=(sX m hm).1;obtain h2:=(sX m hm).2;exact⟨.inl h2,by rw[<- eS];exact dj m x h1 hx⟩
  .intro m hm
   exact aL (sX m (.inl hm)) λh1 h2=>aF (I.cfg.cells m h2) λx hx=>⟨x,by rw[<- eS];exact dj m x h1 hx⟩
  .intro m hm;exact .inl (sX m hm).2
 refine(?_:codeAny (model X.prog X.w) C.A (.compStart (.ListComp dK (⟨te,ie,cs,0⟩::gens) scope pos) 0 (.ref s.heap.objs.size) (.ref (s.heap.push ob).objs.size) env) (R (.ref (s.heap.push ob).objs.size) H2.objs.size) {s with heap:=H2.push {cls:=.type "dict",data:=.dict #[]}});obtain OW:s.heap.objs.size<H2.objs.size:=by refine sb hH ?_;simp only[f8];exact Ik
 obtain xp:(s.heap.push ob).get? s.heap.objs.size=some ob\/True:=.inr trivial;refine af hi.cls λoi km jh=>?_
 have F2:∀b o,(s.heap.push ob).get? b=some o->H2.get? b=some o:=λb o e=>by refine sb hH ?_;exact bn _ e
 have u9:∀b o,H2.get? b=some o->(H2.push {cls:=.type "dict",data:=.dict #[]}).get? b=some o:=λb o e=>bn _ e
 have Cf:fL X (H2.push {cls:=.type "dict",data:=.dict #[]}) (ρ++[(s.heap.push ob).objs.size]) s.heap.objs.size v 0:=by
  refine hi.keeps (λo e=>u9 _ _ (F2 _ _ e)) ?_;obtain k1:=A2.bB A1.inv;exact k1.trans ⟨λa o e Y=>u9 a o e,λa vs q9 q _=>af q9 λo e r=>⟨ao o (u9 a o e) r,q⟩,λY Y e=>e⟩
 obtain i0:=(I.get_none hn).1;obtain i1:=(I.get_none hn).2.1;obtain i2:=(I.get_none hn).2.2.1;obtain i3:=(I.get_none hn).2.2.2.1;obtain i4:=(I.get_none hn).2.2.2.2.1;obtain i5:=(I.get_none hn).2.2.2.2.2.1;obtain i6:=(I.get_none hn).2.2.2.2.2.2
 have OX:s.heap.objs.size∉ρ++[(s.heap.push ob).objs.size]:=λq=>by
  refine bR (List.mem_append.mp q) (λq=>?_) (λq=>?_)
  .exact i1 q
  .rw [lZ,f8] at q;exact ak [_] 1 109457241581072 rfl q
 have lp:(ρ++[(s.heap.push ob).objs.size])[st.n]?=some (s.heap.push ob).objs.size:=by refine sb I.len ?_;simp
 obtain old:∀b o,s.heap.get? b=some o->(H2.push {cls:=.type "dict",data:=.dict #[]}).get? b=some o:=λb o e=>u9 _ _ (F2 _ _ (bn _ e))
 obtain AC:am X {C with env:=env} (ρ++[(s.heap.push ob).objs.size]) s {st with tr:=st.tr.put st.n (.list []),n:=st.n+1,loc:=[]} (ρ++[(s.heap.push ob).objs.size]) {s with heap:=H2.push {cls:=.type "dict",data:=.dict #[]}} :=
  ⟨IC,bZ.of_keeps old,.refl,rfl,trivial,rfl⟩
 have hJ:env.locals=H2.objs.size:=by rw[<- eS]
 have key:∀{s':Shared},(∃ρ',am X {C with env:=env} (ρ++[(s.heap.push ob).objs.size]) s st2 ρ' s')->R (.ref (s.heap.push ob).objs.size) H2.objs.size (.ok .next) s':=by
  intro s' ⟨ρ',A3⟩
  have b9:ca s.heap ρ (ρ++[(s.heap.push ob).objs.size]):=⟨[_],rfl,λb hb=>by rw[List.mem_singleton.mp hb];exact dc (by refine bh (f8 _ _) ?_;exact by simp +arith)⟩
  obtain A5:=am.Jh (s₁:=s) I (by refine tb hJ ?_;exact hJ0) (λY Y e=>e) b9 (bP rfl rfl rfl) A3;have JI:=A3.inv;refine af JI.loc λm hm Y=>af JI.cK λoJ Co NY=>?_
  rw[hJ] at hm Co;refine hR _ _ ρ' s' A5 (A3.ext.get lp) hJ0 ⟨m,hm⟩ (λo e=>by obtain e:=aE (bU Co) e;refine ck (ag e) ?_;exact NY) n0 (λq=>?_) n2 n3 n4 n5 n6;have:=(JI.apart _ q).2.2.1;exact this hJ.symm
 obtain loop:codeAny (model X.prog X.w) C.A (.compLoop (.ListComp dK (⟨te,ie,cs,0⟩::gens) scope pos) 0 (.ref s.heap.objs.size) (.ref (s.heap.push ob).objs.size) env) (R (.ref (s.heap.push ob).objs.size) H2.objs.size) {s with heap:=H2.push {cls:=.type "dict",data:=.dict #[]}}:=by
  refine Ke (C:={C with env:=env}) (acc:=st.n) (Q:=λs'=>∃ρ',am X {C with env:=env} (ρ++[(s.heap.push ob).objs.size]) s st2 ρ' s') (E0:=λY Y=>True) Z H (tb c8 he) n (bI _) (d:=0) rfl
   (tb c8 ht) (tb c8 oy) (tb c8 fz) ⟨hn,i0,(by refine bh hJ ?_;exact bz OW),i2,i6,i5⟩ lp (λs' q=>key q) ⟨AC,OX,Cf⟩ ?_
  have:bK ((ac X.P D cn n).dy elt more t v 0 ifs st.n) {st with tr:=st.tr.put st.n (.list []),n:=st.n+1,loc:=[]}=some (.ok () st2):=by unfold bK;rw[mN]
  exact ja this (λY ρ' s' A Y=>⟨ρ',A⟩)
 exact AH rfl loop (CY Cf loop)
end
end
section
structure vr(X:Sx)(C:bw)(s:Shared)(ρ':List Addr)(s':Shared)(J:Addr):Prop where
 old:s.heap.get? J=none
 ns:∃m,s'.heap.Ns J m
 cls:∀o,s'.heap.get? J=some o->dH o
 hF:X.hF.get? J=none
 nm:J∉ρ'
 src:J≠X.src
 cells:J≠X.ct
 loc:J≠C.env.locals
 fs:J∉C.Fs
 tab:J≠X.tab
section
variable {cn:cz}
theorem am.gone{J:Addr}{h':Heap}(A:am X C ρ s st' ρ' s')(j:vr X C s ρ' s' J)(hs:Heap.SameBut J s'.heap h'):am X C ρ s st' ρ' {s' with heap:=h'} :=
 A.oR j.old (λb o hb e=>(hs.2 b hb).trans e) j.cls j.hF j.nm j.src j.cells j.loc j.fs j.tab
theorem vU(Z:aU X){n:Nat}(S:aV X (ac X.P D cn n))(H:∀m,m<n->aV X (ac X.P D cn m))(I:ai X C ρ st s){elt:E}{gs:List G}{dK:PySem.Expr}{gens:List Comprehension}{scope:Scope}{pos:Pos}{use:Option (Value->Sem Unit)}(h:aO X.nm C.env.scope (.comp elt gs) (.ListComp dK gens scope pos)=true){Q0 Q:WB}{E:WB}(W:aG X C ρ s (av X) ((step X.P D (ac X.P D cn n)).e (.comp elt gs) st) Q0 E)(hK:∀k st' a J ρ' s',(step X.P D (ac X.P D cn n)).e (.comp elt gs) st=some (.ok (.ref k) st')->am X C ρ s st' ρ' s'->ρ'[k]?=some a->vr X C s ρ' s' J->compPost (model X.prog X.w) C.A E use Q (.ref a) J (.ok .next) s') :
  wpAny (model X.prog X.w) C.A (comprehension (.ListComp dK gens scope pos) scope C.env (firstIterPos gens pos) (newList []) (firstAsync gens) (firstIter gens C.env) use) Q E s:=by
 obtain h:(pX C.env.scope scope&&aO X.nm (jd C.env.scope scope) elt dK&&qf X.nm C.env.scope (jd C.env.scope scope) gs gens)=true:=h;refine d7 (eO h) λji he fz=>?_;clear h
 induction gs using List.casesOn with
 |nil=>exact(W:False).elim
 |cons g more=>
  obtain⟨t,it,ifs⟩:=g;refine kC fz λc Ni eg fz=>?_
  subst eg;obtain⟨te,ie,cs,as⟩:=c;obtain ht:=(fw fz).1;obtain Cg:=(fw fz).2.1;obtain oy:=(fw fz).2.2.1;obtain k4:=(fw fz).2.2.2.1;obtain lu:=(fw fz).2.2.2.2;obtain rfl:as=0:=bG k4;have wW:=ji;unfold pX at wW;refine cps λG kG=>?_
  simp only[bQ,List.all_eq_true,Bool.or_eq_true,dX,bne_iff_ne,ne_eq] at wW;refine aL wW ?_;rintro⟨⟨oA,jm⟩,Y⟩ Y;refine af (Az (scope:=scope) (env:=C.env) λn hn=>I.cfg.cells n ((jm _ hn).2.resolve_left λq=>q rfl)) λcl N' wV=>kG (wpAny_comprehension_free (g:=⟨te,ie,cs,0⟩) (gs:=Ni) rfl (BE Cg) N' oA (λx hx hl=>(jm _ hx).1.2.resolve_left λq=>q hl) ?_)
  let g:V->Mo V:=λv=>(do
   fh v
   let acc <- cf (.list [])
   λst=>match (ac X.P D cn n).dy elt more t v 0 ifs acc {st with loc:=[]} with
    |none=>none
    |some (.ok _ st')=>some (.ok (.ref acc) {st' with loc:=st.loc,ae:=st.ae,dp:=st.dp,hd:=st.hd})
    |some (.ex _ _)=>none)
  obtain tw:(step X.P D (ac X.P D cn n)).e (.comp elt (.mk t it ifs::more)) st=((ac X.P D cn n).e it>>=g) st:=rfl;obtain W:=W.at tw;refine bp (S.e I Cg) W λv1 aH b1 be s1 e1 A1 r1 W1=>?_
  obtain oK:(step X.P D (ac X.P D cn n)).e (.comp elt (.mk t it ifs::more)) st=g v1 aH:=by rw[tw,jb e1]
  obtain hg:g v1 aH=(fh v1>>=λY=>cf (.list [])>>=λacc=>λst=>match (ac X.P D cn n).dy elt more t v1 0 ifs acc {st with loc:=[]} with
    |none=>none
    |some (.ok _ st')=>some (.ok (.ref acc) {st' with loc:=st.loc,ae:=st.ae,dp:=st.dp,hd:=st.hd})
    |some (.ex _ _)=>none:Mo V) aH:=rfl
  rw[hg] at W1 oK;refine W1.pq λu eu Y=>?_
  .rw [jb (show fh v1 aH=some (.ok u aH) by unfold fh rd;rw[eu];rfl)] at W1 oK;rw[fD] at W1 oK
   cases xc:(aH.tr.put aH.n (.list [])).get aH.n with
   |none=>obtain W1:=xc▸W1;exact(W1:False).elim
   |some o=>
    rw[xc] at W1 oK;refine bX ((ac X.P D cn n).dy elt more t v1 0 ifs aH.n {aH with tr:=aH.tr.put aH.n (.list []),n:=aH.n+1,loc:=[]}) (λhr=>?_) λbt hr=>?_
    .rw [hr] at W1;exact(W1:False).elim
    .
     induction bt using Internal.a9.casesOn with
     |ex _ _=>rw[hr] at W1;exact(W1:False).elim
     |ok u st2=>
      rw[hr] at W1 oK;refine xJ A1.inv r1 eu λob xp hi=>Kd (R:=λacc J=>compPost (model X.prog X.w) C.A E use Q acc J) Z H A1.inv ji wV he ht oy lu rfl hi (by refine tb xc ?_;rfl) hr ?_
      intro a J ρ' s' A2 ha j0 j1 j2 j3 j4 j5 j6 j7 j8 j9;refine hK _ _ a J ρ' s' oK (A1.trans A2) ha ⟨?_,j1,j2,j3,j4,j5,j6,j7,j8,j9⟩
      cases q:s.heap.get? J with
      |none=>rfl
      |some o=>refine aF (A1.there _ _ q) λo' e=>?_;exact aP (aE (bU j0) e)
theorem K7(Z:aU X){n:Nat}(S:aV X (ac X.P D cn n))(H:∀m,m<n->aV X (ac X.P D cn m))(I:ai X C ρ st s){elt:E}{gs:List G}{x:PySem.Expr}(h:aO X.nm C.env.scope (.comp elt gs) x=true) :
  bl X C ρ s (eval x C.env) ((step X.P D (ac X.P D cn n)).e (.comp elt gs) st):=by
 intro Q E W
 induction x using PySem.Expr.casesOn with
 |ListComp dK gens scope pos=>
  rw[eval_ListComp]
  refine vU Z S H I h W λk st' a J ρ' s' Px A ha j=>(ao j.ns.choose j.ns.choose_spec (λh' hs=>?_))
  obtain W:=W.at Px
  exact W.now (A.gone j hs) (ao a rfl ha)
 |_=>exact aC h
theorem TJ(Z:aU X){n:Nat}(S:aV X (ac X.P D cn n))(H:∀m,m<n->aV X (ac X.P D cn m))(I:ai X C ρ st s){x:Nat}{elt:E}{gs:List G}{y:Str}{cU p:Pos}{v:PySem.Expr}(ih:Fs)(OT:ih.e (.comp elt gs)=(step X.P D (ac X.P D cn n)).e (.comp elt gs))(h:eA X.nm C.env.scope (.asg x false (.comp elt gs)) (.Assign [.Name y cU] v p)=true):dW X C ρ s (exec (.Assign [.Name y cU] v p) C.env) ((step X.P D ih).s (.asg x false (.comp elt gs)) st):=by
 intro Q E W;obtain h:(decide (y=X.nm x)&&ll C.env.scope y false&&aO X.nm C.env.scope (.comp elt gs) v&&sw C.env.scope y cU v p.line true)=true:=h;simp only[bQ,dX] at h;refine aL h ?_;rintro⟨⟨rfl,h2⟩,h3⟩ h4;obtain h2:decide (C.env.scope.names.lookup (X.nm x)=some .local)=true:=h2
 induction v using PySem.Expr.casesOn with
 |ListComp dK gens scope pos=>
  obtain h4:(decide (C.env.scope.kind=.function)&&decide (C.env.scope.names.lookup (X.nm x)=some .local)&&cU.line==pos.line && !(scope.names.any λ(n,k)=>n==X.nm x&&(k==.local || k==.cell))&&decide (pos.line=p.line))=true:=h4;simp only[bQ,dX] at h4;refine aL h4 ?_;rintro⟨⟨⟨g1,g2⟩,g3⟩,g4⟩ g5
  obtain oM:swapsWith (.ListComp dK gens scope pos) (some (.Name (X.nm x) cU)) p.line C.env=pure true:=by
   refine(?_:(pure (C.env.blockKind==.function&&C.env.kindOf (X.nm x)==some .local&&cU.line==pos.line && !(scope.names.any λ(n,k)=>n==X.nm x&&(k==.local || k==.cell))):Sem Bool)=pure true)
   obtain b1:(C.env.blockKind==.function)=true:=by
    have hk:C.env.blockKind=.function:=by
     unfold Env.blockKind;rw[g1];rfl
    rw[hk];rfl
   obtain b2:(C.env.kindOf (X.nm x)==some .local)=true:=by refine(?_:(C.env.scope.names.lookup (X.nm x)==some NameKind.local)=true);rw[g2];rfl
   rw[b1,b2,g3,g4];rfl
  refine bq (exec_Assign_Name_used _ _ _ _ oM) (ab (eG (ab ?_)))
  obtain tw:(step X.P D ih).s (.asg x false (.comp elt gs)) st=((step X.P D (ac X.P D cn n)).e (.comp elt gs)>>=λw=>(kL false x w>>=λY=>pure Fl.next:Mo Fl)) st:=by
   refine sb OT ?_;rfl
  replace W:=W.at tw;refine bX ((step X.P D (ac X.P D cn n)).e (.comp elt gs) st) (λhr=>?_) λbt hr=>?_
  .exact (W.no (jV hr)).elim
  .
   induction bt using Internal.a9.casesOn with
   |ex kk st2=>
    replace W:=W.at (Ad hr);refine ab (vU (Q0:=λY Y=>False) Z S H I h3 (by refine ja hr ?_;exact W) λk st' a J ρ' s' e=>?_)
    obtain e:=aE (bU hr) e;exact(nofun:_->_) e
   |ok w st2=>
    replace W:=W.at (jb hr);refine ab (vU (Q0:=λY Y=>True) Z S H I h3 (by refine ja hr ?_;exact λY Y Y Y Y=>trivial) λk st' a J ρ' s' e A ha j=>?_);replace e:=aE (bU hr) e;cases e;refine(bq (PySem.assign_Name _ _ _) (ab (eG (wpAny_bindName (lO Z A.inv (bG h2) (v:=.ref k) (ao a rfl ha) λs2 A2=>aF j.ns λm hm=>?_)))):wpAny _ _ (assign (.Name (X.nm x) cU) C.env (.ref a)) _ _ _);obtain Wl:=hm;refine fK hm λoJ es ep q1 q2 q3=>?_
    have keep:s2.heap.get? J=some oJ:=(A2.step J oJ q1 j.nm j.src j.tab j.loc).2 j.fs;refine ao m (jr oJ es ep keep q2 q3) (λh' hs=>?_);obtain AA:=A.trans A2
    have j':vr X C s ρ' s2 J:=⟨j.old,qU m oJ es ep keep q2 q3,λo e=>by obtain e:=aE (bU keep) e;refine ck (ag e) ?_;exact j.cls _ q1,j.hF,j.nm,j.src,j.cells,j.loc,j.fs,j.tab⟩
    exact aq (aq (W.now (AA.gone j' hs) rfl))
 |_=>exact aC h4
end
end
section
theorem we{nm:Nat->Str}{sc:Scope}{env:Env}{xs:List (Nat×Bool)}:∀{es:List PySem.Expr},jY nm sc xs es=true->(assignEach es env).length=es.length/\(assignEach es env).findIdx? (·.1)=none/\es.length=xs.length:=by
 induction xs with
 |nil=>exact λh=>tb (cH h) (bP rfl rfl rfl)
 |cons q xs ih=>exact λh=>sx h λpos r e h2 h3=>tb e (bP (ay Nat.succ (ih h3).1) ((List.findIdx?_cons ..).trans (ay (Option.map (· + 1)) (ih h3).2.1)) (ay Nat.succ (ih h3).2.2))
section
variable {cn:cz}
theorem ai.yP(I:ai X C ρ st s){loc:List (Nat×V)}(h:∀x,aw loc x=aw st.loc x):ai X C ρ {st with loc:=loc} s :=
 ⟨I.cfg,I.stay,I.len,I.obj,I.dom,I.nd,I.new,I.apart,af I.loc λm a b=>(ao m a (λx v e=>b x v ((h x).symm.trans e))),I.cK,I.dN,I.ae,I.fr,I.frC,I.dr,I.dn,I.cY,I.tab,I.dq,I.top,I.big,I.depth,I.units,I.hdn,I.lo,I.hand⟩
theorem am.yP(A:am X C ρ s st' ρ' s'){loc:List (Nat×V)}(h:∀x,aw loc x=aw st'.loc x):am X C ρ s {st' with loc:=loc} ρ' s':=⟨A.inv.yP h,A.d0,A.ext,A.gens,A.drawn,A.os⟩
theorem Jd(Z:aU X){xs:List (Nat×Bool)}:∀{es:List PySem.Expr} {l:List V} {vs:List Value} {ρ:List Addr} {s:Shared} {st:St},ai X C ρ st s->jY X.nm C.env.scope xs es=true->aB X s.heap ρ l vs->xs.length=l.length->
  nO X C ρ s (assignInOrder ((assignEach es C.env).map (·.2)) vs) (i9 xs l st):=by
 induction xs with
 |nil=>
  intro es l vs ρ s st I h r hl;obtain rfl:=cH h
  exact λQ E W=>aq (W.now (.refl I) trivial)
 |cons q xs ih=>
  intro es l vs ρ s st I h r hl;refine sx h ?_;rintro pos es rfl h2 h3;obtain⟨x,c⟩:=q
  induction l using List.casesOn with
  |nil=>cases hl
  |cons v l=>
   refine aA r ?_;rintro val ws rfl r1 r2;intro Q E W;refine(ab (cR (bq (PySem.assign_Name _ _ _) (ab (eG (wpAny_bindName ?_))))):wpAny _ _ (holding ws (assign (.Name (X.nm x) pos) C.env val)>>=λY=>assignInOrder ((assignEach es C.env).map (·.2)) ws) _ _ _);replace W:aG X C ρ s (λY Y Y Y=>True) ((kL c x v>>=λY=>i9 xs l) st) Q E:=W;exact bp (Fi Z I h2 r1) W λv2 st2 b2 bT s2 e2 A2 r2' W2=>ih A2.inv h3 (aB.mono (A2.bB I) r2) (Nat.succ.inj hl) _ _ W2
def zB{α : Type}(A:Prop)(r t:Sem (Option α)):Prop:=t=pure none\/A/\t=r
theorem qM{α : Sort _}{c:Prop}[Decidable c]{a b:α}{P:α->Prop}(h:c->P a)(k:¬c->P b):P (if c then a else b):=by
 by_cases q:c
 .rw [ar q];exact h q
 .rw [aj q];exact k q
set_option tactic.hygienic true in
theorem UT{v:PySem.Expr}{es:List PySem.Expr}{k:Nat}{p:Pos}{xs:List (Nat×Bool)}(h:jY X.nm C.env.scope xs es=true)(ho:DT v=true) :
  zB (∀q∈xs,C.env.scope.names.lookup (X.nm q.1)=some .local) (pure (some (xs.map λq=>X.nm q.1))) (swappedStores [.Tuple es k p] v C.env):=by
 refine bR (Bool.or_eq_true_iff.mp ho) (λho=>?_) λho=>bR (Bool.or_eq_true_iff.mp ho) (λho=>ig ho λY Y e Y=>tb e (.inl rfl)) λho=>lL ho λY Y Y Y e Y=>tb e (.inl rfl)
 refine rg ho ?_;rintro vs k' p' rfl ho
 replace ho:vs.all (foldedForSure 8)=false/\vs.all (constantsAlone 8)=false:=⟨eD (aD ho).1,eD (aD ho).2⟩
 refine(qM (λY=>.inl rfl) λq1=>qM (λY=>.inl rfl) λq2=>?_:zB _ _ (swappedStores [.Tuple es k p] (.Tuple vs k' p') C.env))
 obtain names:∀{line:Nat} {xs:List (Nat×Bool)} {es:List PySem.Expr},jY X.nm C.env.scope xs es=true->∀ns,ns=(es.filterMap fun
   |.Name id pos=>if (C.env.kindOf id==some .local&&pos.line==line)=true then some id else none
   |_=>none)->ns.length<=es.length/\(ns.length=es.length->ns=xs.map (λq=>X.nm q.1)/\∀q∈xs,C.env.scope.names.lookup (X.nm q.1)=some .local):=by
  intro line xs
  induction xs with
  |nil=>
   intro es h ns jm;obtain rfl:=cH h
   subst jm;exact⟨bI _,λY=>⟨rfl,λq m=>(nomatch m)⟩⟩
  |cons x xs xy=>
   intro es h ns jm;refine sx h ?_;rintro pos es rfl h2 h3;obtain⟨x,c⟩:=x
   .refine aL (xy h3 _ rfl) λi1 i2=>?_
    by_cases q:(C.env.kindOf (X.nm x)==some .local&&pos.line==line)=true
    .obtain rfl:=jm.trans (List.filterMap_cons_some (ar q));exact⟨dg i1,λe=>aL (i2 (Nat.succ.inj e)) λj1 j2=>⟨ay (X.nm x :: ·) j1,λz hz=>(List.mem_cons.mp hz).elim (λe=>tb e (eq_of_beq (aD q).1)) (j2 z)⟩⟩
    .obtain rfl:=jm.trans (List.filterMap_cons_none (aj q));exact⟨Nat.le_succ_of_le i1,λe=>by exact Ie i1 e⟩
 exact aL (names (line:=(es.head?.map (·.pos.line)).getD 0) h _ rfl) λn1 n2=>qM (λY=>.inl rfl) λq3=>qM (λY=>.inl rfl) λY=>qM (λk=>absurd (ho.2.symm.trans k) il) λY=>aL (n2 (Decidable.byContradiction λk=>q3 (Bool.or_eq_true_iff.mpr (.inl (bne_iff_ne.mpr k))))) λm1 m2=>.inr ⟨m2,ay (λl=>pure (some l)) m1⟩
end
end
section
section
variable {cn:cz}
theorem VM{y:Str}{c:Bool}(h:ll C.env.scope y c=true)(h2:C.env.scope.names.lookup y=some .local):c=false:=by
 induction c using Bool.casesOn with
 |false=>rfl
 |true=>
  obtain h:decide (C.env.scope.names.lookup y=some .cell)=true:=h;obtain h:=h2▸h;exact absurd (bG h) (by decide)
theorem Jm(Z:aU X):∀{xs:List Nat} {l:List V} {vs:List Value} {ρ:List Addr} {s:Shared} {st:St},ai X C ρ st s->(∀x∈xs,C.env.scope.names.lookup (X.nm x)=some .local)->aB X s.heap ρ l vs->xs.length=l.length->
  ∀{Q:Unit->Shared->Prop} {E:WB},(∀ρ' s',am X C ρ s {st with loc:=(xs.zip l).foldl (λm p=>aI m p.1 p.2) st.loc} ρ' s'->Q () s')->wpAny (model X.prog X.w) C.A (assignInOrder ((xs.map X.nm).map λn=>bindName C.env n) vs) Q E s:=by
 intro y9
 induction y9 with
 |nil=>
  intro l vs ρ s st I hx r hl Q E k
  induction l using List.casesOn with
  |cons _ _=>cases hl
  |nil=>exact aq (k _ _ (.refl I))
 |cons x xs ih=>
  intro l vs ρ s st I hx r hl Q E k
  induction l using List.casesOn with
  |nil=>cases hl
  |cons v l=>
   refine aA r ?_;rintro val ws rfl r1 r2;exact assignInOrder_cons (wpAny_bindName (lO Z I (hx x (.head _)) r1 λs1 A1=>ih A1.inv (λy hy=>hx y (.tail _ hy)) (aB.mono (A1.bB I) r2) (by simpa using hl) λρ' s' A2=>k ρ' s' (A1.trans A2)))
theorem z8:∀{xs:List (Nat×Bool)} {l:List V} {st:St},(∀q∈xs,q.2=false)->xs.length=l.length->i9 xs l st=some (.ok () {st with loc:=((xs.map (·.1)).zip l).foldl (λm p=>aI m p.1 p.2) st.loc})
 |[],l,st,_,hl=>by cases l<;>first | rfl | cases hl
 |(x,c)::xs,l,st,h,hl=>by
  induction l using List.casesOn with
  |nil=>cases hl
  |cons v l=>
   obtain rfl:c=false:=h (x,c) (.head _);obtain e:i9 ((x,false)::xs) (v::l) st=i9 xs l {st with loc:=aI st.loc x v}:=rfl;rw[e,z8 (λq m=>h q (.tail _ m)) (by simpa using hl)];rfl
theorem AX{x:Nat}{c:Bool}{r:List (Nat×Bool)}(h:oa ((x,c)::r)=true):(∀q∈r,x≠q.1)/\oa r=true:=by
 obtain h:(!(r.any λp=>Nat.beq x p.1)&&oa r)=true:=h;simp only[bQ,Bool.not_eq_true',List.any_eq_false] at h;exact⟨λq m e=>h.1 q m (by rw[dh,eZ e]),h.2⟩
noncomputable abbrev wx(ps:List (Nat×V))(m:List (Nat×V)):=ps.foldr (λq m=>aI m q.1 q.2) m
theorem M6{x:Nat}{p:Nat×V}{m:List (Nat×V)}{ps:List (Nat×V)}(h:∀q∈ps,p.1≠q.1):aw (wx ps (aI m p.1 p.2)) x=aw (aI (wx ps m) p.1 p.2) x:=by
 induction ps with
 |nil=>rfl
 |cons q ps ih=>
  refine aE (bf ..) (aE (tb (ih λq m=>h q (.tail _ m)) (aE (ay _ (bf ..)) (aE ?_ (ay _ (bf ..).symm)))) (bf ..).symm)
  by_cases e:x=q.1
  .rw [ar e,aj (λk=>h q (.head _) (k.symm.trans e)),ar e]
  .rw [aj e,aj e]
theorem M7{x:Nat}{ps:List (Nat×V)}:∀{m:List (Nat×V)},ps.Pairwise (λp q=>p.1≠q.1)->aw (ps.foldl (λm q=>aI m q.1 q.2) m) x=aw (wx ps m) x:=by
 induction ps with
 |nil=>exact λ_=>rfl
 |cons p ps ih=>exact λh=>(ih (List.pairwise_cons.mp h).2).trans (M6 (List.pairwise_cons.mp h).1)
theorem V5{xs:List (Nat×Bool)}:∀{l:List V},oa xs=true->((xs.map (·.1)).zip l).Pairwise (λp q=>p.1≠q.1):=by
 induction xs with
 |nil=>exact λ_=>.nil
 |cons x xs ih=>
  intro l h
  induction l using List.casesOn with
  |nil=>exact .nil
  |cons v l=>exact List.pairwise_cons.mpr ⟨λq m=>(List.mem_map.mp (List.of_mem_zip m).1).elim λy k=>sb k.2 ((AX h).1 y k.1),ih (AX h).2⟩
set_option tactic.hygienic true in
theorem TK(Z:aU X)(S:aV X ih)(I:ai X C ρ st s){xs:List (Nat×Bool)}{e:E}{m:Stmt}(h:eA X.nm C.env.scope (.cr xs e) m=true):dW X C ρ s (exec m C.env) ((step X.P D ih).s (.cr xs e) st):=by
 intro Q E W;refine yt h ?_;rintro ts v p rfl h;refine jx h ?_;rintro t rfl h;refine rg h ?_;rintro es k tp rfl h;refine fX (fw h) λh1 h2 h3 h4 h5=>?_
 replace h1:=eD h1
 replace W:aG X C ρ s (eH X) ((ih.e e>>=λv=>(match v with
  |.tup l=>(eP ()>>=λY=>(match Nat.beq xs.length l.length with
   |true=>(i9 xs l>>=λY=>pure Fl.next)
   |false=>Mo.fail:Mo Fl))
  |_=>Mo.fail:Mo Fl)) st) Q E:=W
 have oM:swapsWithSole [.Tuple es k tp] v p.line C.env=pure false:=by
  exact(uf h4 h1:swapsWith v (some (.Tuple es k tp)) p.line C.env=pure false)
 obtain z1:=(we (env:=C.env) h2).1;obtain z2:=(we (env:=C.env) h2).2.1;obtain z3:=(we (env:=C.env) h2).2.2
 have core:∀{v1:V} {aH:St} {b1:Value} {be:List Addr} {s1:Shared} {Q1:Unit->Shared->Prop},am X C ρ s aH be s1->av X s1.heap be v1 b1->aG X C be s1 (eH X) ((match v1 with
   |.tup l=>(eP ()>>=λY=>(match Nat.beq xs.length l.length with
    |true=>(i9 xs l>>=λY=>pure Fl.next)
    |false=>Mo.fail:Mo Fl))
   |_=>Mo.fail:Mo Fl) aH) Q E->∃(a:Addr) (l:List V) (vs:List Value),b1=.ref a/\v1=.tup l/\IsTup s1.heap a vs.toArray/\aB X s1.heap be l vs/\xs.length=l.length/\C.A.handled=none/\aG X C be s1 (eH X) ((i9 xs l>>=λY=>pure Fl.next) aH) Q E:=by
  intro v1 aH b1 be s1 Q1 A1 r1 W1
  induction v1 using Internal.V.casesOn with
  |tup l=>
   dsimp only at W1;replace W1:=As▸W1
   cases hh:aH.hd with
   |true=>obtain W1:=hh▸W1;exact(W1:False).elim
   |false=>
    rw[hh] at W1;dsimp only at W1;refine gn (Nat.beq xs.length l.length) (λhb=>?_) λhb=>?_
    .obtain W1:=hb▸W1;exact(W1:False).elim
    .
     replace W1:=hb▸W1;refine aA r1 ?_;rintro a vs rfl ht rl
     exact Dv a l vs rfl rfl ht rl (bY hb) (A1.inv.hdn hh) W1
  |_=>exact(W1:False).elim
 have quiet:∀{be:List Addr} {s1:Shared} {aH:St} {h':Heap},ai X C be aH s1->Heap.ExtBut s1.heap.objs.size s1.heap h'->am X C be s1 aH be {s1 with heap:=h'}:=λI1 he =>
  am.quiet (t':=_) I1 (λb o e=>he b o (bz (dR e)) e) (.inl trivial)
 refine bR (UT (k:=k) (p:=tp) h2 h5) (λhw=>?_) (λq8=>aL q8 λgV hw=>?_)
 .refine Assign_Tuple (bp (S.e I h4) W λv1 aH b1 be s1 e1 A1 r1 W1=>?_) oM hw;refine vm (core (Q1:=λY Y=>True) A1 r1 W1) ?_;rintro a l vs rfl rfl ht rl hl hh W2;refine assign_Tuple_tuple hh ht (by rw[z1,z3,hl,eL,rl.length]) z2 λh' he=>?_
  obtain A2:=quiet A1.inv he;exact bp (Jd Z A2.inv h2 (aB.mono (A2.bB A1.inv) rl) hl) (W2.after A2) λv3 st3 b3 eX s3 e3 A3 r3 W3=>W3.now (.refl A3.inv) rfl
 .refine Assign_Tuple_swapped (bp (S.e I h4) W λv1 aH b1 be s1 e1 A1 r1 W1=>?_) oM hw;refine vm (core (Q1:=λY Y=>True) A1 r1 W1) ?_;rintro a l vs rfl rfl ht rl hl hh W2;obtain ba:(xs.map λq=>X.nm q.1).length=vs.toArray.size:=by rw[aX,hl,eL,rl.length]
  rw[ba];refine unpackItems_tuple hh ht λh' he=>?_
  have A2:=quiet A1.inv he;obtain Tu:=aB.mono (A2.bB A1.inv) rl
  have OF:∀q∈xs,q.2=false:=by
   have:∀{xs:List (Nat×Bool)} {es:List PySem.Expr},jY X.nm C.env.scope xs es=true->(∀q∈xs,C.env.scope.names.lookup (X.nm q.1)=some .local)->∀q∈xs,q.2=false:=by
    intro xs
    induction xs with
    |nil=>intro es _ _ q m;cases m
    |cons x xs xy=>
     intro es h gV q m;exact sx h λY r Y h2 h3=>(List.mem_cons.mp m).elim (λe=>tb e (VM h2 (gV x (.head _)))) λm=>xy h3 (λq m=>gV q (.tail _ m)) q m
   exact this h2 gV
  replace W2:=W2.at (jb (z8 OF hl));obtain W2:=W2.after A2;obtain Py:(xs.map λq=>X.nm q.1).reverse=((xs.map (·.1)).reverse).map X.nm:=by rw[List.map_reverse,List.map_map];rfl
  refine tb Py (Jm Z A2.inv (xs:=(xs.map (·.1)).reverse) (l:=l.reverse) (λx hx=>?_) Tu.reverse (by simp[hl]) λρ' s' A3=>?_)
  .rw [List.mem_reverse,List.mem_map] at hx;refine af hx ?_;rintro q q1 rfl;exact gV q q1
  .exact W2.now (A3.yP λx=>(M7 (V5 h3)).trans (aE (ay (λm=>aw m x) List.foldl_reverse.symm) (ay (λps=>aw (List.foldl (λm (q:Nat×V)=>aI m q.1 q.2) aH.loc ps) x) (List.reverse_zipWith ((aX _).trans hl))))) rfl
end
end
section
section
variable {cn:cz}
theorem am.thrown(I:ai X C ρ st s){k c:Nat}{d:Option Nat}{e T':Addr}{oe oT:Obj}{vs vs' ts:Array Value}{h':Heap}(b9:ρ[k]?=some e)(hk:st.tr.get k=some (.exc c d))(aQ:X.lo<=k)(he:s.heap.get? e=some oe)(hd:oe.data=.fields vs)(h1:∀b o,s.heap.get? b=some o->b≠e->(∃sl,h'.get? b=some {o with slots:=sl})/\(b∉C.Fs->h'.get? b=some o))(h2:h'.get? e=some {oe with data:=.fields vs'})(NC:vs'[0]?=vs[0]?)(ND:vs'[2]?=vs[2]?)(NE:vs'.size=vs.size)(wI:vs'[1]?=vs[1]?\/(vs'[1]?=some (.ref T')/\T'≠e/\s.heap.get? T'=none/\h'.get? T'=some oT/\oT.cls=.type "traceback"/\oT.data=.fields ts/\ts[3]?=some .none)):am X C ρ s st ρ {s with heap:=h'}:=by
 obtain Cc:e∈ρ:=bV b9;refine fX (I.apart e Cc) λa1 a2 a3 a4 a5=>?_
 have step:bZ X C (ρ.drop X.lo) s.heap h':=λb o q n1 n2 n3 n4=>h1 b o q (λz=>n1 (tb z (Dz b9 aQ)))
 have kv:bM X s.heap ρ h' ρ:=I.bB step.weak .refl
 have DM:∀b o,X.hF.get? b=some o->b≠e/\b∉C.Fs:=λb o q=>⟨λz=>(by rw[z,I.new e Cc] at q;exact aP q),λz=>(by rw[(I.fr.mem z).1] at q;exact aP q)⟩
 have Fv:∀{a:Addr} {us:Array Value},s.heap.IsList a us->a≠e->h'.IsList a us:=λ{a us} x n=>by
  refine bE x λo g1 g2 g3=>cL o ((h1 a o g1 n).2 λq=>af (I.frC a q) λo' k1 k2=>?_) g2 g3
  rw[g1] at k1;obtain rfl:=ag k1;exact k2.noSeq g3.choose_spec
 refine⟨⟨I.cfg,λb o q=>(h1 b o (I.stay b o q) (DM b o q).1).2 (DM b o q).2,I.len,λj a ex=>?_,I.dom,I.nd,I.new,I.apart,?_,?_,I.dN,I.ae,?_,λL hL=>?_,?_,I.dn,I.cY,?_,I.dq,I.top,I.big,I.depth,I.units,I.hdn,I.lo,I.hand⟩,step,.refl,rfl,trivial,rfl⟩
 .refine aA (I.obj j a ex) λo ob g1 g2 g3=>?_
  by_cases q:a=e
  .subst q
   obtain rfl:j=k:=by
    refine aF (List.getElem?_eq_some_iff.mp ex) λlj vj=>?_
    refine aF (List.getElem?_eq_some_iff.mp b9) λlk vk=>?_
    exact(List.getElem_inj (h₀:=lj) (h₁:=lk) I.nd).mp (vj.trans vk.symm)
   obtain rfl:=ag (aE (bU hk) g1);obtain rfl:=ag (aE (bU he) g2);refine bF _ _ hk h2 ?_;obtain⟨w1,w2,w3,us,w4,w5,w6,w7,t0,w8⟩:=g3;replace w4:=aW w4 hd;cases w4;refine⟨w1,by cases d<;>exact w2,w3,vs',rfl,by refine bh NE ?_;exact w5,ND.trans w6,?_,t0,NC.trans w8⟩;refine bR wI (λwI=>?_) (λq8=>lU q8 λx1 x2 x3 x4 x5 x6 x7=>?_)
   .have:=jQ.mono kv w7;unfold jQ at this ⊢;refine tb wI ?_;exact this
   .refine .inr (Dv T' oT ts x1 x2 x4 x5 x6 x7 ?_)
    cases q:X.hF.get? T' with
    |none=>rfl
    |some o=>obtain x3:=aW x3 (I.stay _ _ q);exact y3 x3
  .exact bF o ob g1 ((h1 a ob g2 q).2 (I.apart a (bV ex)).2.2.2.1) (g3.mono kv)
 .refine cps λG kG=>?_
  refine af I.loc ?_;rintro m ⟨oo,es,ep,z1,z2,z3⟩ g2;refine aL (h1 _ _ z1 (bO a3)) ?_;rintro⟨sl,q⟩ Y;exact kG ⟨m,jr _ es ep q z2 z3,λx v q=>af (g2 x v q) λval y b=>(ao val y (b.mono kv))⟩
 .refine cps λG kG=>af I.cK λoo z1 z2=>?_
  refine aL (h1 _ _ z1 (bO a3)) ?_;rintro⟨sl,q⟩ Y;exact kG (ao _ q z2)
 .refine I.fr.of_keeps λb o q hn=>?_
  have hb:b≠e:=λz=>by rw[z,he] at q;obtain rfl:=ag q;exact hn _ hd
  refine aL (h1 b o q hb) ?_;rintro⟨sl,w⟩ Y;exact ao _ w rfl
 .refine af (I.frC L hL) λoo g1 g2=>?_
  refine aL (h1 L oo g1 (λz=>a4 (sb z hL))) ?_;rintro⟨sl,w⟩ Y;exact ao _ w g2
 .obtain ⟨⟨n,t,g1,g2⟩,⟨us,g3,g4⟩⟩:=I.dr;exact⟨aT n t (Fv g1 (bO a1)) g2,ao us (Fv g3 (bO a2)) g4⟩
 .refine bE I.tab.at_ λps g1 g2 g3=>?_
  have tF:X.tab∉C.Fs:=λq=>by
   refine af (I.frC _ q) λo' k1 k2=>?_
   obtain rfl:=ag (aE (bU g1) k1);exact k2.fi rfl
  refine⟨ps,(h1 _ _ g1 (bO a5)).2 tF,g2,λpos c' q=>cps λG kG=>?_⟩;refine dQ (g3 pos c' q) ?_;rintro c co e1 e2 e3 ⟨d,o',us,t,f1,f2,f3,f4⟩;obtain rfl:d=c:=by obtain e1:=aW e1 f1;exact gM e1
  refine kG ?_;obtain rfl:=ag (aE (bU e2) f2);have kc:=kv.jo d co e2 (qI e3 f3);exact⟨d,co,e1,kc,e3,kz d co us t f1 kc f3 f4⟩
end
section
variable {M:Model}{A:Around}{E:WB}{s:Shared}
theorem M9{base:Heap}{env fenv:Env}{outer:List Env}{L:Addr}{Q:WB}(gU:A.frames=some (fenv::outer))(hl:s.heap.FunFrames base (fenv::outer))(xa:env.frame=fenv.frame)(hf:fenv.frame=some L)(h:∀h',Heap.SlotsOnly ((fenv::outer).filterMap (·.frame)) s.heap h'->Q (.ref L) {s with heap:=h'}):wpAny M A (PySem.frameOf env) Q E s:=by
 refine ab (wpAny_frameEnvs gU ?_);obtain Oh:((fenv::outer).dropWhile λx=>x.frame != env.frame)=fenv::outer:=by rw[xa];simp[List.dropWhile]
 rw[Oh];exact ab (ab (wpAny_readyFrames_fun hl λh₁ hs₁=>aq (tb hf (aq (h h₁ hs₁)))))
end
end
section
section
variable {M:Model}{A:Around}{E:WB}{s:Shared}
theorem yY{vs:Array Value}{x:Value}(h:3<vs.size):(vs.setIfInBounds 1 x)[1]?=some x:=by
 have:1<vs.size:=by exact bL (ce rfl:1<3) h
 simp[this]
theorem xV{o:Obj}{vs:Array Value}(h:o.data=.fields vs)(f:Array Value->Array Value):Obj.mapFields f o={o with data:=.fields (f vs)}:=by
 obtain⟨c,d,dt,sl⟩:=o;simp only at h;subst h;rfl
theorem Bh{base:Heap}{env fenv:Env}{outer:List Env}{L e:Addr}{oe:Obj}{vs:Array Value}{head:Value}{hadNext:Bool}{Q:Unit->Shared->Prop}(gU:A.frames=some (fenv::outer))(hl:s.heap.FunFrames base (fenv::outer))(xa:env.frame=fenv.frame)(hf:fenv.frame=some L)(he:s.heap.get? e=some oe)(hd:oe.data=.fields vs)(cy:3<vs.size)(h:∀h' T' oT ts,(∀b o,s.heap.get? b=some o->b≠e->(∃sl,h'.get? b=some {o with slots:=sl})/\(b∉(fenv::outer).filterMap (·.frame)->h'.get? b=some o))->h'.get? e=some {oe with data:=.fields (vs.setIfInBounds 1 (.ref T'))}->
   T'≠e->s.heap.get? T'=none->h'.get? T'=some oT->oT.cls=.type "traceback"->oT.data=.fields ts->ts[3]?=some .none->Q () {s with heap:=h'}) :
  wpAny M A (do let a <- PySem.frameOf env;let pl <- entryPlaceOf L hadNext;let b <- EntryCells.newEntry head a .none (rawInt L) .none pl;setField (.ref e) 1 b) (λY s'=>wpAny M A (setFlight (.ref e) none) Q E s') E s:=by
 obtain Oz:e∉(fenv::outer).filterMap (·.frame):=λhm=>by
  obtain⟨Y,o,ho,Pd⟩:=hl.mem hm;obtain rfl:=ag (aE (bU he) ho);exact Pd vs hd
 refine ab (M9 gU hl xa hf λh₁ hs₁=>ab (wpAny_entryPlaceOf λpl qE=>ab (fJ ?_ (qE.sizeOk5 _ _ _ _ _))));have he₁:h₁.get? e=some oe:=(hs₁.2.1 e Oz).trans he;generalize mO:([head,.ref L,.none,rawInt L,.none]++(if pl.isEmpty then List.replicate 6 Value.none else pl)).toArray=tb;have CA:3<tb.size:=by refine sb mO ?_;simp only[eL,bA,de,iX];exact cq (et (Nat.succ 3).succ _)
 have he₂:=bn (h:=h₁) {cls:=.type "traceback",dict:=none,data:=.fields tb} he₁;refine wpAny_setField he₂ hd (bL (ce rfl:1<3) cy) ?_;obtain hTe:h₁.objs.size≠e:=dU (dR he₁);have hd₃:=nK hd (·.setIfInBounds 1 (Value.ref h₁.objs.size));have he₃:=eI (Obj.mapFields (·.setIfInBounds 1 (Value.ref h₁.objs.size))) he₂ (nL hd₃);have hT₃:=(jG (h₁.push {cls:=.type "traceback",dict:=none,data:=.fields tb}) (Obj.mapFields (·.setIfInBounds 1 (Value.ref h₁.objs.size))) (bO hTe)).trans (cj h₁ rfl);refine ab (ij he₃ hd₃ (x:=.ref h₁.objs.size) (yY cy) (bq (ar (show (Value.ref h₁.objs.size != Value.none)=true from by rfl)) (wpAny_setField hT₃ rfl CA ?_)));have hsz₁:h₁.objs.size=s.heap.objs.size:=hs₁.1;have NN:=eI (Obj.mapFields (·.setIfInBounds 3 ((none:Option Addr).elim Value.none λf=>rawInt f))) hT₃ (nL (nK rfl _));refine h _ h₁.objs.size _ _ (λb o hb NU=>?_) ?_ hTe (dc (cb hsz₁.symm)) NN (Obj.cls_mapFields _ _) (nK rfl _) (by simp[CA])
 .obtain hbT:h₁.objs.size≠b:=by refine aR hsz₁ ?_;exact dU (dR hb)
  have up:∀o',h₁.get? b=some o'->(((h₁.push {cls:=.type "traceback",dict:=none,data:=.fields tb}).update e (Obj.mapFields (·.setIfInBounds 1 (Value.ref h₁.objs.size)))).update h₁.objs.size (Obj.mapFields (·.setIfInBounds 3 ((none:Option Addr).elim Value.none λf=>rawInt f)))).get? b=some o':=λo' q=>by
   rw[jG _ _ hbT,jG _ _ (bO NU)];exact bn _ q
  exact aF (hs₁.2.2 b o hb) λsl q=>⟨⟨sl,up _ q⟩,λhn=>up _ ((hs₁.2.1 b hn).trans hb)⟩
 .rw [jG _ _ hTe,he₃,xV hd]
end
section
variable {cn:cz}
theorem C4(I:ai X C ρ st s){k c:Nat}{d:Option Nat}{e:Addr}{Q:Unit->Shared->Prop}{E:WB}(b9:ρ[k]?=some e)(hk:st.tr.get k=some (.exc c d))(aQ:X.lo<=k)(hQ:∀s',am X C ρ s st ρ s'->Q () s') :
  wpAny (model X.prog X.w) C.A (noteFrame (.ref e) C.env) (λY s₂=>wpAny (model X.prog X.w) C.A (setFlight (.ref e) none) Q E s₂) E s:=by
 refine cps λG kG=>aA (I.obj k e b9) λo oe g1 he g3=>?_
 rw[hk] at g1;obtain rfl:=ag g1;obtain⟨w1,w2,w3,vs,hd,w5,w6,w7,t0,w8⟩:=g3;refine d7 I.fr ?_;rintro Wi ⟨L,oL,hf,hn,ho,hdL⟩ hr;refine kG ?_;obtain hf':C.env.frame=some L:=I.cfg.frm.trans hf;obtain gT:(C.fenv::C.outer).filterMap (·.frame)=C.Fs:=rfl;unfold noteFrame;simp only[hf'];refine bR w7 (λh1=>?_) (λq8=>vm q8 λT oT ts h1 hTe hT NM hdT h3 NL=>?_)
 .exact ab (ij he hd h1 (bq (aj (by decide)) (Bh I.cfg.frames I.fr I.cfg.frm hf he hd w5 λh' T' oT ts k1 k2 k3 k4 k5 k6 k7 k8=>hQ _ (am.thrown I b9 hk aQ he hd k1 k2 (by simp) (by simp) (by simp) (.inr ⟨yY w5,k3,k4,k5,k6,k7,k8⟩)))))
 .refine ab (ij he hd h1 (bq (ar (show (Value.ref T != Value.none)=true from by rfl)) (ab (ij hT hdT h3 (bq (aj (show ¬ ((Value.none==rawInt L)=true) from by simp[rawInt])) ?_)))));obtain wJ:=(Array.getElem?_eq_some_iff.mp h3).1;refine ab (wpAny_setField hT hdT wJ ?_)
  have same:∀b,(s.heap.update T (Obj.mapFields (·.setIfInBounds 3 Value.none))).get? b=s.heap.get? b:=λb=>by
   by_cases q:b=T
   .subst q;rw[eI _ hT (nL (nK hdT _)),hT,xV hdT]
    have:ts.setIfInBounds 3 Value.none=ts:=by
     apply Array.ext
     .simp
     .intro i h1 h2
      by_cases z:i=3
      .subst z;exact aE (Array.getElem_setIfInBounds_self _) ((Array.getElem?_eq_some_iff.mp h3).2.symm)
      .exact (Array.getElem_setIfInBounds_ne (h:=λw=>z w.symm) _)
    rw[this];obtain⟨c',d',dt,sl⟩:=oT;simp only at hdT;subst hdT;rfl
   .exact jG _ _ (bO q)
  exact Bh I.cfg.frames (I.fr.of_keeps λb o q Y=>(ao o ((same b).trans q) rfl)) I.cfg.frm hf ((same e).trans he) hd w5 λh' T' oT' ts' k1 k2 k3 k4 k5 k6 k7 k8=>hQ _ (am.thrown I b9 hk aQ he hd (λb o q=>k1 b o ((same b).trans q)) k2 (by simp) (by simp) (by simp) (.inr ⟨yY w5,k3,(same T').symm.trans k4,k5,k6,k7,k8⟩))
theorem tU:rT X:=λ{C ρ s st k c d a Q E} I _ b9 hk aQ hQ=>by
 exact ab (C4 I b9 hk aQ hQ)
end
end
section
theorem KY(name:Str)(o:Obj){es:Array DictEntry}{ep:Nat}(hd:o.data=.dict es ep)(hk:StrKeys es) :
  ∃es' ep' v,Obj.dropName name o={o with data:=.dict es' ep'}/\StrKeys es'/\∀x,nsFind es' x=if x=name then v else nsFind es x:=by
 obtain⟨c,d,dt,sl⟩:=o;dsimp only at hd;subst hd;refine lN (es.findIdx? (·.key.isStr name)) (λi hi=>?_) λhi=>?_
 .
  refine jr (es.eraseIdxIfInBounds i) (ep+1) (nsFind (es.eraseIdxIfInBounds i) name) (by simp only[Obj.dropName_eq,Obj.dropNameByArray,hi]) (hk.erase i) (λx=>?_)
  by_cases hx:x=name
  .rw [ar hx,hx]
  .rw [aj hx,nsFind_erase_other hi hx]
 .exact jr es ep (nsFind es name) (by simp only[Obj.dropName_eq,Obj.dropNameByArray,hi]) hk (λx=>by by_cases hx:x=name<;>simp[hx])
section
variable {M:Model}{A:Around}{E:WB}{s:Shared}
theorem Rx{a:Addr}{m:Str->Option Value}{name:Str}{u:Value}{Q:Bool->Shared->Prop}(hn:s.heap.Ns a m)(hu:m name=some u)(h:∀h' v,h'.Ns a (λx=>if x=name then v else m x)->Heap.SameBut a s.heap h'->(∀o,s.heap.get? a=some o->∃d,h'.get? a=some {o with data:=d})->Q true {s with heap:=h'}) :
  wpAny M A (nsDel a name) Q E s:=by
 refine nG hn λo es ep ho hd hk hm=>?_
 have oH:es.any (·.key.isStr name)=true:=by
  have:=hm name;obtain this:=eU this hu;have h2:(nsFind es name).isSome=true:=by rw[this];rfl
  simp only[nsFind,findBy,Option.isSome_map] at h2;rw[Array.find?_isSome] at h2;refine af h2 λx hx hp=>?_
  rw[Array.any_eq_true];obtain⟨i,hi,rfl⟩:=Array.mem_iff_getElem.mp hx;exact⟨i,hi,hp⟩
 have OP:nsHas name o=pure true:=by
  rw[nsHas_eq];unfold nsHasByArray;refine tb hd ?_;dsimp only;rw[ar oH]
 unfold nsDel;refine ab (wpAny_loadPart ho ?_);rw[OP];refine ab (aq ?_);rw[ar rfl];refine fK (KY name o hd hk) λes' ep' v e1 e2 e3=>?_
 have kp:(s.heap.update a (Obj.dropName name)).get? a=some {o with data:=.dict es' ep'}:=by
  rw[eI _ ho (by rw[e1];rfl),e1]
 refine ab (wpAny_updatePart ho (aq (h _ v (qS _ es' ep' kp rfl e2 (λx=>by rw[e3,hm])) (Heap.SameBut.update ..) λo' ho'=>?_)));rw[ho] at ho';obtain rfl:=ag ho';exact⟨_,kp⟩
theorem Dj{α : Type}(x:Nat):∀(l:List (Nat×α)) (y:Nat) (v:α),aw (l.filter λp => !Nat.beq p.1 x) y=some v->y≠x/\aw l y=some v:=by
 intro y9
 induction y9 with
 |nil=>
  intro y v e
  cases e
 |cons h9 r ih=>
  obtain⟨z,u⟩:=h9;intro y v e;rw[List.filter_cons] at e;refine(?_:_/\(match Nat.beq z y with | true=>some u | false=>aw r y)=some v);rw[dh] at e ⊢
  by_cases h:z=x
  .subst h;rw[eZ rfl] at e;refine aL (ih y v e) λh1 h2=>?_
   rw[dJ (bO h1)];exact⟨h1,h2⟩
  .replace e:=(dJ h)▸e;obtain e:(match Nat.beq z y with | true=>some u | false=>aw (r.filter λp => !Nat.beq p.1 x) y)=some v:=e;rw[dh] at e
   by_cases q:z=y
   .subst q;rw[eZ rfl] at e ⊢;exact⟨h,e⟩
   .rw [dJ q] at e ⊢;exact ih y v e
end
section
variable {cn:cz}
theorem wB(I:ai X C ρ st s){k c:Nat}{d:Option Nat}{e:Addr}{A:Around}{Q:Unit->Shared->Prop}{E:WB}(b9:ρ[k]?=some e)(hk:st.tr.get k=some (.exc c d))(hQ:∀s',am X C ρ s st ρ s'->Q () s'):wpAny (model X.prog X.w) A (setFlight (.ref e) none) Q E s:=by
 refine cps λG kG=>aA (I.obj k e b9) λo oe g1 he g3=>?_
 rw[hk] at g1;obtain rfl:=ag g1;obtain⟨w1,w2,w3,vs,hd,w5,w6,w7,t0,w8⟩:=g3;refine kG ?_;unfold setFlight;refine bR w7 (λh1=>?_) (λq8=>vm q8 λT oT ts h1 hTe hT NM hdT h3 NL=>?_)
 .refine ab (ij he hd h1 ?_);rw[aj (by decide)];exact aq (hQ _ (.refl I))
 .refine ab (ij he hd h1 (tb (ar (show (Value.ref T != Value.none)=true from by rfl)) ?_));have wJ:=(Array.getElem?_eq_some_iff.mp h3).1;refine wpAny_setField hT hdT wJ (hQ _ ?_)
  have same:∀b,(s.heap.update T (Obj.mapFields (·.setIfInBounds 3 ((none:Option Addr).elim Value.none λf=>rawInt f)))).get? b=s.heap.get? b:=λb=>by
   refine(?_:(s.heap.update T (Obj.mapFields (·.setIfInBounds 3 Value.none))).get? b=s.heap.get? b)
   by_cases q:b=T
   .subst q;rw[eI _ hT (nL (nK hdT _)),hT,xV hdT]
    have:ts.setIfInBounds 3 Value.none=ts:=by
     apply Array.ext
     .simp
     .intro i h1 h2
      by_cases z:i=3
      .subst z;rw[Array.getElem_setIfInBounds_self];exact(Array.getElem?_eq_some_iff.mp h3).2.symm
      .rw [Array.getElem_setIfInBounds_ne (h:=λw=>z w.symm)]
    rw[this];obtain⟨c',d',dt,sl⟩:=oT;simp only at hdT;subst hdT;rfl
   .exact jG _ _ (bO q)
  exact am.quiet (t':=s.toks) I (λb o q=>(same b).trans q) (.inl trivial)
theorem TR(Z:aU X)(S:aV X ih)(I:ai X C ρ st s){e:E}{m:Stmt}(h:eA X.nm C.env.scope (.rs e) m=true):dW X C ρ s (exec m C.env) ((step X.P D ih).s (.rs e) st):=by
 intro Q E W;refine Sm h ?_;rintro x cause pos rfl h';obtain h1:=(aD h').1;obtain h0:=(aD h').2;clear h h';refine db h1 ?_;rintro x rfl h;clear h1;obtain rfl:=Option.isNone_iff_eq_none.mp h0
 replace W:aG X C ρ s (eH X) ((ih.e e>>=λv=>(match v with
  |.ref k=>(gy k>>=λo=>(match o with
   |.exc _ _=>(eP ()>>=λY=>(λst=>match Nat.ble st.lo k with | true=>some (.ex k st) | false=>none:Mo Fl))
   |_=>Mo.fail:Mo Fl))
  |_=>Mo.fail:Mo Fl)) st) Q E:=W
 rw[arm_exec_Raise];refine(ab (eG ?_):wpAny _ _ (do standAt pos;raiseStmt C.env (some (do let v <- eval x C.env;standAt pos;pure v)) none) Q E s);unfold raiseStmt;refine ab (ab (bp (S.e I h) W λv1 aH b1 be s1 e1 A1 r1 W1=>ab (eG (aq ?_))))
 induction v1 using Internal.V.casesOn with
 |ref k=>
  dsimp only at W1;refine fq (A1.inv.gO r1) ?_;rintro a o oe rfl h1 h2 h3 h4;rw[mA,h2] at W1
  induction o using Internal.O.casesOn with
  |exc c d=>
   dsimp only at W1;replace W1:=W1.at As
   cases hh:aH.hd with
   |true=>obtain W1:=hh▸W1;exact(W1:False).elim
   |false=>
    replace W1:=hh▸W1;dsimp only at W1;refine gn (Nat.ble aH.lo k) (λaQ=>?_) λaQ=>?_
    .rw [aQ] at W1;exact(W1:False).elim
    .
     refine cps λG kG=>?_
     rw[aQ] at W1;have O5:X.lo<=k:=by rw[<- A1.inv.lo];simpa using aQ
     have th:=A1.inv.hdn hh;obtain⟨g1,g2,⟨g3,g4⟩,vs,g5,Y⟩:=h4;have c1:=Z.exc c g4 g3;have w1:=c1.vP;have hC:=A1.inv.stay _ _ w1;have hcB:(Value.ref (X.ad c)::jc).contains (.type "BaseException")=true:=by rw[nI,vE,Bool.or_true]
     have OH:∀{Q:Unit->Shared->Prop} {E:WB} (hQ:∀s',am X C be s1 aH be s'->Q () s'),wpAny (model X.prog X.w) C.A (setFlight (.ref a) none) Q E s1:=λhQ=>wB A1.inv h1 h2 hQ
     have fin:∀s',am X C be s1 aH be s'->wpAny (model X.prog X.w) C.A (raiseNew (.ref a):Sem Flow) Q E s':=λs' A'=>wpAny_raiseNew_none th (W1 a be s' A' h1 ⟨c,d,h2,O5⟩)
     obtain⟨hp,gg,dr,tk,os⟩:=s1;obtain⟨oc,od,odt,osl⟩:=oe;refine kG ?_;dsimp only at g1 g5;subst g1 g5
     repeat (first | (with_reducible refine ab (OH ?_);intro s' A') | with_reducible refine lT h3 ?_ | with_reducible refine lT hC ?_ | (with_reducible refine wpAny_isSubtype_exc hC ?_;rw[hcB]) | wp_step)
     exact fin s' A'
  |_=>exact(W1:False).elim
 |_=>exact(W1:False).elim
theorem ai.mark(I:ai X C ρ st s){k c:Nat}{d:Option Nat}{e:Addr}(b9:ρ[k]?=some e)(hk:st.tr.get k=some (.exc c d)):ai X {C with A:=C.A.mark (some (.ref e))} ρ {st with hd:=true} s :=
 ⟨⟨I.cfg.kind,I.cfg.glob,I.cfg.bi,I.cfg.frm,I.cfg.frames,I.cfg.cells,I.cfg.tab⟩,I.stay,I.len,I.obj,I.dom,I.nd,I.new,I.apart,I.loc,I.cK,I.dN,I.ae,I.fr,I.frC,I.dr,I.dn,I.cY,I.tab,I.dq,I.top,I.big,I.depth,I.units,λq=>Bool.noConfusion q,I.lo,.inr (qU k e c d rfl b9 hk)⟩
theorem am.unmark(I:ai X C ρ st s)(hh:st.hd=false){e:Addr}{st':St}(Yy:am X {C with A:=C.A.mark (some (.ref e))} ρ s st' ρ' s'):am X C ρ s {st' with hd:=false} ρ' s' :=
 have J:=Yy.inv
 ⟨⟨I.cfg,J.stay,J.len,J.obj,J.dom,J.nd,J.new,J.apart,J.loc,J.cK,J.dN,J.ae,J.fr,J.frC,J.dr,J.dn,J.cY,J.tab,J.dq,J.top,J.big,J.depth,J.units,λY=>I.hdn hh,J.lo,.inl (I.hdn hh)⟩,Yy.d0,Yy.ext,Yy.gens,Yy.drawn,Yy.os⟩
theorem Rb(Z:aU X)(I:ai X C ρ st s){x:Nat}{pos:Pos}{A:Around}{Q:Unit->Shared->Prop}{E:WB}(hx:C.env.scope.names.lookup (X.nm x)=some .local)(W:∀s',am X C ρ s {st with loc:=st.loc.filter λp => !Nat.beq p.1 x} ρ s'->Q () s'):wpAny (model X.prog X.w) A (do bindName C.env (X.nm x) .none;unbindBehindTheSuite C.env (X.nm x) pos) Q E s:=by
 have hl:C.env.kindOf (X.nm x)=some .local:=hx;refine ab (wpAny_bindName (lO Z I hx (v:=.none) (val:=.none) (by dsimp only[av]) λs1 A1=>?_));unfold unbindBehindTheSuite;refine wpAny_onRaise ?_;unfold unbindName;refine ab (wpAny_point (ab ?_));unfold deleteName;simp only[hl,I.cfg.kind];refine bq (aj (by rw[show (ScopeKind.function==ScopeKind.class)=false from rfl,show (ScopeKind.function==ScopeKind.module)=false from rfl];simp)) (af A1.inv.loc λm hm kl=>af (kl x .none (by refine(?_:aw (aI st.loc x V.none) x=_);rw[bf,ar rfl])) λval hv Y=>?_);refine ab (Rx hm hv λh' v hn hs ho=>aq (wpAny_point (W _ (A1.trans (am.uW (t':=s1.toks) A1.inv (loc':=st.loc.filter λp => !Nat.beq p.1 x) hn hs ho λy u e=>?_)))));obtain h1:=(Dj x _ _ _ e).1;obtain h2:=(Dj x _ _ _ e).2;refine af (kl y u (by refine(?_:aw (aI st.loc x V.none) y=_);rw[bf,aj h1];exact h2)) λw h3 h4=>?_
 exact ao w (by show (if X.nm y=X.nm x then v else m (X.nm y))=some w;rw[aj λz=>h1 (Z.nm _ _ z)];exact h3) h4
theorem Vw{gl:Option V}{st':St}{k c:Nat}{d:Option Nat}{r:Option (a9 Fl)}(hk:st'.tr.get k=some (.exc c d))(w:rE gl st' k r≠none):st'.hd=false/\gl=some (.cls c)/\rE gl st' k r=r:=by
 unfold rE at w ⊢;rw[hk] at w ⊢
 cases hh:st'.hd with
 |true=>rw[hh] at w;exact absurd rfl w
 |false=>
  replace w:=hh▸w
  cases gl with
  |none=>exact absurd rfl w
  |some gv=>cases gv with
   |cls g'=>
    dsimp only at w ⊢
    cases q:Nat.beq c g' with
    |false=>rw[q] at w;exact absurd rfl w
    |true=>exact bP rfl (by rw[bY q]) rfl
   |_=>exact absurd rfl w
theorem Vx{r:Option (a9 Fl)}(w:uZ r≠none):∃f st2,r=some (.ok f st2)/\uZ r=some (.ok f {st2 with hd:=false}):=by
 rcases r with _ | _ | _
 .exact absurd rfl w
 .exact aT _ _ rfl rfl
 .exact absurd rfl w
theorem Vy{x:Nat}{r:Option (a9 Fl)}(w:u8 x r≠none):∃f st2,r=some (.ok f st2)/\u8 x r=some (.ok f {st2 with loc:=st2.loc.filter λp => !Nat.beq p.1 x,hd:=false}):=by
 rcases r with _ | _ | _
 .exact absurd rfl w
 .exact aT _ _ rfl rfl
 .exact absurd rfl w
theorem TU(Z:aU X)(S:aV X ih)(I:ai X C ρ st s){b h:List Internal.S}{g:Nat}{m9:Option Nat}{m:Stmt}(he:eA X.nm C.env.scope (.tr b g m9 h) m=true):dW X C ρ s (exec m C.env) ((step X.P D ih).s (.tr b g m9 h) st):=by
 intro Q E W;refine So he ?_;rintro body hs oe fb pos rfl q0;clear he;obtain q1:=(eO q0).1;obtain q2:=(eO q0).2.1;obtain q3:=(eO q0).2.2;obtain rfl:=cH q1;obtain rfl:=cH q2;clear q0 q1 q2;refine jx q3 ?_;rintro e rfl q4;clear q3;refine Sk q4 ?_;rintro o hn hb jn rfl q5;clear q4;refine fX (fw q5) λe4 e5 q6 e7 q7=>?_
 clear q5;refine db q7 ?_;rintro ye rfl q8;clear q7;refine ig q8 ?_;rintro y ypos rfl q9;clear q8;refine d7 (eO q9) λf1 f2 e3=>?_
 have e1:=bG f1;have e2:=bG f2;have e6:=eD q6;clear f1 f2 q6 q9;obtain⟨b₀,hb,rfl⟩:∃b₀ r,hb=b₀::r:=by induction hb using List.casesOn with | nil=>cases e6 | cons b₀ r=>exact kx b₀ r rfl
 replace W:aG X C ρ s (eH X) (F0 (X.P.gl g) (za ih.ss m9 h) (ih.ss b st)) Q E:=W;refine wpAny_Try_except (S.ss I e4 _ _ ?_);generalize ih.ss b st=r at W ⊢;rcases r with _ | r
 .exact (W:False).elim
 .induction r using Internal.a9.casesOn with
  |ok f st'=>
   replace W:aG X C ρ s (eH X) (some (.ok f st')) Q E:=W;intro fl ρ' s' A1 rf
   induction f using Internal.Fl.casesOn with
   |next=>obtain rfl:fl=.next:=rf;exact aq (W.now A1 rfl)
   |brk=>obtain rfl:fl=.brk:=rf;exact W.now A1 rfl
   |cont=>obtain rfl:fl=.cont:=rf;exact W.now A1 rfl
   |ret v=>refine af rf ?_;rintro val rfl rv;exact W.now A1 (ao val rfl rv)
  |ex k st'=>
   replace W:aG X C ρ s (eH X) (rE (X.P.gl g) st' k (za ih.ss m9 h k st')) Q E:=W;intro a ρ' s' A1 b9 ⟨c,d,hk,aQ⟩;refine d7 (Vw hk W.ne) λhh sY eW=>?_
   replace W:=W.at eW;refine C4 A1.inv b9 hk aQ λs2 A2=>?_
   have A12:=A1.trans A2;have IM:=A12.inv.mark b9 hk;refine wpAny_handleBy_cons (codeAny_handlers_test ?_) (by intro q;cases q);have xd:=E5 (y:=y) (pos:=ypos) Z IM e1 e2 e3;obtain xd:=sY▸xd;refine xd _ _ ?_;intro v eX s3 A3 rv;obtain rfl:v=.ref (X.ad c):=rv;have tx:=A3.ext.get b9;refine aA (A3.inv.obj k a tx) λo oe q1 q2 q3=>?_
   rw[show _=some (O.exc c d) from hk] at q1;obtain rfl:=ag q1;obtain⟨g1,g2,⟨g3,g4⟩,vs,g5,Y⟩:=q3;have c1:=Z.exc c g4 g3;have w1:=c1.vP;have hC:=A3.inv.stay _ _ w1;have back:∀{st2:St} {Gx:List Addr} {s4:Shared},am X {C with A:=C.A.mark (some (.ref a))} eX s3 st2 Gx s4->am X C ρ s {st2 with hd:=false} Gx s4:=λB=>A12.trans (am.unmark A12.inv hh (A3.trans B))
   induction m9 using Option.casesOn with
   |none=>
    induction hn using Option.casesOn with
    |some _=>cases e7
    |none=>
     replace W:aG X C ρ s (eH X) (uZ (ih.ss h {st' with hd:=true})) Q E:=W
     have rest:∀s4,am X {C with A:=C.A.mark (some (.ref a))} eX s3 {st' with hd:=true} eX s4->∀{E0:WB},wpAny (model X.prog X.w) (C.A.mark (some (.ref a))) (execs (b₀::hb) C.env) Q E0 s4:=by
      intro s4 A4 E0;refine S.ss A4.inv e5 _ _ (ci (Vx W.ne) λf st2 xu e9=>tb xu ?_);intro fl nH s5 A5 rf;exact(W.at e9).now (back (A4.trans A5)) rf
     obtain⟨hp,gg,dr,tk,os⟩:=s3
     exact wpAny_excMatches_sub_self hC q2 g1 vE (codeAny_handlers_suite (wB A3.inv tx hk λs4 A4=>rest s4 A4))
   |some z=>
    induction hn using Option.casesOn with
    |none=>cases e7
    |some zs=>
     replace W:aG X C ρ s (eH X) (u8 z (ih.ss h {st' with loc:=aI st'.loc z (.ref k),hd:=true})) Q E:=W;have e7:(decide (zs=X.nm z)&&decide (C.env.scope.names.lookup zs=some .local))=true:=e7;simp only[bQ,dX] at e7;refine aL e7 ?_;rintro rfl e8
     have rest:∀s4,am X {C with A:=C.A.mark (some (.ref a))} eX s3 {st' with hd:=true} eX s4->∀{E1 E0:WB},wpAny (model X.prog X.w) (C.A.mark (some (.ref a))) (storeName C.env (X.nm z) (.ref a)) (λY s5=>wpAny (model X.prog X.w) (C.A.mark (some (.ref a))) (execs (b₀::hb) C.env) (λf s6=>wpAny (model X.prog X.w) C.A (do bindName C.env (X.nm z) .none;unbindBehindTheSuite C.env (X.nm z) jn) (λY s7=>Q f s7) E s6) E0 s5) E1 s4:=by
      intro s4 A4 E1 E0;refine lO Z A4.inv e8 (v:=.ref k) (by dsimp only[av];exact ao a rfl tx) λs5 A5=>S.ss A5.inv e5 _ _ ?_
      have lz:({({st' with hd:=true}:St) with loc:=aI st'.loc z (.ref k)}:St)={st' with loc:=aI st'.loc z (.ref k),hd:=true}:=rfl;refine sb lz (ci (Vy W.ne) λf st2 xu e9=>tb xu ?_);intro fl WA s6 A6 rf;have B:=back (A4.trans (A5.trans A6));refine Rb Z B.inv e8 λs7 A7=>(W.at e9).now (B.trans A7) ?_
      have kv:=A7.bB B.inv
      induction f using Internal.Fl.casesOn with
      |ret v=>refine yO rf λval rv=>?_;exact ao val rfl (av.mono kv rv)
      |next=>exact rf
      |brk=>exact rf
      |cont=>exact rf
     obtain⟨hp,gg,dr,tk,os⟩:=s3;exact wpAny_excMatches_sub_self hC q2 g1 vE (codeAny_handlers_suite_as (wB A3.inv tx hk λs4 A4=>rest s4 A4))
end
end
section
theorem J0{p:Pos}{a b:Int}{c c':Value}:∀{l:List Value},TriplesOk l->codeAmong p (l++[rawInt a,rawInt b,c])=some c'->codeAmong p l=some c'\/c'=c:=by
 intro l
 fun_induction TriplesOk l with
 |case1=>
  intro _ h;dsimp only[List.nil_append,rawInt,codeAmong] at h
  split at h
  .exact .inr (ag h).symm
  .exact aP h
 |case2 a' t b' u x rest ih=>
  intro ht h;dsimp only[List.cons_append,codeAmong] at h ⊢
  split at h
  .rename_i hq;rw[ar hq];exact .inl h
  .rename_i hq;rw[aj hq];exact ih ht h
 |case3 l h1 h2=>intro ht;exact ht.elim
theorem GY{env:Env}{l:List Arg}(h:l.all (λa=>a.annotation.isNone)=true):annotationsOf l env=[]:=by
 induction l with
 |nil=>rfl
 |cons a r ih=>
  obtain⟨n,an,p⟩:=a;simp only[List.all_cons,bQ,Option.isNone_iff_eq_none] at h;refine aL h ?_;rintro rfl h2;exact ih h2
section
variable {M:Model}{A:Around}{E:WB}{s:Shared}{name qual:Str}{params:Arguments}{body:List Stmt}{scope:Scope}{env:Env}{c P:Addr}{ps:Array Value}{pos:Pos}{firstLine:Nat}{mg:Str->Option Value}
 {clos:List (Str×Addr)} {Q:WB}
theorem PX(dj:closureFor scope env=pure clos)(Ce:env.globals=mainGlobals)(hg:s.heap.Ns mainGlobals mg)(sU:env.code=.ref c)(C:CodeHd s.heap c P)(hP:s.heap.get? P=some (tabObj ps))(ht:TriplesOk ps.toList)(hgP:mainGlobals≠P)(hb:s.heap.BuiltinsAt mg P)(OR:∀(cv ctv doc:Value) (h':Heap) (tk:Tok),codeAmong pos ps.toList=some cv->(∀b o,s.heap.get? b=some o->h'.get? b=some o)->
   Q (.ref h'.objs.size) {s with heap:=h'.push {cls:=.type "function",data:=.func (fnX name qual params body scope clos .none .none doc ((mg "__name__").getD .none) none cv ctv)},toks:=tk})(gW:∀(c':Addr) (co:Obj) (ctv doc:Value) (h':Heap) (tk:Tok),Heap.ExtBut P s.heap h'->h'.CodeRec (.ref c') qual->h'.get? c'=some co->co.cls=.type "code"->h'.get? P=some (tabObj (ps ++ #[rawInt pos.line,rawInt pos.col,.ref c']))->
   Q (.ref h'.objs.size) {s with heap:=h'.push {cls:=.type "function",data:=.func (fnX name qual params body scope clos .none .none doc ((mg "__name__").getD .none) none (.ref c') ctv)},toks:=tk}) :
  wpAny M A (makeFunction name qual params (.stmts body) scope env [] [] [] pos firstLine) Q E s:=by
 refine lN (codeAmong pos ps.toList) (λcv hf=>?_) λhf=>?_
 .exact makeFunction_hit dj Ce hg sU C hP ht hf hb λctv doc h' tk k Y=>OR cv ctv doc h' tk hf k
 .
  refine VX hb λbm ob b1 b2 Y b3 b4 b5 b6 b7=>?_
  have rest:∀(ctv:Value) (h1:Heap),(∀b o,s.heap.get? b=some o->h1.get? b=some o)->wpAny M A (do
    let code <- functionCode env pos firstLine name qual params scope (.stmts body)
    let builtins <- builtinsFor mainGlobals env.builtins
    let pyModule <- nsGet mainGlobals "__name__"
    let doc <- (match docOf body with | some s=>mkText s | none=>pure .none)
    newObj (.type "function") (.func {name,qualname:=qual,params,body:=.stmts body,scope,globals:=mainGlobals,closure:=clos,closureTuple:=ctv,code,builtins,defaults:=.none,kwdefaults:=.none,annotations:=none,pyModule:=pyModule.getD .none,doc})) Q E {s with heap:=h1}:=by
   intro ctv h1 k;refine ab (wpAny_functionCodeX sU ((C.keeps k).code (k _ _ hP) ht) ((C.keeps k).tab (k _ _ hP)) hf λc' h' tk hx Wh bJ Y lw mO Pe=>?_);refine bE Pe ?_;rintro Y Y Y ⟨⟨co,Y,q1,q2,Y⟩,Y⟩;have hx':Heap.ExtBut P s.heap h':=λb o hb' e=>hx b o hb' (k _ _ e)
   obtain hg':=hg.extBut hx' hgP;refine ab (wpAny_builtinsFor hg' b1 b2 (hx' _ _ b3 b4) b5 b6 b7 (ab (wpAny_nsGet hg' ?_)));have fin:=λdoc tk=>gW c' co ctv doc h' tk hx' lw q1 q2 mO.2
   cases docOf body with
   |none=>exact ab (aq (fJ (fin _ _) (by size_fits)))
   |some t=>exact ab (wpAny_mkText (fJ (fin _ _) (by size_fits)))
  rw[makeFunction_eq];simp only[List.zip_nil_right,List.filterMap_nil,List.isEmpty_nil,if_true,pure_bind];unfold makeTail;refine tb dj ?_;refine tb Ce (ab (aq ?_))
  by_cases hc:clos.isEmpty=true
  .rw [ar hc];exact ab (aq (rest .none s.heap λY Y e=>e))
  .rw [aj hc];exact ab (wpAny_newTextTuple (rest _ _ λb o e=>bn _ e))
end
theorem Dk:∀{fs:List Nat} {ae:List (Nat×Nat)} {x k:Nat},aw (jy fs ae) x=some k->x∈fs/\aw ae x=some k:=by
 intro x9
 induction x9 with
 |nil=>
  intro Y Y Y h
  exact aP h
 |cons f r ih=>
  intro ae x k h;obtain h:aw (match aw ae f with | some k=>(f,k)::jy r ae | none=>jy r ae) x=some k:=h;refine bX (aw ae f) (λe=>?_) λj e=>?_
  .obtain h:=e▸h;refine aL (ih h) λa b=>?_;exact⟨.tail _ a,b⟩
  .
   rw[e] at h;obtain h:(match Nat.beq f x with | true=>some j | false=>aw (jy r ae) x)=some k:=h;rw[dh] at h
   by_cases q:f=x
   .subst q;rw[eZ rfl] at h;obtain rfl:=ag h;exact⟨.head _,e⟩
   .rw [dJ q] at h;obtain a:=(ih h).1;obtain b:=(ih h).2;exact⟨.tail _ a,b⟩
section
variable {cn:cz}
theorem am.Vc(I:ai X C ρ st s){h':Heap}{t':Nat}(hk:∀b o,b≠X.tab->s.heap.get? b=some o->h'.get? b=some o)(ht:jP X h'):am X C ρ s st ρ {s with heap:=h',toks:=t'}:=by
 refine af I.tab.at_ λps₀ tab0 Y=>?_
 have step {σ : List Addr}:bZ X C σ s.heap h':=λb o e Y Y n Y=>⟨⟨o.slots,hk b o n e⟩,λY=>hk b o n e⟩
 have kv:bM X s.heap ρ h' ρ:=I.bB step .refl;have nt:∀{a:Addr} {o:Obj},s.heap.get? a=some o->o.cls≠.none->h'.get? a=some o:=λ{a o} e hc=>hk a o (λq=>by rw[q,tab0] at e;obtain rfl:=ag e;exact hc rfl) e
 have nf:∀{a:Addr} {o:Obj},s.heap.get? a=some o->dH o->h'.get? a=some o:=λ{a o} e hc=>hk a o (λq=>by rw[q,tab0] at e;obtain rfl:=ag e;exact hc.fi rfl) e
 refine⟨⟨I.cfg,λb o e=>hk b o (λq=>by rw[q,I.dq] at e;exact aP e) (I.stay b o e),I.len,λk a e=>?_,I.dom,I.nd,I.new,I.apart,?_,?_,I.dN,I.ae,?_,λL hL=>?_,?_,I.dn,I.cY,ht,I.dq,I.top,I.big,I.depth,I.units,I.hdn,I.lo,I.hand⟩,step,.refl,rfl,trivial,rfl⟩
 .exact aA (I.obj k a e) λo ob h1 h2 h3=>bF o ob h1 (hk a ob (I.apart a (bV e)).2.2.2.2 h2) (h3.mono kv)
 .refine cps λG kG=>?_
  refine af I.loc ?_;rintro m ⟨o,es,ep,h1,h2⟩ h3;refine af I.cK λo' g1 g2=>kG ?_
  rw[h1] at g1;obtain rfl:=ag g1;exact⟨m,ky o es ep (nf h1 g2) h2,λx v e=>af (h3 x v e) λval a b=>(ao val a (b.mono kv))⟩
 .exact af I.cK λo' g1 g2=>ao o' (nf g1 g2) g2
 .exact qj I.fr λL hL=>af (I.frC L hL) λo h1 h2=>ao o h1 (nf h1 h2)
 .exact af (I.frC L hL) λo h1 h2=>ao o (nf h1 h2) h2
 .obtain ⟨⟨n,t,⟨o1,g1,g2,g3⟩,h2⟩,⟨vs,⟨o2,g4,g5,g6⟩,h4⟩⟩:=I.dr;exact⟨(aT n t ⟨o1,nt g1 (by refine aR g2 ?_;decide),g2,g3⟩ h2),⟨vs,(cL o2 (nt g4 (by refine aR g5 ?_;decide)) g5 g6),h4⟩⟩
theorem jP.more{h h':Heap}{ps:Array Value}{pos:Pos}{c':Addr}{co:Obj}(T:jP X h)(oG:h.get? X.tab=some (tabObj ps))(hk:∀b o,b≠X.tab->h.get? b=some o->h'.get? b=some o)(lw:h'.CodeRec (.ref c') X.ch)(ji:h'.get? c'=some co)(dj:co.cls=.type "code")(hP:h'.get? X.tab=some (tabObj (ps ++ #[rawInt pos.line,rawInt pos.col,.ref c']))):jP X h':=by
 refine bE T.at_ λps' t1 t2 t3=>?_
 replace t1:=aW t1 oG;cases t1;have hl:(ps ++ #[rawInt pos.line,rawInt pos.col,Value.ref c']).toList=ps.toList++[rawInt pos.line,rawInt pos.col,.ref c']:=by simp
 refine⟨_,hP,by refine bh hl ?_;exact TriplesOk_snoc _ _ _ _ t2,λp cv e=>?_⟩;rw[hl] at e;rcases J0 t2 e with q | rfl
 .refine dQ (t3 p cv q) ?_;rintro c o e1 e2 e3 ⟨d,o',vs,t,f1,f2,f3,f4⟩;obtain nc:c≠X.tab:=λz=>by rw[z,oG] at e2;obtain rfl:=ag e2;cases e3
  refine⟨c,o,e1,hk _ _ nc e2,e3,kz d o' vs t f1 ?_ f3 f4⟩;obtain rfl:d=c:=by obtain e1:=aW e1 f1;exact gM e1
  exact hk _ _ nc f2
 .exact hX c' co rfl ji dj lw
theorem KD{nm:Nat->Str}{sc:Scope}{x:Nat}{ps cs fs:List Nat}{b:List Internal.S}{m:Stmt}(he:eA nm sc (.mr x ps cs fs b) m=true):∃args body scope pos,m=.FunctionDef "seen" args body [] none [] scope none "seen" pos/\
  ("seen" : Str)=nm x/\sc.names.lookup ("seen" : Str)=some .local/\v8 nm ps args=true/\wa nm sc scope ps cs fs=true/\eQ nm scope b body=true:=by
 refine Sh he ?_;rintro name args body ds rt tps scope ts bind pos rfl h;refine fX (fw h) λh1 h2 h3 h4 h=>?_
 obtain rfl:=cH h1;obtain rfl:=Option.isNone_iff_eq_none.mp h2;obtain rfl:=cH h3;obtain rfl:=Option.isNone_iff_eq_none.mp h4;obtain e1:=(mh h).1;obtain e2:=(mh h).2.1;obtain e3:=(mh h).2.2.1;obtain e4:=(mh h).2.2.2.1;obtain e5:=(mh h).2.2.2.2.1;obtain e6:=(mh h).2.2.2.2.2.1;obtain e7:=(mh h).2.2.2.2.2.2;obtain rfl:=bG e1;obtain rfl:=bG e3;exact QR _ _ _ _ rfl (bG e2) (bG e4) e5 e6 e7
theorem tE{α : Type}{l:List α}(h:cN l=true):l=[]:=by induction l using List.casesOn with | nil=>rfl | cons _ _=>exact aC h
theorem TM(Z:aU X)(I:ai X C ρ st s){x:Nat}{ps cs fs:List Nat}{b:List Internal.S}{m:Stmt}(he:eA X.nm C.env.scope (.mr x ps cs fs b) m=true):dW X C ρ s (exec m C.env) ((step X.P D ih).s (.mr x ps cs fs b) st):=by
 intro Q E W;refine V0 (KD he) ?_;rintro args body scope pos rfl e1 e2 e3 e4 e5;obtain⟨po,aa,va,ko,kd,kw,ds⟩:=args;unfold v8 at e3;simp only[bQ,dX,Option.isNone_iff_eq_none] at e3;refine aL e3 ?_;rintro⟨⟨⟨⟨⟨⟨a1,a2⟩,a3⟩,rfl⟩,a5⟩,a6⟩,rfl⟩ a8;obtain rfl:=tE a1;obtain rfl:=tE a5;obtain rfl:=tE a6;obtain rfl:=tE a8;unfold wa at e4;refine cps λG kG=>?_
 simp only[bQ,dX,Bool.not_eq_true',decide_eq_false_iff_not] at e4;refine aL e4 ?_;rintro⟨⟨⟨⟨⟨⟨⟨⟨k1,k2⟩,k3⟩,k4⟩,k5⟩,k6⟩,k7⟩,k8⟩,k9⟩ k10;obtain sU:=(I.cfg.tab e2).1;obtain Pu:=(I.cfg.tab e2).2;obtain⟨T1,T2,mg,T3,T4⟩:=Z.FL;refine bE I.tab.at_ λtps FN tb2 Vd=>kG ?_
 obtain kh:∀n,(n,NameKind.free)∈scope.names->∃a,C.env.cells.lookup n=some a:=λn hn=>by
  have:=List.all_eq_true.mp k9 _ hn;simp only[bne_self_eq_false,Bool.false_or,dX] at this;exact I.cfg.cells n this
 refine af (Az kh) λclos dj wV=>?_
 obtain Ps:qualnameIn C.env "seen" "seen" = X.ch:=by
  unfold qualnameIn;exact tb (show C.env.kindOf "seen" = some .local from e2) Pu
 obtain NQ:annTrees ⟨[],aa,none,[],[],none,[]⟩ none C.env=[]:=by
  refine(?_:annotationsOf (aa++[]++[]++[]++[]) C.env++[]=[]);simp only[lX];exact GY a3
 replace W:aG X C ρ s (eH X) ((cf (.clo ⟨ps,[],cs,b⟩ (jy fs st.ae))>>=λk=>ny x (.ref k)>>=λY=>(pure Fl.next:Mo Fl)) st) Q E:=W;obtain W:=W.at fD;refine bX ((st.tr.put st.n (.clo ⟨ps,[],cs,b⟩ (jy fs st.ae))).get st.n) (λg=>?_) λo₀ g=>?_
 .rw [g] at W;exact(W:False).elim
 .
  replace W:=g▸W;dsimp only at W
  have fin:∀(h':Heap) (tk:Tok) (ctv doc cv:Value) (pm:Value),am X C ρ s st ρ {s with heap:=h',toks:=tk}->h'.CodeRec cv X.ch->(∃co c,cv=.ref c/\h'.get? c=some co/\co.cls=.type "code")->
    wpAny (model X.prog X.w) C.A (do standAt pos;bindName C.env "seen" (.ref h'.objs.size);pure Flow.next) Q E {s with heap:=h'.push {cls:=.type "function",data:=.func (fnX "seen" X.ch ⟨[],aa,none,[],[],none,[]⟩ body scope clos .none .none doc pm none cv ctv)},toks:=tk}:=by
   intro h' tk ctv doc cv pm A1 lw ji
   obtain hF:kU X ⟨ps,[],cs,b⟩ (fnX "seen" X.ch ⟨[],aa,none,[],[],none,[]⟩ body scope clos .none .none doc pm none cv ctv):=by
    refine⟨⟨rfl,a2,rfl,rfl,rfl,k1,k2,k3,rfl,rfl,k4,λy hy=>?_,k6,k7,cc _,λz=>absurd z k10⟩,ao body rfl e5⟩;have:=List.all_eq_true.mp k5 y hy;exact bG this
   obtain hn:h'.get? h'.objs.size=none:=dc (bI _);have old:∀b o,h'.get? b=some o->(h'.push {cls:=.type "function",data:=.func (fnX "seen" X.ch ⟨[],aa,none,[],[],none,[]⟩ body scope clos .none .none doc pm none cv ctv)}).get? b=some o:=λb o e=>bn _ e
   have A2:=am.push (t':=tk) (o:=.clo ⟨ps,[],cs,b⟩ (jy fs st.ae)) A1.inv old (.inl trivial) hn (cj _ rfl) (by
    refine aA ji λco c q1 q2 q3=>⟨rfl,_,rfl,hF,lw.keeps old,rfl,rfl,bF co c q1 (old _ _ q2) q3,λy k hy=>?_⟩
    obtain y1:=(Dk hy).1;obtain y2:=(Dk hy).2;refine af (I.ae y k y2) λa z1 z2=>ao a (by refine aE (kX (List.getElem?_eq_some_iff.mp z1).1) ?_;exact z1) ?_
    have hm:(X.nm y,NameKind.free)∈scope.names:=by
     have:=List.all_eq_true.mp k8 y y1;rw[List.any_eq_true] at this;refine af this λq q1 q2=>?_
     obtain q1:=(bG q2)▸q1;exact q1
    obtain sT:=List.all_eq_true.mp k9 _ hm;simp only[bne_self_eq_false,Bool.false_or,dX] at sT
    exact wV _ _ hm (z2 (.inl sT))) (tb g rfl) A1.inv.sz
   refine ab (eG (ab (wpAny_bindName ?_)));obtain c6:(ρ++[h'.objs.size])[st.n]?=some h'.objs.size:=by refine sb I.len ?_;simp
   obtain key:wpAny (model X.prog X.w) C.A (storeName C.env (X.nm x) (.ref h'.objs.size)) (λY s3=>wpAny (model X.prog X.w) C.A (pure Flow.next) Q E s3) E {s with heap:=h'.push {cls:=.type "function",data:=.func (fnX "seen" X.ch ⟨[],aa,none,[],[],none,[]⟩ body scope clos .none .none doc pm none cv ctv)},toks:=tk} :=
    lO Z A2.inv (v:=.ref st.n) (by refine sb e1 ?_;exact e2) (ao _ rfl c6) λs3 A3=>aq (W.now ((A1.trans A2).trans A3) rfl)
   rw[<- e1] at key;exact key
  rw[exec_def];refine ab (eG (ab (cR ?_)));rw[defaultsOf_eq];refine ab (aq (ab (cR (aq (cR (tb NQ (ab (aq (tb Ps (PX (c:=X.cQ) (P:=X.tab) dj I.cfg.glob (T3.keeps I.stay) sU (T1.keeps I.stay) FN tb2 T2 (T4.keeps I.stay) (λcv ctv doc h' tk hf k=>?_) λc' co ctv doc h' tk hx lw q1 q2 hP=>?_))))))))))
  .exact dQ (Vd _ _ hf) λc co c1 c2 c3 c4=>fin h' tk ctv doc cv _ (am.quiet (t':=tk) I k (.inl trivial)) (c4.keeps k) (bF co c c1 (k _ _ c2) c3)
  .obtain A1:=am.Vc (t':=tk) I hx (jP.more I.tab FN hx lw q1 q2 hP);exact fin h' tk ctv doc (.ref c') _ A1 lw (bF co c' rfl q1 q2)
end
end
section
section
theorem ai.heapOnly(I:ai X C ρ st s)(e:s'.heap=s.heap):ai X C ρ st s':=by
 obtain⟨hp,gg,dd,tk,os⟩:=s;obtain⟨hp',Nn,Ku,tk',os'⟩:=s';dsimp only at e;subst e;exact⟨I.cfg,I.stay,I.len,I.obj,I.dom,I.nd,I.new,I.apart,I.loc,I.cK,I.dN,I.ae,I.fr,I.frC,I.dr,I.dn,I.cY,I.tab,I.dq,I.top,I.big,I.depth,I.units,I.hdn,I.lo,I.hand⟩
theorem Bg{nm:Nat->Str}{sc:Scope}{g:Nat}{a:E}{z:Str}{p3 p4:Pos}{x:PySem.Expr}(h4:z=nm g)(h5:sc.names.lookup z=some .globalImplicit)(h6:dF z=true)(h7:aO nm sc a x=true) :
  bD nm sc [.call (.ah g) [a]] [.Call (.Name z p3) [x] [] p4]=true/\bD nm sc [a] [x]=true:=by
 obtain e1:bD nm sc [a] [x]=true:=by
  refine(?_:(aO nm sc a x&&true)=true);rw[h7];rfl
 refine⟨(?_:((!tD (.Name z p3)&&(decide (z=nm g)&&decide (sc.names.lookup z=some .globalImplicit)&&dF z)&&bD nm sc [a] [x]&&decide (([x]:List PySem.Expr).length<=15))&&true)=true),e1⟩;rw[eZ h4,eZ h5,h6,e1];rfl
theorem BQ(Z:aU X)(I:ai X C ρ st s){x:Nat}{y:Str}{pos:Pos}{v:V}(h1:y=X.nm x)(h2:C.env.scope.names.lookup y=some .globalImplicit)(h3:dF y=true)(hv:X.P.gl x=some v){Q:WB}{E:WB}(h:∀val,av X s.heap ρ v val->Q val s):wpAny (model X.prog X.w) C.A (eval (.Name y pos) C.env) Q E s:=by
 refine aA Z.glob λmg mb n1 n2 hg=>af (hg x v hv) λval hr hv=>?_
 have q:Q val s:=h val (hr.mono I.yl);have lF:=n1.keeps I.stay;obtain iE:=n2.keeps I.stay;refine Name_function_global I.cfg.kind h2 (bR hv (λhv=>?_) (λq8=>aL q8 λqG qH=>?_)) (pZ h3)
 .exact loadGlobal_global (env:=C.env) (by refine aR I.cfg.glob ?_;exact lF) (tb h1 hv) q
 .exact loadGlobal_builtin (env:=C.env) (by refine aR I.cfg.glob ?_;exact lF) (tb h1 qG) (by refine aR I.cfg.bi ?_;exact iE) (tb h1 qH) q
theorem Ex{nm:Nat->Str}{sc:Scope}{f:Nat}{p:PySem.Expr->Bool}{m:PySem.Expr}(h:wb nm sc f p m=true):∃y p1 z pos,m=.Call (.Name y p1) [z] [] pos/\y=nm f/\sc.names.lookup y=some .globalImplicit/\dF y=true/\p z=true:=by
 refine lL h ?_;rintro g es ks pos rfl q;obtain h0:=(aD q).1;obtain q:=(aD q).2;refine aL (aD q) λh1 q2=>?_
 obtain rfl:=cH h0;refine ig h1 ?_;rintro y p1 rfl q1;refine jx q2 ?_;rintro z rfl q3;obtain h1:=(eO q1).1;obtain h2:=(eO q1).2.1;obtain h3:=(eO q1).2.2;exact xT _ _ _ _ rfl (bG h1) (bG h2) h3 q3
theorem FZ{nm:Nat->Str}{sc:Scope}{f g:Nat}{a:E}{m:PySem.Expr}(he:wf nm sc f g (aO nm sc a) m=true):∃y p1 z p3 x p4 pos,m=.Call (.Name y p1) [.Call (.Name z p3) [x] [] p4] [] pos/\
  y=nm f/\sc.names.lookup y=some .globalImplicit/\dF y=true/\z=nm g/\sc.names.lookup z=some .globalImplicit/\dF z=true/\aO nm sc a x=true:=by
 refine Gk (Ex he) ?_;rintro Y Y Y Y rfl h1 h2 h3 q;refine Gk (Ex q) ?_;rintro Y Y Y Y rfl h4 h5 h6 q;exact⟨_,_,_,_,_,_,_,rfl,h1,h2,h3,h4,h5,h6,q⟩
theorem FY(Z:aU X)(I:ai X C ρ st s){f g:Nat}{a:E}{y z:Str}{p1 p3 p4 pos:Pos}{x:PySem.Expr}(h1:y=X.nm f)(h2:C.env.scope.names.lookup y=some .globalImplicit)(h3:dF y=true)(h4:z=X.nm g)(h5:C.env.scope.names.lookup z=some .globalImplicit)(h6:dF z=true)(h7:aO X.nm C.env.scope a x=true){n m:Nat}(gf:X.P.gl f=some (.blt n))(gg:X.P.gl g=some (.typ m)){Q:WB}{E:WB}(k:wpAny (model X.prog X.w) C.A (eval x C.env) (λv s1=>wpAny (model X.prog X.w) C.A (call (.type (lS m)) [v]) (λu s2=>wpAny (model X.prog X.w) C.A (call (.builtin (jW n)) [u]) Q E s2) E s1) E s) :
  wpAny (model X.prog X.w) C.A (eval (.Call (.Name y p1) [.Call (.Name z p3) [x] [] p4] [] pos) C.env) Q E s:=by
 obtain e1:=(Bg (p3:=p3) (p4:=p4) h4 h5 h6 h7).1;obtain e2:=(Bg (p3:=p3) (p4:=p4) h4 h5 h6 h7).2;refine rM (λY Y Y=>rfl) (BQ Z I h1 h2 h3 gf λval r=>?_);obtain rfl:val=.builtin (jW n):=r;refine jX e1 (args_cons (he:=rfl) (rM (λY Y Y=>rfl) (BQ Z I h4 h5 h6 gg λval r=>?_)));obtain rfl:val=.type (lS m):=r;refine jX e2 (args_cons (he:=uQ h7) (wpAny_mono k (λv s1 k1=>args_nil ⟨.type,wpAny_mono k1 (λu s2 k2=>args_nil ⟨.builtin,k2⟩) λY Y e=>e⟩) λY Y e=>e))
theorem uN{P:Pg}{f g n:Nat}(h:uM P f g n=true):P.gl f=some (.blt n)/\P.gl g=some (.typ 6) :=
 aL (bG h) λh k=>⟨ax h λa e q=>e.trans (ay some (zb q)),ax k λa e q=>e.trans (ay some (vg q))⟩
theorem To{h:Heap}:∀{ks:List aN} {vs:List Value},StrsAre vs (ks.map aJ)->aB X h ρ (ks.map V.str) vs:=by
 intro x9
 induction x9 with
 |nil=>
  intro vs h
  cases h;rfl
 |cons k ks ih=>
  intro vs h
  cases h with
  |cons x t r=>
   exact bF _ _ rfl (⟨t,rfl⟩) (ih r)
theorem Lg(Z:aU X)(S:aV X ih)(I:ai X C ρ st s){f g:Nat}{a:E}{x:PySem.Expr}(h:aO X.nm C.env.scope (.sset f g a) x=true):bl X C ρ s (eval x C.env) ((step X.P D ih).e (.sset f g a) st):=by
 intro Q E W;refine Gn (FZ h) ?_;rintro y p1 z p3 x p4 pos rfl h1 h2 h3 h4 h5 h6 h7;refine W.ob λm0 e0 W0=>bk e0 λq e1=>?_
 obtain rfl:=ag e1;refine FY Z I h1 h2 h3 h4 h5 h6 h7 (uN q).1 (uN q).2 (bp (S.e I h7) W0 λv1 aH b1 be s1 e1 A1 r1 W1=>W1.ob λm1 e2 W1=>ax e2 λl e3 e2=>bk e2 λhd e2=>ax e2 λr hs e9=>cps λG kG=>?_);replace hd:=eD hd;obtain rfl:=ag e9;refine aA (hU A1.inv r1 e3) ?_;rintro al vs rfl hl hr;obtain⟨ks,k1,k2,rfl,k4,k5,a1,a2,k6,k7,k8⟩:=Ut hs;refine kG ?_;have hS:=y6 k1 hr;refine Hs.Ul (A1.inv.hdn hd) hl hS (by refine aR (aX _) ?_;exact k2) (bF (aJ a1) (aJ a2) (List.mem_map_of_mem k6) (List.mem_map_of_mem k7) (λe=>k8 (rC e))) λa ws ss h' dr tk n1 n2 q9 n4 n5 n6 n7=>aF q9 λn n3=>?_
 obtain PC:=Uj n5 n7 k4 λk=>by
  rw[n6];constructor
  .intro q;refine af (List.mem_map.mp q) λu hu qq=>?_;exact ck qq (List.mem_map_of_mem ((k5 u).mp hu))
  .intro q;refine af (List.mem_map.mp q) λu hu qq=>?_;exact ck qq (List.mem_map_of_mem ((k5 u).mpr hu))
 subst PC
 have th:s1.heap.get? a=none:=by
  cases e:s1.heap.get? a with
  |none=>rfl
  |some o=>exact absurd (n2 a o e) (Nat.lt_irrefl _)
 obtain ot:1<a:=by
  exact ci A1.inv.top λb o t1 t2=>bL t1 (n2 b o (A1.inv.stay _ _ t2))
 unfold cM at W1;rw[pv] at W1
 by_cases hz:((gI ks).map V.str).length<=aK
 .replace W1:=(ar hz)▸W1;replace W1:=fD▸W1;refine bX ((aH.tr.put aH.n (.list ((gI ks).map V.str))).get aH.n) (λgp=>?_) λo gp=>?_
  .obtain W1:=gp▸W1;exact(W1:False).elim
  .
   rw[gp] at W1;replace W1:aG X C be s1 (av X) (some (.ok (V.ref aH.n) {aH with tr:=aH.tr.put aH.n (.list ((gI ks).map V.str)),n:=aH.n+1})) Q E:=W1
   obtain ext:ca s1.heap be (be++[a]):=⟨[_],rfl,λb hb=>by rw[List.mem_singleton.mp hb];exact th⟩
   obtain A2:=am.push (t':=tk) (o:=.list ((gI ks).map V.str)) A1.inv n1 (.inl trivial) th n3 ⟨rfl,ws,n,rfl,To n4,rfl,rfl⟩ (by refine tb gp ?_;rfl) ot;refine W1.now ⟨A2.inv.heapOnly rfl,A2.d0,A2.ext,rfl,trivial,rfl⟩ (ao a rfl ?_);rw[io (by refine aR A1.inv.len ?_;exact bI _),A1.inv.len];simp
 .obtain W1:=(aj hz)▸W1;exact(W1:False).elim
theorem Qd{prog:Program}{w:World}{vs:List Value}{ss:List Str}(h:StrsAre vs ss):ItemsAre (PySem.strKind prog w) ss vs:=by
 induction h with
 |nil=>exact .nil
 |cons x t r ih=>exact .cons (by refine(?_:(x==x)=true);exact ml x) ih
theorem Vs{h:Heap}{prog:Program}{w:World}{l:List V}:∀{ks:List (List aN)} {vs:List Value},rD l=some ks->aB X h ρ l vs->∀(j:Nat) (v:Value),vs[j]?=some v->∃a k,v=.ref a/\(ks.map λk=>k.map aJ)[j]?=some k/\Hs.f9 prog w h k a:=by
 induction l with
 |nil=>intro ks vs e r j v hv;obtain rfl:vs=[]:=r;exact aP hv
 |cons x l ih=>
  intro ks vs e r j v hv;refine aA r ?_;rintro y ws rfl r1 r2;refine ax e λm e1 e=>ax e λk q1 e=>ax e λkk q2 e9=>?_
  obtain rfl:=gJ e1;obtain rfl:=ag e9
  cases j with
  |succ j=>exact ih q2 r2 j v hv
  |zero=>
   obtain rfl:y=v:=ag hv;refine aA r1 ?_;rintro a us rfl ⟨o,o1,o2,n,o3⟩ r3;exact⟨a,_,rfl,rfl,o,_,n,o1,o2,o3,Qd (y6 q1 r3)⟩
theorem Le(Z:aU X)(S:aV X ih)(I:ai X C ρ st s){f g:Nat}{a:E}{x:PySem.Expr}(h:aO X.nm C.env.scope (.lP f g a) x=true):bl X C ρ s (eval x C.env) ((step X.P D ih).e (.lP f g a) st):=by
 intro Q E W;refine Gn (FZ h) ?_;rintro y p1 z p3 x p4 pos rfl h1 h2 h3 h4 h5 h6 h7;refine W.ob λm0 e0 W0=>bk e0 λq e1=>?_
 obtain rfl:=ag e1;refine FY Z I h1 h2 h3 h4 h5 h6 h7 (uN q).1 (uN q).2 (bp (S.e I h7) W0 λv1 aH b1 be s1 e1 A1 r1 W1=>W1.ob λm1 e2 W1=>ax e2 λl e3 e2=>bk e2 λhd e2=>ax e2 λr hs e9=>cps λG kG=>?_);replace hd:=eD hd;obtain rfl:=ag e9;refine aA (hU A1.inv r1 e3) ?_;rintro al vs rfl hl hr;refine zn (T8 hs) ?_;rintro ks k1 rfl k3 k4;refine kG ?_;obtain hu:=A1.inv.units
 obtain hn:(ks.map λk=>k.map aJ).Nodup:=List.pairwise_map.mpr (k4.imp λ{a b} q e=>q (by
  have:∀{a b:List aN},a.map aJ=b.map aJ->a=b:=by
   intro a
   induction a with
   |nil=>intro b e;induction b using List.casesOn with
    |nil=>rfl
    |cons _ _=>cases e
   |cons x a ih=>intro b e;induction b using List.casesOn with
    |nil=>cases e
    |cons y b=>
     simp only[List.map_cons,List.cons.injEq] at e;refine sb (rC e.1) ?_;exact sb (ih e.2) rfl
  exact this e))
 refine Hs.QA (A1.inv.hdn hd) (ak [_,_,_] 3 0x30a48003130149001e2500142a30 rfl hu) hl (by refine aR hr.length ?_;exact k3) hn (Vs k1 hr) λh' t1 tk n1=>?_
 exact tb hr.length (W1.now (am.quiet A1.inv n1 (.inl trivial)) (⟨_,rfl⟩))
end
end
section
def vv(X:Sx)(cn:cz):Prop:=∀{C:bw} {ρ:List Addr} {s:Shared} {st:St} {f:Nat} {l:List V} {vs:List Value} {r:V},ai X C ρ st s->cn f l st=some r->aB X s.heap ρ l vs->
 bl X C ρ s (call (.ref (X.ad f)) vs) (some (.ok r st))
theorem FP{X:Sx}:vv X cg:=λY e Y=>nomatch e
section
variable {cn:cz}
theorem Lh(Z:aU X){n:Nat}(S:aV X (ac X.P D cn n))(H:∀m,m<n->aV X (ac X.P D cn m))(I:ai X C ρ st s){m:E}{x:PySem.Expr}(h:aO X.nm C.env.scope m x=true):bl X C ρ s (eval x C.env) ((step X.P D (ac X.P D cn n)).e m st):=by
 induction m using Internal.E.casesOn with
 |c v=>
  induction x using PySem.Expr.casesOn with
  |Constant c k p=>exact Tg I h
  |_=>exact aC h
 |loc y=>
  induction x using PySem.Expr.casesOn with
  |Name z p=>
   have h:(decide (z=X.nm y)&&decide (C.env.scope.names.lookup z=some .local)&&dF z)=true:=h;simp only[bQ,dX] at h
   exact Ti I h.1.1 h.1.2 h.2
  |_=>exact aC h
 |ae y=>
  induction x using PySem.Expr.casesOn with
  |Name z p=>
   obtain h:(decide (z=X.nm y)&&(decide (C.env.scope.names.lookup z=some .cell) || decide (C.env.scope.names.lookup z=some .free))&&dF z && !(z==("__classdict__" : Str)))=true:=h;simp only[bQ,Bool.or_eq_true,dX,Bool.not_eq_true'] at h
   exact Th I h.1.1.1 h.1.1.2 h.1.2 h.2
  |_=>exact aC h
 |ah y=>
  induction x using PySem.Expr.casesOn with
  |Name z p=>
   have h:(decide (z=X.nm y)&&decide (C.env.scope.names.lookup z=some .globalImplicit)&&dF z)=true:=h;simp only[bQ,dX] at h
   exact E5 Z I h.1.1 h.1.2 h.2
  |_=>exact aC h
 |bo a l=>exact K4 S I h
 |bin o a b=>exact K3 S I h
 |not a=>intro Q E W;exact(W:False).elim
 |neg n=>exact Lc I h
 |ite c a b=>exact K9 S I h
 |dict ks vs=>exact K8 S I h
 |list l=>exact K' S I h
 |tuple l=>exact Lj S I h
 |comp elt gs=>exact K7 Z S H I h
 |cmp o a b=>exact K6 S I h
 |call f a=>exact K5 Z S I h
 |meth o m a=>exact Lb Z S I h
 |attr o x=>exact K1 Z S I h
 |sub o i=>exact Li S I h
 |slc o lo hi rev=>exact Ld S I h
 |sset f g a=>exact Lg Z S I h
 |lP f g a=>exact Le Z S I h
theorem Jf{nm:Nat->Str}{sc:Scope}{x:Nat}{c:Bool}{e:E}{m:Stmt}(he:eA nm sc (.asg x c e) m=true):∃y cU v p,m=.Assign [.Name y cU] v p:=by
 refine yt he ?_;rintro ts v p rfl h;refine jx h ?_;rintro t rfl h;refine ig h ?_;rintro y cU rfl Y;exact QQ _ _ _ _ rfl
set_option tactic.hygienic true in
theorem TL(Z:aU X){n:Nat}(S:aV X (ac X.P D cn n))(H:∀m,m<n->aV X (ac X.P D cn m))(I:ai X C ρ st s){x:Nat}{c:Bool}{e:E}{m:Stmt}(h:eA X.nm C.env.scope (.asg x c e) m=true) :
  dW X C ρ s (exec m C.env) ((step X.P D (ac X.P D cn n)).s (.asg x c e) st):=by
 refine VZ (Jf h) ?_;rintro y cU v p rfl;have h':(decide (y=X.nm x)&&ll C.env.scope y c&&aO X.nm C.env.scope e v&&sw C.env.scope y cU v p.line (ku e && !c))=true:=h;simp only[bQ,dX] at h';refine aL h' ?_;rintro⟨⟨h1,h2⟩,h3⟩ h4;refine gn (ku e) (λhc=>?_) λhc=>?_
 .exact Ff Z S I h (uf h3 hc)
 .
  cases e<;>first | (exact aC hc) | skip
  rename_i elt gs
  induction c using Bool.casesOn with
  |true=>
   refine Ff Z S I h ?_;cases v<;>first | (exact aC h3) | skip
   rename_i dK gens scope pos;obtain h2:decide (C.env.scope.names.lookup y=some .cell)=true:=h2;refine(?_:(pure (C.env.blockKind==.function&&C.env.kindOf y==some .local&&cU.line==pos.line && !(scope.names.any λ(n,k)=>n==y&&(k==.local || k==.cell))):Sem Bool)=pure false);obtain b2:(C.env.kindOf y==some .local)=false:=by refine(?_:(C.env.scope.names.lookup y==some NameKind.local)=false);refine tb (bG h2) ?_;rfl
   rw[b2,Bool.and_false,Bool.false_and,Bool.false_and]
  |false=>
   induction n using Nat.casesOn with
   |zero=>intro Q E W;exact(W:False).elim
   |succ n=>exact TJ Z (H n (dT n)) (λm hm=>H m (jL hm)) I (ac X.P D cn (n+1)) rfl h
theorem TS(Z:aU X){n:Nat}(S:aV X (ac X.P D cn n))(H:∀m,m<n->aV X (ac X.P D cn m))(I:ai X C ρ st s){m:Internal.S}{x:Stmt}(h:eA X.nm C.env.scope m x=true):dW X C ρ s (exec x C.env) ((step X.P D (ac X.P D cn n)).s m st):=by
 induction m using Internal.S.casesOn with
 |ex e=>exact TN S I h
 |asg x c e=>exact TL Z S H I h
 |aY o x e=>exact TH Z S I h
 |cr xs e=>exact TK Z S I h
 |ite c a b=>exact TP S I h
 |wh c b=>exact TV H I h
 |fr t it b=>exact TO Z S H I h
 |ret e=>exact TQ S I h
 |rs e=>exact TR Z S I h
 |tr b g nm hh=>exact TU Z S I h
 |mr x ps cs fs b=>exact TM Z I h
 |oR=>exact λY Y W=>(W:False).elim
theorem yV(Z:aU X)(DR:im X)(SR:md X D)(TD:vv X cn):∀n,aV X (ac X.P D cn n):=by
 intro n
 induction n using Nat.strongRecOn with
 |_ n IH=>
  induction n using Nat.casesOn with
  |zero=>exact⟨λY Y Y Y W=>(W:False).elim,λY Y Y Y W=>(W:False).elim,λY Y Y Y W=>(W:False).elim,λY Y Y Y Y W=>(W:False).elim,λY Y Y Y Y W=>(W:False).elim,λY Y Y Y Y Y W=>(W:False).elim,λY Y Y Y W=>(W:False).elim,λY Y Y Y Y Y Y Y Y Y W=>(W:False).elim,λY Y Y Y Y W=>(W:False).elim,λY Y Y Y W=>(W:False).elim⟩
  |succ n=>
   have S:=IH n (dT n);obtain H:∀m,m<n->aV X (ac X.P D cn m):=λm hm=>IH m (jL hm)
   refine⟨λI h=>Lh Z S H I h,λI h=>LJ (D:=D) S I h,λI h=>Vb (D:=D) S I h,λI ho h=>Vq (D:=D) S I ho h,λI ho h=>Jt (D:=D) S I ho h,λI hk hl h=>S2 (D:=D) S I hk hl h,λI h=>TS Z S H I h,
    λI ho hd F jg df mE r=>Jw (D:=D) Z S tU I ho hd F jg df mE r,λ{C ρ s st f l fv vs} I rf r=>?_,λI h=>Us (D:=D) S I h⟩
   obtain base:=JG (D:=D) Z S DR SR I rf r
   induction f using Internal.V.casesOn with
   |fn f=>
    refine(?_:bl X C ρ s (call fv vs) (match cn f l st with | some r=>some (.ok r st) | none=>(step X.P D (ac X.P D cn n)).call (.fn f) l st))
    cases e:cn f l st with
    |none=>exact base
    |some v=>
     obtain rfl:fv=.ref (X.ad f):=rf
     exact TD I e r
   |_=>exact base
end
end
section
structure bc(st:St):Prop where
 has:∀k,k<st.n->∃o,st.tr.get k=some o
 lo:st.lo<=st.n
theorem Tr.uD{o:O}:∀{n:Nat} {t:Tr},(∀k,k<n->∃o,t.get k=some o)->(t.put n o).get n=some o:=by
 intro n
 induction n using Nat.strongRecOn with
 |_ n ih=>
  intro t h
  cases t with
  |nil=>
   obtain hn:n=0:=by
    induction n using Nat.casesOn with
    |zero=>rfl
    |succ n=>refine aF (h 0 (Nat.succ_pos n)) λo' e=>?_;exact aP e
   subst hn;rfl
  |node v l r=>
   rw[Tr.yM]
   by_cases q:n=0
   .rw [ar q,Tr.get_node,ar q]
   .rw [aj q]
    by_cases p:n%2=1
    .rw [ar p,Tr.get_node,aj q,ar p];refine ih (n/2) (Nat.div_lt_self (Nat.pos_of_ne_zero q) (by decide)) λk hk=>aF (h (2*k+1) (bx (show 2*_+1<2*(_/2) from gc 2 hk) (Nat.mul_div_le _ 2))) λo' e=>?_
     rw[Tr.get_node,aj (dU (dw (Nat.succ 0) (2*_))),ar (by simp +arith),show (2*k+1)/2=k by exact Nat.mul_add_div (by decide:0<2) _ 1] at e;exact⟨o',e⟩
    .rw [aj p,Tr.get_node,aj q,aj p];refine ih (n/2 - 1) (dx (Nat.sub_le _ 1) (Nat.div_lt_self (Nat.pos_of_ne_zero q) (by decide))) λk hk=>aF (h (2*k+2) (bx (show 2*(_+1)<2*(_/2) from Nat.mul_lt_mul_of_pos_left (Nat.add_lt_of_lt_sub hk) (by decide)) (Nat.mul_div_le _ 2))) λo' e=>?_
     rw[Tr.get_node,aj (dU (dw (Nat.succ 0) (2*_+1))),aj (by simp +arith),show (2*k+2)/2 - 1=k by exact by simp +arith] at e;exact⟨o',e⟩
def Ok{α : Type}(x:Mo α)(st:St)(Q:α->St->Prop):Prop:=∃a st',x st=some (.ok a st')/\Q a st'
section
variable {α β : Type}{st:St}
theorem Ok.pure{a:α}{Q:α->St->Prop}(h:Q a st):Ok (Pure.pure a:Mo α) st Q:=(aT a st rfl h)
theorem Ok.bind{x:Mo α}{f:α->Mo β}{Q:β->St->Prop}(h:Ok x st λa st'=>Ok (f a) st' Q):Ok (x>>=f) st Q:=by
 obtain⟨a,aH,h1,b,st2,h2,q⟩:=h;refine aT b st2 (?_:Mo.bind x f st=_) q;unfold Mo.bind;refine tb h1 ?_;exact h2
theorem Ok.mono{x:Mo α}{Q Q':α->St->Prop}(h:Ok x st Q)(k:∀a st',Q a st'->Q' a st'):Ok x st Q':=ci h λa st' e q=>(aT a st' e (k _ _ q))
theorem Ok.bK{x:Mo α}{Q:α->St->Prop}(h:Ok x st Q):Ok (bK x) st Q:=let ⟨a,st',e,q⟩:=h;⟨a,st',by unfold Internal.bK;rw[e],q⟩
theorem Ok.eq{x y:Mo α}{st2:St}{Q:α->St->Prop}(e:x st=y st2)(h:Ok y st2 Q):Ok x st Q:=ci h λa st' e' q=>(aT a st' (e.trans e') q)
theorem qY{k:Nat}{o:O}{Q:O->St->Prop}(e:st.tr.get k=some o)(h:Q o st):Ok (gy k) st Q:=(aT o st (by unfold gy;exact tb e rfl) h)
theorem lJ{f:St->Option α}{a:α}{Q:α->St->Prop}(e:f st=some a)(h:Q a st):Ok (rd f) st Q:=aT a st (by unfold rd;refine tb e ?_;rfl) h
theorem dm{f:St->Option (Mo α)}{m:Mo α}{Q:α->St->Prop}(e:f st=some m)(h:Ok m st Q):Ok (pk f) st Q:=Ok.eq (y:=m) (st2:=st) (by unfold pk;refine tb e ?_;rfl) h
theorem eT{a:Nat}{l:List V}(g:st.tr.get a=some (.list l)):cI st (.ref a)=some l:=ay (λo=>(Option.bind o oL).or none) g
theorem gH{n:Nat}(h:n<=aK):small n=true:=ir h
theorem FG{o v:V}{i:Nat}{l:List V}(hi:oQ st o=some l)(hl:l.length<=aK)(e:l[i]?=some v):FF st o (.int (i:Int))=some v :=
 bu (a:=(i:Int)) rfl (bu hi (di (gN (gH hl) (gH (au (cb (Int.natAbs_natCast i)) (au (cq (List.getElem?_eq_some_iff.mp e).1) hl)))) (bu (a:=i) (di (by rw[iu];exact(List.getElem?_eq_some_iff.mp e).1) rfl) e)))
theorem qZ{n:Nat}{Q:Unit->St->Prop}(e:n<=aK)(h:Q () st):Ok (room n) st Q:=(aT () st (by unfold room;refine tb (ir e) ?_;rfl) h)
theorem RP{a:α}{Q:α->St->Prop}(e:st.hd=false)(h:Q a st):Ok (eP a) st Q:=(aT a st (by unfold eP;exact tb e rfl) h)
theorem RZ{o:Option α}{a:α}{Q:α->St->Prop}(e:o=some a)(h:Q a st):Ok (Dg o) st Q:=(aT a st (by subst e;rfl) h)
structure nM(st st':St):Prop where
 eq:st'={st with tr:=st'.tr,n:=st'.n}
 full:bc st'
 n:st.n<=st'.n
 get:∀k,k<st.n->st'.tr.get k=st.tr.get k
theorem bc.new(f:bc st)(o:O):bc {st with tr:=st.tr.put st.n o,n:=st.n+1}:=by
 obtain e:=Tr.uD (o:=o) f.has;refine⟨λk hk=>?_,Nat.le_succ_of_le f.lo⟩;rw[Tr.fy (tb e rfl)]
 by_cases q:k=st.n
 .rw [ar q];exact⟨o,rfl⟩
 .rw [aj q];exact f.has k (Nat.lt_of_le_of_ne (jK hk) q)
theorem bc.DJ(f:bc st)(o:O)(j:Nat):(st.tr.put st.n o).get j=if j=st.n then some o else st.tr.get j:=Tr.fy (by refine tb (Tr.uD f.has) ?_;rfl) j
theorem bc.put(f:bc st){k:Nat}{o o':O}(e:st.tr.get k=some o'):bc {st with tr:=st.tr.put k o}:=by
 refine⟨λj hj=>?_,f.lo⟩;rw[Tr.fy (tb (Tr.rp e) rfl)]
 by_cases q:j=k
 .rw [ar q];exact⟨o,rfl⟩
 .rw [aj q];exact f.has j hj
theorem yK{k:Nat}{o o':O}(e:st.tr.get k=some o')(j:Nat):(st.tr.put k o).get j=if j=k then some o else st.tr.get j:=Tr.fy (by refine tb (Tr.rp e) ?_;rfl) j
theorem D7(f:bc st){o:O}{Q:Nat->St->Prop}(h:Q st.n {st with tr:=st.tr.put st.n o,n:=st.n+1}):Ok (cf o) st Q:=(aT _ _ (by unfold cf;rw[Tr.uD f.has]) h)
theorem R6{k:Nat}{o o':O}{Q:Unit->St->Prop}(e:st.tr.get k=some o')(aQ:st.lo<=k)(h:Q () {st with tr:=st.tr.put k o}):Ok (cW k o) st Q:=(aT _ _ (by unfold cW;rw[e,ir aQ]) h)
theorem R4(f:bc st){l:List V}{Q:V->St->Prop}(hl:l.length<=aK)(h:Q (.ref st.n) {st with tr:=st.tr.put st.n (.list l),n:=st.n+1}):Ok (cM l) st Q :=
 .bind (qZ hl (.bind (D7 f (.pure h))))
end
section
variable {P:Pg}{cn:cz}{n:Nat}{st:St}
theorem fU{v:V}{Q:V->St->Prop}(h:Q v st):Ok (((ac P D cn) (n+1)).e (.c v)) st Q:=(aT v st rfl h)
theorem br{x:Nat}{v:V}{Q:V->St->Prop}(e:aw st.loc x=some v)(h:Q v st):Ok (((ac P D cn) (n+1)).e (.loc x)) st Q:=(aT v st (by refine(?_:qn x st=_);unfold qn;exact tb e rfl) h)
theorem qX{x k:Nat}{v:V}{Q:V->St->Prop}(e:aw st.ae x=some k)(g:st.tr.get k=some (.cell (some v)))(h:Q v st):Ok (((ac P D cn) (n+1)).e (.ae x)) st Q:=aT v st (bu (bu e (bu g rfl)) rfl) h
theorem iI{x:Nat}{v:V}{Q:V->St->Prop}(e:P.gl x=some v)(h:Q v st):Ok (((ac P D cn) (n+1)).e (.ah x)) st Q:=(aT v st (by refine(?_:(match P.gl x with | some v=>(Pure.pure v:Mo V) | none=>Mo.fail) st=_);refine tb e ?_;rfl) h)
theorem iG{o:Op}{a b:E}{Q:V->St->Prop}(h:Ok (((ac P D cn) n).e a) st λx s1=>Ok (((ac P D cn) n).e b) s1 λy s2=>Ok (jU o x y) s2 Q):Ok (((ac P D cn) (n+1)).e (.bin o a b)) st Q :=
 Ok.bind (f:=λx=>((ac P D cn) n).e b>>=λy=>jU o x y) (h.mono λY Y h=>.bind h)
theorem D5{c a b:E}{Q:V->St->Prop}(h:Ok (((ac P D cn) n).t c) st λx s1=>Ok (if x=true then ((ac P D cn) n).e a else ((ac P D cn) n).e b) s1 Q):Ok (((ac P D cn) (n+1)).e (.ite c a b)) st Q:=Ok.bind (f:=λx=>if x=true then ((ac P D cn) n).e a else ((ac P D cn) n).e b) h
theorem ib{l:List E}{Q:V->St->Prop}(h:Ok (((ac P D cn) n).es l) st λx s1=>Ok (cM x) s1 Q):Ok (((ac P D cn) (n+1)).e (.list l)) st Q:=Ok.bind (f:=cM) h
theorem pf{l:List E}{Q:V->St->Prop}(h:Ok (((ac P D cn) n).es l) st λx s1=>x.length<=aK/\Q (.tup x) s1):Ok (((ac P D cn) (n+1)).e (.tuple l)) st Q:=Ok.bind (f:=js) (h.mono λY Y q=>.bind (qZ q.1 (.pure q.2)))
theorem DZ{o:Cp}{a b:E}{Q:V->St->Prop}(h:Ok (((ac P D cn) n).e a) st λx s1=>Ok (((ac P D cn) n).e b) s1 λy s2=>Ok (mn o x y) s2 λr s3=>Q (.bool r) s3):Ok (((ac P D cn) (n+1)).e (.cmp o a b)) st Q :=
 Ok.bind (f:=λx=>((ac P D cn) n).e b>>=λy=>mn o x y>>=λr=>(Pure.pure (V.bool r):Mo V)) (h.mono λY Y h=>.bind (h.mono λY Y h=>.bind (h.mono λY Y h=>.pure h)))
theorem ut{o:Cp}{a b:E}{Q:Bool->St->Prop}(h:Ok (((ac P D cn) n).e a) st λx s1=>Ok (((ac P D cn) n).e b) s1 λy s2=>Ok (mn o x y) s2 Q):Ok (((ac P D cn) (n+1)).t (.cmp o a b)) st Q :=
 Ok.bind (f:=λx=>((ac P D cn) n).e b>>=λy=>mn o x y) (h.mono λY Y h=>.bind h)
theorem iH{f:E}{a:List E}{Q:V->St->Prop}(h:Ok (((ac P D cn) n).e f) st λg s1=>Ok (((ac P D cn) n).es a) s1 λl s2=>Ok (pV P g) s2 λY s3=>Ok (((ac P D cn) n).call g l) s3 Q):Ok (((ac P D cn) (n+1)).e (.call f a)) st Q :=
 Ok.bind (f:=λg=>((ac P D cn) n).es a>>=λl=>pV P g>>=λY=>((ac P D cn) n).call g l) (h.mono λY Y h=>.bind (h.mono λY Y h=>.bind h))
theorem uj{o:E}{x:Nat}{Q:V->St->Prop}(h:Ok (((ac P D cn) n).e o) st λv s1=>Ok (getAttr P v x) s1 Q):Ok (((ac P D cn) (n+1)).e (.attr o x)) st Q:=Ok.bind (f:=λv=>getAttr P v x) h
theorem yr{o i:E}{Q:V->St->Prop}(h:Ok (((ac P D cn) n).e o) st λv s1=>Ok (((ac P D cn) n).e i) s1 λw s2=>Ok (pE v w) s2 Q):Ok (((ac P D cn) (n+1)).e (.sub o i)) st Q:=Ok.bind (f:=λv=>((ac P D cn) n).e i>>=λw=>pE v w) (h.mono λY Y h=>.bind h)
theorem kB{o:E}{m:Nat}{a:List E}{Q:V->St->Prop}(h:Ok (((ac P D cn) n).e o) st λv s1=>Ok (oZ P ((ac P D cn) n) v m a) s1 Q):Ok (((ac P D cn) (n+1)).e (.meth o m a)) st Q:=Ok.bind (f:=λv=>oZ P ((ac P D cn) n) v m a) h
theorem da{Q:List V->St->Prop}(h:Q [] st):Ok (((ac P D cn) (n+1)).es []) st Q:=(aT ([]) st rfl h)
theorem cm{m:E}{r:List E}{Q:List V->St->Prop}(h:Ok (((ac P D cn) n).e m) st λv s1=>Ok (((ac P D cn) n).es r) s1 λvs s2=>Q (v::vs) s2):Ok (((ac P D cn) (n+1)).es (m::r)) st Q :=
 Ok.bind (f:=λv=>((ac P D cn) n).es r>>=λvs=>Pure.pure (v::vs)) (h.mono λY Y h=>.bind (h.mono λY Y h=>.pure h))
theorem fE{Q:Fl->St->Prop}(h:Q .next st):Ok (((ac P D cn) (n+1)).ss []) st Q:=(aT .next st rfl h)
theorem bC{m:S}{r:List S}{Q:Fl->St->Prop}(h:Ok (((ac P D cn) n).s m) st λf s1=>match f with | .next=>Ok (((ac P D cn) n).ss r) s1 Q | f=>Q f s1):Ok (((ac P D cn) (n+1)).ss (m::r)) st Q :=
 show Ok (((ac P D cn) n).s m>>=λf=>(match f with | .next=>((ac P D cn) n).ss r | f=>Pure.pure f:Mo Fl)) st Q from Ok.bind (h.mono λf Y h=>by cases f<;>first | exact h | exact .pure h)
theorem lI{e:E}{Q:Fl->St->Prop}(h:Ok (((ac P D cn) n).e e) st λY s1=>Q .next s1):Ok (((ac P D cn) (n+1)).s (.ex e)) st Q:=Ok.bind (f:=λY=>Pure.pure Fl.next) (h.mono λY Y h=>.pure h)
theorem gF{x:Nat}{e:E}{Q:Fl->St->Prop}(h:Ok (((ac P D cn) n).e e) st λv s1=>Q .next {s1 with loc:=aI s1.loc x v}):Ok (((ac P D cn) (n+1)).s (.asg x false e)) st Q :=
 Ok.bind (f:=λv=>kL false x v>>=λY=>Pure.pure Fl.next) (h.mono λv s1 h=>.bind (aT () _ rfl (.pure h)))
theorem RK{x:Nat}{e:E}{Q:Fl->St->Prop}(h:Ok (((ac P D cn) n).e e) st λv s1=>∃k u,aw s1.ae x=some k/\s1.tr.get k=some (.cell u)/\s1.lo<=k/\Q .next {s1 with tr:=s1.tr.put k (.cell (some v))}):Ok (((ac P D cn) (n+1)).s (.asg x true e)) st Q :=
 Ok.bind (f:=λv=>kL true x v>>=λY=>Pure.pure Fl.next) (h.mono λv s1 q9=>dQ q9 λk u e1 e2 e3 h=>.bind (aT () _ (bu e1 (bu e2 (di (ir e3) rfl))) (.pure h)))
theorem uo{c:E}{a b:List S}{Q:Fl->St->Prop}(h:Ok (((ac P D cn) n).t c) st λx s1=>Ok (if x=true then ((ac P D cn) n).ss a else ((ac P D cn) n).ss b) s1 Q):Ok (((ac P D cn) (n+1)).s (.ite c a b)) st Q:=Ok.bind (f:=λx=>if x=true then ((ac P D cn) n).ss a else ((ac P D cn) n).ss b) h
theorem ng{e:E}{Q:Fl->St->Prop}(h:Ok (((ac P D cn) n).e e) st λv s1=>Q (.ret v) s1):Ok (((ac P D cn) (n+1)).s (.ret (some e))) st Q:=Ok.bind (f:=λv=>Pure.pure (Fl.ret v)) (h.mono λY Y h=>.pure h)
theorem pe{t:T}{it:E}{b:List S}{Q:Fl->St->Prop}(h:Ok (((ac P D cn) n).e it) st λv s1=>sq v s1=some (.ok false s1)/\fh v s1=some (.ok () s1)/\Ok (((ac P D cn) n).forL t v 0 b) s1 Q):Ok (((ac P D cn) (n+1)).s (.fr t it b)) st Q :=
 Ok.bind (f:=λv=>sq v>>=λq=>(match q with | true=>eP Fl.next | false=>fh v>>=λY=>bK (((ac P D cn) n).forL t v 0 b):Mo Fl)) (h.mono λv s1 q9=>d7 q9 λh1 h2 h3=>.bind (aT false s1 h1 (.bind (aT () s1 h2 h3.bK))))
theorem Sf{c:E}{b:List S}{Q:Fl->St->Prop}(h:Ok (((ac P D cn) n).nE c b) st Q):Ok (((ac P D cn) (n+1)).s (.wh c b)) st Q:=Ok.bK h
theorem Sc{f:Nat}{l:List V}{r:V}{Q:V->St->Prop}(e:cn f l st=some r)(h:Q r st):Ok (((ac P D cn) (n+1)).call (.fn f) l) st Q:=(aT r st (by
 refine(?_:(match cn f l st with | some r=>some (a9.ok r st) | none=>(step P D (ac P D cn n)).call (.fn f) l st)=_)
 exact tb e rfl) h)
theorem uk{fd:FD}{clo:List (Nat×Nat)}{l:List V}{bs:List (Nat×V)}{dp:Nat}{Q:V->St->Prop}(hb:lf fd l=some bs)(hd:st.dp=dp+1)(h:Ok (do gG [] [];let cs <- iC fd.cs;gG [] (cs++clo);fP fd.cs bs;((ac P D cn) n).ss fd.body:Mo Fl) {st with dp:=dp} λf st'=>Q (match f with | .ret v=>v | _=>.none) {st' with loc:=st.loc,ae:=st.ae,dp:=st.dp}) :
  Ok (((ac P D cn) (n+1)).body fd clo l) st Q:=by
 refine ci h λf st' e q=>aT _ _ ?_ q
 show (match lf fd l,st.dp with
  |some bs,dp+1=>(match (do gG [] [];let cs <- iC fd.cs;gG [] (cs++clo);fP fd.cs bs;((ac P D cn) n).ss fd.body:Mo Fl) {st with dp:=dp} with
   |none=>none
   |some (.ok f st')=>some (a9.ok (match f with | .ret v=>v | _=>V.none) {st' with loc:=st.loc,ae:=st.ae,dp:=st.dp})
   |some (.ex k st')=>some (.ex k {st' with loc:=st.loc,ae:=st.ae,dp:=st.dp}))
  |_,_=>none)=_
 rw[hb];rw[hd];dsimp only;exact tb e rfl
theorem BD{f:Nat}{fd:FD}(h3:P.nest f=false)(h4:P.fd f=some fd):my P f=some fd:=by unfold my;rw[h3];exact h4
theorem D3{f:Nat}{fd:FD}{l:List V}{Q:V->St->Prop}(e:cn f l st=none)(h1:Nat.beq f P.cZ=false)(h2:Nat.beq f P.ka=false)(h3:P.nest f=false)(h4:P.fd f=some fd)(h:Ok (((ac P D cn) n).body fd [] l) st Q):Ok (((ac P D cn) (n+1)).call (.fn f) l) st Q:=by
 refine Ok.eq (y:=(step P D (ac P D cn n)).call (.fn f) l) (st2:=st) ?_ (dm (m:=((ac P D cn) n).body fd [] l) ?_ h)
 .refine (?_:(match cn f l st with | some r=>some (a9.ok r st) | none=>(step P D (ac P D cn n)).call (.fn f) l st)=_);exact tb e rfl
 .show Option.or (cond (Nat.beq f P.cZ) (qc l st) (cond (Nat.beq f P.ka) (rB D l st) ((my P f).bind λfd=>some (((ac P D cn) n).body fd [] l)))) _=_;rw[h1,h2,BD h3 h4];rfl
theorem yn{f:Nat}{fd:FD}{Q:Unit->St->Prop}(h3:P.nest f=false)(h4:P.fd f=some fd)(h:Q () st):Ok (pV P (.fn f)) st Q :=
 lJ (show Option.or ((my P f).bind λY=>some ()) _=_ by rw[BD h3 h4];rfl) h
theorem DW{β γ : Type}{x:Mo α}{f:α->Mo β}{g:β->Mo γ}{Q:γ->St->Prop}(h:Ok ((x>>=f)>>=g) st Q):Ok (x>>=λa=>f a>>=g) st Q:=Ok.eq (st2:=st) DF.symm h
theorem pd{t:T}{v:V}{b:List S}{xs:List V}{c:Nat}(J:Nat->St->Prop)(qx:∀i st,J i st->gC v i st=some (.ok xs[i]? st))(lA:∀i st m x,J i st->xs[i]?=some x->c<=m->Ok (cr t x>>=λY=>((ac P D cn) m).ss b) st λf st'=>f=.next/\J (i+1) st') :
  ∀(k i n:Nat) (st:St),J i st->xs.length - i=k->i<=xs.length->k+c+1<=n->Ok (((ac P D cn) n).forL t v i b) st λf st'=>f=.next/\J xs.length st':=by
 intro k
 induction k with
 |zero=>
  intro i n st hJ hk hi hn
  obtain⟨m,rfl⟩:∃m,n=m+1:=⟨n - 1,by exact sc (au (dw 1 (0+_)) hn)⟩
  obtain e:=qx i st hJ;rw[List.getElem?_eq_none (nJ hk)] at e;obtain rfl:i=xs.length:=by exact Nat.le_antisymm hi (nJ hk)
  exact Ok.bind (x:=gC v xs.length) (aT none st e (Ok.pure (a:=Fl.next) ⟨rfl,hJ⟩))
 |succ k ih=>
  intro i n st hJ hk hi hn
  obtain⟨m,rfl⟩:∃m,n=m+1:=⟨n - 1,by exact sc (au (dw 1 (_+1+_)) hn)⟩
  have bJ:i<xs.length:=by exact l5 hk
  obtain e:=qx i st hJ;rw[dS bJ] at e;refine Ok.bind (x:=gC v i) (aT (some xs[i]) st e (DW (.bind ((lA i st m xs[i] hJ (dS bJ) (au c9 (Nat.le_of_succ_le_succ hn))).mono λf st2 hq=>?_))));refine aL hq ?_;rintro rfl wM;exact ih (i+1) m st2 wM (lb hk) (l5 hk) (ak [_,_,_] 3 0x1832400029446014000299200014a228000530 rfl hn)
end
end
section
noncomputable def Wu:List String:=["append", "extend", "pop", "count", "get", "split", "__init__", "source", "limit", "item", "Item", "name", "shape", "Shape", "category", "often", "occurs", "Occurs", "above", "add", "data", "Data", "root", "working", "_law_leaf", "table", "inner", "indexes", "turn", "range", "other", "str", "qualifiers", "subscripts", "part", "way", "_law_draw", "is_bad", "ref", "_law_ref", "_law_ONE", "pair", "depth", "_law_plain", "one", "faults", "_law_statement", "more", "_law_YES", "rows", "subject", "len", "cells", "cell", "script", "int", "_law_data", "due", "spot", "statements", "statement", "Paragraph", "tuple", "front", "using", "program", "Program", "Procedures", "heard", "faults_of", "pairs", "set", "found", "files", "linkage", "line", "kids", "records", "items_under", "parent", "around", "items_around", "FILLER", "texts", "NUMBERS", "goal", "goals_of", "top", "root_of", "at", "CheckFault", "alike", "all_items", "only_one", "leads_through", "names_around", "file_of", "word", "change", "whens", "body", "BRANCHED", "key", "seen", "exchanged_bodies", "bodies_of", "parts_of", "find_item", "operand", "expr", "number_faults", "is_index_name", "fault", "what", "part_faults", "tables_around", "less", "ref_faults", "item_of", "category_of", "ARITHMETIC", "operand_faults", "is_number_operand", "name_of", "categories", "place_faults", "is_worth", "kind", "cond", "cond_faults", "worth_faults", "named_faults", "sort_from", "sort_to", "barred", "can_move", "refs", "move_faults", "arith_faults", "divide_faults", "group_faults", "initialize_faults", "set_faults", "search_faults", "string_faults", "unstring_faults", "inspect_faults", "procedures", "range_of", "told", "row", "object_faults", "loop", "begin", "step", "evaluate_faults", "pair_faults", "loop_faults", "counter_faults", "mode", "names", "file_names_faults", "record_faults", "sort_faults", "data_faults", "flow_faults", "file_faults", "sorted", "name_faults", "using_faults", "outer", "list", "statements_within", "statement_faults", "Exception", "self", "low", "high", "depending", "keys", "level", "picture_text", "usage", "sign", "is_separate", "redefines", "value", "is_justified", "is_blank_zero", "conditions", "renames", "base", "offset", "size", "kid", "sorts", "picture", "digits", "scale", "is_signed", "section", "section_end", "LedgerError.__init__", "Occurs.__init__", "Item.__init__", "Data.__init__", "Paragraph.__init__", "Procedures.__init__", "Program.__init__", "Shape.__init__", "Item.add", "Procedures.range_of", "clauses", "sign_place", "law"]
noncomputable def Md:FD:={ps:=[7,8],ds:=[],cs:=[],body:=[]}
noncomputable def Me:FD:={ps:=[18,11,14,15],ds:=[.int 1],cs:=[],body:=[.asg 9 false (.call (.ah 10) [.c (.int 5),.loc 11]),
 .aY (.loc 9) 12 (.call (.ah 13) [.loc 14,.c (.int 4)]),
 .ite (.cmp .gt (.loc 15) (.c (.int 1))) [.aY (.loc 9) 16 (.call (.ah 17) [.c (.int 1),.loc 15,.c .none,.tuple [],.tuple [.bin .add (.loc 11) (.c (.str [45,73]))]])] [],
 .ex (.meth (.loc 18) 19 [.loc 9]),
 .ret (some (.loc 9))]}
noncomputable def Mc:FD:={ps:=[],ds:=[],cs:=[],body:=[.asg 20 false (.call (.ah 21) []),
 .asg 22 false (.call (.ah 10) [.c (.int 1),.c (.str [82])]),
 .aY (.loc 22) 12 (.call (.ah 13) [.c (.str [103,114,111,117,112]),.c (.int 60)]),
 .ex (.meth (.attr (.loc 20) 23) 0 [.loc 22]),
 .fr (.two 11 14) (.tuple [.tuple [.c (.str [65,76]),.c (.str [97,108,112,104,97,98,101,116,105,99])],.tuple [.c (.str [65,78]),.c (.str [97,108,112,104,97,110,117,109,101,114,105,99])],.tuple [.c (.str [65,69]),.c (.str [97,108,110,117,109,45,101,100,105,116,101,100])],.tuple [.c (.str [78,85]),.c (.str [110,117,109,101,114,105,99])],.tuple [.c (.str [78,69]),.c (.str [101,100,105,116,101,100])],.tuple [.c (.str [73,88]),.c (.str [105,110,100,101,120])]]) [.ex (.call (.ah 24) [.loc 22,.loc 11,.loc 14])],
 .asg 25 false (.call (.ah 24) [.loc 22,.c (.str [84]),.c (.str [103,114,111,117,112]),.c (.int 3)]),
 .ex (.call (.ah 24) [.loc 25,.c (.str [75]),.c (.str [110,117,109,101,114,105,99])]),
 .asg 26 false (.call (.ah 24) [.loc 25,.c (.str [85]),.c (.str [103,114,111,117,112]),.c (.int 2)]),
 .ex (.call (.ah 24) [.loc 26,.c (.str [86]),.c (.str [110,117,109,101,114,105,99])]),
 .aY (.loc 20) 27 (.dict [[84,45,73],[85,45,73]] [.loc 25,.loc 26]),
 .fr (.loc 28) (.call (.ah 29) [.c (.int 2)]) [.asg 30 false (.call (.ah 10) [.c (.int 1),.bin .add (.c (.str [81])) (.call (.ah 31) [.loc 28])]),
 .aY (.loc 30) 12 (.call (.ah 13) [.c (.str [103,114,111,117,112]),.c (.int 4)]),
 .ex (.call (.ah 24) [.loc 30,.c (.str [84,87,73,67,69]),.c (.str [110,117,109,101,114,105,99])]),
 .ex (.meth (.attr (.loc 20) 23) 0 [.loc 30])],
 .ret (some (.loc 20))]}
noncomputable def Mg:FD:={ps:=[11,33,34,32],ds:=[.tup [],.none,.tup []],cs:=[],body:=[.ret (some (.tuple [.c (.str [114,101,102]),.loc 11,.loc 32,.loc 33,.loc 34]))]}
noncomputable def Mf:FD:={ps:=[7],ds:=[],cs:=[],body:=[.asg 35 false (.call (.ah 36) [.loc 7,.c (.int 10)]),
 .asg 37 false (.cmp .eq (.call (.ah 36) [.loc 7,.c (.int 2)]) (.c (.int 1))),
 .asg 11 false (.bin .add (.c (.str [78,79])) (.call (.ah 31) [.loc 35])),
 .asg 38 false (.call (.ah 39) [.ite (.loc 37) (.loc 11) (.c (.str [78,85]))]),
 .ite (.cmp .eq (.loc 35) (.c (.int 0))) [.ret (some (.tuple [.tuple [.c (.str [109,111,118,101]),.ah 40,.tuple [.loc 38]],.ite (.loc 37) (.list [.tuple [.loc 11,.c (.str [114,101,102])]]) (.list [])]))] [],
 .ite (.cmp .eq (.loc 35) (.c (.int 1))) [.ret (some (.tuple [.tuple [.c (.str [100,105,115,112,108,97,121]),.tuple [.loc 38,.tuple [.c (.str [116,101,120,116]),.c (.bytes [97])]],.c (.bool false)],.ite (.loc 37) (.list [.tuple [.loc 11,.c (.str [114,101,102])]]) (.list [])]))] [],
 .ite (.cmp .eq (.loc 35) (.c (.int 2))) [.ret (some (.tuple [.tuple [.c (.str [103,111,116,111]),.tuple [.ite (.loc 37) (.loc 11) (.c (.str [80,48])),.c (.str [])]],.ite (.loc 37) (.list [.tuple [.loc 11,.c (.str [114,111,119])]]) (.list [])]))] [],
 .ite (.cmp .eq (.loc 35) (.c (.int 3))) [.asg 41 false (.ite (.loc 37) (.tuple [.loc 11,.c (.str [])]) (.tuple [.c (.str [80,48]),.c (.str [])])),
 .ret (some (.tuple [.tuple [.c (.str [112,101,114,102,111,114,109]),.tuple [.c (.str [114,97,110,103,101]),.loc 41,.loc 41],.tuple [.c (.str [116,105,109,101,115]),.loc 38]],.ite (.loc 37) (.list [.tuple [.loc 11,.c (.str [114,111,119])],.tuple [.loc 11,.c (.str [114,101,102])]]) (.list [])]))] [],
 .ite (.cmp .eq (.loc 35) (.c (.int 4))) [.ret (some (.tuple [.tuple [.c (.str [115,101,116]),.tuple [.call (.ah 39) [.ite (.loc 37) (.c (.str [65,78])) (.c (.str [84,45,73]))]],.c (.str [61]),.ah 40],.ite (.loc 37) (.list [.tuple [.c (.str [65,78]),.c (.str [112,108,97,99,101])]]) (.list [])]))] [],
 .ite (.cmp .eq (.loc 35) (.c (.int 5))) [.ret (some (.tuple [.tuple [.c (.str [99,97,108,108]),.tuple [.c (.str [116,101,120,116]),.c (.bytes [88])],.tuple [.tuple [.c (.str [114,101,102,101,114,101,110,99,101]),.loc 38]],.tuple []],.ite (.loc 37) (.list [.tuple [.loc 11,.c (.str [114,101,102])]]) (.list [])]))] [],
 .ite (.cmp .eq (.loc 35) (.c (.int 6))) [.ret (some (.tuple [.tuple [.c (.str [111,112,101,110]),.tuple [.tuple [.c (.str [105,110,112,117,116]),.loc 11]]],.list [.tuple [.loc 11,.c (.str [102,105,108,101])]]]))] [],
 .ite (.cmp .eq (.loc 35) (.c (.int 7))) [.ret (some (.tuple [.tuple [.c (.str [97,99,99,101,112,116]),.loc 38],.ite (.loc 37) (.list [.tuple [.loc 11,.c (.str [114,101,102])]]) (.list [])]))] [],
 .ite (.cmp .eq (.loc 35) (.c (.int 8))) [.ret (some (.tuple [.tuple [.c (.str [103,111,116,111,45,100,101,112]),.tuple [.tuple [.c (.str [80,48]),.c (.str [])],.tuple [.ite (.loc 37) (.loc 11) (.c (.str [80,48])),.c (.str [])]],.call (.ah 39) [.c (.str [78,85])]],.ite (.loc 37) (.list [.tuple [.loc 11,.c (.str [114,111,119])]]) (.list [])]))] [],
 .ret (some (.tuple [.tuple [.c (.str [99,111,110,116,105,110,117,101])],.list []]))]}
noncomputable def gS:FD:={ps:=[7,42],ds:=[],cs:=[],body:=[.asg 35 false (.ite (.cmp .gt (.loc 42) (.c (.int 0))) (.call (.ah 36) [.loc 7,.c (.int 6)]) (.c (.int 0))),
 .ite (.cmp .lt (.loc 35) (.c (.int 3))) [.ret (some (.call (.ah 43) [.loc 7]))] [],
 .cr [(44,false),(45,false)] (.call (.ah 46) [.loc 7,.bin .sub (.loc 42) (.c (.int 1))]),
 .ite (.cmp .eq (.loc 35) (.c (.int 3))) [.cr [(30,false),(47,false)] (.call (.ah 46) [.loc 7,.bin .sub (.loc 42) (.c (.int 1))]),
 .ret (some (.tuple [.tuple [.c (.str [105,102]),.ah 48,.tuple [.loc 44],.tuple [.loc 30]],.bin .add (.loc 45) (.loc 47)]))] [],
 .ite (.cmp .eq (.loc 35) (.c (.int 4))) [.ret (some (.tuple [.tuple [.c (.str [112,101,114,102,111,114,109]),.tuple [.c (.str [98,111,100,121]),.tuple [.loc 44]],.tuple [.c (.str [117,110,116,105,108]),.c (.bool false),.tuple [.c (.str [115,105,103,110]),.c (.str [90,69,82,79]),.call (.ah 39) [.c (.str [78,79])]]]],.bin .add (.list [.tuple [.c (.str [78,79]),.c (.str [114,101,102])]]) (.loc 45)]))] [],
 .asg 49 false (.slc (.tuple [.tuple [.tuple [.c (.str [97,110,121])]],.tuple [.tuple [.c (.str [97,110,121])],.tuple [.c (.str [97,110,121])]]]) none (some (.bin .add (.c (.int 1)) (.call (.ah 36) [.loc 7,.c (.int 2)]))) false),
 .asg 50 false (.sub (.tuple [.tuple [.c (.str [119,111,114,116,104]),.ah 40],.tuple [.c (.str [121,101,115])],.tuple [.c (.str [110,111])],.tuple [.c (.str [116,114,117,116,104]),.ah 48]]) (.call (.ah 36) [.loc 7,.c (.int 4)])),
 .ret (some (.tuple [.tuple [.c (.str [101,118,97,108,117,97,116,101]),.tuple [.loc 50],.tuple [.tuple [.loc 49,.tuple [.loc 44]]],.tuple []],.bin .add (.ite (.cmp .gt (.call (.ah 51) [.loc 49]) (.c (.int 1))) (.list [.tuple [.c (.str [69,86,65,76,85,65,84,69]),.c (.str [114,111,119])]]) (.list [])) (.loc 45)]))]}
noncomputable def lm:FD:={ps:=[54],ds:=[],cs:=[],body:=[.asg 52 false (.comp (.call (.ah 55) [.loc 53]) [.mk (.loc 53) (.slc (.loc 54) none (some (.c (.int 60))) false) []]),
 .asg 7 false (.list [.ite (.loc 52) (.loc 52) (.list [.c (.int 0)]),.c (.int 0)]),
 .asg 20 false (.call (.ah 56) []),
 .asg 49 false (.list []),
 .asg 57 false (.list []),
 .fr (.loc 58) (.call (.ah 29) [.bin .add (.c (.int 1)) (.call (.ah 36) [.loc 7,.c (.int 3)])]) [.asg 59 false (.list []),
 .fr (.loc 28) (.call (.ah 29) [.bin .add (.c (.int 1)) (.call (.ah 36) [.loc 7,.c (.int 4)])]) [.cr [(60,false),(45,false)] (.call (.ah 46) [.loc 7,.c (.int 2)]),
 .ex (.meth (.loc 59) 0 [.loc 60]),
 .asg 57 false (.bin .add (.loc 57) (.loc 45))],
 .ex (.meth (.loc 49) 0 [.call (.ah 61) [.bin .add (.c (.str [80])) (.call (.ah 31) [.loc 58]),.c (.str []),.call (.ah 62) [.loc 59]]])],
 .asg 63 false (.list []),
 .asg 64 false (.tuple []),
 .ite (.cmp .eq (.call (.ah 36) [.loc 7,.c (.int 3)]) (.c (.int 1))) [.ex (.meth (.attr (.loc 20) 23) 0 [.call (.ah 10) [.c (.int 1),.c (.str [82])]]),
 .ex (.meth (.loc 63) 0 [.tuple [.c (.str [82]),.c (.str [116,119,105,99,101])]])] [],
 .ite (.cmp .eq (.call (.ah 36) [.loc 7,.c (.int 3)]) (.c (.int 1))) [.asg 64 false (.tuple [.c (.str [81,48])]),
 .ex (.meth (.loc 63) 0 [.tuple [.c (.str [81,48]),.c (.str [117,115,105,110,103])]])] [],
 .asg 65 false (.call (.ah 66) [.c (.str [77,65,73,78]),.loc 20,.dict [] [],.call (.ah 67) [.loc 49,.loc 64]]),
 .asg 68 false (.comp (.sub (.loc 41) (.c (.int 1))) [.mk (.loc 41) (.call (.ah 69) [.loc 65]) []]),
 .asg 70 false (.list []),
 .fr (.loc 41) (.bin .add (.loc 63) (.loc 57)) [.ite (.cmp .jt (.loc 41) (.loc 70)) [.ex (.meth (.loc 70) 0 [.loc 41])] []],
 .ret (some (.bo true [.cmp .eq (.loc 68) (.comp (.sub (.loc 41) (.c (.int 0))) [.mk (.loc 41) (.loc 70) []]),.cmp .eq (.lP 51 71 (.call (.ah 69) [.loc 65])) (.call (.ah 51) [.loc 68])]))]}
noncomputable def MR:FD:={ps:=[20],ds:=[],cs:=[],body:=[.asg 72 false (.list []),
 .fr (.loc 11) (.attr (.loc 20) 73) [.ex (.meth (.loc 72) 1 [.sub (.attr (.loc 20) 73) (.loc 11)])],
 .ret (some (.bin .add (.bin .add (.loc 72) (.attr (.loc 20) 23)) (.attr (.loc 20) 74)))]}
noncomputable def MC:FD:={ps:=[9],ds:=[],cs:=[],body:=[.asg 72 false (.list []),
 .asg 75 false (.list [.loc 9]),
 .wh (.cmp .ne (.loc 75) (.list [])) [.asg 44 false (.meth (.loc 75) 2 []),
 .ex (.meth (.loc 72) 0 [.loc 44]),
 .ex (.meth (.loc 75) 1 [.slc (.attr (.loc 44) 76) none none true])],
 .ret (some (.loc 72))]}
noncomputable def Mh:FD:={ps:=[20],ds:=[],cs:=[],body:=[.asg 72 false (.list []),
 .fr (.loc 22) (.call (.ah 77) [.loc 20]) [.ex (.meth (.loc 72) 1 [.call (.ah 78) [.loc 22]])],
 .ret (some (.loc 72))]}
noncomputable def MB:FD:={ps:=[9],ds:=[],cs:=[],body:=[.asg 72 false (.list []),
 .asg 18 false (.attr (.loc 9) 79),
 .wh (.cmp .jv (.loc 18) (.c .none)) [.ex (.meth (.loc 72) 0 [.loc 18]),
 .asg 18 false (.attr (.loc 18) 79)],
 .ret (some (.loc 72))]}
noncomputable def MT:FD:={ps:=[9],ds:=[],cs:=[],body:=[.asg 80 false (.call (.ah 81) [.loc 9]),
 .ret (some (.ite (.cmp .ne (.loc 80) (.list [])) (.sub (.loc 80) (.neg 1)) (.loc 9)))]}
noncomputable def MJ:FD:={ps:=[9],ds:=[],cs:=[],body:=[.ret (some (.comp (.attr (.loc 44) 11) [.mk (.loc 44) (.call (.ah 81) [.loc 9]) [.cmp .ne (.attr (.loc 44) 11) (.ah 82)]]))]}
noncomputable def MV:FD:={ps:=[9],ds:=[],cs:=[],body:=[.asg 75 false (.bin .add (.slc (.call (.ah 81) [.loc 9]) none none true) (.list [.loc 9])),
 .ret (some (.comp (.loc 44) [.mk (.loc 44) (.loc 75) [.cmp .jv (.attr (.loc 44) 16) (.c .none)]]))]}
noncomputable def Mw:FD:={ps:=[14],ds:=[],cs:=[],body:=[.asg 83 false (.tuple [.c (.str [103,114,111,117,112]),.c (.str [97,108,112,104,97,98,101,116,105,99]),.c (.str [97,108,112,104,97,110,117,109,101,114,105,99]),.c (.str [97,108,110,117,109,45,101,100,105,116,101,100])]),
 .asg 49 false (.dict [[103,114,111,117,112],[97,108,112,104,97,110,117,109,101,114,105,99],[97,108,112,104,97,98,101,116,105,99],[97,108,110,117,109,45,101,100,105,116,101,100],[110,117,109,101,114,105,99],[101,100,105,116,101,100]] [.bin .add (.loc 83) (.ah 84),.bin .add (.loc 83) (.ah 84),.loc 83,.loc 83,.bin .add (.tuple [.c (.str [103,114,111,117,112]),.c (.str [97,108,112,104,97,110,117,109,101,114,105,99]),.c (.str [97,108,110,117,109,45,101,100,105,116,101,100])]) (.ah 84),.bin .add (.tuple [.c (.str [103,114,111,117,112]),.c (.str [97,108,112,104,97,110,117,109,101,114,105,99]),.c (.str [97,108,110,117,109,45,101,100,105,116,101,100])]) (.ah 84)]),
 .ret (some (.meth (.loc 49) 4 [.loc 14,.tuple []]))]}
noncomputable def Mj:FD:={ps:=[7,85],ds:=[],cs:=[],body:=[.ret (some (.cmp .isIn (.loc 85) (.call (.ah 86) [.loc 7])))]}
noncomputable def Mt:FD:={ps:=[20,9],ds:=[],cs:=[87],body:=[.asg 87 true (.call (.ah 88) [.loc 9]),
 .fr (.loc 11) (.attr (.loc 20) 73) [.ite (.cmp .ne (.comp (.loc 22) [.mk (.loc 22) (.sub (.attr (.loc 20) 73) (.loc 11)) [.cmp .same (.loc 22) (.ae 87)]]) (.list [])) [.ret (some (.loc 11))] []],
 .ret (some (.c (.str [])))]}
noncomputable def MD:FD:={ps:=[80,32],ds:=[],cs:=[],body:=[.asg 89 false (.c (.int 0)),
 .fr (.loc 11) (.loc 80) [.ite (.bo true [.cmp .lt (.loc 89) (.call (.ah 51) [.loc 32]),.cmp .eq (.loc 11) (.sub (.loc 32) (.loc 89))]) [.asg 89 false (.bin .add (.loc 89) (.c (.int 1)))] []],
 .ret (some (.cmp .eq (.loc 89) (.call (.ah 51) [.loc 32])))]}
noncomputable def MM:FD:={ps:=[72,11],ds:=[],cs:=[],body:=[.ite (.cmp .eq (.call (.ah 51) [.loc 72]) (.c (.int 0))) [.rs (.call (.ah 90) [.bin .add (.c (.str [97,110,32,117,110,107,110,111,119,110,32,110,97,109,101,58,32])) (.loc 11)])] [],
 .ite (.cmp .gt (.call (.ah 51) [.loc 72]) (.c (.int 1))) [.rs (.call (.ah 90) [.bin .add (.c (.str [97,110,32,97,109,98,105,103,117,111,117,115,32,110,97,109,101,58,32])) (.loc 11)])] [],
 .ret (some (.sub (.loc 72) (.c (.int 0))))]}
noncomputable def Mu:FD:={ps:=[20,11,32],ds:=[],cs:=[20,11,32],body:=[.asg 91 false (.comp (.loc 9) [.mk (.loc 9) (.call (.ah 92) [.ae 20]) [.cmp .eq (.attr (.loc 9) 11) (.ae 11)]]),
 .ret (some (.call (.ah 93) [.comp (.loc 9) [.mk (.loc 9) (.loc 91) [.call (.ah 94) [.bin .add (.call (.ah 95) [.loc 9]) (.list [.call (.ah 96) [.ae 20,.loc 9]]),.ae 32]]],.ae 11]))]}
noncomputable def Mq:FD:={ps:=[60,98],ds:=[],cs:=[98],body:=[.asg 97 false (.sub (.loc 60) (.c (.int 0))),
 .ite (.cmp .eq (.loc 97) (.c (.str [105,102]))) [.ret (some (.tuple [.c (.str [105,102]),.sub (.loc 60) (.c (.int 1)),.call (.ae 98) [.sub (.loc 60) (.c (.int 2))],.call (.ae 98) [.sub (.loc 60) (.c (.int 3))]]))] [],
 .ite (.cmp .eq (.loc 97) (.c (.str [101,118,97,108,117,97,116,101]))) [.asg 99 false (.call (.ah 62) [.comp (.tuple [.loc 49,.call (.ae 98) [.loc 100]]) [.mk (.two 49 100) (.sub (.loc 60) (.c (.int 2))) []]]),
 .ret (some (.tuple [.c (.str [101,118,97,108,117,97,116,101]),.sub (.loc 60) (.c (.int 1)),.loc 99,.call (.ae 98) [.sub (.loc 60) (.c (.int 3))]]))] [],
 .ite (.bo true [.cmp .eq (.loc 97) (.c (.str [112,101,114,102,111,114,109])),.cmp .eq (.sub (.sub (.loc 60) (.c (.int 1))) (.c (.int 0))) (.c (.str [98,111,100,121]))]) [.ret (some (.tuple [.c (.str [112,101,114,102,111,114,109]),.tuple [.c (.str [98,111,100,121]),.call (.ae 98) [.sub (.sub (.loc 60) (.c (.int 1))) (.c (.int 1))]],.sub (.loc 60) (.c (.int 2))]))] [],
 .ite (.cmp .isIn (.loc 97) (.ah 101)) [.ret (some (.bin .add (.slc (.loc 60) none (some (.neg 1)) false) (.tuple [.call (.ah 62) [.comp (.tuple [.loc 102,.call (.ae 98) [.loc 100]]) [.mk (.two 102 100) (.sub (.loc 60) (.neg 1)) []]]])))] [],
 .ret (some (.loc 60))]}
noncomputable def Mi:FD:={ps:=[60],ds:=[],cs:=[72],body:=[.asg 72 true (.list []),
 .mr 103 [100] [] [72] [.ex (.meth (.ae 72) 0 [.loc 100]),
 .ret (some (.loc 100))],
 .ex (.call (.ah 104) [.loc 60,.loc 103]),
 .ret (some (.ae 72))]}
noncomputable def mx:FD:={ps:=[60],ds:=[],cs:=[],body:=[.ret (some (.comp (.loc 44) [.mk (.loc 100) (.call (.ah 105) [.loc 60]) [],.mk (.loc 44) (.loc 100) []]))]}
noncomputable def wv:FD:={ps:=[60],ds:=[],cs:=[],body:=[.asg 72 false (.list []),
 .asg 75 false (.slc (.call (.ah 106) [.loc 60]) none none true),
 .wh (.cmp .ne (.loc 75) (.list [])) [.asg 44 false (.meth (.loc 75) 2 []),
 .ex (.meth (.loc 72) 0 [.loc 44]),
 .ex (.meth (.loc 75) 1 [.slc (.call (.ah 106) [.loc 44]) none none true])],
 .ret (some (.loc 72))]}
noncomputable def MA:FD:={ps:=[20,38],ds:=[],cs:=[],body:=[.tr [.ret (some (.call (.ah 107) [.loc 20,.sub (.loc 38) (.c (.int 1)),.sub (.loc 38) (.c (.int 2))]))] 90 none [.ret (some (.c .none))]]}
noncomputable def Mx:FD:={ps:=[20,108],ds:=[],cs:=[],body:=[.ret (some (.bo true [.cmp .eq (.sub (.loc 108) (.c (.int 0))) (.c (.str [114,101,102])),.cmp .eq (.sub (.loc 108) (.c (.int 2))) (.tuple []),.cmp .isIn (.sub (.loc 108) (.c (.int 1))) (.attr (.loc 20) 27)]))]}
noncomputable def MP:FD:={ps:=[20,38],ds:=[],cs:=[],body:=[.asg 72 false (.list []),
 .fr (.loc 109) (.sub (.loc 38) (.c (.int 3))) [.ex (.meth (.loc 72) 1 [.call (.ah 110) [.loc 20,.loc 109]])],
 .fr (.loc 109) (.ite (.cmp .jv (.sub (.loc 38) (.c (.int 4))) (.c .none)) (.sub (.loc 38) (.c (.int 4))) (.tuple [])) [.ite (.cmp .jv (.loc 109) (.c .none)) [.ex (.meth (.loc 72) 1 [.call (.ah 110) [.loc 20,.loc 109]])] []],
 .ret (some (.loc 72))]}
noncomputable def MS:FD:={ps:=[20,38,116],ds:=[.int 0],cs:=[],body:=[.ite (.call (.ah 111) [.loc 20,.loc 38]) [.ret (some (.ite (.bo true [.cmp .eq (.sub (.loc 38) (.c (.int 3))) (.tuple []),.cmp .same (.sub (.loc 38) (.c (.int 4))) (.c .none)]) (.list []) (.list [.tuple [.c (.str [97,110,32,105,110,100,101,120,32,119,105,116,104,32,115,117,98,115,99,114,105,112,116,115]),.sub (.loc 38) (.c (.int 1))]])))] [],
 .tr [.asg 9 false (.call (.ah 107) [.loc 20,.sub (.loc 38) (.c (.int 1)),.sub (.loc 38) (.c (.int 2))])] 90 (some 112) [.ret (some (.bin .add (.list [.tuple [.attr (.loc 112) 113,.sub (.loc 38) (.c (.int 1))]]) (.call (.ah 114) [.loc 20,.loc 38])))],
 .asg 72 false (.call (.ah 114) [.loc 20,.loc 38]),
 .ite (.cmp .ne (.call (.ah 51) [.sub (.loc 38) (.c (.int 3))]) (.bin .sub (.call (.ah 51) [.call (.ah 115) [.loc 9]]) (.loc 116))) [.ex (.meth (.loc 72) 0 [.tuple [.c (.str [97,110,111,116,104,101,114,32,110,117,109,98,101,114,32,111,102,32,115,117,98,115,99,114,105,112,116,115]),.sub (.loc 38) (.c (.int 1))]])] [],
 .ret (some (.loc 72))]}
noncomputable def MN:FD:={ps:=[20,108],ds:=[],cs:=[],body:=[.ret (some (.ite (.bo true [.cmp .jv (.loc 108) (.c .none),.cmp .eq (.sub (.loc 108) (.c (.int 0))) (.c (.str [114,101,102]))]) (.call (.ah 117) [.loc 20,.loc 108]) (.list [])))]}
noncomputable def Mk:FD:={ps:=[20,108],ds:=[],cs:=[],body:=[.ite (.cmp .eq (.sub (.loc 108) (.c (.int 0))) (.c (.str [110,117,109,98,101,114]))) [.ret (some (.c (.str [110,117,109,101,114,105,99])))] [],
 .ite (.bo true [.cmp .eq (.sub (.loc 108) (.c (.int 0))) (.c (.str [114,101,102])),.call (.ah 111) [.loc 20,.loc 108]]) [.ret (some (.c (.str [105,110,100,101,120])))] [],
 .ite (.cmp .eq (.sub (.loc 108) (.c (.int 0))) (.c (.str [114,101,102]))) [.asg 9 false (.call (.ah 118) [.loc 20,.loc 108]),
 .ite (.bo false [.cmp .same (.loc 9) (.c .none),.cmp .same (.attr (.loc 9) 12) (.c .none)]) [.ret (some (.c (.str [])))] [],
 .ret (some (.ite (.cmp .same (.sub (.loc 108) (.c (.int 4))) (.c .none)) (.attr (.attr (.loc 9) 12) 14) (.c (.str [97,108,112,104,97,110,117,109,101,114,105,99]))))] [],
 .ret (some (.ite (.cmp .eq (.loc 108) (.tuple [.c (.str [102,105,103,117,114,101]),.c (.str [90,69,82,79])])) (.c (.str [110,117,109,101,114,105,99])) (.c (.str [97,108,112,104,97,110,117,109,101,114,105,99]))))]}
noncomputable def My:FD:={ps:=[20,108],ds:=[],cs:=[],body:=[.ret (some (.cmp .isIn (.call (.ah 119) [.loc 20,.loc 108]) (.tuple [.c (.str [110,117,109,101,114,105,99]),.c (.str [105,110,100,101,120]),.c (.str [])])))]}
noncomputable def MK:FD:={ps:=[20,109],ds:=[],cs:=[],body:=[.ite (.cmp .eq (.sub (.loc 109) (.c (.int 0))) (.c (.str [110,101,103]))) [.ret (some (.call (.ah 110) [.loc 20,.sub (.loc 109) (.c (.int 1))]))] [],
 .ite (.cmp .isIn (.sub (.loc 109) (.c (.int 0))) (.meth (.ah 120) 5 [.c (.str [32])])) [.ret (some (.bin .add (.call (.ah 110) [.loc 20,.sub (.loc 109) (.c (.int 1))]) (.call (.ah 110) [.loc 20,.sub (.loc 109) (.c (.int 2))])))] [],
 .asg 72 false (.call (.ah 121) [.loc 20,.loc 109]),
 .ite (.bo true [.cmp .eq (.loc 72) (.list []),.not (.call (.ah 122) [.loc 20,.loc 109])]) [.ex (.meth (.loc 72) 0 [.tuple [.c (.str [110,111,32,110,117,109,98,101,114]),.call (.ah 123) [.loc 109]]])] [],
 .ret (some (.loc 72))]}
noncomputable def MH:FD:={ps:=[108],ds:=[],cs:=[],body:=[.ite (.cmp .eq (.sub (.loc 108) (.c (.int 0))) (.c (.str [114,101,102]))) [.ret (some (.sub (.loc 108) (.c (.int 1))))] [],
 .ret (some (.ite (.cmp .isIn (.sub (.loc 108) (.c (.int 0))) (.tuple [.c (.str [116,101,120,116]),.c (.str [110,117,109,98,101,114])])) (.c (.str [97,32,108,105,116,101,114,97,108])) (.c (.str [97,32,102,105,103,117,114,101]))))]}
noncomputable def MQ:FD:={ps:=[20,38,124],ds:=[],cs:=[],body:=[.asg 72 false (.call (.ah 117) [.loc 20,.loc 38]),
 .ite (.bo true [.cmp .eq (.loc 72) (.list []),.cmp .jt (.call (.ah 119) [.loc 20,.loc 38]) (.loc 124)]) [.ex (.meth (.loc 72) 0 [.tuple [.c (.str [110,111,32,112,108,97,99,101,32,111,102,32,116,104,105,115,32,107,105,110,100]),.sub (.loc 38) (.c (.int 1))]])] [],
 .ret (some (.loc 72))]}
noncomputable def Mm:FD:={ps:=[20,38],ds:=[],cs:=[],body:=[.ret (some (.ite (.cmp .jv (.loc 38) (.c .none)) (.call (.ah 125) [.loc 20,.loc 38,.tuple [.c (.str [110,117,109,101,114,105,99])]]) (.list [])))]}
noncomputable def Mz:FD:={ps:=[109],ds:=[],cs:=[],body:=[.ret (some (.bo false [.cmp .eq (.sub (.loc 109) (.c (.int 0))) (.c (.str [110,101,103])),.cmp .isIn (.sub (.loc 109) (.c (.int 0))) (.meth (.ah 120) 5 [.c (.str [32])])]))]}
noncomputable def MW:FD:={ps:=[20,109],ds:=[],cs:=[],body:=[.ret (some (.ite (.call (.ah 126) [.loc 109]) (.call (.ah 110) [.loc 20,.loc 109]) (.call (.ah 121) [.loc 20,.loc 109])))]}
noncomputable def Ml:FD:={ps:=[20,128],ds:=[],cs:=[],body:=[.asg 127 false (.sub (.loc 128) (.c (.int 0))),
 .ite (.cmp .eq (.loc 127) (.c (.str [110,111,116]))) [.ret (some (.call (.ah 129) [.loc 20,.sub (.loc 128) (.c (.int 1))]))] [],
 .ite (.cmp .isIn (.loc 127) (.tuple [.c (.str [97,110,100]),.c (.str [111,114])])) [.ret (some (.bin .add (.call (.ah 129) [.loc 20,.sub (.loc 128) (.c (.int 1))]) (.call (.ah 129) [.loc 20,.sub (.loc 128) (.c (.int 2))])))] [],
 .ite (.cmp .eq (.loc 127) (.c (.str [114,101,108]))) [.ret (some (.bin .add (.call (.ah 130) [.loc 20,.sub (.loc 128) (.c (.int 2))]) (.call (.ah 130) [.loc 20,.sub (.loc 128) (.c (.int 3))])))] [],
 .ite (.cmp .eq (.loc 127) (.c (.str [99,108,97,115,115]))) [.ret (some (.call (.ah 121) [.loc 20,.sub (.loc 128) (.c (.int 2))]))] [],
 .ite (.cmp .eq (.loc 127) (.c (.str [115,105,103,110]))) [.ret (some (.call (.ah 110) [.loc 20,.sub (.loc 128) (.c (.int 2))]))] [],
 .ret (some (.call (.ah 131) [.loc 20,.sub (.loc 128) (.c (.int 1))]))]}
noncomputable def MF:FD:={ps:=[20,7,85],ds:=[],cs:=[],body:=[.asg 72 false (.bin .add (.call (.ah 121) [.loc 20,.loc 7]) (.call (.ah 117) [.loc 20,.loc 85])),
 .ite (.cmp .ne (.loc 72) (.list [])) [.ret (some (.loc 72))] [],
 .cr [(132,false),(133,false)] (.tuple [.call (.ah 119) [.loc 20,.loc 7],.call (.ah 119) [.loc 20,.loc 85]]),
 .ite (.bo true [.cmp .eq (.sub (.loc 7) (.c (.int 0))) (.c (.str [102,105,103,117,114,101])),.cmp .ne (.loc 7) (.tuple [.c (.str [102,105,103,117,114,101]),.c (.str [90,69,82,79])])]) [.ret (some (.ite (.cmp .isIn (.loc 133) (.tuple [.c (.str [110,117,109,101,114,105,99]),.c (.str [101,100,105,116,101,100]),.c (.str [105,110,100,101,120])])) (.list [.tuple [.c (.str [110,111,32,109,111,118,101,32,111,102,32,97,32,102,105,103,117,114,101]),.sub (.loc 85) (.c (.int 1))]]) (.list [])))] [],
 .ite (.cmp .isIn (.sub (.loc 7) (.c (.int 0))) (.tuple [.c (.str [102,105,103,117,114,101]),.c (.str [97,108,108])])) [.asg 134 false (.ite (.cmp .eq (.sub (.loc 7) (.c (.int 0))) (.c (.str [97,108,108]))) (.tuple [.c (.str [105,110,100,101,120])]) (.tuple [.c (.str [105,110,100,101,120]),.c (.str [97,108,112,104,97,98,101,116,105,99])])),
 .ret (some (.ite (.cmp .isIn (.loc 133) (.loc 134)) (.list [.tuple [.c (.str [110,111,32,109,111,118,101,32,111,102,32,97,32,102,105,103,117,114,101]),.sub (.loc 85) (.c (.int 1))]]) (.list [])))] [],
 .ret (some (.ite (.call (.ah 135) [.loc 132,.loc 133]) (.list []) (.list [.tuple [.bin .add (.bin .add (.bin .add (.c (.str [110,111,32,109,111,118,101,32,102,114,111,109,32])) (.loc 132)) (.c (.str [32,116,111,32]))) (.loc 133),.sub (.loc 85) (.c (.int 1))]])))]}
noncomputable def MU:FD:={ps:=[20,136,35,108],ds:=[],cs:=[],body:=[.asg 72 false (.call (.ah 110) [.loc 20,.loc 108]),
 .fr (.loc 38) (.loc 136) [.ex (.meth (.loc 72) 1 [.call (.ah 125) [.loc 20,.loc 38,.ite (.cmp .eq (.loc 35) (.c (.str [61]))) (.tuple [.c (.str [105,110,100,101,120]),.c (.str [110,117,109,101,114,105,99])]) (.tuple [.c (.str [105,110,100,101,120])])]])],
 .ret (some (.loc 72))]}
noncomputable def Mn:FD:={ps:=[20,60],ds:=[],cs:=[20,60],body:=[.asg 97 false (.sub (.ae 60) (.c (.int 0))),
 .ite (.cmp .eq (.loc 97) (.c (.str [109,111,118,101]))) [.ret (some (.comp (.loc 44) [.mk (.loc 85) (.sub (.ae 60) (.c (.int 2))) [],.mk (.loc 44) (.call (.ah 137) [.ae 20,.sub (.ae 60) (.c (.int 1)),.loc 85]) []]))] [],
 .ite (.cmp .eq (.loc 97) (.c (.str [97,114,105,116,104]))) [.ret (some (.call (.ah 138) [.ae 20,.sub (.ae 60) (.c (.int 1)),.sub (.ae 60) (.c (.int 2))]))] [],
 .ite (.cmp .eq (.loc 97) (.c (.str [100,105,118,105,100,101]))) [.ret (some (.call (.ah 139) [.ae 20,.ae 60]))] [],
 .ite (.cmp .eq (.loc 97) (.c (.str [109,111,118,101,45,99,111,114,114]))) [.ret (some (.call (.ah 140) [.ae 20,.slc (.ae 60) (some (.c (.int 1))) (some (.c (.int 3))) false]))] [],
 .ite (.cmp .eq (.loc 97) (.c (.str [99,111,114,114]))) [.ret (some (.call (.ah 140) [.ae 20,.slc (.ae 60) (some (.c (.int 2))) (some (.c (.int 4))) false]))] [],
 .ite (.cmp .eq (.loc 97) (.c (.str [105,110,105,116,105,97,108,105,122,101]))) [.ret (some (.call (.ah 141) [.ae 20,.sub (.ae 60) (.c (.int 1)),.sub (.ae 60) (.c (.int 2))]))] [],
 .ite (.cmp .eq (.loc 97) (.c (.str [115,101,116]))) [.ret (some (.call (.ah 142) [.ae 20,.sub (.ae 60) (.c (.int 1)),.sub (.ae 60) (.c (.int 2)),.sub (.ae 60) (.c (.int 3))]))] [],
 .ite (.cmp .eq (.loc 97) (.c (.str [115,101,116,45,116,114,117,101]))) [.ret (some (.comp (.loc 44) [.mk (.loc 38) (.sub (.ae 60) (.c (.int 1))) [],.mk (.loc 44) (.call (.ah 131) [.ae 20,.loc 38]) []]))] [],
 .ite (.cmp .isIn (.loc 97) (.tuple [.c (.str [115,101,97,114,99,104]),.c (.str [115,101,97,114,99,104,45,97,108,108])])) [.ret (some (.call (.ah 143) [.ae 20,.ae 60]))] [],
 .ite (.cmp .eq (.loc 97) (.c (.str [115,116,114,105,110,103]))) [.ret (some (.call (.ah 144) [.ae 20,.ae 60]))] [],
 .ite (.cmp .eq (.loc 97) (.c (.str [117,110,115,116,114,105,110,103]))) [.ret (some (.call (.ah 145) [.ae 20,.ae 60]))] [],
 .ite (.cmp .isIn (.loc 97) (.tuple [.c (.str [116,97,108,108,121]),.c (.str [114,101,112,108,97,99,101]),.c (.str [99,111,110,118,101,114,116])])) [.ret (some (.call (.ah 146) [.ae 20,.ae 60]))] [],
 .ite (.cmp .eq (.loc 97) (.c (.str [100,105,115,112,108,97,121]))) [.ret (some (.comp (.loc 44) [.mk (.loc 108) (.sub (.ae 60) (.c (.int 1))) [],.mk (.loc 44) (.call (.ah 121) [.ae 20,.loc 108]) []]))] [],
 .ret (some (.ite (.cmp .eq (.loc 97) (.c (.str [97,99,99,101,112,116]))) (.call (.ah 117) [.ae 20,.sub (.ae 60) (.c (.int 1))]) (.c .none)))]}
noncomputable def MO:FD:={ps:=[147,70],ds:=[],cs:=[],body:=[.asg 72 false (.list []),
 .fr (.loc 41) (.loc 70) [.tr [.ex (.meth (.loc 147) 148 [.loc 41])] 90 (some 112) [.ex (.meth (.loc 72) 0 [.tuple [.attr (.loc 112) 113,.sub (.loc 41) (.c (.int 0))]])]],
 .ret (some (.loc 72))]}
noncomputable def ML:FD:={ps:=[20,149],ds:=[],cs:=[],body:=[.ite (.cmp .eq (.sub (.loc 149) (.c (.int 0))) (.c (.str [105,115]))) [.ret (some (.call (.ah 130) [.loc 20,.sub (.loc 149) (.c (.int 1))]))] [],
 .ite (.cmp .eq (.sub (.loc 149) (.c (.int 0))) (.c (.str [116,104,114,117]))) [.ret (some (.bin .add (.call (.ah 130) [.loc 20,.sub (.loc 149) (.c (.int 1))]) (.call (.ah 130) [.loc 20,.sub (.loc 149) (.c (.int 2))])))] [],
 .ret (some (.ite (.cmp .eq (.sub (.loc 149) (.c (.int 0))) (.c (.str [116,114,117,116,104]))) (.call (.ah 129) [.loc 20,.sub (.loc 149) (.c (.int 1))]) (.list [])))]}
noncomputable def Mp:FD:={ps:=[20,60],ds:=[],cs:=[],body:=[.asg 72 false (.list []),
 .fr (.loc 50) (.sub (.loc 60) (.c (.int 1))) [.ite (.cmp .eq (.sub (.loc 50) (.c (.int 0))) (.c (.str [119,111,114,116,104]))) [.ex (.meth (.loc 72) 1 [.call (.ah 130) [.loc 20,.sub (.loc 50) (.c (.int 1))]])] [.ite (.cmp .eq (.sub (.loc 50) (.c (.int 0))) (.c (.str [116,114,117,116,104]))) [.ex (.meth (.loc 72) 1 [.call (.ah 129) [.loc 20,.sub (.loc 50) (.c (.int 1))]])] []]],
 .fr (.two 49 59) (.sub (.loc 60) (.c (.int 2))) [.fr (.loc 150) (.loc 49) [.ite (.cmp .ne (.call (.ah 51) [.loc 150]) (.call (.ah 51) [.sub (.loc 60) (.c (.int 1))])) [.ex (.meth (.loc 72) 0 [.tuple [.c (.str [97,110,111,116,104,101,114,32,110,117,109,98,101,114,32,111,102,32,111,98,106,101,99,116,115]),.c (.str [69,86,65,76,85,65,84,69])]])] [],
 .fr (.loc 149) (.loc 150) [.ex (.meth (.loc 72) 1 [.call (.ah 151) [.loc 20,.loc 149]])]]],
 .ret (some (.loc 72))]}
noncomputable def ME:FD:={ps:=[20,152],ds:=[],cs:=[],body:=[.ite (.cmp .eq (.sub (.loc 152) (.c (.int 0))) (.c (.str [116,105,109,101,115]))) [.ret (some (.call (.ah 110) [.loc 20,.sub (.loc 152) (.c (.int 1))]))] [],
 .ite (.cmp .eq (.sub (.loc 152) (.c (.int 0))) (.c (.str [117,110,116,105,108]))) [.ret (some (.call (.ah 129) [.loc 20,.sub (.loc 152) (.c (.int 2))]))] [],
 .asg 72 false (.list []),
 .oR,
 .ret (some (.loc 72))]}
noncomputable def Mv:FD:={ps:=[65,60],ds:=[],cs:=[20],body:=[.cr [(20,true),(147,false),(97,false)] (.tuple [.attr (.loc 65) 20,.attr (.loc 65) 147,.sub (.loc 60) (.c (.int 0))]),
 .ite (.cmp .eq (.loc 97) (.c (.str [105,102]))) [.ret (some (.call (.ah 129) [.ae 20,.sub (.loc 60) (.c (.int 1))]))] [],
 .ite (.cmp .eq (.loc 97) (.c (.str [101,118,97,108,117,97,116,101]))) [.ret (some (.call (.ah 155) [.ae 20,.loc 60]))] [],
 .ite (.cmp .eq (.loc 97) (.c (.str [112,101,114,102,111,114,109]))) [.asg 70 false (.ite (.cmp .eq (.sub (.sub (.loc 60) (.c (.int 1))) (.c (.int 0))) (.c (.str [114,97,110,103,101]))) (.slc (.sub (.loc 60) (.c (.int 1))) (some (.c (.int 1))) none false) (.tuple [])),
 .ret (some (.bin .add (.call (.ah 156) [.loc 147,.loc 70]) (.call (.ah 157) [.ae 20,.sub (.loc 60) (.c (.int 2))])))] [],
 .ite (.cmp .eq (.loc 97) (.c (.str [103,111,116,111]))) [.ret (some (.call (.ah 156) [.loc 147,.slc (.loc 60) (some (.c (.int 1))) (some (.c (.int 2))) false]))] [],
 .ite (.cmp .eq (.loc 97) (.c (.str [103,111,116,111,45,100,101,112]))) [.ret (some (.bin .add (.call (.ah 156) [.loc 147,.sub (.loc 60) (.c (.int 1))]) (.call (.ah 158) [.ae 20,.sub (.loc 60) (.c (.int 2))])))] [],
 .ite (.cmp .eq (.loc 97) (.c (.str [99,97,108,108]))) [.asg 72 false (.call (.ah 121) [.ae 20,.sub (.loc 60) (.c (.int 1))]),
 .ret (some (.bin .add (.loc 72) (.comp (.loc 44) [.mk (.two 159 108) (.sub (.loc 60) (.c (.int 2))) [],.mk (.loc 44) (.call (.ah 121) [.ae 20,.loc 108]) []])))] [],
 .ret (some (.c .none))]}
noncomputable def Ms:FD:={ps:=[65,160],ds:=[],cs:=[65],body:=[.ret (some (.comp (.tuple [.c (.str [110,111,32,115,117,99,104,32,102,105,108,101]),.loc 11]) [.mk (.loc 11) (.loc 160) [.cmp .jt (.loc 11) (.attr (.ae 65) 73)]]))]}
noncomputable def Mr:FD:={ps:=[65,60],ds:=[],cs:=[],body:=[.cr [(20,false),(97,false)] (.tuple [.attr (.loc 65) 20,.sub (.loc 60) (.c (.int 0))]),
 .ite (.cmp .eq (.loc 97) (.c (.str [111,112,101,110]))) [.ret (some (.call (.ah 161) [.loc 65,.comp (.loc 11) [.mk (.two 159 11) (.sub (.loc 60) (.c (.int 1))) []]]))] [],
 .ite (.cmp .eq (.loc 97) (.c (.str [99,108,111,115,101]))) [.ret (some (.call (.ah 161) [.loc 65,.sub (.loc 60) (.c (.int 1))]))] [],
 .ite (.cmp .eq (.loc 97) (.c (.str [114,101,97,100]))) [.asg 72 false (.call (.ah 161) [.loc 65,.list [.sub (.loc 60) (.c (.int 1))]]),
 .ret (some (.bin .add (.bin .add (.loc 72) (.call (.ah 121) [.loc 20,.sub (.loc 60) (.c (.int 3))])) (.call (.ah 121) [.loc 20,.sub (.loc 60) (.c (.int 4))])))] [],
 .ite (.cmp .isIn (.loc 97) (.tuple [.c (.str [119,114,105,116,101]),.c (.str [114,101,119,114,105,116,101]),.c (.str [114,101,108,101,97,115,101])])) [.ret (some (.bin .add (.call (.ah 162) [.loc 65,.sub (.loc 60) (.c (.int 1))]) (.call (.ah 121) [.loc 20,.sub (.loc 60) (.c (.int 2))])))] [],
 .ite (.cmp .eq (.loc 97) (.c (.str [100,101,108,101,116,101]))) [.ret (some (.call (.ah 161) [.loc 65,.list [.sub (.loc 60) (.c (.int 1))]]))] [],
 .ite (.cmp .eq (.loc 97) (.c (.str [115,116,97,114,116]))) [.ret (some (.bin .add (.call (.ah 161) [.loc 65,.list [.sub (.loc 60) (.c (.int 1))]]) (.call (.ah 121) [.loc 20,.sub (.loc 60) (.c (.int 3))])))] [],
 .ite (.cmp .eq (.loc 97) (.c (.str [114,101,116,117,114,110]))) [.ret (some (.bin .add (.call (.ah 161) [.loc 65,.list [.sub (.loc 60) (.c (.int 1))]]) (.call (.ah 121) [.loc 20,.sub (.loc 60) (.c (.int 2))])))] [],
 .ret (some (.ite (.cmp .isIn (.loc 97) (.tuple [.c (.str [115,111,114,116]),.c (.str [109,101,114,103,101])])) (.call (.ah 163) [.loc 65,.loc 60]) (.list [])))]}
noncomputable def wu:FD:={ps:=[65,60],ds:=[],cs:=[],body:=[.asg 72 false (.call (.ah 164) [.attr (.loc 65) 20,.loc 60]),
 .ite (.cmp .same (.loc 72) (.c .none)) [.asg 72 false (.call (.ah 165) [.loc 65,.loc 60])] [],
 .ret (some (.ite (.cmp .same (.loc 72) (.c .none)) (.call (.ah 166) [.loc 65,.loc 60]) (.loc 72)))]}
noncomputable def ww:FD:={ps:=[65],ds:=[],cs:=[160],body:=[.asg 160 true (.comp (.attr (.loc 22) 11) [.mk (.loc 22) (.attr (.attr (.loc 65) 20) 74) []]),
 .ret (some (.comp (.tuple [.c (.str [110,111,32,114,101,99,111,114,100,32,111,102,32,108,105,110,107,97,103,101]),.loc 11]) [.mk (.loc 11) (.attr (.attr (.loc 65) 147) 64) [.cmp .jt (.loc 11) (.ae 160)]]))]}
noncomputable def wt:FD:={ps:=[65],ds:=[],cs:=[160],body:=[.asg 160 true (.comp (.attr (.loc 22) 11) [.mk (.loc 22) (.call (.ah 77) [.attr (.loc 65) 20]) []]),
 .ret (some (.comp (.tuple [.c (.str [97,32,114,101,99,111,114,100,32,116,111,108,100,32,116,119,105,99,101]),.loc 11]) [.mk (.loc 11) (.sset 167 71 (.ae 160)) [.bo true [.cmp .gt (.meth (.ae 160) 3 [.loc 11]) (.c (.int 1)),.cmp .ne (.loc 11) (.c (.str [70,73,76,76,69,82]))]]]))]}
noncomputable def By:FD:={ps:=[65],ds:=[],cs:=[72],body:=[.asg 72 true (.bin .add (.call (.ah 168) [.loc 65]) (.call (.ah 169) [.loc 65])),
 .fr (.loc 150) (.attr (.attr (.loc 65) 147) 49) [.fr (.loc 170) (.attr (.loc 150) 59) [.fr (.loc 60) (.bin .add (.list [.loc 170]) (.call (.ah 171) [.call (.ah 172) [.loc 170]])) [.ex (.meth (.ae 72) 1 [.call (.ah 173) [.loc 65,.loc 60]])]]],
 .ret (some (.comp (.sub (.ae 72) (.loc 89)) [.mk (.loc 89) (.call (.ah 29) [.call (.ah 51) [.ae 72]]) [.cmp .jt (.sub (.ae 72) (.loc 89)) (.slc (.ae 72) none (some (.loc 89)) false)]]))]}
noncomputable def L8:FD:={ps:=[175,113,89],ds:=[.tup [.int 0,.int 0]],cs:=[],body:=[.ex (.meth (.ah 174) 6 [.loc 175,.loc 113]),
 .aY (.loc 175) 113 (.loc 113),
 .aY (.loc 175) 89 (.loc 89)]}
noncomputable def L9:FD:={ps:=[175,176,177,178,179,27],ds:=[.none,.tup [],.tup []],cs:=[],body:=[.aY (.loc 175) 176 (.loc 176),
 .aY (.loc 175) 177 (.loc 177),
 .aY (.loc 175) 178 (.loc 178),
 .aY (.loc 175) 179 (.call (.ah 62) [.loc 179]),
 .aY (.loc 175) 27 (.call (.ah 62) [.loc 27])]}
noncomputable def wo:FD:={ps:=[175,180,11],ds:=[],cs:=[],body:=[.aY (.loc 175) 180 (.loc 180),
 .aY (.loc 175) 11 (.loc 11),
 .aY (.loc 175) 181 (.c .none),
 .aY (.loc 175) 182 (.c (.str [])),
 .aY (.loc 175) 183 (.c (.str [])),
 .aY (.loc 175) 184 (.c (.bool false)),
 .aY (.loc 175) 16 (.c .none),
 .aY (.loc 175) 185 (.c (.str [])),
 .aY (.loc 175) 186 (.c .none),
 .aY (.loc 175) 187 (.c (.bool false)),
 .aY (.loc 175) 188 (.c (.bool false)),
 .aY (.loc 175) 189 (.list []),
 .aY (.loc 175) 76 (.list []),
 .aY (.loc 175) 79 (.c .none),
 .aY (.loc 175) 190 (.c .none),
 .aY (.loc 175) 191 (.c (.str [])),
 .aY (.loc 175) 192 (.c (.int 0)),
 .aY (.loc 175) 193 (.c (.int 0)),
 .aY (.loc 175) 12 (.c .none)]}
noncomputable def L7:FD:={ps:=[175,194],ds:=[],cs:=[],body:=[.aY (.loc 194) 79 (.loc 175),
 .ex (.meth (.attr (.loc 175) 76) 0 [.loc 194])]}
noncomputable def L6:FD:={ps:=[175],ds:=[],cs:=[],body:=[.aY (.loc 175) 23 (.list []),
 .aY (.loc 175) 74 (.list []),
 .aY (.loc 175) 73 (.dict [] []),
 .aY (.loc 175) 195 (.list []),
 .aY (.loc 175) 193 (.c (.int 0)),
 .aY (.loc 175) 27 (.dict [] [])]}
noncomputable def Mb:FD:={ps:=[175,14,193,196,182,183,184,187,188],ds:=[.none,.str [100,105,115,112,108,97,121],.str [116,114,97,105,108,105,110,103],.bool false,.bool false,.bool false],cs:=[],body:=[.aY (.loc 175) 14 (.loc 14),
 .aY (.loc 175) 193 (.loc 193),
 .aY (.loc 175) 196 (.loc 196),
 .aY (.loc 175) 182 (.loc 182),
 .aY (.loc 175) 183 (.loc 183),
 .aY (.loc 175) 184 (.loc 184),
 .aY (.loc 175) 187 (.loc 187),
 .aY (.loc 175) 188 (.loc 188),
 .aY (.loc 175) 197 (.c (.int 0)),
 .aY (.loc 175) 198 (.c (.int 0)),
 .aY (.loc 175) 199 (.c (.bool false)),
 .ite (.bo true [.cmp .jv (.loc 196) (.c .none),.cmp .isIn (.loc 14) (.tuple [.c (.str [110,117,109,101,114,105,99]),.c (.str [101,100,105,116,101,100])])]) [.aY (.loc 175) 197 (.attr (.loc 196) 197),
 .aY (.loc 175) 198 (.attr (.loc 196) 198),
 .aY (.loc 175) 199 (.attr (.loc 196) 199)] []]}
noncomputable def wp:FD:={ps:=[175,11,200,59],ds:=[],cs:=[],body:=[.aY (.loc 175) 11 (.loc 11),
 .aY (.loc 175) 200 (.loc 200),
 .aY (.loc 175) 59 (.loc 59)]}
noncomputable def wq:FD:={ps:=[175,49,64],ds:=[],cs:=[],body:=[.aY (.loc 175) 49 (.loc 49),
 .aY (.loc 175) 64 (.loc 64)]}
noncomputable def Ma:FD:={ps:=[175,41],ds:=[],cs:=[],body:=[.cr [(11,false),(200,false)] (.loc 41),
 .asg 72 false (.list []),
 .fr (.loc 89) (.call (.ah 29) [.call (.ah 51) [.attr (.loc 175) 49]]) [.asg 150 false (.sub (.attr (.loc 175) 49) (.loc 89)),
 .ite (.bo true [.cmp .eq (.attr (.loc 150) 11) (.loc 11),.cmp .ne (.loc 11) (.c (.str [])),.cmp .isIn (.loc 200) (.tuple [.c (.str []),.attr (.loc 150) 200])]) [.ex (.meth (.loc 72) 0 [.tuple [.loc 89,.loc 89]])] [],
 .ite (.bo true [.cmp .eq (.attr (.loc 150) 11) (.c (.str [])),.cmp .eq (.attr (.loc 150) 200) (.loc 11),.cmp .ne (.loc 11) (.c (.str [])),.cmp .eq (.loc 200) (.c (.str []))]) [.ex (.meth (.loc 72) 0 [.tuple [.loc 89,.meth (.loc 175) 201 [.loc 89]]])] []],
 .ite (.not (.loc 72)) [.rs (.call (.ah 90) [.bin .add (.c (.str [110,111,32,112,97,114,97,103,114,97,112,104,32,111,114,32,115,101,99,116,105,111,110,32,105,115,32,99,97,108,108,101,100,32])) (.loc 11)])] [],
 .ite (.cmp .gt (.call (.ah 51) [.loc 72]) (.c (.int 1))) [.rs (.call (.ah 90) [.bin .add (.c (.str [109,111,114,101,32,116,104,97,110,32,111,110,101,32,112,97,114,97,103,114,97,112,104,32,111,114,32,115,101,99,116,105,111,110,32,105,115,32,99,97,108,108,101,100,32])) (.loc 11)])] [],
 .ret (some (.sub (.loc 72) (.c (.int 0))))]}
noncomputable def wr:FD:={ps:=[175,11,20,73,147],ds:=[],cs:=[],body:=[.aY (.loc 175) 11 (.loc 11),
 .aY (.loc 175) 20 (.loc 20),
 .aY (.loc 175) 73 (.loc 73),
 .aY (.loc 175) 147 (.loc 147)]}
noncomputable def BO:List (Nat×V):=[(120,.str [43,32,45,32,42,32,47,32,42,42]),(101,.tup [.str [97,114,105,116,104],.str [100,105,118,105,100,101],.str [99,111,114,114],.str [115,101,97,114,99,104],.str [115,101,97,114,99,104,45,97,108,108],.str [115,116,114,105,110,103],.str [117,110,115,116,114,105,110,103],.str [114,101,97,100],.str [119,114,105,116,101],.str [114,101,119,114,105,116,101],.str [100,101,108,101,116,101],.str [115,116,97,114,116],.str [114,101,116,117,114,110],.str [99,97,108,108]]),(90,.cls 90),(21,.cls 21),(174,.typ 8),(82,.str [70,73,76,76,69,82]),(10,.cls 10),(84,.tup [.str [110,117,109,101,114,105,99],.str [101,100,105,116,101,100]]),(17,.cls 17),(61,.cls 61),(67,.cls 67),(66,.cls 66),(13,.cls 13),(40,.tup [.str [110,117,109,98,101,114],.tup [.int 1,.int 0]]),(48,.tup [.str [114,101,108],.str [61],.tup [.str [110,117,109,98,101,114],.tup [.int 1,.int 0]],.tup [.str [110,117,109,98,101,114],.tup [.int 1,.int 0]]]),(56,.fn 56),(36,.fn 36),(24,.fn 24),(43,.fn 43),(39,.fn 39),(46,.fn 46),(92,.fn 92),(138,.fn 138),(105,.fn 105),(135,.fn 135),(119,.fn 119),(129,.fn 129),(158,.fn 158),(164,.fn 164),(139,.fn 139),(155,.fn 155),(104,.fn 104),(69,.fn 69),(166,.fn 166),(161,.fn 161),(96,.fn 96),(107,.fn 107),(165,.fn 165),(86,.fn 86),(140,.fn 140),(141,.fn 141),(146,.fn 146),(55,.typ 5),(111,.fn 111),(122,.fn 122),(126,.fn 126),(118,.fn 118),(81,.fn 81),(78,.fn 78),(94,.fn 94),(51,.blt 0),(171,.typ 3),(157,.fn 157),(137,.fn 137),(168,.fn 168),(123,.fn 123),(131,.fn 131),(95,.fn 95),(110,.fn 110),(151,.fn 151),(93,.fn 93),(121,.fn 121),(156,.fn 156),(114,.fn 114),(106,.fn 106),(125,.fn 125),(29,.typ 1),(162,.fn 162),(77,.fn 77),(117,.fn 117),(88,.fn 88),(143,.fn 143),(71,.typ 6),(142,.fn 142),(163,.fn 163),(167,.blt 7),(173,.fn 173),(172,.fn 172),(31,.typ 4),(144,.fn 144),(115,.fn 115),(62,.typ 2),(145,.fn 145),(169,.fn 169),(130,.fn 130)]
noncomputable def Bs:List (Nat×FD):=[(36,Md),(24,Me),(56,Mc),(39,Mg),(43,Mf),(46,gS),(214,lm),(77,MR),(78,MC),(92,Mh),(81,MB),(88,MT),(95,MJ),(115,MV),(86,Mw),(135,Mj),(96,Mt),(94,MD),(93,MM),(107,Mu),(104,Mq),(105,Mi),(106,mx),(172,wv),(118,MA),(111,Mx),(114,MP),(117,MS),(121,MN),(119,Mk),(122,My),(110,MK),(123,MH),(125,MQ),(158,Mm),(126,Mz),(130,MW),(129,Ml),(137,MF),(142,MU),(164,Mn),(156,MO),(151,ML),(155,Mp),(157,ME),(165,Mv),(161,Ms),(166,Mr),(173,wu),(169,ww),(168,wt),(69,By),(202,L8),(203,L9),(204,wo),(210,L7),(205,L6),(209,Mb),(206,wp),(207,wq),(211,Ma),(208,wr)]
noncomputable def CP:List (Nat×Nat):=[(90,202),(17,203),(10,204),(21,205),(61,206),(67,207),(66,208),(13,209)]
noncomputable def DG:List ((Nat×Nat)×Nat):=[((10,19),210),((67,148),211)]
noncomputable def pT:List ((Nat×Nat)×Nat):=[((90,89),0),((90,113),0),((17,178),0),((17,177),0),((17,27),0),((17,179),0),((17,176),0),((10,191),0),((10,189),0),((10,188),0),((10,187),0),((10,184),0),((10,76),0),((10,180),0),((10,11),0),((10,16),0),((10,192),0),((10,79),0),((10,181),0),((10,185),0),((10,190),0),((10,12),0),((10,183),0),((10,193),0),((10,182),0),((10,186),0),((21,73),0),((21,27),0),((21,74),0),((21,193),0),((21,195),0),((21,23),0),((61,11),0),((61,200),0),((61,59),0),((67,49),0),((67,64),0),((66,20),0),((66,73),0),((66,11),0),((66,147),0),((13,14),0),((13,197),0),((13,188),0),((13,187),0),((13,184),0),((13,199),0),((13,196),0),((13,198),0),((13,183),0),((13,193),0),((13,182),0)]
noncomputable def mT:List ((Nat×Nat)×Nat)->Nat->Nat->Option Nat
 |[],_,_=>none
 |((a,b),v)::r,c,m=>match Nat.beq a c&&Nat.beq b m with | true=>some v | false=>mT r c m
noncomputable def P:Pg where
 fd:=aw Bs
 gl:=aw BO
 init:=aw CP
 mt:=mT DG
 at_:=λc x=>(mT pT c x).isSome
 exc:=λc=>Nat.beq c 90
 nest:=λ_=>false
 o0:=0
 o5:=1
 o6:=2
 o4:=3
 mX:=4
 mZ:=5
 mY:=6
 cZ:=36
 ka:=46
 Jy:=90
end
section
inductive Pl where
 |plain (way:Nat) (bad:Bool)
 |ite (a b:Pl)
 |perf (a:Pl)
 |eval (two:Bool) (FH:Nat) (a:Pl)
noncomputable def na(n:Nat):aN:=[78,79,48+n]
noncomputable def uG(n:aN):V:=.tup [.str [114,101,102],.str n,.tup [],.tup [],.none]
noncomputable def rh:V:=.tup [.str [110,117,109,98,101,114],.tup [.int 1,.int 0]]
noncomputable def zw:V:=.tup [.str [114,101,108],.str [61],rh,rh]
noncomputable def rY:V:=.tup [.str [97,110,121]]
noncomputable def rx(way:Nat)(bad:Bool):V:=uG (match bad with | true=>na way | false=>[78,85])
noncomputable def uL(way:Nat)(bad:Bool):V:=.tup [.str (match bad with | true=>na way | false=>[80,48]),.str []]
noncomputable def iL(way:Nat)(bad:Bool):V:=match way with
 |0=>.tup [.str [109,111,118,101],rh,.tup [rx 0 bad]]
 |1=>.tup [.str [100,105,115,112,108,97,121],.tup [rx 1 bad,.tup [.str [116,101,120,116],.bytes [97]]],.bool false]
 |2=>.tup [.str [103,111,116,111],uL 2 bad]
 |3=>.tup [.str [112,101,114,102,111,114,109],.tup [.str [114,97,110,103,101],uL 3 bad,uL 3 bad],.tup [.str [116,105,109,101,115],rx 3 bad]]
 |4=>.tup [.str [115,101,116],.tup [uG (match bad with | true=>[65,78] | false=>[84,45,73])],.str [61],rh]
 |5=>.tup [.str [99,97,108,108],.tup [.str [116,101,120,116],.bytes [88]],.tup [.tup [.str [114,101,102,101,114,101,110,99,101],rx 5 bad]],.tup []]
 |6=>.tup [.str [111,112,101,110],.tup [.tup [.str [105,110,112,117,116],.str (na 6)]]]
 |7=>.tup [.str [97,99,99,101,112,116],rx 7 bad]
 |8=>.tup [.str [103,111,116,111,45,100,101,112],.tup [.tup [.str [80,48],.str []],uL 8 bad],uG [78,85]]
 |_=>.tup [.str [99,111,110,116,105,110,117,101]]
noncomputable def iP(two:Bool):V:=.tup (match two with | true=>[.tup [rY],.tup [rY,rY]] | false=>[.tup [rY]])
noncomputable def iS(n:Nat):V:=match n with
 |0=>.tup [.str [119,111,114,116,104],rh]
 |1=>.tup [.str [121,101,115]]
 |2=>.tup [.str [110,111]]
 |_=>.tup [.str [116,114,117,116,104],zw]
noncomputable def oO(a b:V):V:=.tup [.str [105,102],zw,.tup [a],.tup [b]]
noncomputable def rk(a:V):V:=.tup [.str [112,101,114,102,111,114,109],.tup [.str [98,111,100,121],.tup [a]],.tup [.str [117,110,116,105,108],.bool false,.tup [.str [115,105,103,110],.str [90,69,82,79],uG [78,79]]]]
noncomputable def mw(two:Bool)(FH:Nat)(a:V):V:=.tup [.str [101,118,97,108,117,97,116,101],.tup [iS FH],.tup [.tup [iP two,.tup [a]]],.tup []]
noncomputable def aM:Pl->V
 |.plain w b=>iL w b
 |.ite a b=>oO (aM a) (aM b)
 |.perf a=>rk (aM a)
 |.eval t n a=>mw t n (aM a)
noncomputable def a0(i:Nat):V:=if i<10 then .tup [.str (na i),.str [114,101,102]] else if i=10 then .tup [.str [78,79],.str [114,101,102]] else if i<21 then .tup [.str (na (i - 11)),.str [114,111,119]]
 else if i=21 then .tup [.str [69,86,65,76,85,65,84,69],.str [114,111,119]] else if i=22 then .tup [.str [78,79,54],.str [102,105,108,101]] else if i=23 then .tup [.str [65,78],.str [112,108,97,99,101]] else if i=24 then .tup [.str [82],.str [116,119,105,99,101]] else .tup [.str [81,48],.str [117,115,105,110,103]]
noncomputable def m5(i:Nat):aN:=if i<10 then na i else if i=10 then [78,79] else if i<21 then na (i - 11) else if i=21 then [69,86,65,76,85,65,84,69] else if i=22 then [78,79,54] else if i=23 then [65,78] else if i=24 then [82] else [81,48]
noncomputable def zl(i:Nat):aN:=if i<11 then [97,110,32,117,110,107,110,111,119,110,32,110,97,109,101,58,32]++m5 i else if i<21 then [110,111,32,112,97,114,97,103,114,97,112,104,32,111,114,32,115,101,99,116,105,111,110,32,105,115,32,99,97,108,108,101,100,32]++m5 i else if i=21 then [97,110,111,116,104,101,114,32,110,117,109,98,101,114,32,111,102,32,111,98,106,101,99,116,115] else if i=22 then [110,111,32,115,117,99,104,32,102,105,108,101] else if i=23 then [110,111,32,112,108,97,99,101,32,111,102,32,116,104,105,115,32,107,105,110,100] else if i=24 then [97,32,114,101,99,111,114,100,32,116,111,108,100,32,116,119,105,99,101] else [110,111,32,114,101,99,111,114,100,32,111,102,32,108,105,110,107,97,103,101]
noncomputable def bW(i:Nat):V:=.tup [.str (zl i),.str (m5 i)]
noncomputable def kE(w:Nat)(b:Bool):List Nat:=match w,b with
 |0,true=>[0]
 |1,true=>[1]
 |2,true=>[13]
 |3,true=>[14,3]
 |4,true=>[23]
 |5,true=>[5]
 |6,_=>[22]
 |7,true=>[7]
 |8,true=>[19]
 |_,_=>[]
noncomputable def kF(w:Nat)(b:Bool):List Nat:=match w,b with
 |3,true=>[14,14,3]
 |w,b=>kE w b
noncomputable def Pl.due:Pl->List Nat
 |.plain w b=>kE w b
 |.ite a b=>a.due++b.due
 |.perf a=>10::a.due
 |.eval t _ a=>(match t with | true=>[21] | false=>[])++a.due
noncomputable def Pl.head:Pl->List Nat
 |.plain w b=>kF w b
 |.ite _ _=>[]
 |.perf _=>[10]
 |.eval t _ _=>match t with | true=>[21] | false=>[]
noncomputable def Pl.parts:Pl->List Pl
 |.plain _ _=>[]
 |.ite a b=>[a,b]
 |.perf a=>[a]
 |.eval _ _ a=>[a]
noncomputable def Pl.within:Pl->List Pl
 |.plain _ _=>[]
 |.ite a b=>a::a.within++b::b.within
 |.perf a=>a::a.within
 |.eval _ _ a=>a::a.within
noncomputable def Pl.ok:Pl->Bool
 |.plain w _=>Nat.blt w 10
 |.ite a b=>a.ok&&b.ok
 |.perf a=>a.ok
 |.eval _ n a=>Nat.blt n 4&&a.ok
noncomputable def du:Tr:=(.node (some (.ns [(23,.ref 2),(74,.ref 3),(73,.ref 4),(195,.ref 5),(193,.int 0),(27,.ref 77)])) (.node (some (.inst 21 0)) (.node (some (.list [])) (.node (some (.ns [(180,.int 1),(11,.str [82]),(181,.none),(182,.str []),(183,.str []),(184,.bool false),(16,.none),(185,.str []),(186,.none),(187,.bool false),(188,.bool false),(189,.ref 9),(76,.ref 10),(79,.none),(190,.none),(191,.str []),(192,.int 0),(193,.int 0),(12,.ref 12)])) (.node (some (.list [])) (.node (some (.ns [(180,.int 5),(11,.str [78,85]),(181,.none),(182,.str []),(183,.str []),(184,.bool false),(16,.none),(185,.str []),(186,.none),(187,.bool false),(188,.bool false),(189,.ref 33),(76,.ref 34),(79,.ref 8),(190,.none),(191,.str []),(192,.int 0),(193,.int 0),(12,.ref 36)])) (.node (some (.ns [(180,.int 5),(11,.str [85]),(181,.none),(182,.str []),(183,.str []),(184,.bool false),(16,.ref 70),(185,.str []),(186,.none),(187,.bool false),(188,.bool false),(189,.ref 65),(76,.ref 66),(79,.ref 50),(190,.none),(191,.str []),(192,.int 0),(193,.int 0),(12,.ref 68)])) .nil .nil) (.node (some (.inst 13 94)) .nil .nil)) (.node (some (.ns [(14,.str [105,110,100,101,120]),(193,.int 4),(196,.none),(182,.str [100,105,115,112,108,97,121]),(183,.str [116,114,97,105,108,105,110,103]),(184,.bool false),(187,.bool false),(188,.bool false),(197,.int 0),(198,.int 0),(199,.bool false)])) (.node (some (.inst 10 78)) .nil .nil) .nil)) (.node (some (.ns [(14,.str [97,108,112,104,97,110,117,109,101,114,105,99]),(193,.int 4),(196,.none),(182,.str [100,105,115,112,108,97,121]),(183,.str [116,114,97,105,108,105,110,103]),(184,.bool false),(187,.bool false),(188,.bool false),(197,.int 0),(198,.int 0),(199,.bool false)])) (.node (some (.list [])) (.node (some (.ns [(180,.int 5),(11,.str [86]),(181,.none),(182,.str []),(183,.str []),(184,.bool false),(16,.none),(185,.str []),(186,.none),(187,.bool false),(188,.bool false),(189,.ref 73),(76,.ref 74),(79,.ref 64),(190,.none),(191,.str []),(192,.int 0),(193,.int 0),(12,.ref 76)])) .nil .nil) .nil) (.node (some (.ns [(176,.int 1),(177,.int 3),(178,.none),(179,.tup []),(27,.tup [.str [84,45,73]])])) (.node (some (.list [])) .nil .nil) .nil))) (.node (some (.ns [(14,.str [103,114,111,117,112]),(193,.int 60),(196,.none),(182,.str [100,105,115,112,108,97,121]),(183,.str [116,114,97,105,108,105,110,103]),(184,.bool false),(187,.bool false),(188,.bool false),(197,.int 0),(198,.int 0),(199,.bool false)])) (.node (some (.ns [(180,.int 5),(11,.str [65,78]),(181,.none),(182,.str []),(183,.str []),(184,.bool false),(16,.none),(185,.str []),(186,.none),(187,.bool false),(188,.bool false),(189,.ref 21),(76,.ref 22),(79,.ref 8),(190,.none),(191,.str []),(192,.int 0),(193,.int 0),(12,.ref 24)])) (.node (some (.ns [(14,.str [110,117,109,101,114,105,99]),(193,.int 4),(196,.none),(182,.str [100,105,115,112,108,97,121]),(183,.str [116,114,97,105,108,105,110,103]),(184,.bool false),(187,.bool false),(188,.bool false),(197,.int 0),(198,.int 0),(199,.bool false)])) (.node (some (.ns [(14,.str [103,114,111,117,112]),(193,.int 4),(196,.none),(182,.str [100,105,115,112,108,97,121]),(183,.str [116,114,97,105,108,105,110,103]),(184,.bool false),(187,.bool false),(188,.bool false),(197,.int 0),(198,.int 0),(199,.bool false)])) .nil .nil) (.node (some (.list [])) .nil .nil)) (.node (some (.list [])) (.node (some (.inst 13 82)) .nil .nil) .nil)) (.node (some (.list [])) (.node (some (.ns [(180,.int 5),(11,.str [73,88]),(181,.none),(182,.str []),(183,.str []),(184,.bool false),(16,.none),(185,.str []),(186,.none),(187,.bool false),(188,.bool false),(189,.ref 45),(76,.ref 46),(79,.ref 8),(190,.none),(191,.str []),(192,.int 0),(193,.int 0),(12,.ref 48)])) (.node (some (.ns [(14,.str [110,117,109,101,114,105,99]),(193,.int 4),(196,.none),(182,.str [100,105,115,112,108,97,121]),(183,.str [116,114,97,105,108,105,110,103]),(184,.bool false),(187,.bool false),(188,.bool false),(197,.int 0),(198,.int 0),(199,.bool false)])) .nil .nil) .nil) (.node (some (.list [])) (.node (some (.inst 10 90)) .nil .nil) .nil)))) (.node (some (.list [])) (.node (some (.list [])) (.node (some (.ns [(14,.str [97,108,112,104,97,98,101,116,105,99]),(193,.int 4),(196,.none),(182,.str [100,105,115,112,108,97,121]),(183,.str [116,114,97,105,108,105,110,103]),(184,.bool false),(187,.bool false),(188,.bool false),(197,.int 0),(198,.int 0),(199,.bool false)])) (.node (some (.list [])) (.node (some (.list [])) .nil .nil) (.node (some (.inst 10 96)) .nil .nil)) (.node (some (.ns [(180,.int 5),(11,.str [84]),(181,.none),(182,.str []),(183,.str []),(184,.bool false),(16,.ref 56),(185,.str []),(186,.none),(187,.bool false),(188,.bool false),(189,.ref 51),(76,.ref 52),(79,.ref 8),(190,.none),(191,.str []),(192,.int 0),(193,.int 0),(12,.ref 54)])) (.node (some (.list [.ref 85])) .nil .nil) .nil)) (.node (some (.ns [(180,.int 5),(11,.str [65,69]),(181,.none),(182,.str []),(183,.str []),(184,.bool false),(16,.none),(185,.str []),(186,.none),(187,.bool false),(188,.bool false),(189,.ref 27),(76,.ref 28),(79,.ref 8),(190,.none),(191,.str []),(192,.int 0),(193,.int 0),(12,.ref 30)])) (.node (some (.ns [(14,.str [101,100,105,116,101,100]),(193,.int 4),(196,.none),(182,.str [100,105,115,112,108,97,121]),(183,.str [116,114,97,105,108,105,110,103]),(184,.bool false),(187,.bool false),(188,.bool false),(197,.int 0),(198,.int 0),(199,.bool false)])) (.node (some (.list [])) .nil .nil) .nil) (.node (some (.ns [(180,.int 5),(11,.str [75]),(181,.none),(182,.str []),(183,.str []),(184,.bool false),(16,.none),(185,.str []),(186,.none),(187,.bool false),(188,.bool false),(189,.ref 59),(76,.ref 60),(79,.ref 50),(190,.none),(191,.str []),(192,.int 0),(193,.int 0),(12,.ref 62)])) (.node (some (.inst 13 88)) .nil .nil) .nil))) (.node (some (.ns [(180,.int 5),(11,.str [65,76]),(181,.none),(182,.str []),(183,.str []),(184,.bool false),(16,.none),(185,.str []),(186,.none),(187,.bool false),(188,.bool false),(189,.ref 15),(76,.ref 16),(79,.ref 8),(190,.none),(191,.str []),(192,.int 0),(193,.int 0),(12,.ref 18)])) (.node (some (.list [])) (.node (some (.ns [(180,.int 5),(11,.str [78,69]),(181,.none),(182,.str []),(183,.str []),(184,.bool false),(16,.none),(185,.str []),(186,.none),(187,.bool false),(188,.bool false),(189,.ref 39),(76,.ref 40),(79,.ref 8),(190,.none),(191,.str []),(192,.int 0),(193,.int 0),(12,.ref 42)])) (.node (some (.ns [(176,.int 1),(177,.int 2),(178,.none),(179,.tup []),(27,.tup [.str [85,45,73]])])) .nil .nil) (.node (some (.inst 13 100)) .nil .nil)) (.node (some (.ns [(14,.str [103,114,111,117,112]),(193,.int 4),(196,.none),(182,.str [100,105,115,112,108,97,121]),(183,.str [116,114,97,105,108,105,110,103]),(184,.bool false),(187,.bool false),(188,.bool false),(197,.int 0),(198,.int 0),(199,.bool false)])) (.node (some (.inst 10 84)) .nil .nil) .nil)) (.node (some (.ns [(14,.str [97,108,110,117,109,45,101,100,105,116,101,100]),(193,.int 4),(196,.none),(182,.str [100,105,115,112,108,97,121]),(183,.str [116,114,97,105,108,105,110,103]),(184,.bool false),(187,.bool false),(188,.bool false),(197,.int 0),(198,.int 0),(199,.bool false)])) (.node (some (.list [])) (.node (some (.dict [([84,45,73],.ref 50),([85,45,73],.ref 64)])) .nil .nil) .nil) (.node (some (.ns [(14,.str [110,117,109,101,114,105,99]),(193,.int 4),(196,.none),(182,.str [100,105,115,112,108,97,121]),(183,.str [116,114,97,105,108,105,110,103]),(184,.bool false),(187,.bool false),(188,.bool false),(197,.int 0),(198,.int 0),(199,.bool false)])) (.node (some (.list [.ref 97])) .nil .nil) .nil))))) (.node (some (.list [.ref 8,.ref 79,.ref 91])) (.node (some (.dict [])) (.node (some (.inst 10 7)) (.node (some (.list [])) (.node (some (.inst 10 31)) (.node (some (.inst 10 63)) .nil .nil) (.node (some (.ns [(180,.int 5),(11,.str [84,87,73,67,69]),(181,.none),(182,.str []),(183,.str []),(184,.bool false),(16,.none),(185,.str []),(186,.none),(187,.bool false),(188,.bool false),(189,.ref 98),(76,.ref 99),(79,.ref 91),(190,.none),(191,.str []),(192,.int 0),(193,.int 0),(12,.ref 101)])) .nil .nil)) (.node (some (.inst 13 47)) (.node (some (.list [])) .nil .nil) .nil)) (.node (some (.inst 13 23)) (.node (some (.list [])) (.node (some (.inst 10 71)) .nil .nil) .nil) (.node (some (.inst 17 55)) (.node (some (.ns [(14,.str [110,117,109,101,114,105,99]),(193,.int 4),(196,.none),(182,.str [100,105,115,112,108,97,121]),(183,.str [116,114,97,105,108,105,110,103]),(184,.bool false),(187,.bool false),(188,.bool false),(197,.int 0),(198,.int 0),(199,.bool false)])) .nil .nil) .nil))) (.node (some (.inst 13 11)) (.node (some (.inst 10 19)) (.node (some (.inst 13 35)) (.node (some (.inst 13 67)) .nil .nil) (.node (some (.ns [(14,.str [110,117,109,101,114,105,99]),(193,.int 4),(196,.none),(182,.str [100,105,115,112,108,97,121]),(183,.str [116,114,97,105,108,105,110,103]),(184,.bool false),(187,.bool false),(188,.bool false),(197,.int 0),(198,.int 0),(199,.bool false)])) .nil .nil)) (.node (some (.list [.ref 58,.ref 64])) (.node (some (.ns [(180,.int 5),(11,.str [84,87,73,67,69]),(181,.none),(182,.str []),(183,.str []),(184,.bool false),(16,.none),(185,.str []),(186,.none),(187,.bool false),(188,.bool false),(189,.ref 86),(76,.ref 87),(79,.ref 79),(190,.none),(191,.str []),(192,.int 0),(193,.int 0),(12,.ref 89)])) .nil .nil) .nil)) (.node (some (.list [])) (.node (some (.inst 10 43)) (.node (some (.inst 13 75)) .nil .nil) .nil) (.node (some (.list [])) (.node (some (.list [])) .nil .nil) .nil)))) (.node (some (.dict [])) (.node (some (.list [.ref 14,.ref 20,.ref 26,.ref 32,.ref 38,.ref 44,.ref 50])) (.node (some (.inst 13 17)) (.node (some (.list [])) (.node (some (.list [.ref 72])) .nil .nil) (.node (some (.list [])) .nil .nil)) (.node (some (.inst 10 49)) (.node (some (.ns [(14,.str [103,114,111,117,112]),(193,.int 4),(196,.none),(182,.str [100,105,115,112,108,97,121]),(183,.str [116,114,97,105,108,105,110,103]),(184,.bool false),(187,.bool false),(188,.bool false),(197,.int 0),(198,.int 0),(199,.bool false)])) .nil .nil) .nil)) (.node (some (.inst 10 25)) (.node (some (.inst 13 41)) (.node (some (.list [])) .nil .nil) .nil) (.node (some (.inst 10 57)) (.node (some (.ns [(180,.int 1),(11,.str [81,49]),(181,.none),(182,.str []),(183,.str []),(184,.bool false),(16,.none),(185,.str []),(186,.none),(187,.bool false),(188,.bool false),(189,.ref 92),(76,.ref 93),(79,.none),(190,.none),(191,.str []),(192,.int 0),(193,.int 0),(12,.ref 95)])) .nil .nil) .nil))) (.node (some (.inst 10 13)) (.node (some (.list [])) (.node (some (.inst 10 37)) (.node (some (.inst 17 69)) .nil .nil) .nil) (.node (some (.inst 13 53)) (.node (some (.list [])) .nil .nil) .nil)) (.node (some (.inst 13 29)) (.node (some (.list [])) (.node (some (.ns [(180,.int 1),(11,.str [81,48]),(181,.none),(182,.str []),(183,.str []),(184,.bool false),(16,.none),(185,.str []),(186,.none),(187,.bool false),(188,.bool false),(189,.ref 80),(76,.ref 81),(79,.none),(190,.none),(191,.str []),(192,.int 0),(193,.int 0),(12,.ref 83)])) .nil .nil) .nil) (.node (some (.inst 13 61)) (.node (some (.ns [(14,.str [103,114,111,117,112]),(193,.int 4),(196,.none),(182,.str [100,105,115,112,108,97,121]),(183,.str [116,114,97,105,108,105,110,103]),(184,.bool false),(187,.bool false),(188,.bool false),(197,.int 0),(198,.int 0),(199,.bool false)])) .nil .nil) .nil))))))
noncomputable def rj(i:Nat):O:=.ns [(11,.str [80,48+i]),(200,.str []),(59,.any)]
noncomputable def lB(b:Nat):O:=.ns [(180,.int 1),(11,.str [82]),(181,.none),(182,.str []),(183,.str []),(184,.bool false),(16,.none),(185,.str []),(186,.none),(187,.bool false),(188,.bool false),(189,.ref (b+2)),(76,.ref (b+3)),(79,.none),(190,.none),(191,.str []),(192,.int 0),(193,.int 0),(12,.none)]
noncomputable def EZ:List (Nat×O)->Tr->Tr
 |[],t=>t
 |(k,o)::r,t=>EZ r (t.put k o)
noncomputable def EG:Nat->List (Nat×O)
 |0=>[]
 |i+1=>EG i++[(108+2*i,rj i),(109+2*i,.inst 61 (108+2*i))]
noncomputable def yF(k:Nat):List V:=(List.range k).map λi=>.ref (109+2*i)
noncomputable def LW(k:Nat)(d:Bool)(u:V):List (Nat×O) :=
 [(102,.ns [(11,.str [77,65,73,78]),(20,.ref 1),(73,.ref 104),(147,.ref 106)]),(103,.inst 66 102),(104,.dict []),(105,.ns [(49,.ref 107),(64,u)]),(106,.inst 67 105),(107,.list (yF k))]++EG k ++
 (match d with
  |true=>[(108+2*k,lB (108+2*k)),(109+2*k,.inst 10 (108+2*k)),(110+2*k,.list []),(111+2*k,.list []),(2,.list [.ref 8,.ref 79,.ref 91,.ref (109+2*k)])]
  |false=>[])
noncomputable def kO(k:Nat)(d:Bool)(u:V):Tr:=EZ (LW k d u) du
noncomputable def fp(k:Nat)(d:Bool):Nat:=108+2*k+(match d with | true=>4 | false=>0)
end
section
noncomputable def vY(v:V):Option (List UInt8):=if h:v.ctorIdx=4 then V.bytes.elim (motive_1:=λY=>Option (List UInt8)) v h some else none
theorem VL{v:V}{i:List UInt8}(h:vY v=some i):v=.bytes i:=dY h λq h=>V.bytes.elim (motive_1:=λv=>(q:v.ctorIdx=4)->V.bytes.elim (motive_1:=λY=>Option (List UInt8)) v q some=some i->v=.bytes i) v q (λa Y h=>ay V.bytes (ag h)) q h
mutual
noncomputable def fits:V->V->Bool
 |.any,_=>true
 |.none,v=>vN v
 |.bool a,v=>cP (λb=>a==b) (vB v)
 |.int a,v=>cP (λb=>decide (a=b)) (vI v)
 |.str a,v=>cP (dC a) (vS v)
 |.bytes a,v=>cP (λb=>decide (a=b)) (vY v)
 |.tup l,v=>cP (λm=>qh l m) (vT v)
 |_,_=>false
noncomputable def qh:List V->List V->Bool
 |[],[]=>true
 |a::l,b::m=>fits a b&&qh l m
 |_,_=>false
end
noncomputable def vc(v u:V):Bool:=bS v&&fits v u
noncomputable def rF(l m:List V):Bool:=cV l&&qh l m
noncomputable def Ca:List (V×List Nat):=(List.range 10).flatMap (λw=>[(iL w false,kF w false),(iL w true,kF w true)])++[(oO .any .any,[]),(rk .any,[10])] ++
 (List.range 4).flatMap λn=>[(mw false n .any,[]),(mw true n .any,[21])]
noncomputable def rA(r:Option (a9 V))(l:List V):Bool:=match iM r with
 |some m=>rF m l
 |none=>false
noncomputable def uP(k:Nat)(d:Bool)(u:V)(dp:Nat):St:=⟨kO k d u,fp k d,[],[],[],dp,false,fp k d⟩
noncomputable def mG(k:Nat)(d:Bool)(n dp:Nat):Bool:=Ca.all λh=>rA ((ac P 0 cg n).body wu [] [.ref 103,h.1] (uP k d .any dp)) (h.2.map bW)
end
section
noncomputable def Bb(p:Nat->Pos):List Stmt :=
 [.Assign [.Name "cells" (p 0)] (.Subscript (.Name "source" (p 1)) (.Constant (.int 0) 0 (p 2)) (p 3)) (p 4),
  .Assign [.Name "at" (p 5)] (.Subscript (.Name "source" (p 6)) (.Constant (.int 1) 0 (p 7)) (p 8)) (p 9),
  .Assign [.Subscript (.Name "source" (p 10)) (.Constant (.int 1) 0 (p 11)) (p 12)] (.BinOp (.Name "at" (p 13)) .Add (.Constant (.int 1) 0 (p 14)) (p 15)) (p 16),
  .Return (some (.BinOp (.BinOp (.Subscript (.Name "cells" (p 17)) (.BinOp (.Name "at" (p 18)) .Mod (.Call (.Name "len" (p 19)) [.Name "cells" (p 20)] [] (p 21)) (p 22)) (p 23)) .Add
   (.BinOp (.Constant (.int 11) 0 (p 24)) .Mult (.BinOp (.Name "at" (p 25)) .FloorDiv (.Call (.Name "len" (p 26)) [.Name "cells" (p 27)] [] (p 28)) (p 29)) (p 30)) (p 31)) .Mod (.Name "limit" (p 32)) (p 33))) (p 34)]
structure zy(data:FuncData):Prop where
 body:∃p,data.body=.stmts (Bb p)
 names:data.scope.names=[(("source" : Str),NameKind.local),(("limit" : Str),NameKind.local),(("cells" : Str),NameKind.local),(("at" : Str),NameKind.local),(("len" : Str),NameKind.globalImplicit)]
theorem CT:∀{vs:List Value} {ns:List Int} {k:Nat},IntsAre vs ns->k<ns.length->∃t,vs[k]?=some (.int (ns.getD k 0) t)
 |_,_,k,.nil,h=>by simp at h
 |_,_,k,.cons n t r,h=>by
  induction k using Nat.casesOn with
  |zero=>exact⟨t,by rfl⟩
  |succ k=>refine aF (CT (k:=k) r (by simpa using h)) λu e=>?_;exact⟨u,by exact e⟩
theorem P0{vs:List Value}{ns:List Int}(h:IntsAre vs ns):vs.length=ns.length:=by
 induction h with
 |nil=>rfl
 |cons n t _ ih=>simp[ih]
section
theorem am.KV(I:ai X C ρ st s){h':Heap}{t' n:Nat}{t:Tok}{r:List Ev}(hk:∀b o,b≠X.src->s.heap.get? b=some o->h'.get? b=some o)(ff:h'.IsList X.src #[.ref X.ct,.int (n:Nat) t])(hf:dI X n r) :
  am X C ρ s {st with dr:=r} ρ {s with heap:=h',toks:=t'}:=by
 refine ci I.dr.src λn0 t0 Cu Y=>?_
 have step {σ : List Addr}:bZ X C σ s.heap h':=λb o e Y n Y Y=>⟨⟨o.slots,hk b o n e⟩,λY=>hk b o n e⟩
 have kv:bM X s.heap ρ h' ρ:=I.bB step .refl;obtain nl:∀{a:Addr} {o:Obj},s.heap.get? a=some o->o.cls≠.type "list"->h'.get? a=some o:=λ{a o} e hc=>hk a o (λq=>hc (tG Cu (q▸e))) e
 have nf:∀{a:Addr} {o:Obj},s.heap.get? a=some o->dH o->h'.get? a=some o:=λ{a o} e hc=>hk a o (λq=>hc.yg (q▸e) Cu) e
 refine⟨⟨I.cfg,λb o e=>hk b o (λq=>by rw[q,I.dn] at e;exact aP e) (I.stay b o e),I.len,λk a e=>?_,I.dom,I.nd,I.new,I.apart,?_,?_,I.dN,I.ae,?_,λL hL=>?_,⟨aT n t ff hf,?_⟩,I.dn,I.cY,?_,I.dq,I.top,I.big,I.depth,I.units,I.hdn,I.lo,I.hand⟩,step,.refl,rfl,trivial,rfl⟩
 .exact aA (I.obj k a e) λo ob h1 h2 h3=>bF o ob h1 (hk a ob (I.apart a (bV e)).1 h2) (h3.mono kv)
 .refine cps λG kG=>?_
  refine af I.loc ?_;rintro m ⟨o,es,ep,h1,h2⟩ h3;refine af I.cK λo' g1 g2=>kG ?_
  rw[h1] at g1;obtain rfl:=ag g1;exact⟨m,ky o es ep (nf h1 g2) h2,λx v e=>af (h3 x v e) λval a b=>(ao val a (b.mono kv))⟩
 .exact af I.cK λo' g1 g2=>ao o' (nf g1 g2) g2
 .exact qj I.fr λL hL=>af (I.frC L hL) λo h1 h2=>ao o h1 (nf h1 h2)
 .exact af (I.frC L hL) λo h1 h2=>ao o (nf h1 h2) h2
 .refine af I.dr.cells ?_;rintro vs;intro q0;refine bE q0 ?_;clear q0;rintro o2 g4 g5 g6 h4;exact⟨vs,cL o2 (hk _ _ I.cY g4) g5 g6,h4⟩
 .refine bE I.tab.at_ λps h1 h2 h3=>⟨ps,nl h1 (by refine(?_:Value.none≠Value.type "list");decide),h2,λpos c' q=>?_⟩
  refine cps λG kG=>?_
  refine dQ (h3 pos c' q) ?_;rintro c co e1 e2 e3 ⟨d,o',vs,t,f1,f2,f3,f4⟩;obtain rfl:d=c:=by obtain e1:=aW e1 f1;exact gM e1
  refine kG ?_;rw[e2] at f2;obtain rfl:=ag f2;have kc:=kv.jo d co e2 (qI e3 f3);exact⟨d,co,e1,kc,e3,kz d co vs t f1 kc f3 f4⟩
noncomputable def so:FD:=⟨[7,8],[],[],[]⟩
noncomputable def v4:Mo Fl:=λst=>(aw st.loc 7).bind λa=>cond (vf a) ((aw st.loc 8).bind λb=>(ub b).bind λl=>(sD st.dr l).bind λq=>some (.ok (.ret (.int q.1)) {st with dr:=q.2,loc:=[]})) none
theorem aG.cn{X:Sx}{C:bw}{ρ:List Addr}{s:Shared}{α β : Type}{R:Heap->List Addr->α->β->Prop}{c:Bool}{x:Option (a9 α)}{Q:β->Shared->Prop}{E:WB}{G:Prop}(W:aG X C ρ s R (cond c x none) Q E)(g:c=true->aG X C ρ s R x Q E->G):G:=by
 induction c using Bool.casesOn with
 |false=>exact(W:False).elim
 |true=>exact g rfl W
theorem qL{h h':Heap}{a L:Addr}{vs:Array Value}(x:h.IsList a vs)(hs:Heap.SameBut L h h')(n:a≠L):h'.IsList a vs:=by
 exact af x λo h1 h2=>ao o ((hs.2 a n).trans h1) h2
theorem Df(Z:aU X)(mB:∃x,X.nm x = "len"/\X.P.gl x=some (.blt 0))(hk:C.env.scope.kind=.function)(sY:C.env.globals=mainGlobals)(BZ:C.env.builtins=builtinsNs)(tP:C.env.scope.names.lookup ("len" : Str)=some .globalImplicit)(mQ:C.env.scope.names.lookup ("cells" : Str)=some .local){m:Str->Option Value}{a:Addr}{items:Array Value}{p1 p2 p3:Pos}{Q:WB}{E:WB}(st:X.hF.StaysIn s.heap)(hm:s.heap.Ns C.env.locals m)(hc:m "cells" = some (.ref a))(hl:s.heap.IsList a items)(hz:items.size<1000)(h:Q (.int items.size (s.toks+1)) {s with toks:=s.toks+1+1}):wpAny (model X.prog X.w) C.A (eval (.Call (.Name "len" p1) [.Name "cells" p2] [] p3) C.env) Q E s:=by
 refine cps λG kG=>af mB λx PH PJ=>aA Z.glob λmg mb n1 n2 hg=>af (hg x _ PJ) λval hr hv=>?_
 obtain rfl:val=.builtin "len" := hr;refine kG ?_;obtain hv:=PH▸hv;obtain lF:=n1.keeps st;obtain iE:=n2.keeps st
 obtain he:bD (λY=>("cells" : Str)) C.env.scope [Internal.E.loc 0] [.Name "cells" p2]=true:=by
  refine(?_:((decide (("cells" : Str) = "cells")&&decide (C.env.scope.names.lookup ("cells" : Str)=some .local)&&dF "cells")&&true)=true);rw[eZ mQ];decide
 have k:wpAny (model X.prog X.w) C.A (callWith p3 (.builtin "len") [] (backTo p3 (starEach [.Name "cells" p2] C.env)) []) Q E s:=by
  exact jX he (args_cons (he:=rfl) (iU (kP hk mQ hm hc (args_nil ⟨.builtin,len_list hl (qR hz) h⟩)) (by decide)))
 refine rM (λY Y Y=>rfl) (Name_function_global hk tP (bR hv (λhv=>?_) (λq8=>aL q8 λqG qH=>?_)) (by decide))
 .exact loadGlobal_global (env:=C.env) (by refine aR sY ?_;exact lF) hv k
 .exact loadGlobal_builtin (env:=C.env) (by refine aR sY ?_;exact lF) qG (by refine aR BZ ?_;exact iE) qH k
set_option tactic.hygienic true in
set_option maxHeartbeats 4000000 in
theorem KR(Z:aU X)(h7:X.nm 7 = "source")(h8:X.nm 8 = "limit")(mB:∃x,X.nm x = "len"/\X.P.gl x=some (.blt 0))(cG:X.cells≠[])(ly:X.cells.length<1000){data:FuncData}(hn:data.scope.names=[(("source" : Str),NameKind.local),(("limit" : Str),NameKind.local),(("cells" : Str),NameKind.local),(("at" : Str),NameKind.local),(("len" : Str),NameKind.globalImplicit)]){p:Nat->Pos}(c8:C.env.scope=data.scope)(I:ai X C ρ st s):dW X C ρ s (execs (Bb p) C.env) (v4 st):=by
 intro Q E W;refine W.ob λa e7 W=>W.cn λea W=>W.ob λb e8 W=>W.ob λaK eb W=>W.ob λq ed W=>?_
 obtain rfl:=zi ea;obtain rfl:=ya eb;obtain Ll:=Bn ed;obtain⟨v,r⟩:=q;have hk:=I.cfg.kind;have xK:C.env.scope.names.lookup ("source" : Str)=some .local:=by rw[c8,hn];rfl
 obtain Qk:C.env.scope.names.lookup ("limit" : Str)=some .local:=by rw[c8,hn];rfl
 have mQ:C.env.scope.names.lookup ("cells" : Str)=some .local:=by rw[c8,hn];rfl
 have tO:C.env.scope.names.lookup ("at" : Str)=some .local:=by rw[c8,hn];rfl
 obtain tP:C.env.scope.names.lookup ("len" : Str)=some .globalImplicit:=by rw[c8,hn];rfl
 refine af I.loc λmL qA gV=>af (gV 7 _ e7) λVN m7 r7=>af (gV 8 _ e8) λVO m8 r8=>?_
 rw[h7] at m7;rw[h8] at m8;obtain rfl:VN=.ref X.src:=r7;obtain⟨tl,rfl⟩:∃t,VO=.int (Int.ofNat aK) t:=r8;refine cps λG kG=>?_
 obtain⟨⟨n,t0,ff,xb⟩,⟨cs,kh,ta⟩⟩:=I.dr;replace xb:=eU xb Ll;refine d7 xb ?_;rintro⟨mH,Wf⟩ OC OD;refine kG ?_
 have xw:X.src≠C.env.locals:=λq=>by
  obtain⟨o',z1,z2,Y,z3⟩:=ff;refine fK qA λo es ep y1 y2 Y=>?_
  rw[q,y1] at z1;obtain rfl:=ag z1;obtain z3:=aW z3 y2;cases z3
 have B0:X.ct≠C.env.locals:=λq=>by
  obtain⟨o',z1,z2,Y,z3⟩:=kh;refine fK qA λo es ep y1 y2 Y=>?_
  rw[q,y1] at z1;obtain rfl:=ag z1;obtain z3:=aW z3 y2;cases z3
 have ba:cs.size=X.cells.length:=by refine sb d8 ?_;exact sb (P0 ta) rfl
 have jn:0<X.cells.length:=List.length_pos_iff.mpr cG;obtain Cm:n%X.cells.length<X.cells.length:=Nat.mod_lt _ jn;obtain⟨Wn,V9,V7,tk0,os0⟩:=s;dsimp only at qA ff kh;refine wpAny_execs_cons (wpAny_Assign_Name (Subscript_ (iU (kP hk xK qA m7 (wpAny_mkInt (item_list (x:=.ref X.ct) (hl:=ff) (by decide) (by decide) (by rfl) ?_ (by with_unfolding_all rfl) (by intro _;with_unfolding_all rfl)))) (by decide))) (by rfl))
 try dsimp only
 refine bq (storeName_local mQ (by refine tb hk ?_;rfl) _) ?_;refine yi qA λh1 n1 b1 o1=>?_
 try dsimp only
 obtain A1:=am.uW (t':=tk0+1+1) (loc':=[]) I n1 b1 o1 λx v e=>nomatch e
 obtain Cy:=qL ff b1 xw;obtain NZ:=qL kh b1 B0;obtain Dr:(λx=>if x=("cells" : Str) then some (Value.ref X.ct) else mL x) "cells" = some (.ref X.ct):=by rfl
 obtain xS:(λx=>if x=("cells" : Str) then some (Value.ref X.ct) else mL x) "source" = some (.ref X.src):=by dsimp only;refine aE (aj (by decide)) ?_;exact m7
 obtain Ds:(λx=>if x=("cells" : Str) then some (Value.ref X.ct) else mL x) "limit" = some (.int (Int.ofNat aK) tl):=by dsimp only;refine aE (aj (by decide)) ?_;exact m8
 generalize (λx=>if x=("cells" : Str) then some (Value.ref X.ct) else mL x)=m1 at n1 Dr xS Ds
 try dsimp only
 refine wpAny_execs_cons (wpAny_Assign_Name (Subscript_ (iU (kP hk xK n1 xS (wpAny_mkInt (item_list (x:=.int n t0) (hl:=Cy) (by decide) (by decide) (by rfl) ?_ (by with_unfolding_all rfl) (by intro _;with_unfolding_all rfl)))) (by decide))) (by rfl))
 try dsimp only
 refine bq (storeName_local tO (by refine tb hk ?_;rfl) _) ?_;refine yi n1 λh2 n2 b2 o2=>?_
 try dsimp only
 obtain A2:=A1.trans (am.uW (t':=tk0+1+1+1+1) (loc':=[]) A1.inv n2 b2 o2 λx v e=>nomatch e);obtain PB:=qL Cy b2 xw;have N0:=qL NZ b2 B0;obtain t8:(λx=>if x=("at" : Str) then some (Value.int n t0) else m1 x) "cells" = some (.ref X.ct):=by dsimp only;refine aE (aj (by decide)) ?_;exact Dr
 obtain Du:(λx=>if x=("at" : Str) then some (Value.int n t0) else m1 x) "source" = some (.ref X.src):=by dsimp only;refine aE (aj (by decide)) ?_;exact xS
 obtain Dt:(λx=>if x=("at" : Str) then some (Value.int n t0) else m1 x) "limit" = some (.int (Int.ofNat aK) tl):=by dsimp only;refine aE (aj (by decide)) ?_;exact Ds
 have t7:(λx=>if x=("at" : Str) then some (Value.int n t0) else m1 x) "at" = some (.int n t0):=by rfl
 generalize (λx=>if x=("at" : Str) then some (Value.int n t0) else m1 x)=m2 at n2 t8 Du Dt t7
 try dsimp only
 refine wpAny_execs_cons (wpAny_Assign_Subscript (wpAny_BinOp (iU (kP hk tO n2 t7 (wpAny_mkInt (PySem.P.add_int ?_))) (by decide))) (by rfl))
 try dsimp only
 refine iU (kP hk xK n2 Du ?_) (by decide)
 try dsimp only
 refine wpAny_mkInt ?_
 try dsimp only
 refine wpAny_setItem_list PB (by decide) (by decide) (by refine(?_:(1:Int)<2);decide) λh3 l3 b3=>?_
 have Ql:h3.IsList X.src #[.ref X.ct,.int ((n+1:Nat):Int) (tk0+1+1+1+1+1)]:=l3;have A3:=A2.trans (am.KV (t':=tk0+1+1+1+1+1+1+1) (r:=r) A2.inv (λb o hb e=>(b3.2 b hb).trans e) Ql OD);obtain n3:=n2.sameBut b3 (bO xw);obtain wT:=qL N0 b3 I.cY;obtain Fz:=A3.inv.stay;obtain hz:cs.size<1000:=by refine aR ba ?_;exact ly
 obtain BY:((cs.size:Nat):Int)≠0:=by rw[ba];exact se jn
 obtain e1:((n:Nat):Int).fmod ((cs.size:Nat):Int)=((n%X.cells.length:Nat):Int):=by
  rw[ba,Int.fmod_eq_emod_of_nonneg _ (vA),Int.natCast_emod]
 obtain e2:((n:Nat):Int).fdiv ((cs.size:Nat):Int)=((n/X.cells.length:Nat):Int):=by
  rw[ba,Int.fdiv_eq_ediv_of_nonneg _ (vA),Int.natCast_ediv]
 refine aF (CT ta Cm) λtc hc=>?_
 obtain hc':cs[(((n%X.cells.length:Nat):Int)).toNat]?=some (.int (X.cells.getD (n%X.cells.length) 0) tc):=by
  rw[Int.toNat_natCast];refine sb (Array.getElem?_toList) ?_;exact hc
 refine wpAny_execs_cons (wpAny_Return_some (wpAny_BinOp (wpAny_BinOp (Subscript_ (iU (kP hk mQ n3 t8 ?_) (by decide))))))
 try dsimp only
 refine wpAny_BinOp (iU (kP hk tO n3 t7 ?_) (by decide))
 try dsimp only
 refine Df Z mB hk I.cfg.glob I.cfg.bi tP mQ Fz n3 t8 wT hz (mod_int' BY ?_)
 try dsimp only
 refine tb e1 (item_list (x:=.int (X.cells.getD (n%X.cells.length) 0) tc) (hl:=wT) G2 (qR (bL Cm ly)) hc' ?_ (by with_unfolding_all rfl) (by intro _;with_unfolding_all rfl))
 try dsimp only
 refine wpAny_BinOp (wpAny_mkInt (wpAny_BinOp (iU (kP hk tO n3 t7 (Df Z mB hk I.cfg.glob I.cfg.bi tP mQ Fz n3 t8 wT hz (floordiv_int BY ?_ (.inl (PyProof.noPylong_small (bL (tb ba ly) (by decide))))))) (by decide))))
 try dsimp only
 refine tb e2 (PyProof.Rows.mul_int ?_ (IntMulOk.of_left (by decide +kernel)))
 try dsimp only
 refine PySem.P.add_int (iU (kP hk Qk n3 Dt ?_) (by decide))
 try dsimp only
 refine mod_int' (by refine(?_:(aK:Int)≠0);exact se mH) ?_
 try dsimp only
 obtain ev:(X.cells.getD (n%X.cells.length) 0+11*((n/X.cells.length:Nat):Int)).fmod (Int.ofNat aK)=(v:Int):=by
  refine aE (Int.fmod_eq_emod_of_nonneg _ (by refine(?_:(0:Int)<=(aK:Int));exact vA)) ?_;exact OC
 rw[ev];exact W.now (A3.trans (am.tok A3.inv)) (ao _ rfl (⟨_,rfl⟩))
structure zx(X:Sx):Prop where
 h7:X.nm 7 = "source"
 h8:X.nm 8 = "limit"
 mB:∃x,X.nm x = "len"/\X.P.gl x=some (.blt 0)
 fn:∃ob data,X.hF.get? (X.ad X.P.cZ)=some ob/\ob.data=.func data/\rR X so data/\zy data/\X.hF.CodeRec data.code data.qualname/\data.defaults=.none
theorem KQ{st:St}{l v dp:Nat}{r:List Ev}(h:st.dr=.draw l v::r)(hd:st.dp=dp+1):Ah so v4 [] [.src,.int (Int.ofNat l)] st=some (.ok (.int v) {st with dr:=r}):=by
 obtain⟨tr,n,loc,ae,dr,KN,hd',lo⟩:=st;obtain rfl:dr=_:=h;obtain rfl:KN=_:=hd;have e:sD (.draw l v::r) l=some (v,r):=by refine(?_:cond (Nat.beq l l) _ _=_);rw[Nat.beq_refl];rfl
 exact ay (λo:Option (Nat×List Ev)=>(match o.bind λq=>some (a9.ok (Fl.ret (V.int q.1)) (⟨tr,n,[],[],q.2,dp,hd',lo⟩:St)) with
  |none=>none
  |some (a9.ok f st')=>some (a9.ok (match f with | .ret v=>v | _=>V.none) {st' with loc:=loc,ae:=ae,dp:=dp+1})
  |some (a9.ex k st')=>some (a9.ex k {st' with loc:=loc,ae:=ae,dp:=dp+1}):Option (a9 V))) e
theorem KX(Z:aU X)(F:zx X)(cG:X.cells≠[])(ly:X.cells.length<1000):im X:=by
 intro C ρ s st l v r t I eB aS;refine zp F.fn λob data g1 g2 g3 g4 g5 g6=>?_
 obtain⟨dp,hd⟩:∃dp,st.dp=dp+1:=⟨st.dp - 1,by exact sc aS⟩
 refine aF g4.body λp qu=>mc.call λQ E W=>Aj (g:=v4) (fd:=so) (clo:=[]) (l:=[.src,.int (Int.ofNat l)]) Z tU I (I.stay _ _ g1) g2 g3 qu (λc8 J=>KR Z F.h7 F.h8 F.mB cG ly g4.names c8 J) ?_ (ao none (by rw[g6];exact Looks.of_pure rfl) rfl) (λx k q=>nomatch q) ⟨_,_,rfl,rfl,_,_,rfl,⟨t,rfl⟩,rfl⟩ ?_
 .exact g5.keeps I.stay
 .refine ja (KQ eB hd) ?_;exact W.k
end
end
section
mutual
noncomputable def bv(σ : List Nat):V->V->Prop
 |.any,_=>True
 |.ref i,v=>∃j,v=.ref j/\σ[i]?=some j
 |.tup l,v=>∃m,v=.tup m/\cp σ l m
 |.none,v=>v=.none
 |.bool b,v=>v=.bool b
 |.int i,v=>v=.int i
 |.str s,v=>v=.str s
 |.bytes b,v=>v=.bytes b
 |.fn f,v=>v=.fn f
 |.cls c,v=>v=.cls c
 |_,_=>False
noncomputable def cp(σ : List Nat):List V->List V->Prop
 |[],m=>m=[]
 |v::r,m=>∃u q,m=u::q/\bv σ v u/\cp σ r q
end
noncomputable def ft{κ : Type}(σ : List Nat):List (κ×V)->List (κ×V)->Prop
 |[],m=>m=[]
 |(x,v)::r,m=>∃u q,m=(x,u)::q/\bv σ v u/\ft σ r q
def kT(σ : List Nat):O->O->Prop
 |.list l,o=>∃m,o=.list m/\cp σ l m
 |.inst c d,o=>∃e,o=.inst c e/\σ[d]?=some e
 |.ns es,o=>∃fs,o=.ns fs/\ft σ es fs
 |.dict es,o=>∃fs,o=.dict fs/\ft σ es fs
 |_,_=>False
noncomputable def Sx.at_(X:Sx)(lo:Nat)(fin:Nat->Prop):Sx:={X with lo:=lo,fin:=fin}
section
variable {lo:Nat}{fin:Nat->Prop}{h:Heap}{ρ ρ' σ : List Addr}
mutual
theorem EX:∀{v:V} {val:Value},bS v=true->(av (X.at_ lo fin) h ρ v val↔av X h ρ' v val)
 |.none,val,_=>Iff.rfl
 |.bool b,val,_=>Iff.rfl
 |.int i,val,_=>Iff.rfl
 |.str i,val,_=>Iff.rfl
 |.bytes i,val,_=>Iff.rfl
 |.tup l,val,p=>by
  have p:cV l=true:=p
  exact exists_congr λa=>exists_congr λvs=>and_congr_right λ_=>and_congr_right λ_=>uC p
 |.fl l,_,p=>aC p
 |.bg l,_,p=>aC p
 |.ref l,_,p=>aC p
 |.fn l,_,p=>aC p
 |.cls l,_,p=>aC p
 |.typ l,_,p=>aC p
 |.blt l,_,p=>aC p
 |.src,_,p=>aC p
 |.any,_,p=>aC p
 |.tok l,_,p=>aC p
theorem uC:∀{l:List V} {vs:List Value},cV l=true->(aB (X.at_ lo fin) h ρ l vs↔aB X h ρ' l vs)
 |[],vs,_=>Iff.rfl
 |v::r,vs,p=>by
  have p:=aD (show (bS v&&cV r)=true from p);exact exists_congr λx=>exists_congr λws=>and_congr_right λ_=>and_congr (EX p.1) (uC p.2)
end
mutual
theorem bv.nn{τ:List Nat}:∀{v:V},bS v=true->bv τ v v
 |.none,_=>rfl
 |.bool b,_=>rfl
 |.int i,_=>rfl
 |.str i,_=>rfl
 |.bytes i,_=>rfl
 |.tup l,p=>by dsimp only[bv];exact⟨l,rfl,cp.nn p⟩
 |.fl l,p=>aC p
 |.bg l,p=>aC p
 |.ref l,p=>aC p
 |.fn l,p=>aC p
 |.cls l,p=>aC p
 |.typ l,p=>aC p
 |.blt l,p=>aC p
 |.src,p=>aC p
 |.any,p=>aC p
 |.tok l,p=>aC p
theorem cp.nn{τ:List Nat}:∀{l:List V},cV l=true->cp τ l l
 |[],_=>rfl
 |v::r,p=>by
  have p:=aD (show (bS v&&cV r)=true from p);exact⟨v,r,rfl,bv.nn p.1,cp.nn p.2⟩
end
noncomputable def fk(ρ:List Addr)(τ:List Nat):List Addr:=τ.map λj=>ρ.getD j 0
theorem yH{ρ:List Addr}{τ:List Nat}{i j:Nat}{a:Addr}(e:τ[i]?=some j)(h:ρ[j]?=some a):(fk ρ τ)[i]?=some a:=by
 unfold fk;rw[fM,e];simp only[Option.map_some,List.getD_eq_getElem?_getD,h,Option.getD_some]
mutual
theorem bv.rep{τ:List Nat}:∀{v u:V} {val:Value},bv τ v u->av X h ρ u val->av (X.at_ lo fin) h (fk ρ τ) v val
 |.any,u,val,_,r=>by dsimp only[av];exact wQ r
 |.ref i,u,val,a,r=>by
  dsimp only[bv] at a;refine af a ?_;rintro j rfl e;dsimp only[av] at r ⊢;refine af r ?_;rintro b rfl e2
  exact⟨b,rfl,yH e e2⟩
 |.tup l,u,val,a,r=>by
  dsimp only[bv] at a;refine af a ?_;rintro m rfl e;dsimp only[av] at r ⊢;refine aA r ?_;rintro b vs rfl t q
  exact⟨b,vs,rfl,t,cp.rep e q⟩
 |.none,u,val,a,r=>by obtain rfl:u=.none:=a;exact r
 |.bool y,u,val,a,r=>by obtain rfl:u=.bool y:=a;exact r
 |.int y,u,val,a,r=>by obtain rfl:u=.int y:=a;exact r
 |.str y,u,val,a,r=>by obtain rfl:u=.str y:=a;exact r
 |.bytes y,u,val,a,r=>by obtain rfl:u=.bytes y:=a;exact r
 |.fn y,u,val,a,r=>by obtain rfl:u=.fn y:=a;exact r
 |.cls y,u,val,a,r=>by obtain rfl:u=.cls y:=a;exact r
 |.fl l,u,val,a,_=>a.elim
 |.bg l,u,val,a,_=>a.elim
 |.typ l,u,val,a,_=>a.elim
 |.blt l,u,val,a,_=>a.elim
 |.src,u,val,a,_=>a.elim
 |.tok l,u,val,a,_=>a.elim
theorem cp.rep{τ:List Nat}:∀{l m:List V} {vs:List Value},cp τ l m->aB X h ρ m vs->aB (X.at_ lo fin) h (fk ρ τ) l vs
 |[],m,vs,a,r=>by obtain rfl:m=[]:=a;exact(r:vs=[])
 |v::l,m,vs,a,r=>by
  refine aA a ?_;rintro u q rfl a1 a2;refine aA r ?_;rintro x ws rfl r1 r2;exact⟨x,ws,rfl,bv.rep a1 r1,cp.rep a2 r2⟩
end
theorem ft.ns{τ:List Nat}:∀{es fs:List (Nat×V)} {ds:List DictEntry},ft τ es fs->eN X h ρ fs ds->eN (X.at_ lo fin) h (fk ρ τ) es ds
 |[],fs,ds,a,r=>by obtain rfl:fs=[]:=a;exact r
 |(x,v)::es,fs,ds,a,r=>by
  refine aA a ?_;rintro u q rfl a1 a2;refine fK r ?_;rintro t val ds' rfl r1 r2;exact⟨t,val,ds',rfl,a1.rep r1,ft.ns a2 r2⟩
theorem ft.dict{τ:List Nat}:∀{es fs:List (aN×V)} {ds:List DictEntry},ft τ es fs->gK X h ρ fs ds->gK (X.at_ lo fin) h (fk ρ τ) es ds
 |[],fs,ds,a,r=>by obtain rfl:fs=[]:=a;exact r
 |(x,v)::es,fs,ds,a,r=>by
  refine aA a ?_;rintro u q rfl a1 a2;refine fK r ?_;rintro t val ds' rfl r1 r2;exact⟨t,val,ds',rfl,a1.rep r1,ft.dict a2 r2⟩
theorem kT.rep{τ:List Nat}{a:Addr}(jk:∀(i j:Nat),τ[i]?=some j->∃b,ρ[j]?=some b):∀{oc o:O} {ob:Obj},kT τ oc o->dV X h ρ a o ob->dV (X.at_ lo fin) h (fk ρ τ) a oc ob
 |.list l,o,ob,x,r=>by
  refine af x ?_;rintro m rfl a1;obtain⟨h1,vs,n,h2,h3,h4⟩:=r
  exact⟨h1,vs,n,h2,cp.rep a1 h3,h4⟩
 |.inst c d,o,ob,x,r=>by
  refine af x ?_;rintro e rfl a1;refine d7 r ?_;rintro h1;intro q0;refine af q0 ?_;clear q0;rintro y h2 h3 h4
  exact⟨h1,⟨y,yH a1 h2,h3⟩,h4⟩
 |.ns es,o,ob,x,r=>by
  refine af x ?_;rintro fs rfl a1;obtain⟨h1,hd,hs,ds,n,h2,h3⟩:=r
  exact⟨h1,hd,hs,ds,n,h2,ft.ns a1 h3⟩
 |.dict es,o,ob,x,r=>by
  refine af x ?_;rintro fs rfl a1;obtain⟨h1,hd,hs,ds,n,h2,h3⟩:=r
  exact⟨h1,hd,hs,ds,n,h2,ft.dict a1 h3⟩
 |.cell v,o,ob,x,r=>x.elim
 |.clo f cs,o,ob,x,r=>x.elim
 |.exc c d,o,ob,x,r=>x.elim
end
section
variable {τ:List Nat}
theorem rm{ρ:List Addr}{τ:List Nat}:(fk ρ τ).length=τ.length:=by simp[fk]
structure gi(τ:List Nat)(d6:Tr)(st:St):Prop where
 nd:τ.Nodup
 obj:∀(i j:Nat),τ[i]?=some j->∃oc o,d6.get i=some oc/\st.tr.get j=some o/\kT τ oc o
 dom:∀k oc,d6.get k=some oc->k < τ.length
theorem gi.at_(I:ai X C ρ st s){d6:Tr}(M:gi τ d6 st){i j:Nat}(e:τ[i]?=some j):∃a,ρ[j]?=some a/\(fk ρ τ)[i]?=some a:=by
 refine aA (M.obj i j e) λoc o h1 h2 h3=>?_
 have hj:j < ρ.length:=by refine bh I.len ?_;exact I.dom _ _ h2
 exact ao (ρ[j]) (dS hj) (yH e (dS hj))
theorem gi.mem(I:ai X C ρ st s){d6:Tr}(M:gi τ d6 st){a:Addr}(h:a∈fk ρ τ):a∈ρ:=by
 refine aF (jI h) λi e=>?_
 have hi:i < τ.length:=by refine ck (rm (ρ:=ρ)) ?_;exact(List.getElem?_eq_some_iff.mp e).1
 refine af (M.at_ I (dS hi)) λb h1 h2=>?_
 replace h2:=aW h2 e;exact bh (ag h2) (bV h1)
theorem ai.small(I:ai X C ρ st s){d6:Tr}(M:gi τ d6 st)(hh:st.hd=false){dp:Nat}(aS:dp<=st.dp):∃n0,dI X n0 st.dr/\∀fin fx,dI (X.at_ τ.length fin) n0 fx->ai (X.at_ τ.length fin) C (fk ρ τ) ⟨d6,τ.length,[],[],fx,dp,false,τ.length⟩ s:=by
 obtain⟨⟨n0,t0,hl,hf⟩,jj⟩:=I.dr;refine ao n0 hf (λfin fx OB=>⟨⟨I.cfg.kind,I.cfg.glob,I.cfg.bi,I.cfg.frm,I.cfg.frames,I.cfg.cells,I.cfg.tab⟩,I.stay,rm,λk a e=>?_,M.dom,?_,λa ha=>I.new a (M.mem I ha),λa ha=>I.apart a (M.mem I ha),?_,I.cK,I.dN,λx k e=>(nomatch e),I.fr,I.frC,⟨aT n0 t0 hl OB,jj⟩,I.dn,I.cY,⟨I.tab.at_⟩,I.dq,I.top,λa ha=>I.big a (M.mem I ha),?_,?_,λY=>I.hdn hh,rfl,.inl (I.hdn hh)⟩)
 .refine cps λG kG=>?_
  have hk:k < τ.length:=by refine ck (rm (ρ:=ρ)) ?_;exact(List.getElem?_eq_some_iff.mp e).1
  refine aA (M.obj k _ (dS hk)) λoc o h1 h2 h3=>?_
  refine af (M.at_ I (dS hk)) λb q1 q2=>?_
  replace q2:=aW q2 e;obtain rfl:=ag q2;refine aA (I.obj _ a q1) λo' ob g1 g2 g3=>kG ?_
  replace g1:=aW g1 h2;obtain rfl:=ag g1;exact bF oc ob h1 g2 (h3.rep (λi j q=>af (M.at_ I q) λb z Y=>⟨b,z⟩) g3)
 .unfold fk;refine List.pairwise_map.mpr (List.Pairwise.imp_of_mem (λ{a b} ha hb wP e=>wP (aF (jI ha) λi ei=>?_)) M.nd);refine aF (jI hb) λj ej=>?_
  refine af (M.at_ I ei) λx x1 Y=>af (M.at_ I ej) λy y1 Y=>?_
  simp only[List.getD_eq_getElem?_getD,x1,y1,Option.getD_some] at e;subst e;refine aF (List.getElem?_eq_some_iff.mp x1) λl1 v1=>?_
  refine aF (List.getElem?_eq_some_iff.mp y1) λl2 v2=>?_
  exact(List.getElem_inj (h₀:=l1) (h₁:=l2) I.nd).mp (v1.trans v2.symm)
 .exact af I.loc λm h1 Y=>ao m h1 (λx v e=>nomatch e)
 .have:=I.depth;refine(?_:C.A.depth+3*dp+10<_);exact dx (iY (kZ (gc 3 aS) _) 10) this
 .have:=I.units;refine(?_:C.A.units+40*dp+60<_);exact dx (iY (kZ (gc 40 aS) _) 60) this
theorem am.forget(I:ai X C ρ st s){fin:Nat->Prop}{r:List Ev}{pC:St}{ρ':List Addr}{s':Shared}(hf:∀n,fin n->dI X n r)(eB:pC.dr=[])(A:am (X.at_ τ.length fin) C (fk ρ τ) s pC ρ' s')(K:pO C s s'):am X C ρ s {st with dr:=r} ρ s':=by
 obtain⟨hp,gg,dd,tk,os⟩:=s;obtain⟨hp',Nn,Ku,tk',os'⟩:=s';obtain e1:=A.gens;obtain e3:=A.os;dsimp only at e1 e3;subst e1 e3;refine cps λG kG=>?_
 obtain J:=A.inv;obtain⟨⟨n1,t1,oB,mH⟩,Ob⟩:=J.dr;replace mH:=eU mH eB;replace mH:fin n1:=mH;obtain⟨⟨n2,t2,⟨os2,tq,Cw,Cx⟩,Y⟩,Y⟩:=I.dr;refine af I.tab.at_ λps₀ tab0 Y=>kG ?_
 obtain Oc:(fk ρ τ).drop (X.at_ τ.length fin).lo=[]:=by
  refine(?_:(fk ρ τ).drop τ.length=[]);refine sb (rm (ρ:=ρ)) ?_;exact List.drop_length
 have rel:∀b o,hp.get? b=some o->b≠X.src->b≠X.tab->(∃sl,hp'.get? b=some {o with slots:=sl})/\(b∉C.Fs->hp'.get? b=some o):=λb o e q1 q2=>by
  by_cases q:b=C.env.locals
  .subst q;exact K o e
  .refine A.d0 b o e ?_ q1 q2 q;refine tb Oc ?_;exact er
 have step:bZ X C (ρ.drop X.lo) hp hp':=λb o e Y q1 q2 Y=>rel b o e q1 q2
 have kv:bM X hp ρ hp' ρ:=I.bB step.weak .refl;refine⟨⟨I.cfg,J.stay,I.len,λk a e=>?_,I.dom,I.nd,I.new,I.apart,?_,?_,I.dN,I.ae,?_,λL hL=>?_,⟨aT n1 t1 oB (hf n1 mH),Ob⟩,I.dn,I.cY,⟨J.tab.at_⟩,I.dq,I.top,I.big,I.depth,I.units,I.hdn,I.lo,I.hand⟩,step,.refl,rfl,trivial,rfl⟩
 .refine aA (I.obj k a e) λo ob h1 h2 h3=>?_
  obtain a1:=(I.apart a (bV e)).1;obtain a2:=(I.apart a (bV e)).2.1;obtain a3:=(I.apart a (bV e)).2.2.1;obtain a4:=(I.apart a (bV e)).2.2.2.1;obtain a5:=(I.apart a (bV e)).2.2.2.2;exact bF o ob h1 ((rel a ob h2 a1 a5).2 a4) (h3.mono kv)
 .refine cps λG kG=>?_
  refine af I.loc ?_;rintro m ⟨o,es,ep,h1,h2,h2'⟩ h3;refine aL (K o h1) ?_;rintro⟨sl,q⟩ Y;exact kG (ao m (jr _ es ep q h2 h2') (λx v e=>af (h3 x v e) λval a b=>(ao val a (b.mono kv))))
 .refine af I.cK λo g1 g2=>?_
  refine aL (K o g1) ?_;rintro⟨sl,q⟩ Y;exact ao _ q g2
 .refine wC I.fr λL hL o e hd=>cps λG kG=>af (I.frC L hL) λo' g1 g2=>?_
  rw[e] at g1;obtain rfl:=ag g1;refine aL (rel L o e (λz=>g2.yg (z▸e) (cL _ tq Cw Cx)) (λz=>by replace e:=z▸e;replace e:=tab0▸e;obtain rfl:=ag e;exact g2.fi rfl)) ?_;intro q0;refine aF q0 ?_;clear q0;rintro sl q Y;exact kG (ao _ q hd)
 .refine af (I.frC L hL) λo g1 g2=>?_
  refine aL (rel L o g1 (λz=>g2.yg (z▸g1) (cL _ tq Cw Cx)) (λz=>by replace g1:=z▸g1;replace g1:=tab0▸g1;obtain rfl:=ag g1;exact g2.fi rfl)) ?_;intro q0;refine aF q0 ?_;clear q0;rintro sl q Y;exact ao _ q g2
set_option tactic.hygienic true in
theorem Tf{r:Option (a9 V)}{l:List V}(h:iM r=some l):∃k st',r=some (.ok (.ref k) st')/\st'.dr=[]/\st'.lo<=k/\st'.tr.get k=some (.list l):=by
 rcases r with _ | ⟨v,s⟩ | ⟨_,_⟩
 .exact aP h
 .cases v<;>try exact aP h
  rename_i k
  obtain h:(match s.dr,Nat.ble s.lo k,s.tr.get k with
   |[],true,some (.list l)=>some l
   |_,_,_=>none)=some l:=h
  generalize e1:s.dr=d at h;generalize e2:Nat.ble s.lo k=b at h;generalize e3:s.tr.get k=g at h;rcases d with _ | ⟨_,_⟩<;>try exact aP h
  cases b<;>try exact aP h
  rcases g with _ | g<;>try exact aP h
  cases g<;>try exact aP h
  obtain rfl:=ag h;exact hX k s rfl e1 (eM e2) e3
 .exact aP h
noncomputable def nz(r:Option (a9 V)):Option (List V):=(iM r).bind λl=>match cV l with
 |true=>some l
 |false=>none
theorem Ug{r:Option (a9 V)}{l:List V}(h:nz r=some l):∃k st',r=some (.ok (.ref k) st')/\st'.dr=[]/\st'.lo<=k/\st'.tr.get k=some (.list l)/\cV l=true:=by
 unfold nz at h;refine bX (iM r) (λe=>?_) λm e=>?_
 .replace h:=e▸h;exact aP h
 .
  rw[e] at h;obtain h:(match cV m with | true=>some m | false=>none)=some l:=h;refine mm (cV m) (λe4=>?_) λe4=>?_
  .
   rw[e4] at h;obtain rfl:=ag h;exact dQ (Tf e) λk s a b c d=>t5 k s a b c d e4
  .rw [e4] at h;exact aP h
theorem Vg(hZ:∀lo fin,aU (X.at_ lo fin))(hD:∀lo fin,im (X.at_ lo fin))(I:ai X C ρ st s){d6:Tr}(M:gi τ d6 st)(hh:st.hd=false){dp:Nat}(aS:dp<=st.dp){f N:Nat}{fd:FD}{lc l rl:List V}{vs:List Value}(w9:X.P.fd f=some fd)(Pc:X.P.nest f=false)(cG:f≠X.P.cZ)(ha:cp τ lc l)(mN:nz ((ac X.P 0 cg (N+1)).body fd [] lc ⟨d6,τ.length,[],[],[],dp,false,τ.length⟩)=some rl)(r:aB X s.heap ρ l vs) :
  bl X C ρ s (call (.ref (X.ad f)) vs) (some (.ok (.fl rl) st)):=by
 refine af (I.small M hh aS) λn0 hf Ic=>?_
 replace Ic:=Ic (λn=>n=n0) [] rfl;have Z:=hZ τ.length λn=>n=n0
 have S:=yV Z (hD _ _) (λY Y h Y=>absurd h (l8 _)) FP N;refine jD (Ug mN) λk pC e1 e2 e3 e4 e5=>aA (Z.fn f fd w9 Pc) λob data g1 g2 g3=>fW (g3 cG) λg3 g4 g5 g6=>mc.call λQ E W=>vH (X:=X.at_ τ.length λn=>n=n0) (D:=0) (fd:=fd) (clo:=[]) (l:=lc) Z S tU Ic (Ic.stay _ _ g1) g2 g3 (g4.keeps Ic.stay) (uR Z Ic g5) (λx k q=>nomatch q) (ha.rep r) ?_
 rw[show (step (X.at_ τ.length λn=>n=n0).P 0 (ac (X.at_ τ.length λn=>n=n0).P 0 cg N)).body fd [] lc ⟨d6,τ.length,[],[],[],dp,false,τ.length⟩=some (.ok (.ref k) pC) from e1];intro b ρ' s' A K rb;have A':=am.forget (r:=st.dr) I (λn e=>by rw[show n=n0 from e];exact hf) e2 A K;dsimp only[av] at rb;refine af rb ?_;rintro a rfl hk;refine aA (A.inv.obj k a hk) λo ob' h1 h2 h3=>?_
 replace h1:=aW h1 e4;cases h1;obtain⟨h5,ws,n,h6,h7,Y⟩:=h3
 have aQ:τ.length<=k:=by
  have:=A.inv.lo;obtain this:=eU this (show (X.at_ τ.length λn=>n=n0).lo=τ.length from rfl);exact Ig e3 this
 have gW:s.heap.get? a=none:=by
  refine af A.ext.ex ?_;rintro more rfl hm;obtain hk:=aW hk (io (by rw[rm];exact aQ));exact hm a (bV hk)
 refine fW (I.get_none gW) λQ9 n1 n2 Y=>W.now A' ?_
 dsimp only[av];exact⟨a,ws,rfl,⟨ob',h2,h5,n,h6⟩,(uC e5).mp h7,n1,n2⟩
end
end
section
theorem CZ:∀{a b:aN},dC a b=true->a=b
 |[],[],_=>rfl
 |[],_::_,h=>aC h
 |_::_,[],h=>aC h
 |a::r,b::s,h=>by
  obtain h:(match Nat.beq a b with | true=>dC r s | false=>false)=true:=h;refine gn (Nat.beq a b) (λe=>?_) λe=>?_
  .rw [e] at h;exact aC h
  .rw [e] at h;refine sb (bY e) ?_;exact sb (CZ h) rfl
mutual
theorem om{τ:List Nat}:∀{v u:V},fits v u=true->bv τ v u
 |.any,u,_=>trivial
 |.none,u,h=>vd h
 |.bool a,u,h=>db h λb e k=>(F4 e).trans (ay V.bool (eq_of_beq k).symm)
 |.int a,u,h=>db h λb e k=>(fH e).trans (ay V.int (bG k).symm)
 |.str a,u,h=>db h λb e k=>(iT e).trans (ay V.str (CZ k).symm)
 |.bytes a,u,h=>db h λb e k=>(VL e).trans (ay V.bytes (bG k).symm)
 |.tup l,u,h=>db h λm e k=>ao m (gJ e) (wy k)
 |.fl l,u,h=>aC h
 |.bg l,u,h=>aC h
 |.ref l,u,h=>aC h
 |.fn l,u,h=>aC h
 |.cls l,u,h=>aC h
 |.typ l,u,h=>aC h
 |.blt l,u,h=>aC h
 |.src,u,h=>aC h
 |.tok l,u,h=>aC h
theorem wy{τ:List Nat}:∀{l m:List V},qh l m=true->cp τ l m
 |[],[],_=>rfl
 |[],_::_,h=>aC h
 |_::_,[],h=>aC h
 |a::l,b::m,h=>by
  have h:=aD (show (fits a b&&qh l m)=true from h);exact⟨b,m,rfl,om h.1,wy h.2⟩
end
mutual
theorem bv.same{τ:List Nat}:∀{v u:V},bS v=true->bv τ v u->u=v
 |.none,u,_,a=>a
 |.bool b,u,_,a=>a
 |.int b,u,_,a=>a
 |.str b,u,_,a=>a
 |.bytes b,u,_,a=>a
 |.tup l,u,p,a=>by refine af a ?_;rintro m rfl e;rw[cp.same p e]
 |.fl l,u,p,_=>aC p
 |.bg l,u,p,_=>aC p
 |.ref l,u,p,_=>aC p
 |.fn l,u,p,_=>aC p
 |.cls l,u,p,_=>aC p
 |.typ l,u,p,_=>aC p
 |.blt l,u,p,_=>aC p
 |.src,u,p,_=>aC p
 |.any,u,p,_=>aC p
 |.tok l,u,p,_=>aC p
theorem cp.same{τ:List Nat}:∀{l m:List V},cV l=true->cp τ l m->m=l
 |[],m,_,a=>a
 |v::r,m,p,a=>by
  refine aA a ?_;rintro u q rfl a1 a2;have p:=aD (show (bS v&&cV r)=true from p);rw[bv.same p.1 a1,cp.same p.2 a2]
end
theorem F9{v u:V}(h:vc v u=true):v=u/\bS v=true:=⟨(bv.same (τ:=[]) (aD h).1 (om (aD h).2)).symm,(aD h).1⟩
theorem F8{l m:List V}(h:rF l m=true):l=m/\cV l=true:=⟨(cp.same (τ:=[]) (aD h).1 (wy (aD h).2)).symm,(aD h).1⟩
theorem rq{r:Option (a9 V)}{l:List V}(h:iM r=some l)(p:cV l=true):nz r=some l:=by
 refine(?_:(iM r).bind _=_);rw[h];exact(tb p rfl:(match cV l with | true=>some l | false=>none)=some l)
theorem y0{r:Option (a9 V)}{l:List V}(h:rA r l=true):nz r=some l:=by
 unfold rA at h;refine bX (iM r) (λe=>?_) λm e=>?_
 .obtain h:=e▸h;exact aC h
 .
  replace h:=e▸h;refine aL (F8 (show rF m l=true from h)) ?_;rintro rfl p;exact rq e p
noncomputable def wZ(v:V):Option (List Nat):=(Ca.find? λh=>fits h.1 v).map (·.2)
noncomputable def ES:List V:=(List.range 10).flatMap λw=>[iL w false,iL w true]
noncomputable def EU:V:=.tup [.str [105,102],.any,.tup [.any],.tup [.any]]
noncomputable def EV:V:=.tup [.str [112,101,114,102,111,114,109],.tup [.str [98,111,100,121],.tup [.any]],.any]
noncomputable def ET:V:=.tup [.str [101,118,97,108,117,97,116,101],.any,.tup [.tup [.any,.tup [.any]]],.tup []]
noncomputable def rn(p:List Nat):V->V:=p.rec id λi _ k v=>k (((vT v).getD []).getD i .none)
noncomputable def iJ(v:V):Option (List V):=bif bS v then bif fits EU v then some [rn [2,0] v,rn [3,0] v] else bif fits EV v then some [rn [1,1,0] v] else bif fits ET v then some [rn [2,0,1,0] v] else bif ES.any (vc v) then some [] else none else none
noncomputable def xF(r:Option (List V)):Bool:=cP cN r
theorem zI{r:Option (List V)}(h:xF r=true):r=some []:=db h λl e k=>e.trans (ay some (cH k))
noncomputable def pA(dp:Nat):St:=⟨.nil,0,[],[],[],dp,false,0⟩
theorem Sz(y a b:V):iM ((ac P 0 cg 81).body mx [] [.tup [.str [105,102],y,.tup [a],.tup [b]]] (pA 12))=some [a,b]:=by kernel_rfl
theorem SA(u a:V):iM ((ac P 0 cg 81).body mx [] [.tup [.str [112,101,114,102,111,114,109],.tup [.str [98,111,100,121],.tup [a]],u]] (pA 12))=some [a]:=by kernel_rfl
theorem Sy(s r a:V):iM ((ac P 0 cg 81).body mx [] [.tup [.str [101,118,97,108,117,97,116,101],s,.tup [.tup [r,.tup [a]]],.tup []]] (pA 12))=some [a]:=by kernel_rfl
theorem SE:ES.all (λv=>xF (iM ((ac P 0 cg 81).body mx [] [v] (pA 12))))=true:=by kernel_rfl
end
section
noncomputable def eF(b:Bool):V:=.tup (match b with | true=>[.str [81,48]] | false=>[])
noncomputable def DH(k:Nat)(d:Bool)(n dp:Nat):Bool:=rA ((ac P 0 cg n).body wt [] [.ref 103] (uP k d .any dp)) (match d with | true=>[bW 24] | false=>[])
noncomputable def F3(k:Nat)(d b:Bool)(n dp:Nat):Bool:=rA ((ac P 0 cg n).body ww [] [.ref 103] (uP k d (eF b) dp)) (match b with | true=>[bW 25] | false=>[])
theorem Om:mG 1 false 300 30=true:=by kernel_rfl
theorem On:mG 1 true 300 30=true:=by kernel_rfl
theorem Oo:mG 2 false 300 30=true:=by kernel_rfl
theorem Oq:mG 2 true 300 30=true:=by kernel_rfl
theorem Ot:mG 3 false 300 30=true:=by kernel_rfl
theorem Ou:mG 3 true 300 30=true:=by kernel_rfl
noncomputable def uK(k:Nat):Bool:=[false,true].all λd=>DH k d 300 30&&[false,true].all λb=>F3 k d b 300 30
theorem Tp:uK 1=true:=by kernel_rfl
theorem Tq:uK 2=true:=by kernel_rfl
theorem Ts:uK 3=true:=by kernel_rfl
theorem Ov{k:Nat}{d:Bool}(h1:1<=k)(h3:k<=3):mG k d 300 30=true:=by
 obtain rfl | rfl | rfl:=rZ h1 h3
 all_goals cases d
 .exact Om
 .exact On
 .exact Oo
 .exact Oq
 .exact Ot
 .exact Ou
theorem E6{k:Nat}(h1:1<=k)(h3:k<=3):uK k=true:=by
 obtain rfl | rfl | rfl:=rZ h1 h3
 .exact Tp
 .exact Tq
 .exact Ts
theorem Rc{k:Nat}{d:Bool}(h1:1<=k)(h3:k<=3):DH k d 300 30=true:=by
 have:=List.all_eq_true.mp (E6 h1 h3) d (by cases d<;>simp);simp only[bQ] at this;exact this.1
theorem VH{k:Nat}{d b:Bool}(h1:1<=k)(h3:k<=3):F3 k d b 300 30=true:=by
 have:=List.all_eq_true.mp (E6 h1 h3) d (by cases d<;>simp);simp only[bQ] at this;exact List.all_eq_true.mp this.2 b (by cases b<;>simp)
end
section
def Wd(k:Nat)(d b:Bool)(st:St)(p:Nat):Prop:=∃τ,gi τ (kO k d .any) st/\gi τ (kO k d (eF b)) st/\τ.length=fp k d/\τ[103]?=some p/\∀j∈τ,j<st.n
theorem Wd.keep{k:Nat}{d b:Bool}{st s:St}{p:Nat}(w:Wd k d b st p)(hn:st.n<=s.n)(hg:∀j,j<st.n->s.tr.get j=st.tr.get j):Wd k d b s p:=by
 refine zo w λτ M1 M2 h1 h2 h3=>?_
 obtain go:∀{d6:Tr},gi τ d6 st->gi τ d6 s:=λM=>⟨M.nd,λi j e=>by
  refine aA (M.obj i j e) λoc o a1 a2 a3=>?_
  exact bF oc o a1 (by refine aE (hg j (h3 j (bV e))) ?_;exact a2) a3,M.dom⟩
 exact t4 τ (go M1) (go M2) h1 h2 (λj hj=>bx (h3 j hj) hn)
noncomputable def yC:List V->Option V
 |[v]=>some v
 |_=>none
noncomputable def B5:List V->Option (Nat×List V)
 |v::r=>(vR v).bind λp=>some (p,r)
 |_=>none
theorem gq{α : Type}{b:Bool}{x y z:α}{G:Prop}(h:cond b x y=z)(g:b=true->x=z->G)(k:y=z->G):G:=by
 induction b using Bool.casesOn with
 |true=>exact g rfl h
 |false=>exact k h
theorem pa{α β : Type}{o:Option α}{f:α->Option β}{z:β}{G:Prop}(h:o.bind f=some z)(g:∀a,o=some a->f a=some z->G):G:=by
 induction o using Option.casesOn with
 |none=>exact aP h
 |some a=>exact g a rfl h
theorem Ez{l:List V}{v:V}(h:yC l=some v):l=[v]:=by
 rcases l with _ | ⟨u,_ | _⟩
 .exact aP h
 .exact ay (λv=>[v]) (ag h)
 .exact aP h
theorem Of{l:List V}{q:Nat×List V}(h:B5 l=some q):l=.ref q.1::q.2:=by
 induction l using List.casesOn with
 |nil=>exact aP h
 |cons v r=>exact pa h λp e k=>sb (ag k) (ay (· :: r) (jC e))
noncomputable def vM(d b:Bool)(f:Nat)(r:List V):Option V :=
 bif Nat.beq f 173 then (yC r).bind λv=>(wZ v).bind λh=>some (V.fl (h.map bW))
 else bif cN r then bif Nat.beq f 169 then some (.fl (match b with | true=>[bW 25] | false=>[])) else bif Nat.beq f 168 then some (.fl (match d with | true=>[bW 24] | false=>[])) else none else none
open Classical in
noncomputable def sh(k:Nat)(d b:Bool)(f:Nat)(l:List V)(st:St):Option V :=
 bif Nat.beq f 106 then (yC l).bind λv=>(iJ v).bind λq=>some (V.fl q)
 else bif Nat.beq f 173 || Nat.beq f 169 || Nat.beq f 168 then (B5 l).bind λq=>bif decide (Wd k d b st q.1) then vM d b f q.2 else none else none
noncomputable def aZ(k:Nat)(d b:Bool):cz:=λf l st=>bif !st.hd&&Nat.ble 30 st.dp then sh k d b f l st else none
theorem AG{k:Nat}{d b:Bool}{f:Nat}{l:List V}{st:St}(hh:st.hd=false)(aS:30<=st.dp):aZ k d b f l st=sh k d b f l st:=by
 refine(?_:cond (!st.hd&&Nat.ble 30 st.dp) _ _=_);rw[hh,ir aS];rfl
theorem si{k:Nat}{d b:Bool}{f:Nat}{l:List V}{st:St}(h:sh k d b f l st=none):aZ k d b f l st=none:=by
 refine(?_:cond (!st.hd&&Nat.ble 30 st.dp) (sh k d b f l st) none=_);rw[h];exact Bool.cond_self ..
theorem vO{k:Nat}{d b:Bool}{f p:Nat}{r:List V}{st:St}(hh:st.hd=false)(aS:30<=st.dp)(w:Wd k d b st p)(hf:(Nat.beq f 173 || Nat.beq f 169 || Nat.beq f 168)=true)(h6:Nat.beq f 106=false):aZ k d b f (.ref p::r) st=vM d b f r:=by
 refine aE (AG hh aS) (?_:cond (Nat.beq f 106) _ (cond (Nat.beq f 173 || Nat.beq f 169 || Nat.beq f 168) (cond (@decide (Wd k d b st p) (Classical.propDecidable _)) (vM d b f r) none) none)=_);rw[h6,hf,@decide_eq_true _ (Classical.propDecidable _) w];rfl
theorem Ft{st:St}:gi [] .nil st:=⟨List.nodup_nil,λi j e=>by simp at e,λk oc e=>by cases e⟩
theorem EW{v:V}{l:List V}(h:cV (v::l)=true):bS v=true/\cV l=true:=by
 obtain h:(bS v&&cV l)=true:=h
 simpa only[bQ] using h
theorem pS{a b:Bool}(h:a=true)(k:b=true):(a&&b)=true:=Bool.and_eq_true_iff.mpr ⟨h,k⟩
theorem S'{v:V}{l:List V}(h:cV l=true)(m:v∈l):bS v=true:=by
 induction l with
 |nil=>cases m
 |cons u l ih=>exact(List.mem_cons.mp m).elim (λe=>tb e ((EW h).1)) (ih (EW h).2)
theorem uA(p:List Nat):∀v,bS v=true->bS (rn p v)=true:=by
 induction p with
 |nil=>exact λ_ h=>h
 |cons i p ih=>
  refine λv h=>ih _ (bX (vT v) (λe=>tb e rfl) λl e=>tb e ?_)
  obtain rfl:=gJ e;refine bX (l[i]?) (λe=>?_) λu e=>?_
  .exact (tb e rfl:bS (l[i]?.getD .none)=true)
  .exact (tb e (S' h (bV e)):bS (l[i]?.getD .none)=true)
theorem nQ{τ:List Nat}{p:V}{m:List V}(h:cp τ [p] m):∃u,m=[u]/\bv τ p u:=aA h λu q e a n=>ao u (e.trans (ay (u :: ·) n)) a
theorem pR{τ:List Nat}{p v:V}(h:bv τ (.tup [p]) v):∃u,v=.tup [u]/\bv τ p u:=af h λm e h=>af (nQ h) λu k q=>ao u (e.trans (ay V.tup k)) q
theorem pQ{τ:List Nat}{p v:V}{l:List V}(h:bv τ (.tup (p::l)) v):∃u m,v=.tup (u::m)/\bv τ p u/\cp τ l m:=af h λm e h=>aA h λu q k a n=>bF u q (e.trans (ay V.tup k)) a n
theorem S6{v:V}(h:fits EU v=true):∃y a b,v=.tup [.str [105,102],y,.tup [a],.tup [b]]:=by
 exact aA (pQ (om (τ:=[]) h)) λu0 r0 e0 e1 h=>aA h λu1 r1 e2 Y h=>aA h λu2 r2 e3 h2 h=>af (nQ h) λu3 e4 h3=>af (pR h2) λa e5 Y=>af (pR h3) λb e6 Y=>⟨u1,a,b,by subst e6;subst e5;subst e4;subst e3;subst e2;exact sb e1 e0⟩
theorem S7{v:V}(h:fits EV v=true):∃y a,v=.tup [.str [112,101,114,102,111,114,109],.tup [.str [98,111,100,121],.tup [a]],y]:=by
 exact aA (pQ (om (τ:=[]) h)) λu0 r0 e0 e1 h=>aA h λu1 r1 e2 h1 h=>af (nQ h) λu2 e3 Y=>aA (pQ h1) λu4 r4 e4 e5 h=>af (nQ h) λu5 e6 h=>af (pR h) λa e7 Y=>⟨u2,a,by subst e7;subst e6;subst e4;subst e3;subst e2;exact sb e1 (sb e5 e0)⟩
theorem S3{v:V}(h:fits ET v=true):∃y z a,v=.tup [.str [101,118,97,108,117,97,116,101],y,.tup [.tup [z,.tup [a]]],.tup []]:=by
 exact aA (pQ (om (τ:=[]) h)) λu0 r0 e0 e1 h=>aA h λu1 r1 e2 Y h=>aA h λu2 r2 e3 h2 h=>af (nQ h) λu3 e4 h3=>af (pR h2) λu4 e5 h2=>aA (pQ h2) λu6 r6 e6 Y h=>af (nQ h) λu7 e7 h=>af (pR h) λa e8 Y=>af h3 λm e9 e10=>⟨u1,u6,a,by subst e10;subst e9;subst e8;subst e7;subst e6;subst e5;subst e4;subst e3;subst e2;exact sb e1 e0⟩
theorem EJ{v:V}{ps:List V}(h:iJ v=some ps):bS v=true/\nz ((ac P 0 cg 81).body mx [] [v] (pA 12))=some ps:=by
 refine gq h (λhp h=>⟨hp,(gq h (λe h=>?_) λh=>gq h (λe h=>?_) λh=>gq h (λe h=>?_) λh=>gq h (λe h=>?_) λh=>aP h)⟩) λh=>aP h
 .obtain rfl:=ag h;obtain p1:=uA [2,0] v hp;obtain p2:=uA [3,0] v hp;obtain⟨y,a,b,rfl⟩:=S6 e;exact rq (Sz y a b) (pS p1 (pS p2 rfl))
 .obtain rfl:=ag h;obtain p1:=uA [1,1,0] v hp;obtain⟨y,a,rfl⟩:=S7 e;exact rq (SA y a) (pS p1 rfl)
 .obtain rfl:=ag h;obtain p1:=uA [2,0,1,0] v hp;obtain⟨y,z,a,rfl⟩:=S3 e;exact rq (Sy y z a) (pS p1 rfl)
 .obtain rfl:=ag h;refine af (List.any_eq_true.mp e) λx hx e=>?_
  obtain rfl:=(F9 e).1;exact rq (zI (List.all_eq_true.mp SE v hx)) rfl
theorem uU{X:Sx}{C:bw}{ρ:List Addr}{s:Shared}{st:St}{τ:List Nat}(hP:X.P=P)(hZ:∀lo fin,aU (X.at_ lo fin))(hD:∀lo fin,im (X.at_ lo fin))(I:ai X C ρ st s){d6:Tr}(M:gi τ d6 st)(hh:st.hd=false){dp:Nat}(aS:dp<=st.dp){f N:Nat}{fd:FD}{lc l rl:List V}{vs:List Value}{big:St}(w9:P.fd f=some fd)(cG:f≠36)(hb:big=⟨d6,τ.length,[],[],[],dp,false,τ.length⟩)(ha:cp τ lc l)(hN:∃n,N=n+1)(mN:nz ((ac P 0 cg N).body fd [] lc big)=some rl)(r:aB X s.heap ρ l vs) :
  bl X C ρ s (call (.ref (X.ad f)) vs) (some (.ok (.fl rl) st)):=by
 refine aF hN ?_;rintro n rfl;subst hb;exact Vg hZ hD I M hh aS (tb hP w9) (by refine tb hP ?_;rfl) (by refine tb hP ?_;exact cG) ha (tb hP mN) r
theorem Bw:P.fd 173=some wu:=by kernel_rfl
theorem Bu:P.fd 169=some ww:=by kernel_rfl
theorem Bt:P.fd 168=some wt:=by kernel_rfl
theorem wn:P.fd 106=some mx:=by kernel_rfl
theorem Vf{X:Sx}(hP:X.P=P)(hZ:∀lo fin,aU (X.at_ lo fin))(hD:∀lo fin,im (X.at_ lo fin)){k:Nat}{d b:Bool}(h1:1<=k)(h3:k<=3):vv X (aZ k d b):=by
 intro C ρ s st f l vs r I e rl;refine gq e (λhg E1=>?_) λe=>aP e
 clear e;obtain hh:st.hd=false:=eD (aD hg).1;obtain aS:30<=st.dp:=eM (aD hg).2;refine gq E1 (λhf E2=>?_) λE9=>gq E9 (λY E2=>?_) λe=>aP e
 all_goals clear E1
 .obtain rfl:=bY hf;refine pa E2 λv e1 e2=>pa e2 λps hq e3=>?_
  clear E2 e2;obtain rfl:=Ez e1;obtain rfl:=ag e3;obtain p1:=(EJ hq).1;obtain p2:=(EJ hq).2;exact uU hP hZ hD I (Ft (st:=st)) hh (dp:=12) (au (ce rfl) aS) (big:=pA 12) (N:=81) (lc:=[v]) wn (by decide) rfl (cp.nn (pS p1 rfl)) ⟨80,rfl⟩ p2 rl
 .refine pa E2 λq e1 e2=>gq e2 (λhw e3=>?_) λe=>aP e
  clear E2 e2 E9;obtain⟨p,r⟩:=q;obtain rfl:=Of e1;refine zo (@of_decide_eq_true _ (Classical.propDecidable _) hw) λτ M1 M2 ba hp _=>?_
  have hs:∀u:V,(⟨kO k d u,τ.length,[],[],[],30,false,τ.length⟩:St)=uP k d u 30:=λu=>by exact tb ba rfl
  have xr:bv τ (.ref 103) (.ref p):=by exact ao p rfl hp
  refine gq e3 (λhf e=>?_) λe=>gq e (λhn e=>gq e (λhf e=>?_) λe=>gq e (λhf e=>?_) λe=>aP e) λe=>aP e
  .obtain rfl:=bY hf;clear e3;refine pa e λv e2 e3=>pa e3 λhd hq e4=>?_
   clear e e3;obtain rfl:=ag e4;obtain rfl:=Ez e2;refine af (Option.map_eq_some_iff.mp hq) ?_;rintro q q1 rfl;refine uU (N:=300) hP hZ hD I M1 hh aS Bw (by decide) (hs _).symm (lc:=[.ref 103,q.1]) ?_ ⟨299,rfl⟩ (y0 (List.all_eq_true.mp (Ov (d:=d) h1 h3) q (List.mem_of_find?_eq_some q1))) rl;exact⟨_,_,rfl,xr,_,_,rfl,om (List.find?_some q1 :),rfl⟩
  .obtain rfl:=bY hf;obtain rfl:=cH hn;obtain rfl:=ag e;exact uU (N:=300) hP hZ hD I M2 hh aS Bu (by decide) (hs _).symm (lc:=[.ref 103]) (bF _ _ rfl xr rfl) ⟨299,rfl⟩ (y0 (VH h1 h3)) rl
  .obtain rfl:=bY hf;obtain rfl:=cH hn;obtain rfl:=ag e;exact uU (N:=300) hP hZ hD I M1 hh aS Bt (by decide) (hs _).symm (lc:=[.ref 103]) (bF _ _ rfl xr rfl) ⟨299,rfl⟩ (y0 (Rc h1 h3)) rl
end
section
structure jN(st s:St):Prop where
 loc:s.loc=st.loc
 ae:s.ae=st.ae
 dr:s.dr=st.dr
 dp:s.dp=st.dp
 hd:s.hd=st.hd
 lo:s.lo=st.lo
theorem jN.refl{st:St}:jN st st:=⟨rfl,rfl,rfl,rfl,rfl,rfl⟩
structure Nw(st s:St)(o:O):Prop extends jN st s where
 full:bc s
 n:s.n=st.n+1
 get:∀j,s.tr.get j=if j=st.n then some o else st.tr.get j
structure Pt(st s:St)(a:Nat)(o:O):Prop extends jN st s where
 full:bc s
 n:s.n=st.n
 get:∀j,s.tr.get j=if j=a then some o else st.tr.get j
section
variable {cn:cz}{n:Nat}{st:St}{α : Type}
theorem dZ(f:bc st){l:List V}{Q:V->St->Prop}(hl:l.length<=aK)(h:∀s,Nw st s (.list l)->Q (.ref st.n) s):Ok (cM l) st Q :=
 R4 f hl (h _ ⟨⟨rfl,rfl,rfl,rfl,rfl,rfl⟩,f.new _,rfl,f.DJ _⟩)
theorem qW(f:bc st){o:O}{Q:Nat->St->Prop}(h:∀s,Nw st s o->Q st.n s):Ok (cf o) st Q :=
 D7 f (h _ ⟨⟨rfl,rfl,rfl,rfl,rfl,rfl⟩,f.new _,rfl,f.DJ _⟩)
theorem uB(f:bc st){k:Nat}{o o':O}(e:st.tr.get k=some o'):Pt st {st with tr:=st.tr.put k o} k o:=⟨⟨rfl,rfl,rfl,rfl,rfl,rfl⟩,f.put e,rfl,yK e⟩
theorem S9(f:bc st){k:Nat}{o o':O}{Q:Unit->St->Prop}(e:st.tr.get k=some o')(aQ:st.lo<=k)(h:∀s,Pt st s k o->Q () s):Ok (cW k o) st Q :=
 R6 e aQ (h _ ⟨⟨rfl,rfl,rfl,rfl,rfl,rfl⟩,f.put e,rfl,yK e⟩)
theorem bc.loc'(f:bc st){l:List (Nat×V)}:bc {st with loc:=l}:=⟨f.has,f.lo⟩
theorem bc.any(f:bc st){l:List (Nat×V)}{c:List (Nat×Nat)}{dr:List Ev}{dp:Nat}{hd:Bool}:bc {st with loc:=l,ae:=c,dr:=dr,dp:=dp,hd:=hd}:=⟨f.has,f.lo⟩
theorem Sg{c:E}{b:List S}{c0:Nat}{Q:St->Prop}(J:Nat->St->Prop)(lA:∀k st m,J (k+1) st->c0<=m->Ok (((ac P D cn) m).t c) st λx s1=>x=true/\Ok (((ac P D cn) m).ss b) s1 λf s2=>f=.next/\J k s2)(Oy:∀st m,J 0 st->c0<=m->Ok (((ac P D cn) m).t c) st λx s1=>x=false/\Q s1) :
  ∀(k n:Nat) (st:St),J k st->k+1+c0<=n->Ok (((ac P D cn) n).nE c b) st λf s=>f=.next/\Q s:=by
 intro k
 induction k with
 |zero=>
  intro n st hJ hn
  obtain⟨m,rfl⟩:∃m,n=m+1:=⟨n - 1,by exact sc (au (et (0+1) _) hn)⟩
  refine Ok.bind (x:=((ac P D cn) m).t c) ((Oy st m hJ (ak [_,_] 2 0x18318050000a628820001480009 rfl hn)).mono λx s1 hq=>?_);obtain e:=hq.1;obtain q:=hq.2;subst e
  exact .pure ⟨rfl,q⟩
 |succ k ih=>
  intro n st hJ hn
  obtain⟨m,rfl⟩:∃m,n=m+1:=⟨n - 1,by exact sc (au (au (dw 1 (_+1)) (et _ _)) hn)⟩
  refine Ok.bind (x:=((ac P D cn) m).t c) ((lA k st m hJ (ak [_,_,_] 3 0x60ca2140002992228000528000530 rfl hn)).mono λx s1 hq=>?_);obtain e:=hq.1;obtain q:=hq.2;subst e;refine Ok.bind (x:=((ac P D cn) m).ss b) (q.mono λf s2 hq=>?_);obtain e:=hq.1;obtain wM:=hq.2;subst e;exact ih m s2 wM (ak [_,_,_] 3 0x18324450000a60140002992228000528000530 rfl hn)
theorem DY{f:Nat}{fd:FD}{a:List E}{Q:V->St->Prop}(hg:P.gl f=some (.fn f))(hf:P.fd f=some fd)(h:Ok (((ac P D cn) (n+1)).es a) st λl s1=>∃r,cn f l s1=some r/\Q r s1):Ok (((ac P D cn) (n+2)).e (.call (.ah f) a)) st Q :=
 iH (iI hg (h.mono λl s1 ⟨r,e,q⟩=>yn rfl hf (Sc e q)))
theorem Ea{e:E}{Q:V->St->Prop}(h:Ok (((ac P D cn) n).e e) st λv s1=>∃l,v=.fl l/\bc s1/\l.length<=aK/\∀s,Nw s1 s (.list l.reverse)->Q (.ref s1.n) s):Ok (((ac P D cn) (n+1)).e (.slc e none none true)) st Q:=by
 refine Ok.bind (f:=λx=>ni ((ac P D cn) n).e none>>=λa=>ni ((ac P D cn) n).e none>>=λb=>py x a b true) (h.mono λv s1 hq=>zn hq λl hv f hl k=>?_);subst hv;exact .bind (.pure (.bind (.pure (dm (m:=cM l.reverse) (di (gH hl) rfl) (dZ f (by refine aR List.length_reverse ?_;exact hl) k)))))
theorem xZ{k m:Nat}{xs:List V}{a:List E}{ih:Fs}{i:LM}(hi:tW P m=some i)(g:st.tr.get k=some (.list xs)):DC P ih (.ref k) m a st=some (ih.es a>>=λl=>pk (mS i k l)):=by
 show Option.or ((st.tr.get k).bind λo=>(xX P ih k m a st o).or <| (xY P ih k m a o).or (xW P ih k m a o)) _=_;rw[g];show Option.or (Option.or ((tW P m).bind λi=>some (ih.es a>>=λl=>pk (mS i k l))) _) _=_;rw[hi];rfl
theorem R5{k:Nat}{xs:List V}{v:V}{Q:V->St->Prop}(f:bc st)(g:st.tr.get k=some (.list (xs++[v])))(aQ:st.lo<=k)(hl:(xs++[v]).length<=aK)(h:∀s,Pt st s k (.list xs)->Q v s):Ok (oZ P ((ac P D cn) (n+1)) (.ref k) 2 []) st Q:=by
 refine dm (m:=((ac P D cn) (n+1)).es []>>=λl=>pk (mS .pop k l)) (xZ (i:=.pop) (m:=2) rfl g) (.bind (aT ([]) st rfl (dm (m:=jz k (.list xs) v) (bu g (bu (a:=xs++[v]) rfl (bu (o:=(xs++[v]).getLast?) (f:=λv'=>cond (small (xs++[v]).length&&Nat.ble st.lo k) (some (jz k (.list (xs++[v]).dropLast) v')) none) List.getLast?_concat (di (gN (gH hl) (ir aQ)) (tb List.dropLast_concat rfl))))) ?_)));exact aT v _ rfl (h _ (uB f g))
theorem nb{e:E}{Q:V->St->Prop}(h:Ok (((ac P D cn) (n+1)).e e) st Q):Ok (((ac P D cn) (n+2)).es [e]) st λl s1=>∃v,l=[v]/\Q v s1 :=
 cm (h.mono λv Y q=>da (ao v rfl q))
theorem ul{f:Nat}{fd:FD}{e:E}{Q:V->St->Prop}(hg:P.gl f=some (.fn f))(hf:P.fd f=some fd)(h:Ok (((ac P D cn) (n+1)).e e) st λv s1=>∃r,cn f [v] s1=some r/\Q r s1):Ok (((ac P D cn) (n+3)).e (.call (.ah f) [e])) st Q :=
 DY hg hf ((nb h).mono λl s1 ⟨v,e,r,e2,q⟩=>(ao r (by refine tb e ?_;exact e2) q))
theorem pb{k:Nat}{xs:List V}{e:E}{Q:V->St->Prop}(g0:st.tr.get k=some (.list xs))(h:Ok (((ac P D cn) (n+1)).e e) st λv s1=>bc s1/\s1.lo<=k/\∃ys,s1.tr.get k=some (.list ys)/\ys.length+1<=aK/\∀s,Pt s1 s k (.list (ys++[v]))->Q .none s):Ok (oZ P ((ac P D cn) (n+2)) (.ref k) 0 [e]) st Q:=by
 refine dm (m:=((ac P D cn) (n+2)).es [e]>>=λl=>pk (mS .app k l)) (xZ (i:=.app) (m:=0) rfl g0) (.bind ((nb h).mono λl s1 hq=>?_));obtain⟨v,e,f,aQ,ys,g,hl,q⟩:=hq;subst e;exact dm (m:=jz k (.list (ys++[v])) .none) (bu g (bu (a:=ys) rfl (show cond (small (ys.length+1)&&Nat.ble s1.lo k) (some (jz k (.list (ys++[v])) V.none)) none=_ from di (gN (gH hl) (ir aQ)) rfl))) (aT .none _ rfl (q _ (uB f g)))
theorem D1{k:Nat}{xs:List V}{e:E}{Q:V->St->Prop}(g0:st.tr.get k=some (.list xs))(h:Ok (((ac P D cn) (n+1)).e e) st λv s1=>bc s1/\s1.lo<=k/\∃ys zs,(v=.fl zs\/∃j,v=.ref j/\s1.tr.get j=some (.list zs))/\s1.tr.get k=some (.list ys)/\ys.length+zs.length<=aK/\∀s,Pt s1 s k (.list (ys++zs))->Q .none s):Ok (oZ P ((ac P D cn) (n+2)) (.ref k) 1 [e]) st Q:=by
 refine dm (m:=((ac P D cn) (n+2)).es [e]>>=λl=>pk (mS .ext k l)) (xZ (i:=.ext) (m:=1) rfl g0) (.bind ((nb h).mono λl s1 hq=>?_));obtain⟨v,e,f,aQ,ys,zs,hv,g,hl,q⟩:=hq;subst e;obtain hz:cI s1 v=some zs:=hv.elim (λe=>tb e rfl) λh=>af h λj e gj=>tb e (eT gj)
 exact dm (m:=jz k (.list (ys++zs)) .none) (bu g (bu (a:=ys) rfl (show Option.bind (cI s1 v) (λzs=>cond (small (ys.length+zs.length)&&Nat.ble s1.lo k) (some (jz k (.list (ys++zs)) V.none)) none)=_ from bu hz (di (gN (gH hl) (ir aQ)) rfl)))) (aT .none _ rfl (q _ (uB f g)))
end
end
section
theorem kH:∀p:Pl,p.ok=true->bS (aM p)=true
 |.plain w b,h=>by
  exact(by decide:∀w<10,∀b:Bool,bS (iL w b)=true) w (gm h) b
 |.ite x y,h=>by
  obtain h:=aD (show (x.ok&&y.ok)=true from h);refine(?_:(true&&(bS zw&&((bS (aM x)&&true)&&((bS (aM y)&&true)&&true))))=true)
  rw[kH x h.1,kH y h.2];rfl
 |.perf x,h=>by
  have h:x.ok=true:=h;refine(?_:(true&&((true&&((bS (aM x)&&true)&&true))&&true))=true)
  rw[kH x h];rfl
 |.eval t n x,h=>by
  obtain h:=aD (show (Nat.blt n 4&&x.ok)=true from h);obtain hs:bS (iS n)=true:=(by decide:∀n<4,bS (iS n)=true) n (gm h.1);obtain hr:bS (iP t)=true:=(by decide:∀t:Bool,bS (iP t)=true) t;refine(?_:(true&&((bS (iS n)&&true)&&(((bS (iP t)&&((bS (aM x)&&true)&&true))&&true)&&(true&&true))))=true);rw[hs,hr,kH x h.2];rfl
theorem SG(w:Nat)(b:Bool)(h:w<10):iJ (iL w b)=some []:=by
 obtain e:=(by decide:∀w<10,∀b:Bool,xF (iJ (iL w b))=true) w h b;exact zI e
theorem SD(p:Pl)(h:p.ok=true):iJ (aM p)=some (p.parts.map aM):=by
 cases p with
 |plain w b=>exact SG w b (gm h)
 |ite x y=>unfold iJ;refine tb (kH _ h) ?_;rfl
 |perf x=>unfold iJ;refine tb (kH _ h) ?_;rfl
 |eval t n x=>
  unfold iJ;refine tb (kH _ h) ?_;rcases BF (gm (aD (show (Nat.blt n 4&&x.ok)=true from h)).1) with rfl | rfl | rfl | rfl<;>cases t<;>rfl
theorem Ol(p:Pl)(h:p.ok=true):wZ (aM p)=some p.head:=by
 cases p with
 |plain w b=>exact(by decide:∀w<10,∀b:Bool,wZ (iL w b)=some (kF w b)) w (gm h) b
 |ite x y=>rfl
 |perf x=>rfl
 |eval t n x=>
  rcases BF (gm (aD (show (Nat.blt n 4&&x.ok)=true from h)).1) with rfl | rfl | rfl | rfl<;>cases t<;>rfl
noncomputable def dL(l:List Pl):List Pl:=l.flatMap λq=>q::q.within
theorem vh(p:Pl):p.within=dL p.parts:=by
 cases p<;>simp only[Pl.parts,dL,lY,List.flatMap_nil,lX]<;>rfl
theorem EL{p q:Pl}(h:p.ok=true)(hq:q∈p.parts):q.ok=true:=by
 cases p with
 |plain w b=>cases hq
 |ite x y=>
  obtain h:(x.ok&&y.ok)=true:=h;simp only[bQ] at h;simp only[Pl.parts,ef,er,fF] at hq;rcases hq with rfl | rfl
  .exact h.1
  .exact h.2
 |perf x=>
  simp only[Pl.parts,ef,er,fF] at hq
  subst hq;exact h
 |eval t n x=>
  obtain h:(Nat.blt n 4&&x.ok)=true:=h;simp only[bQ] at h;simp only[Pl.parts,ef,er,fF] at hq;subst hq;exact h.2
theorem EK(p:Pl):p.parts.length<=2:=by cases p<;>simp[Pl.parts]
theorem LD(l:List V):sy l []=some l.isEmpty:=by
 cases l<;>rfl
theorem Bv:P.fd 172=some wv:=by kernel_rfl
section
variable {k:Nat}{d b:Bool}{n:Nat}{st:St}
theorem JV{v:V}(hh:st.hd=false)(aS:30<=st.dp):aZ k d b 106 [v] st=(iJ v).map V.fl:=by
 exact(AG hh aS).trans (by refine(?_:(iJ v).bind _=_);cases iJ v<;>rfl)
theorem JY{p:Pl}:aZ k d b 172 [aM p] st=none:=by
 exact si rfl
structure WJ(bd:St)(dp a1 a2:Nat)(tot:List Pl)(r:Nat)(s:St):Prop where
 full:bc s
 n:bd.n<=s.n
 get:∀j,j<bd.n->s.tr.get j=bd.tr.get j
 lo:s.lo=bd.lo
 hd:s.hd=false
 dr:s.dr=bd.dr
 dp:s.dp=dp
 ae:s.ae=[]
 tS:aw s.loc 72=some (.ref a1)
 oS:aw s.loc 75=some (.ref a2)
 a12:bd.n<=a1/\bd.n<=a2/\a1≠a2/\a1<s.n/\a2<s.n
 work:∃F L:List Pl,s.tr.get a1=some (.list (F.map aM))/\s.tr.get a2=some (.list (L.map aM))/\F++dL L.reverse=tot/\(∀q∈L,q.ok=true)/\r=(dL L.reverse).length
theorem wz(l:List Pl):l.length<=(dL l).length:=by
 induction l with
 |nil=>exact cc _
 |cons q r ih=>simp only[dL,lY,bA,de] at ih ⊢;exact au (dg ih) (au (cb (Nat.add_comm _ 1)) (iY c9 _))
theorem Bz(l m:List Pl):dL (l++m)=dL l++dL m:=by simp[dL]
theorem DI{m:Nat}{x a:Nat}{l:List V}{Q:Bool->St->Prop}(f:bc st)(bJ:a<st.n)(e:aw st.loc x=some (.ref a))(g:st.tr.get a=some (.list l))(h:∀s,Nw st s (.list [])->Q (!l.isEmpty) s):Ok (((ac P D (aZ k d b)) (m+3)).t (.cmp .ne (.loc x) (.list []))) st Q:=by
 refine ut (br e (ib (da (dZ f (by decide) λs N=>?_))));obtain g1:s.tr.get a=some (.list l):=by rw[N.get,aj (bz bJ)];exact g
 obtain g2:s.tr.get st.n=some (.list []):=by rw[N.get,ar rfl]
 exact lJ (bu (bu (eT g1) (bu (eT g2) (LD l))) rfl) (h s N)
theorem VT(f:bc st)(hd':st.hd=false)(aS:31<=st.dp){p:Pl}(hp:p.ok=true)(ba:p.within.length<=1000){m:Nat}(hm:30+p.within.length<=m){Q:V->St->Prop}(h:∀a s,nM st s->st.n<=a->s.tr.get a=some (.list (p.within.map aM))->Q (.ref a) s):Ok (((ac P D (aZ k d b)) m).call (.fn 172) [aM p]) st Q:=by
 obtain⟨m,rfl⟩:∃q,m=q+30:=⟨m - 30,by exact sc (au (et 30 _) hm)⟩
 obtain⟨dp,mF⟩:∃dp,st.dp=dp+1:=⟨st.dp - 1,by exact sc (au (by decide) aS)⟩
 refine D3 JY rfl rfl rfl Bv (uk (bs:=[(60,aM p)]) rfl mF (Ok.eq (y:=((ac P D (aZ k d b)) (m+28)).ss wv.body) (st2:={st with loc:=[(60,aM p)],ae:=[],dp:=dp}) rfl ?_))
 obtain f0:bc {st with loc:=[(60,aM p)],ae:=[],dp:=dp}:=⟨f.has,f.lo⟩
 refine bC (gF (ib (da (dZ f0 (by decide) λs1 N1=>?_))));dsimp only at N1 ⊢;obtain kj:s1.hd=false:=N1.hd.trans hd'
 obtain f1:bc {s1 with loc:=aI s1.loc 72 (.ref st.n)}:=⟨N1.full.has,N1.full.lo⟩
 have Cq:∀{q:Pl},q.ok=true->∀{s:St},s.hd=false->s.dp=dp->aZ k d b 106 [aM q] s=some (.fl (q.parts.map aM)):=λ{q} hq {s} h1 h2=>by
  rw[JV h1 (ak [_,_,_] 3 0x18c60c801e48e321a00014c6018003e9 rfl aS mF h2),SD q hq];rfl
 obtain kl:∀q:Pl,(q.parts.map aM).length<=aK:=λq=>by refine aR (aX _) ?_;exact au (EK q) (by decide)
 refine bC (gF (Ea (ul rfl wn (br (v:=aM p) (by rw[bf,N1.loc];rfl) ⟨_,Cq hp kj N1.dp,_,rfl,f1,kl p,λs3 N3=>?_⟩))));dsimp only at N3 ⊢;obtain dz:s1.n=st.n+1:=N1.n;obtain Cv:s3.n=st.n+2:=by refine aE N3.n ?_;refine(?_:s1.n+1=_);exact zV dz
 obtain hJ0:WJ st dp st.n (st.n+1) p.within p.within.length {s3 with loc:=aI s3.loc 75 (.ref s1.n)}:=by
  refine⟨N3.full.loc',by refine(?_:st.n<=s3.n);exact Ih Cv,λj hj=>?_,N3.lo.trans N1.lo,N3.hd.trans kj,N3.dr.trans N1.dr,N3.dp.trans N1.dp,N3.ae.trans N1.ae,?_,?_,?_,[],p.parts.reverse,?_,?_,?_,λq hq=>EL hp (List.mem_reverse.mp hq),?_⟩
  .refine (?_:s3.tr.get j=_);rw[N3.get,aj (by refine(?_:j≠s1.n);exact Ii dz hj)];rw[N1.get,aj (by refine(?_:j≠st.n);exact bz hj)]
  .refine (?_:aw (aI s3.loc 75 _) 72=_);rw[bf,aj (by decide),N3.loc,bf,ar rfl]
  .refine (?_:aw (aI s3.loc 75 _) 75=_);rw[bf,ar rfl];exact sb dz rfl
  .exact (ak [_,_] 2 0x6210841410000a622844c71a00014c6214000298c43188d00012630 rfl Cv:st.n<=st.n/\st.n<=st.n+1/\st.n≠st.n+1/\st.n<s3.n/\st.n+1<s3.n)
  .refine (?_:s3.tr.get st.n=_);rw[N3.get,aj (by refine(?_:st.n≠s1.n);exact Ij dz)];rw[N1.get,ar rfl];rfl
  .refine (?_:s3.tr.get (st.n+1)=_);rw[N3.get,ar (by refine(?_:st.n+1=s1.n);exact id (bU dz))];exact sb List.map_reverse rfl
  .rw [List.reverse_reverse,vh];rfl
  .rw [List.reverse_reverse,vh]
 refine bC ((Sf (Sg (c0:=12) (Q:=λs=>WJ st dp st.n (st.n+1) p.within 0 s) (WJ st dp st.n (st.n+1) p.within) ?_ ?_ p.within.length _ _ hJ0 (ak [_,_] 2 0x1828006131400189400029805000f26288003c9 rfl hm))).mono λfl s4 q9=>aL q9 λe4 J4=>?_)
 .intro r s m2 J mM
  obtain⟨m2,rfl⟩:∃q,m2=q+12:=⟨m2 - 12,by exact sc mM⟩
  refine jD J.work λF L w1 w2 w3 w4 w5=>fX J.a12 λa1 a2 a3 a4 a5=>?_
  obtain⟨L',q,rfl⟩:∃L' q,L=L'++[q]:=by
   rcases List.eq_nil_or_concat L with rfl | ⟨L',q,e⟩
   .simp [dL] at w5
   .exact kx L' q (by simpa using e)
  have qz:(L'++[q]).length<=1000:=by
   obtain h1:=wz (L'++[q]).reverse;obtain h2:(dL (L'++[q]).reverse).length<=p.within.length:=by refine sb w3 ?_;refine tb bA ?_;exact dw _ _
   obtain h1:=aW h1 List.length_reverse;exact au h1 (au h2 ba)
  have OI:dL (L'++[q]).reverse=q::(q.within++dL L'.reverse):=by simp[dL]
  rw[OI] at w3 w5
  refine DI J.full a5 J.oS w2 λs5 N5=>⟨by simp,?_⟩
  have qQ:∀{j},j<s.n->s5.tr.get j=s.tr.get j:=λ{j} hj=>by rw[N5.get,aj (bz hj)]
  obtain VP:s5.tr.get (st.n+1)=some (.list (L'.map aM++[aM q])):=by rw[qQ a5,w2];simp
  have xm:s5.lo<=st.n:=by refine tb N5.lo ?_;refine tb J.lo ?_;exact f.lo
  refine bC (gF (kB (br (by rw[N5.loc];exact J.oS) (R5 N5.full VP (Nat.le.step xm) (by rw[bA,aX];exact au (show L'.length+1<=1000 by obtain qz:=aW qz bA;exact qz) (by decide)) λs6 P6=>?_))));obtain Gf:s6.tr.get st.n=some (.list (F.map aM)):=by rw[P6.get,aj (bz (dT _)),qQ a4,w1]
  obtain f6:bc {s6 with loc:=aI s6.loc 44 (aM q)}:=P6.full.loc'
  have hF:F.length+1<=1000:=by
   have:=ay List.length w3;simp only[bA,de] at this;exact ak [_,_,_,_] 4 0x18c10fa1280005311c1080005289ca210fa130 rfl ba this
  refine bC (lI (kB (br (v:=.ref st.n) (by rw[bf,aj (by decide),P6.loc,N5.loc];exact J.tS) (pb Gf (br (v:=aM q) (by rw[bf,ar rfl]) ⟨f6,by refine aR P6.lo ?_;exact xm,F.map aM,Gf,by rw[aX];exact au hF (by decide),λs7 P7=>?_⟩)))));have hq:q.ok=true:=w4 q (by simp)
  have Gg:s7.tr.get (st.n+1)=some (.list (L'.map aM)):=by
   rw[P7.get,aj (dU (dT _))];rw[P6.get,ar rfl]
  have tf:s7.n=s.n+1:=by refine aE P7.n ?_;refine tb P6.n ?_;exact sb N5.n rfl
  obtain l7:s7.loc=aI s6.loc 44 (aM q):=P7.loc;refine bC (lI (kB (br (v:=.ref (st.n+1)) (by rw[l7,bf,aj (by decide),P6.loc,N5.loc];exact J.oS) (D1 Gg (Ea (ul rfl wn (br (v:=aM q) (by rw[l7,bf,ar rfl]) ⟨_,Cq hq (P7.hd.trans (P6.hd.trans (N5.hd.trans J.hd))) (P7.dp.trans (P6.dp.trans (N5.dp.trans J.dp))),_,rfl,P7.full,kl q,λs9 N9=>?_⟩)))))));obtain VQ:s9.tr.get (st.n+1)=some (.list (L'.map aM)):=by rw[N9.get,aj (Im a4 tf),Gg]
  refine⟨N9.full,by rw[N9.lo,P7.lo];refine aR P6.lo ?_;exact Nat.le.step xm,L'.map aM,(q.parts.map aM).reverse,.inr ⟨_,rfl,by rw[N9.get,ar rfl]⟩,VQ,?_,λnu gL=>?_⟩
  .have:=EK q;rw[aX,List.length_reverse,aX];simp only[bA,de,iX] at qz;exact au (show L'.length+q.parts.length<=1002 by exact au (Nat.add_le_add (k0 qz) this) (ce rfl)) (by decide)
  refine fE ⟨rfl,?_⟩;obtain O':s9.n=s.n+2:=by rw[N9.n,tf]
  obtain xo:nu.n=s.n+2:=by refine tb gL.n ?_;exact sb O' rfl
  obtain lt10:∀{j},j<s.n->j≠st.n->j≠st.n+1->nu.tr.get j=s.tr.get j:=λ{j} hj h1 h2=>by
   rw[gL.get,aj h2,N9.get,aj (z0 tf hj),P7.get,aj h1];rw[P6.get,aj h2,qQ hj]
  obtain Wr:st.n<=s.n:=J.n;refine⟨gL.full,by exact Io a4 xo,λj hj=>?_,gL.lo.trans (N9.lo.trans (P7.lo.trans (P6.lo.trans (N5.lo.trans J.lo)))),gL.hd.trans (N9.hd.trans (P7.hd.trans (P6.hd.trans (N5.hd.trans J.hd)))),gL.dr.trans (N9.dr.trans (P7.dr.trans (P6.dr.trans (N5.dr.trans J.dr)))),gL.dp.trans (N9.dp.trans (P7.dp.trans (P6.dp.trans (N5.dp.trans J.dp)))),gL.ae.trans (N9.ae.trans (P7.ae.trans (P6.ae.trans (N5.ae.trans J.ae)))),?_,?_,hV a1 a2 a3 (Ip a4 xo) (Iq a4 xo),F++[q],L'++q.parts.reverse,?_,?_,?_,?_,?_⟩
  .refine aE (lt10 (bL hj a4) (bz hj) (dE (iB hj))) ?_;exact J.get j hj
  .rw [gL.loc,N9.loc,l7,bf,aj (by decide),P6.loc,N5.loc];exact J.tS
  .rw [gL.loc,N9.loc,l7,bf,aj (by decide),P6.loc,N5.loc];exact J.oS
  .rw [gL.get,aj (bz (dT _)),N9.get,aj (IT a4 tf),P7.get,ar rfl];simp
  .rw [gL.get,ar rfl];simp
  .have:dL (L'++q.parts.reverse).reverse=q.within++dL L'.reverse:=by rw[List.reverse_append,List.reverse_reverse,Bz,<- vh]
   refine tb this ?_;refine sb w3 ?_;simp
  .intro u hu;refine bR (List.mem_append.mp hu) (λhu=>?_) (λhu=>?_)
   .exact w4 u (by simp[hu])
   .exact EL hq (List.mem_reverse.mp hu)
  .have:dL (L'++q.parts.reverse).reverse=q.within++dL L'.reverse:=by rw[List.reverse_append,List.reverse_reverse,Bz,<- vh]
   refine tb this ?_;simp only[de] at w5;exact ak [_,_] 2 0x187180d0000a628000530 rfl w5
 .intro s m2 J mM
  obtain⟨m2,rfl⟩:∃q,m2=q+12:=⟨m2 - 12,sc mM⟩
  refine jD J.work λF L w1 w2 w3 w4 w5=>fX J.a12 λa1 a2 a3 a4 a5=>?_
  have hL:L=[]:=by
   have:=wz L.reverse;obtain this:=aW this List.length_reverse;exact List.length_eq_zero_iff.mp (ak [_,_] 2 0x18c30001310c223800009 rfl w5 this)
  subst hL
  refine DI J.full a5 J.oS w2 λs5 N5=>⟨rfl,?_⟩
  obtain oF:=N5.n;refine⟨N5.full,by have:=J.n;exact ak [_,_,_] 3 0x18c19406800053190a30 rfl a4 oF,λj hj=>by rw[N5.get,aj (by have:=J.n;exact dE (bL hj a4))];exact J.get j hj,N5.lo.trans J.lo,N5.hd.trans J.hd,N5.dr.trans J.dr,N5.dp.trans J.dp,N5.ae.trans J.ae,by rw[N5.loc];exact J.tS,by rw[N5.loc];exact J.oS,hV a1 a2 a3 (ak [_,_,_] 3 0x18c29406800053190a30 rfl a4 oF) (ak [_,_,_] 3 0x18c29200014c06800053190a30 rfl a4 oF),F,[],by rw[N5.get,aj (bz a4)];exact w1,by rw[N5.get,aj (IU a5)];exact w2,w3,w4,w5⟩
 .subst e4;dsimp only;refine jD J4.work λF L w1 w2 w3 w4 w5=>?_
  obtain hL:L=[]:=by
   have:=wz L.reverse;obtain this:=aW this List.length_reverse;exact List.length_eq_zero_iff.mp (ak [_,_] 2 0x18c30001310c223800009 rfl w5 this)
  subst hL;obtain hF:F=p.within:=by refine ck w3 ?_;simp[dL]
  subst hF;refine bC (ng (br J4.tS (h st.n _ ⟨?_,⟨J4.full.has,J4.full.lo⟩,J4.n,J4.get⟩ (bI _) w1)));have e1:=J4.lo;have e2:=J4.hd;have e3:=J4.dr;have e4:=J4.dp;obtain⟨tr,n4,loc,ae,dr,KO,Oe,lo⟩:=s4;dsimp only at e1 e2 e3 e4;subst e1 e2 e3;exact sb hd' rfl
end
end
section
section
variable {cn:cz}{n:Nat}{st:St}{α : Type}
theorem um{k x c dd:Nat}{es:List (Nat×V)}{v:V}{Q:V->St->Prop}(g1:st.tr.get k=some (.inst c dd))(g2:st.tr.get dd=some (.ns es))(ha:P.at_ c x=true)(hl:aw es x=some v)(h:Q v st):Ok (getAttr P (.ref k) x) st Q:=by
 refine .bind (f:=λcd=>qm P x cd) (.bind (qY g1 (.pure ?_)));unfold qm;exact tb ha (.bind (qY g2 (RZ hl h)))
theorem lK{x:Nat}{v:V}{f:Unit->Mo α}{Q:α->St->Prop}(h:Ok (f ()) {st with loc:=aI st.loc x v} Q):Ok (cr (.loc x) v>>=f) st Q:=.bind (aT () _ rfl h)
theorem D0{elt:E}{t:T}{v:V}{ifs:List E}{acc:Nat}{xs:List V}{c0:Nat}(J:Nat->St->Prop)(qx:∀i st,J i st->gC v i st=some (.ok xs[i]? st))(lA:∀i st m x,J i st->xs[i]?=some x->c0<=m->Ok (cr t x>>=λY=>((ac P D cn) m).ifs ifs) st λb s1=>match b with
   |true=>Ok (((ac P D cn) m).e elt) s1 λy s2=>∃l,s2.tr.get acc=some (.list l)/\s2.lo<=acc/\l.length+1<=aK/\bc s2/\∀s3,Pt s2 s3 acc (.list (l++[y]))->J (i+1) s3
   |false=>J (i+1) s1) :
  ∀(k i n:Nat) (st:St),J i st->xs.length - i=k->i<=xs.length->k+c0+1<=n->Ok (((ac P D cn) n).dy elt [] t v i ifs acc) st λY st'=>J xs.length st':=by
 intro k
 induction k with
 |zero=>
  intro i n st hJ hk hi hn
  obtain⟨m,rfl⟩:∃m,n=m+1:=⟨n - 1,by exact sc (au (dw 1 (0+_)) hn)⟩
  have e:=qx i st hJ;rw[List.getElem?_eq_none (nJ hk)] at e;obtain rfl:i=xs.length:=by exact Nat.le_antisymm hi (nJ hk)
  exact Ok.bind (x:=gC v xs.length) (aT none st e (Ok.pure (a:=()) (Q:=λY st'=>J xs.length st') hJ))
 |succ k ih=>
  intro i n st hJ hk hi hn
  obtain⟨m,rfl⟩:∃m,n=m+1:=⟨n - 1,by exact sc (au (dw 1 (_+1+_)) hn)⟩
  have bJ:i<xs.length:=by exact l5 hk
  obtain e:=qx i st hJ;obtain e:=(dS bJ)▸e;obtain turn:=lA i st m xs[i] hJ (dS bJ) (au c9 (Nat.le_of_succ_le_succ hn));have rest:∀s,J (i+1) s->Ok (((ac P D cn) m).dy elt [] t v (i+1) ifs acc) s λY st'=>J xs.length st':=λs hs=>ih (i+1) m s hs (lb hk) (l5 hk) (ak [_,_,_] 3 0x1832400029446014000299200014a228000530 rfl hn)
  refine Ok.bind (x:=gC v i) (aT (some xs[i]) st e (DW (.bind (turn.mono λb s1 h1=>?_))))
  induction b using Bool.casesOn with
  |false=>exact rest s1 h1
  |true=>
   exact Ok.bind (x:=((ac P D cn) m).e elt>>=λy=>pk (yJ acc y)) (.bind (h1.mono λy s2 hq=>zo hq λl g aQ hl f k=>dm (m:=Fo acc (.list (l++[y]))) (bu g (bu (a:=l) rfl (di (gN (gH hl) (ir aQ)) rfl))) (aT () _ rfl (rest _ (k _ (uB f g))))))
theorem yo{elt it:E}{t:T}{ifs:List E}{Q:V->St->Prop}(h:Ok (((ac P D cn) n).e it) st λv s1=>fh v s1=some (.ok () s1)/\bc s1/\∀s2,Nw s1 s2 (.list [])->Ok (((ac P D cn) n).dy elt [] t v 0 ifs s1.n) {s2 with loc:=[]} λY s3=>Q (.ref s1.n) {s3 with loc:=s1.loc,ae:=s1.ae,dp:=s1.dp,hd:=s1.hd}) :
  Ok (((ac P D cn) (n+1)).e (.comp elt [.mk t it ifs])) st Q:=by
 refine Ok.bind (x:=((ac P D cn) n).e it) (h.mono λv s1 hq=>?_);obtain h1:=hq.1;obtain f:=hq.2.1;obtain k:=hq.2.2;refine Ok.bind (x:=fh v) (aT () s1 h1 (Ok.bind (qW f λs2 N=>ci (k s2 N) λu s3 e q=>aT (.ref s1.n) ({s3 with loc:=s1.loc,ae:=s1.ae,dp:=s1.dp,hd:=s1.hd}) ?_ q)))
 show (match ((ac P D cn) n).dy elt [] t v 0 ifs s1.n {s2 with loc:=[]} with
  |none=>none
  |some (.ok _ st')=>some (a9.ok (V.ref s1.n) {st' with loc:=s2.loc,ae:=s2.ae,dp:=s2.dp,hd:=s2.hd})
  |some (.ex _ _)=>none)=_
 refine tb e ?_;refine sb N.loc ?_;refine sb N.ae ?_;refine sb N.dp ?_;exact sb N.hd rfl
theorem D6{a:Nat}{l:List V}{Q:V->St->Prop}(g:st.tr.get a=some (.list l))(hl:l.length<=aK)(h:Q (.int l.length) st):Ok (sf 0 [.ref a]) st Q :=
 lJ (bu (a:=.ref a) rfl (bu (eT g) (di (gH hl) rfl))) h
theorem Eb{a i:Nat}{l:List V}{v:V}{Q:V->St->Prop}(g:st.tr.get a=some (.list l))(hl:l.length<=aK)(e:l[i]?=some v)(h:Q v st):Ok (pE (.ref a) (.int i)) st Q:=lJ (FG (eT g) hl e) h
theorem R9{a i:Nat}{l:List V}{Q:V->St->Prop}(f:bc st)(g:st.tr.get a=some (.list l))(hl:l.length<=aK)(hi:i<=l.length)(h:∀s,Nw st s (.list (l.take i))->Q (.ref st.n) s):Ok (py (.ref a) none (some (.int i)) false) st Q:=by
 obtain hb:Int.natAbs (i:Int)<=aK:=au (cb (Int.natAbs_natCast i)) (au hi hl)
 obtain e:pY none (some (i:Int)) l=l.take i:=by
  refine(?_:l.take (min i l.length)=_);rw[iZ hi]
 exact dm (m:=cM (pY none (some (i:Int)) l)) (show (Option.bind (sg (some (V.int (i:Int)))) λb=>Option.bind (cI st (.ref a)) λl=>cond (small l.length) (some (cM (pY none b l))) none)=_ from bu (di (gH hb) rfl) (bu (eT g) (di (gH hl) rfl))) (tb e (dZ f (by refine aR fN ?_;exact au (Nat.min_le_right _ _) hl) h))
theorem yU{n:Nat}(h:n<=aK):fh (.bg n) st=some (.ok () st):=by unfold fh rd;rw[show tK (.bg n) st=some () from di (gH h) rfl];rfl
theorem yq{i:Nat}{Q:V->St->Prop}(hi:i<=aK)(h:Q (.bg i) st):Ok (nC 1 [.int i]) st Q:=dm (m:=pure (.bg i)) (show Option.or (cond (small i) (some (pure (V.bg i))) none) _=_ by rw[gH hi];rfl) (.pure h)
theorem D8{a:Nat}{x:V}{l:List V}{b:Bool}{Q:Bool->St->Prop}(g:st.tr.get a=some (.list l))(e:kq x l=some b)(h:Q (!b) st):Ok (mn .jt x (.ref a)) st Q :=
 lJ (bu (show tB st x (.ref a)=some b by refine(?_:(Option.bind (cI st (.ref a)) (λl=>kq x l)).or _=_);rw[eT g];refine(?_:(kq x l).or _=_);rw[e];rfl) rfl) h
theorem RW{c:E}{Q:Bool->St->Prop}(h:Ok (((ac P D cn) (n+1)).t c) st Q):Ok (((ac P D cn) (n+2)).ifs [c]) st Q:=by
 refine Ok.bind (x:=((ac P D cn) (n+1)).t c) (h.mono λb s q=>?_)
 induction b using Bool.casesOn with
 |true=>exact .pure q
 |false=>exact .pure q
theorem RV{Q:Bool->St->Prop}(h:Q true st):Ok (((ac P D cn) (n+1)).ifs []) st Q:=.pure h
theorem R7{o:E}{hi:E}{Q:V->St->Prop}(h:Ok (((ac P D cn) n).e o) st λx s1=>Ok (((ac P D cn) n).e hi) s1 λy s2=>Ok (py x none (some y) false) s2 Q):Ok (((ac P D cn) (n+1)).e (.slc o none (some hi) false)) st Q:=by
 exact Ok.bind (x:=((ac P D cn) n).e o) (h.mono λx s1 h1=>Ok.bind (x:=ni ((ac P D cn) n).e none) (.pure (Ok.bind (x:=ni ((ac P D cn) n).e (some hi)) (.bind (h1.mono λy s2 h2=>.pure h2)))))
theorem pc{x:Nat}{t:Nat}{e:E}{Q:V->St->Prop}(hg:P.gl x=some (.typ t))(h:Ok (((ac P D cn) (n+1)).e e) st λv s1=>Ok (nC t [v]) s1 Q):Ok (((ac P D cn) (n+3)).e (.call (.ah x) [e])) st Q:=by
 refine iH (iI hg ((nb h).mono λl s1 hq=>af hq λv e q=>?_));subst e;exact .pure q
theorem DX{x:Nat}{t:Nat}{e:E}{Q:V->St->Prop}(hg:P.gl x=some (.blt t))(h:Ok (((ac P D cn) (n+1)).e e) st λv s1=>Ok (sf t [v]) s1 Q):Ok (((ac P D cn) (n+3)).e (.call (.ah x) [e])) st Q:=by
 refine iH (iI hg ((nb h).mono λl s1 hq=>af hq λv e q=>?_));subst e;exact .pure q
theorem RN{f:Nat}{fd:FD}{e1 e2:E}{Q:V->St->Prop}(hg:P.gl f=some (.fn f))(hf:P.fd f=some fd)(h:Ok (((ac P D cn) (n+2)).e e1) st λv s1=>Ok (((ac P D cn) (n+1)).e e2) s1 λu s2=>∃r,cn f [v,u] s2=some r/\Q r s2):Ok (((ac P D cn) (n+4)).e (.call (.ah f) [e1,e2])) st Q :=
 DY hg hf (cm (h.mono λv s1 h1=>cm (h1.mono λu s2 q9=>af q9 λr a q=>da (ao r a q))))
theorem DV{j k:Nat}{l m:List V}{Q:V->St->Prop}(f:bc st)(g1:st.tr.get j=some (.list l))(g2:st.tr.get k=some (.list m))(hl:(l++m).length<=aK)(h:∀s,Nw st s (.list (l++m))->Q (.ref st.n) s):Ok (jU .add (.ref j) (.ref k)) st Q :=
 dm (show Aa .add (.ref j) (.ref k) st=some (cM (l++m)) from bu (eT g1) (bu (eT g2) rfl)) (dZ f hl h)
theorem R0{j:Nat}{l:List V}{Q:V->St->Prop}(f:bc st)(g:st.tr.get j=some (.list l))(hl:l.length<=aK)(h:∀s,Nw st s (.list l)->Q (.ref st.n) s):Ok (nC 3 [.ref j]) st Q :=
 dm (show F1 3 [.ref j] st=some (cM l) from by refine(?_:(Option.bind (cI st (.ref j)) (λl=>some (cM l))).or _=_);refine tb (eT g) ?_;rfl) (dZ f hl h)
end
end
section
noncomputable def qe(enc:Nat->V):Bool:=(List.range 26).all λi=>match fo 8 (enc i) with
 |some d=>(List.range 26).all λj=>match fo 8 (enc j) with
  |some e=>PyData.eqv e d==Nat.beq j i
  |none=>false
 |none=>false
theorem Lx:qe bW=true:=by kernel_rfl
theorem Ly:qe a0=true:=by kernel_rfl
theorem v9{enc:Nat->V}(h:qe enc=true){i:Nat}(hi:i<26):∃d,fo 8 (enc i)=some d/\∀j,j<26->∃e,fo 8 (enc j)=some e/\PyData.eqv e d=decide (j=i):=by
 have:=List.all_eq_true.mp h i (List.mem_range.mpr hi)
 cases q:fo 8 (enc i) with
 |none=>obtain this:=q▸this;exact aC this
 |some d=>
  obtain this:=q▸this;refine ao d rfl (λj hj=>?_);have:=List.all_eq_true.mp this j (List.mem_range.mpr hj)
  cases q2:fo 8 (enc j) with
  |none=>obtain this:=q2▸this;exact aC this
  |some e=>
   obtain this:=q2▸this;refine ao e rfl ?_;rw[eq_of_beq this,dh]
theorem Td{enc:Nat->V}(h:qe enc=true):∀{l:List Nat},(∀j∈l,j<26)->∃ds,nq (l.map enc)=some ds/\∀i d,i<26->fo 8 (enc i)=some d->(ds.any λy=>PyData.eqv y d)=l.contains i:=by
 intro x9
 induction x9 with
 |nil=>
  intro Y
  exact(ao ([]) rfl (λi d Y Y=>rfl))
 |cons j l ih=>
  intro hl;refine af (ih λq hq=>hl q (.tail _ hq)) λds h1 h2=>af (v9 h (hl j (.head _))) λe he Y=>ao (e::ds) ?_ (λi d hi hd=>?_)
  .exact (bu he (bu h1 rfl):pn (fo 8) (enc j::l.map enc)=_)
  .refine af (v9 h hi) λd' hd' k=>?_
   rw[hd] at hd';obtain rfl:=ag hd';refine af (k j (hl j (.head _))) λe' he' k'=>?_
   rw[he] at he';obtain rfl:=ag he';rw[List.any_cons,k',h2 i d hi hd,nI]
   have:decide (j=i)=(i==j):=by
    by_cases q:j=i
    .subst q;refine aE (eZ rfl) ?_;exact(ml j).symm
    .refine aE (dJ q) ?_;exact(beq_eq_false_iff_ne.mpr (bO q)).symm
   rw[this]
theorem CL{enc:Nat->V}(h:qe enc=true){i:Nat}{l:List Nat}(hi:i<26)(hl:∀j∈l,j<26):kq (enc i) (l.map enc)=some (l.contains i):=by
 exact af (Td h hl) λds h1 h2=>af (v9 h hi) λd hd Y=>bu hd (bu h1 (ay some (h2 i d hi hd)))
noncomputable def dd:List Nat->List Nat->List Nat
 |acc,[]=>acc
 |acc,x::r=>if acc.contains x then dd acc r else dd (acc++[x]) r
theorem AS:∀{l acc:List Nat} {x:Nat},dd acc (l++[x])=if (dd acc l).contains x then dd acc l else dd acc l++[x]:=by
 intro x9
 induction x9 with
 |nil=>
  intro acc x
  exact rfl
 |cons y l ih=>
  intro acc x;refine(?_:(if acc.contains y then dd acc (l++[x]) else dd (acc++[y]) (l++[x]))=if (if acc.contains y then dd acc l else dd (acc++[y]) l).contains x then (if acc.contains y then dd acc l else dd (acc++[y]) l) else (if acc.contains y then dd acc l else dd (acc++[y]) l)++[x])
  by_cases h:acc.contains y=true
  .simp only[h,if_true];exact ih
  .simp only[h];exact ih
theorem sj:∀{l acc:List Nat} {x:Nat},x∈dd acc l↔x∈acc\/x∈l:=by
 intro x9
 induction x9 with
 |nil=>
  intro acc x
  exact⟨.inl,λh=>h.elim id λk=>nomatch k⟩
 |cons y l ih=>
  intro acc x;refine(?_:x∈(if acc.contains y then dd acc l else dd (acc++[y]) l)↔_)
  by_cases h:acc.contains y=true
  .rw [ar h,ih,ef];obtain hy:y∈acc:=List.contains_iff_mem.mp h;constructor
   .rintro (q | q)
    .exact .inl q
    .exact .inr (.inr q)
   .rintro (q | rfl | q)
    .exact .inl q
    .exact .inl hy
    .exact .inr q
  .rw [aj h,ih,List.mem_append,lZ,ef,or_assoc]
theorem Kv{l:List Nat}{x:Nat}:(dd [] l).contains x=l.contains x:=by
 rw[Bool.eq_iff_iff,List.contains_iff_mem,List.contains_iff_mem,sj];simp
theorem qa:∀{l acc:List Nat},(dd acc l).length<=acc.length+l.length
 |[],acc=>bI _
 |y::l,acc=>by
  refine(?_:(if acc.contains y then dd acc l else dd (acc++[y]) l).length<=_)
  split
  .have:=qa (l:=l) (acc:=acc);exact Nat.le.step this
  .have:=qa (l:=l) (acc:=acc++[y]);simp only[de,bA,iX] at this ⊢;exact ak [_,_,_] 3 0x18284000299460144908000520002630 rfl this
theorem Kw:∀{l acc:List Nat},acc.Nodup->(dd acc l).Nodup:=by
 intro x9
 induction x9 with
 |nil=>
  intro acc h
  exact h
 |cons y l ih=>
  intro acc h;refine(?_:(if acc.contains y then dd acc l else dd (acc++[y]) l).Nodup)
  split
  .exact ih h
  .rename_i q;refine ih (List.nodup_append.mpr (bP h (by simp) (λa ha b hb e=>?_)));rw[lZ] at hb;subst hb;subst e;exact q (List.contains_iff_mem.mpr ha)
noncomputable def c7(p:Pl):List Nat:=(p::p.within).flatMap Pl.head
noncomputable def iO(r:List Pl):List Nat:=r.flatMap c7
theorem Oj:∀w<10,∀b:Bool,(kF w b).all (λi=>Nat.blt i 26)=true:=by decide
theorem yG(w:Nat)(b:Bool):(kE w b).length<=2:=by
 refine bR (Nat.lt_or_ge w 10) (λh=>?_) (λh=>?_)
 .exact (by decide:∀w<10,∀b:Bool,(kE w b).length<=2) w h b
 .refine aF (Nat.exists_eq_add_of_le' h) ?_;rintro k rfl;cases b<;>exact cc _
theorem B9(p:Pl)(h:p.ok=true):∀i∈p.head,i<26:=by
 cases p with
 |plain w b=>exact λi hi=>gm (List.all_eq_true.mp (Oj w (gm h) b) i hi)
 |ite x y=>exact λi hi=>nomatch hi
 |perf x=>exact λi hi=>by rw[List.mem_singleton.mp hi];decide
 |eval t n x=>induction t using Bool.casesOn with
  |true=>exact λi hi=>by rw[List.mem_singleton.mp hi];decide
  |false=>exact λi hi=>nomatch hi
theorem ER(w:Nat)(b:Bool):(w=3/\b=true)\/kF w b=kE w b:=by
 refine bR (Nat.lt_or_ge w 10) (λh=>?_) (λh=>?_)
 .exact (by decide:∀w<10,∀b:Bool,(w=3/\b=true)\/kF w b=kE w b) w h b
 .refine aF (Nat.exists_eq_add_of_le' h) ?_;rintro k rfl;exact .inr (by cases b<;>rfl)
theorem B'(p:Pl):p.head.length<=3:=by
 cases p with
 |plain w b=>
  refine(?_:(kF w b).length<=3);rcases ER w b with ⟨rfl,rfl⟩ | e
  .decide
  .refine tb e ?_;exact Nat.le_succ_of_le (yG w b)
 |ite x y=>exact cc _
 |perf x=>exact dw 1 2
 |eval t n x=>cases t<;>first | exact cc _ | exact dw 1 2
end
section
section
variable {k:Nat}{d b:Bool}{n:Nat}{st:St}
theorem S8(f:bc st){j:Nat}{o o':O}(e:st.tr.get j=some o'):Pt st {st with tr:=st.tr.put j o} j o:=⟨⟨rfl,rfl,rfl,rfl,rfl,rfl⟩,f.put e,rfl,yK e⟩
noncomputable def dD(d:Bool):List Nat:=cond d [24] []
noncomputable def dP(b:Bool):List Nat:=cond b [25] []
theorem JU{p:Nat}(hh:st.hd=false)(aS:30<=st.dp)(w:Wd k d b st p):aZ k d b 168 [.ref p] st=some (.fl ((dD d).map bW)):=(vO hh aS w rfl rfl).trans (by cases d<;>rfl)
theorem JX{p:Nat}(hh:st.hd=false)(aS:30<=st.dp)(w:Wd k d b st p):aZ k d b 169 [.ref p] st=some (.fl ((dP b).map bW)):=(vO hh aS w rfl rfl).trans (by cases b<;>rfl)
theorem JW{p:Nat}{q:Pl}(hh:st.hd=false)(aS:30<=st.dp)(w:Wd k d b st p)(hq:q.ok=true):aZ k d b 173 [.ref p,aM q] st=some (.fl (q.head.map bW)):=(vO hh aS w rfl rfl).trans (ay (λo:Option (List Nat)=>o.bind λh=>some (V.fl (h.map bW))) (Ol q hq))
theorem JT{p:Nat}:aZ k d b 69 [.ref p] st=none:=si rfl
def At(st:St)(j:Nat)(o:O):Prop:=st.tr.get j=some o/\j<st.n
structure pP(st:St)(p:Nat)(rows:List (List Pl)):Prop where
 it:∃(e:Nat) (es:List (Nat×V)) (pr e2:Nat) (es2:List (Nat×V)) (rl:Nat) (as:List Nat),At st p (.inst 66 e)/\At st e (.ns es)/\aw es 147=some (.ref pr)/\At st pr (.inst 67 e2)/\At st e2 (.ns es2)/\aw es2 49=some (.ref rl)/\
  At st rl (.list (as.map V.ref))/\as.length=rows.length/\∀(i:Nat) (a:Nat) (r:List Pl),as[i]?=some a->rows[i]?=some r->∃e es,At st a (.inst 61 e)/\At st e (.ns es)/\aw es 59=some (.tup (r.map aM))
theorem At.keep{st s:St}{j:Nat}{o:O}(h:At st j o)(hn:st.n<=s.n)(hg:∀j,j<st.n->s.tr.get j=st.tr.get j):At s j o:=⟨(hg j h.2).trans h.1,bx h.2 hn⟩
theorem pP.keep{st s:St}{p:Nat}{rows:List (List Pl)}(G:pP st p rows)(hn:st.n<=s.n)(hg:∀j,j<st.n->s.tr.get j=st.tr.get j):pP s p rows:=by
 refine Go G.it ?_;rintro e es pr e2 es2 rl as h1 h2 h3 h4 h5 h6 h7 h8 h9;exact⟨e,es,pr,e2,es2,rl,as,h1.keep hn hg,h2.keep hn hg,h3,h4.keep hn hg,h5.keep hn hg,h6,h7.keep hn hg,h8,λi a r q1 q2=>aA (h9 i a r q1 q2) λe es k1 k2 k3=>bF e es (k1.keep hn hg) (k2.keep hn hg) k3⟩
structure FJ(bd:St)(dp p a:Nat)(F:List Nat)(s:St):Prop where
 full:bc s
 n:bd.n<s.n
 get:∀j,j<bd.n->s.tr.get j=bd.tr.get j
 lo:s.lo=bd.lo
 hd:s.hd=false
 dr:s.dr=bd.dr
 dp:s.dp=dp
 ae:s.ae=[(72,bd.n)]
 iz:aw s.loc 65=some (.ref p)
 work:bd.n<a/\a<s.n/\s.tr.get bd.n=some (.cell (some (.ref a)))/\s.tr.get a=some (.list (F.map bW))
variable {bd s:St}{dp p a:Nat}{F:List Nat}
theorem FJ.nw(J:FJ bd dp p a F s){s':St}{o:O}(N:Nw s s' o):FJ bd dp p a F s':=by
 obtain hn:=N.n;obtain h0:=J.n;have lt:∀{j},j<s.n->s'.tr.get j=s.tr.get j:=λ{j} hj=>by rw[N.get,aj (bz hj)]
 obtain a1:=J.work.1;obtain a2:=J.work.2.1;obtain a3:=J.work.2.2.1;obtain a4:=J.work.2.2.2;exact⟨N.full,by exact nS hn h0,λj hj=>(lt (bL hj h0)).trans (J.get j hj),N.lo.trans J.lo,N.hd.trans J.hd,N.dr.trans J.dr,N.dp.trans J.dp,N.ae.trans J.ae,by refine tb N.loc ?_;exact J.iz,a1,by exact nS hn a2,by refine aE (lt h0) ?_;exact a3,by refine aE (lt a2) ?_;exact a4⟩
theorem FJ.old(J:FJ bd dp p a F s){s':St}(N:nM s s'):FJ bd dp p a F s':=by
 obtain hn:=N.n;obtain h0:=J.n;obtain a1:=J.work.1;obtain a2:=J.work.2.1;obtain a3:=J.work.2.2.1;obtain a4:=J.work.2.2.2;obtain e:=N.eq;exact⟨N.full,by exact bx h0 hn,λj hj=>(N.get j (bL hj h0)).trans (J.get j hj),by rw[e];exact J.lo,by rw[e];exact J.hd,by rw[e];exact J.dr,by rw[e];exact J.dp,by rw[e];exact J.ae,by rw[e];exact J.iz,a1,by exact bx a2 hn,by refine aE (N.get _ h0) ?_;exact a3,by refine aE (N.get _ a2) ?_;exact a4⟩
theorem FJ.set(J:FJ bd dp p a F s){x:Nat}{v:V}(h:x≠65):FJ bd dp p a F {s with loc:=aI s.loc x v} :=
 ⟨J.full.loc',J.n,J.get,J.lo,J.hd,J.dr,J.dp,J.ae,by rw[bf,aj (bO h)];exact J.iz,J.work⟩
theorem FJ.put(J:FJ bd dp p a F s){s':St}{G:List Nat}(N:Pt s s' a (.list (G.map bW))):FJ bd dp p a G s':=by
 obtain hn:=N.n;obtain h0:=J.n
 exact fW J.work λa1 a2 a3 a4=>⟨N.full,by exact r9 hn h0,λj hj=>by rw[N.get,aj (dE (bL hj a1))];exact J.get j hj,N.lo.trans J.lo,N.hd.trans J.hd,N.dr.trans J.dr,N.dp.trans J.dp,N.ae.trans J.ae,by refine tb N.loc ?_;exact J.iz,a1,by exact r9 hn a2,by rw[N.get,aj (bz a1)];exact a3,by rw[N.get,ar rfl]⟩
theorem FJ.wd(J:FJ bd dp p a F s){q:Nat}(w:Wd k d b bd q):Wd k d b s q:=w.keep (cq J.n) J.get
theorem Vv{m:Nat}(J:FJ bd dp p a F s)(aS:30<=dp)(w:Wd k d b bd p){q:Pl}(hq:q.ok=true)(aQ:bd.lo<=bd.n)(hl:F.length+3<=6000) :
  Ok (cr (.loc 60) (aM q)>>=λY=>((ac P D (aZ k d b)) (m+12)).ss [.ex (.meth (.ae 72) 1 [.call (.ah 173) [.loc 65,.loc 60]])]) s λf s'=>f=.next/\FJ bd dp p a (F++q.head) s'/\∀j,j≠a->s'.tr.get j=s.tr.get j:=by
 obtain J1:=J.set (x:=60) (v:=aM q) (by decide);refine lK ?_;obtain a1:=J1.work.1;obtain a2:=J1.work.2.1;obtain a3:=J1.work.2.2.1;obtain a4:=J1.work.2.2.2;refine bC (lI (kB (qX (k:=bd.n) (v:=.ref a) (by refine tb J1.ae ?_;rfl) a3 (D1 a4 (RN rfl Bw (br J1.iz (br (v:=aM q) (by rw[bf,ar rfl]) ⟨_,JW J1.hd (by refine bh J1.dp ?_;exact aS) (J1.wd w) hq,J1.full,by refine aR J1.lo ?_;exact au aQ (cq a1),F.map bW,q.head.map bW,.inl rfl,a4,?_,λs2 P2=>?_⟩)))))))
 .have:=B' q;rw[aX,aX];exact au (show F.length+q.head.length<=6000 by exact au (kZ this _) hl) (by decide)
 .replace P2:=gb▸P2;exact fE (bP rfl (J1.put P2) (λj hj=>by rw[P2.get,aj hj]))
theorem lE{w:Nat}{l:List V}{s:St}(g:s.tr.get w=some (.list l)):sq (.ref w) s=some (.ok false s)/\fh (.ref w) s=some (.ok () s) :=
 ⟨ay (λo:Option O=>some (a9.ok (Option.any List.isEmpty (o.bind oD)) s)) g,by unfold fh rd;rw[show tK (.ref w) s=some () by show (Option.bind (cI s (.ref w)) (λY=>some ())).or _=_;rw[eT g];rfl];rfl⟩
theorem tV{w i:Nat}{l:List V}{s:St}(g:s.tr.get w=some (.list l))(hd:s.hd=false):gC (.ref w) i s=some (.ok l[i]? s):=by
 unfold gC rd;rw[show tL (.ref w) i s=some l[i]? by show (Option.bind (cI s (.ref w)) (λl=>lg s l[i]?)).or _=_;rw[eT g];show (lg s l[i]?).or _=_;unfold lg;rw[hd,Bool.not_false,Bool.or_true];rfl];rfl
theorem RO{e:E}{Q:V->St->Prop}(h:Ok (((ac P D (aZ k d b)) (n+1)).e e) st λv s1=>∃q,v=aM q/\q.ok=true/\q.within.length<=1000/\bc s1/\s1.hd=false/\31<=s1.dp/\30+q.within.length<=n+2/\∀a s2,nM s1 s2->s1.n<=a->s2.tr.get a=some (.list (q.within.map aM))->Q (.ref a) s2):Ok (((ac P D (aZ k d b)) (n+3)).e (.call (.ah 172) [e])) st Q:=by
 refine iH (iI rfl ((nb h).mono λl s1 hq=>?_));obtain⟨v,e,q,hv,h1,h2,f,hh,aS,hn,k⟩:=hq;subst e hv;exact yn rfl Bv (VT f hh aS h1 h2 hn k)
theorem Vu{m:Nat}(J:FJ bd dp p a F s)(aS:31<=dp)(w:Wd k d b bd p){q:Pl}(hq:q.ok=true)(jk:∀u∈q.within,u.ok=true)(hw:q.within.length<=1000)(aQ:bd.lo<=bd.n)(hl:F.length+(c7 q).length+3<=6000) :
  Ok (cr (.loc 170) (aM q)>>=λY=>((ac P D (aZ k d b)) (m+1100)).ss [.fr (.loc 60) (.bin .add (.list [.loc 170]) (.call (.ah 171) [.call (.ah 172) [.loc 170]])) [.ex (.meth (.ae 72) 1 [.call (.ah 173) [.loc 65,.loc 60]])]]) s
   λf s'=>f=.next/\FJ bd dp p a (F++c7 q) s'/\∀j,j<s.n->j≠a->s'.tr.get j=s.tr.get j:=by
 obtain J1:=J.set (x:=170) (v:=aM q) (by decide);refine lK ?_;have C1:aw (aI s.loc 170 (aM q)) 170=some (aM q):=by rw[bf,ar rfl]
 refine bC (pe (iG (ib (cm (br C1 (da (dZ J1.full (by refine(?_:1<=aK);decide) λs2 N2=>?_)))))));obtain J2:=J1.nw N2;refine pc (n:=m+1094) rfl (RO (n:=m+1092) (br (v:=aM q) (by rw[N2.loc];exact C1) (QN q rfl hq hw J2.full J2.hd (by refine bh J2.dp ?_;exact aS) (ak [_,_] 2 0x60a00024a04444c5100079210fa130 rfl hw) (λc s3 O3 hc g3=>?_))));have J3:=J2.old O3;refine R0 J3.full g3 (by refine aR (aX _) ?_;exact au hw (by decide)) λs4 N4=>?_
 obtain J4:=J3.nw N4;obtain cF:s2.n=s.n+1:=N2.n;obtain fA:=O3.n;obtain qC:=N4.n
 have g2:s4.tr.get s.n=some (.list [aM q]):=by
  rw[N4.get,aj (Hz cF fA),O3.get _ (jS cF),N2.get,ar rfl]
 have g4:s4.tr.get s3.n=some (.list (q.within.map aM)):=by rw[N4.get,ar rfl]
 refine DV J4.full g2 g4 (by rw[bA,aX];exact au (kZ hw 1) (by decide)) λs5 N5=>?_
 have J5:=J4.nw N5;obtain oF:=N5.n;have g5:s5.tr.get s4.n=some (.list ((q::q.within).map aM)):=by rw[N5.get,ar rfl];rfl
 obtain qQ:∀j,j<s.n->s5.tr.get j=s.tr.get j:=λj hj=>by
  rw[N5.get,aj (by exact ak [_,_,_,_,_] 5 0x6318c638e741468340002994c3280d0000a630 rfl cF fA qC hj),N4.get,aj (by exact ak [_,_,_,_] 4 0x6318c71ca628cc3280d0000a630 rfl cF fA hj),O3.get _ (by exact nS cF hj),N2.get,aj (by refine(?_:j≠s.n);exact bz hj)]
 obtain h1:=(lE g5).1;obtain h2:=(lE g5).2;have ha:=J.work;refine bP h1 h2 ((pd (xs:=(q::q.within).map aM) (c:=40) (λi s'=>FJ bd dp p a (F++((q::q.within).take i).flatMap Pl.head) s'/\s'.tr.get s4.n=some (.list ((q::q.within).map aM))/\∀j,j<s.n->j≠a->s'.tr.get j=s.tr.get j) (λi s' hJ=>tV hJ.2.1 hJ.1.hd) (λi s' m' x hJ hx hm'=>?_) _ 0 _ s5 (bP (by simpa using J5) g5 (λj hj Y=>qQ j hj)) rfl (cc _) (by rw[aX];exact au (iY hw 42) (au (ce rfl:1042<=1098) c9))).mono λf s6 q9=>fW q9 λe6 J6 Y k6=>?_)
 .obtain ⟨u,hu,rfl⟩:∃u,(q::q.within)[i]?=some u/\x=aM u:=by
   obtain hx:=aW hx fM
   cases e:(q::q.within)[i]? with
   |none=>obtain hx:=e▸hx;exact aP hx
   |some u=>obtain hx:=e▸hx;exact ao u rfl ((ag hx).symm)
  have qB:=bV hu
  have PF:u.ok=true:=by
   rcases List.mem_cons.mp qB with rfl | hu'
   .exact hq
   .exact jk u hu'
  obtain⟨m'',rfl⟩:∃q,m'=q+12:=⟨m' - 12,by exact sc (au (by decide) hm')⟩
  obtain PA:c7 q=((q::q.within).take i).flatMap Pl.head++((q::q.within).drop i).flatMap Pl.head:=by
   unfold c7;rw[<- List.flatMap_append,List.take_append_drop]
  obtain ly:(((q::q.within).take i).flatMap Pl.head).length<=(c7 q).length:=by rw[PA,bA];exact et _ _
  refine(Vv hJ.1 (cq aS) w PF aQ (by refine tb bA ?_;exact au (iY (kZ ly _) 3) hl)).mono λf s7 q9=>d7 q9 λe7 J7 k7=>(QJ e7 ?_ ?_ (λj hj Ci=>(k7 j Ci).trans (hJ.2.2 j hj Ci)))
  .have:(q::q.within).take (i+1)=(q::q.within).take i++[u]:=by rw[jJ,hu];rfl
   rw[this,List.flatMap_append,<- iW]
   simpa using J7
  .refine aE (k7 _ (by have:=ha.2.1;exact HR cF fA qC ha)) ?_;exact hJ.2.1
 .subst e6;rw[aX,ip] at J6;exact fE (bP rfl J6 k6)
end
end
section
section
variable {k:Nat}{d b:Bool}{n:Nat}{st:St}
variable {bd s:St}{dp p a:Nat}{F:List Nat}
structure lW(r:List Pl):Prop where
 ok:∀q∈r,q.ok=true
 inn:∀q∈r,∀u∈q.within,u.ok=true
 few:∀q∈r,q.within.length<=1000
 len:r.length<=10
noncomputable def Ju:List S:=[.fr (.loc 60) (.bin .add (.list [.loc 170]) (.call (.ah 171) [.call (.ah 172) [.loc 170]])) [.ex (.meth (.ae 72) 1 [.call (.ah 173) [.loc 65,.loc 60]])]]
theorem wA{α β : Type}(l:List α)(f:α->List β){i:Nat}{x:α}(h:l[i]?=some x):(l.take (i+1)).flatMap f=(l.take i).flatMap f++f x:=by
 rw[jJ,h];simp
theorem BA{α β : Type}(l:List α)(f:α->List β){i:Nat}{x:α}(h:l[i]?=some x):((l.take i).flatMap f).length+(f x).length<=(l.flatMap f).length:=by
 obtain e:=wA l f h;have:(l.flatMap f)=(l.take (i+1)).flatMap f++(l.drop (i+1)).flatMap f:=by rw[<- List.flatMap_append,List.take_append_drop]
 rw[this,bA,e,bA];exact et (_+_) _
theorem Vt{m:Nat}(J:FJ bd dp p a F s)(aS:31<=dp)(w:Wd k d b bd p){r:List Pl}(hr:lW r)(aQ:bd.lo<=bd.n)(hl:F.length+(iO r).length+3<=6000){q e:Nat}{es:List (Nat×V)}(h1:At bd q (.inst 61 e))(h2:At bd e (.ns es))(h3:aw es 59=some (.tup (r.map aM))) :
  Ok (cr (.loc 150) (.ref q)>>=λY=>((ac P D (aZ k d b)) (m+1200)).ss [.fr (.loc 170) (.attr (.loc 150) 59) Ju]) s λf s'=>f=.next/\FJ bd dp p a (F++iO r) s':=by
 obtain J1:=J.set (x:=150) (v:=.ref q) (by decide);refine lK (bC (pe (uj (br (v:=.ref q) (by rw[bf,ar rfl]) (um (c:=61) (dd:=e) (es:=es) (v:=.tup (r.map aM)) ((J1.get q h1.2).trans h1.1) ((J1.get e h2.2).trans h2.1) rfl h3 (bP rfl rfl ?_))))));refine(pd (xs:=r.map aM) (c:=1100) (λi s'=>FJ bd dp p a (F++(r.take i).flatMap c7) s') (λi s' hJ=>rfl) (λi s' m' x hJ hx hm'=>?_) _ 0 _ _ (by simpa using J1) rfl (cc _) (by rw[aX];have:=hr.len;exact au (iY this 1101) (au (ce rfl:1111<=1198) c9))).mono λf s6 q9=>aL q9 λe6 J6=>?_
 .obtain ⟨u,hu,rfl⟩:∃u,r[i]?=some u/\x=aM u:=by
   obtain hx:=aW hx fM
   cases e:r[i]? with
   |none=>obtain hx:=e▸hx;exact aP hx
   |some u=>obtain hx:=e▸hx;exact ao u rfl ((ag hx).symm)
  obtain hm:=bV hu
  obtain⟨m'',rfl⟩:∃q,m'=q+1100:=⟨m' - 1100,by exact sc hm'⟩
  have hs:=BA r c7 hu;unfold iO at hl
  refine(Vu hJ aS w (hr.ok u hm) (hr.inn u hm) (hr.few u hm) aQ (by rw[bA];exact au (iY (au (cb (Nat.add_assoc _ _ _)) (kZ hs _)) 3) hl)).mono λf s7 q9=>d7 q9 λe7 J7 Y=>⟨e7,?_⟩
  rw[wA r c7 hu,<- iW];exact J7
 .subst e6;rw[aX,ip] at J6;exact fE ⟨rfl,J6⟩
structure CJ(bd:St)(dp a acc:Nat)(F:List Nat)(i:Nat)(s:St):Prop where
 full:bc s
 n:acc<s.n
 get:∀j,j<bd.n->s.tr.get j=bd.tr.get j
 lo:s.lo=bd.lo
 hd:s.hd=false
 dr:s.dr=bd.dr
 dp:s.dp=dp
 ae:s.ae=[(72,bd.n)]
 work:bd.n<a/\a<acc/\s.tr.get bd.n=some (.cell (some (.ref a)))/\s.tr.get a=some (.list (F.map bW))/\s.tr.get acc=some (.list ((dd [] (F.take i)).map bW))
variable {acc i:Nat}
theorem CJ.nw(J:CJ bd dp a acc F i s){s':St}{o:O}(N:Nw s s' o):CJ bd dp a acc F i s':=by
 obtain hn:=N.n;have h0:=J.n;have lt:∀{j},j<s.n->s'.tr.get j=s.tr.get j:=λ{j} hj=>by rw[N.get,aj (bz hj)]
 obtain a1:=J.work.1;obtain a2:=J.work.2.1;obtain a3:=J.work.2.2.1;obtain a4:=J.work.2.2.2.1;obtain a5:=J.work.2.2.2.2;exact⟨N.full,by exact nS hn h0,λj hj=>(lt (bL hj (bL a1 (bL a2 h0)))).trans (J.get j hj),N.lo.trans J.lo,N.hd.trans J.hd,N.dr.trans J.dr,N.dp.trans J.dp,N.ae.trans J.ae,a1,a2,by refine aE (lt (bL a1 (bL a2 h0))) ?_;exact a3,by refine aE (lt (bL a2 h0)) ?_;exact a4,by refine aE (lt h0) ?_;exact a5⟩
theorem CJ.set(J:CJ bd dp a acc F i s){x:Nat}{v:V}:CJ bd dp a acc F i {s with loc:=aI s.loc x v}:=⟨J.full.loc',J.n,J.get,J.lo,J.hd,J.dr,J.dp,J.ae,J.work⟩
theorem yT{N i:Nat}{s:St}(hd:s.hd=false):gC (.bg N) i s=some (.ok ((List.range N).map λ(j:Nat)=>V.int (j:Int))[i]? s):=by
 unfold gC rd
 rw[show tL (.bg N) i s=some ((List.range N).map λ(j:Nat)=>V.int (j:Int))[i]? by
  show lg s (cond (Nat.blt i N) (some (V.int (i:Int))) none)=_;unfold lg;rw[hd,Bool.not_false,Bool.or_true];refine ay some ?_
  by_cases h:i<N
  .rw [fM,List.getElem?_range h];exact di (by rw[iu];exact h) rfl
  .rw [fM,List.getElem?_eq_none (by refine aR eJ ?_;exact Nat.le_of_not_lt h)];exact Aw (Bool.eq_false_iff.mpr λq=>h (gm q))]
 rfl
theorem Kf{m:Nat}(J:CJ bd dp a acc F i s)(aQ:bd.lo<=bd.n)(hF:∀x∈F,x<26)(hl:F.length<=6000){x:Nat}(hx:F[i]?=some x) :
  Ok (cr (.loc 89) (.int (i:Int))>>=λY=>((ac P D (aZ k d b)) (m+12)).ifs [.cmp .jt (.sub (.ae 72) (.loc 89)) (.slc (.ae 72) none (some (.loc 89)) false)]) s λb s1=>match b with
   |true=>Ok (((ac P D (aZ k d b)) (m+12)).e (.sub (.ae 72) (.loc 89))) s1 λy s2=>∃l,s2.tr.get acc=some (.list l)/\s2.lo<=acc/\l.length+1<=aK/\bc s2/\∀s3,Pt s2 s3 acc (.list (l++[y]))->CJ bd dp a acc F (i+1) s3
   |false=>CJ bd dp a acc F (i+1) s1:=by
 obtain J1:=J.set (x:=89) (v:=.int (i:Int));refine lK ?_;have xM:aw (aI s.loc 89 (.int (i:Int))) 89=some (.int (i:Int)):=by rw[bf,ar rfl]
 have hi:i<F.length:=(List.getElem?_eq_some_iff.mp hx).1;have mJ:(F.map bW).length<=aK:=by refine aR (aX _) ?_;exact au hl (by decide)
 have CD:(F.map bW)[i]?=some (bW x):=by rw[fM,hx];rfl
 refine fX J1.work λa1 a2 a3 a4 a5=>?_
 obtain ou:aw s.ae 72=some bd.n:=by rw[J.ae];rfl
 refine RW (ut (yr (qX (v:=.ref a) ou a3 (br xM (Eb a4 mJ CD (R7 (qX (v:=.ref a) ou a3 (br xM (R9 J1.full a4 mJ (by refine bh (aX _) ?_;exact cq hi) λs2 N2=>?_)))))))));have J2:=J1.nw N2;obtain g2:s2.tr.get s.n=some (.list ((F.take i).map bW)):=by rw[N2.get,ar rfl,List.map_take]
 obtain jk:=CL Lx (hF x (bV hx)) (l:=F.take i) λj hj=>hF j (pN hj)
 refine D8 g2 jk ?_;have gX:F.take (i+1)=F.take i++[x]:=by rw[jJ,hx];rfl
 obtain dk:=AS (l:=F.take i) (acc:=[]) (x:=x);obtain dk:=Kv▸dk;obtain b1:=J2.work.1;obtain b2:=J2.work.2.1;obtain b3:=J2.work.2.2.1;obtain b4:=J2.work.2.2.2.1;obtain b5:=J2.work.2.2.2.2
 cases hc:(F.take i).contains x with
 |true=>
  replace dk:=hc▸dk;replace dk:=(ar rfl)▸dk;refine⟨J2.full,J2.n,J2.get,J2.lo,J2.hd,J2.dr,J2.dp,J2.ae,b1,b2,b3,b4,?_⟩
  rw[gX,dk];exact b5
 |false=>
  rw[hc,aj (by decide)] at dk;obtain Qp:aw s2.loc 89=some (.int (i:Int)):=by rw[N2.loc];exact xM
  refine yr (qX (v:=.ref a) (by rw[J2.ae];rfl) b3 (br Qp (Eb b4 mJ CD (t4 _ b5 (by refine aR J2.lo ?_;exact au aQ (cq (bL a1 a2))) ?_ J2.full (λs3 P3=>?_)))))
  .have:=qa (l:=F.take i) (acc:=[]);rw[aX];obtain this:=fN▸this;simp only[iX] at this;exact au (show (dd [] (F.take i)).length+1<=6001 by exact dg (au this (au (cb (jM _)) (au (Nat.min_le_right _ _) hl)))) (by decide)
  .refine ⟨P3.full,by refine bh P3.n ?_;exact J2.n,λj hj=>by rw[P3.get,aj (dE (bL hj (bL a1 a2)))];exact J2.get j hj,P3.lo.trans J2.lo,P3.hd.trans J2.hd,P3.dr.trans J2.dr,P3.dp.trans J2.dp,P3.ae.trans J2.ae,b1,b2,by rw[P3.get,aj (dE (bL a1 a2))];exact b3,by rw[P3.get,aj (bz a2)];exact b4,?_⟩;rw[P3.get,ar rfl,gX,dk,gb];rfl
end
end
section
section
variable {k:Nat}{d b:Bool}{n:Nat}{st:St}
noncomputable def dG(d b:Bool)(rows:List (List Pl)):List Nat:=(dD d++dP b)++rows.flatMap iO
theorem Bx:P.fd 69=some By:=by kernel_rfl
theorem FQ{rows:List (List Pl)}(hr:∀r∈rows,lW r):∀x∈dG d b rows,x<26:=by
 intro x hx;refine bR (List.mem_append.mp hx) (λhx=>?_) (λhx=>?_)
 .refine bR (List.mem_append.mp hx) (λhx=>?_) (λhx=>?_)
  .exact (by cases d<;>decide:∀x∈dD d,x<26) x hx
  .exact (by cases b<;>decide:∀x∈dP b,x<26) x hx
 .refine af (List.mem_flatMap.mp hx) λr hr' hx=>af (List.mem_flatMap.mp hx) λq hq hx=>af (List.mem_flatMap.mp hx) λu hu CB=>?_
  obtain F:=hr r hr';rcases List.mem_cons.mp hu with rfl | hu
  .exact B9 _ (F.ok _ hq) x CB
  .exact B9 u (F.inn q hq u hu) x CB
theorem L4(f:bc st)(hd':st.hd=false)(aS:33<=st.dp){p:Nat}{rows:List (List Pl)}(w:Wd k d b st p)(hp:p<st.n)(G:pP st p rows)(hr:∀r∈rows,lW r)(ba:rows.length<=10)(gB:(dG d b rows).length<=5000){m:Nat}(hm:8000<=m){Q:V->St->Prop}(h:∀a s,nM st s->st.n<=a->a<s.n->s.tr.get a=some (.list ((dd [] (dG d b rows)).map bW))->Q (.ref a) s):Ok (((ac P D (aZ k d b)) m).call (.fn 69) [.ref p]) st Q:=by
 obtain⟨m,rfl⟩:∃q,m=q+8000:=⟨m - 8000,by exact sc hm⟩
 obtain⟨dp,mF⟩:∃dp,st.dp=dp+1:=⟨st.dp - 1,by exact sc (au (by decide) aS)⟩
 obtain aQ:=f.lo;refine D3 JT rfl rfl rfl Bx (uk (bs:=[(65,.ref p)]) rfl mF ?_)
 obtain f0:bc {st with loc:=[],ae:=[],dp:=dp}:=⟨f.has,f.lo⟩
 refine .bind (aT () ({st with loc:=[],ae:=[],dp:=dp}) rfl (.bind (.bind (qW f0 λs1 N1=>.bind (.pure (.pure (.bind (aT () ({s1 with loc:=[],ae:=[(72,st.n)]}) rfl (.bind (aT () ({s1 with loc:=[(65,.ref p)],ae:=[(72,st.n)]}) rfl ?_))))))))))
 obtain f1:bc {s1 with loc:=[(65,.ref p)],ae:=[(72,st.n)]}:=⟨N1.full.has,N1.full.lo⟩
 have kj:s1.hd=false:=N1.hd.trans hd';obtain og:s1.dp=dp:=N1.dp;have tZ:∀j,j<st.n->s1.tr.get j=st.tr.get j:=λj hj=>by rw[N1.get,aj (by refine(?_:j≠st.n);exact bz hj)]
 have dz:s1.n=st.n+1:=N1.n;obtain w1:Wd k d b {s1 with loc:=[(65,.ref p)],ae:=[(72,st.n)]} p:=w.keep (by refine(?_:st.n<=s1.n);exact Il dz) tZ;have g1:s1.tr.get st.n=some (.cell none):=by rw[N1.get,ar rfl]
 refine bC (RK (iG (ul rfl Bt (br (v:=.ref p) rfl (ao _ (JU kj (by show 30<=s1.dp;exact ak [_,_,_] 3 0x18c60c801e48e321a00014c601800429 rfl aS mF og) w1) (ul rfl Bu (br (v:=.ref p) rfl (ao _ (JX kj (by show 30<=s1.dp;exact ak [_,_,_] 3 0x18c60c801e48e321a00014c601800429 rfl aS mF og) w1) ?_))))))));obtain hb:((dD d).map bW++(dP b).map bW)=(dD d++dP b).map bW:=by exact bh gb rfl
 refine(?_:Ok (cM ((dD d).map bW++(dP b).map bW)) _ _);rw[hb];refine dZ f1 (by cases d<;>cases b<;>(show _<=aK;decide)) λs2 N2=>?_
 obtain cF:s2.n=st.n+2:=by refine aE N2.n ?_;refine(?_:s1.n+1=_);exact zV dz
 have oW:∀j,j<s1.n->s2.tr.get j=s1.tr.get j:=λj hj=>by rw[N2.get,aj (by refine(?_:j≠s1.n);exact bz hj)]
 obtain g2:s2.tr.get st.n=some (.cell none):=by refine aE (oW _ (jS dz)) ?_;exact g1
 obtain ls:s2.lo=st.lo:=N2.lo.trans N1.lo;refine hX st.n none (by rw[N2.ae];rfl) g2 (by refine aR ls ?_;exact aQ) ?_;obtain P3:=S8 (o:=.cell (some (.ref s1.n))) N2.full g2;dsimp only
 have J3:FJ st dp p s1.n (dD d++dP b) {s2 with tr:=s2.tr.put st.n (.cell (some (.ref s1.n)))}:=by
  refine⟨P3.full,by refine(?_:st.n<s2.n);exact IG cF,λj hj=>?_,ls,N2.hd.trans kj,N2.dr.trans N1.dr,N2.dp.trans og,N2.ae,by exact tb N2.loc rfl,by exact jS dz,by refine(?_:s1.n<s2.n);exact IQ dz cF,?_,?_⟩
  .rw [P3.get,aj (bz hj),oW j (nS dz hj),tZ j hj]
  .rw [P3.get,ar rfl]
  .rw [P3.get,aj (zW dz),N2.get];exact ar rfl
 generalize ({s2 with tr:=s2.tr.put st.n (.cell (some (.ref s1.n)))}:St)=s3 at J3;refine Go G.it ?_;rintro e es pr e2 es2 rl as h1 h2 h3 h4 h5 h6 h7 h8 h9;have yS:∀{F:List Nat} {s:St},FJ st dp p s1.n F s->s.tr.get rl=some (.list (as.map V.ref)):=λJ=>(J.get rl h7.2).trans h7.1
 obtain i1:=(lE (yS J3)).1;obtain i2:=(lE (yS J3)).2;refine bC (pe (uj (uj (br J3.iz (um ((J3.get p h1.2).trans h1.1) ((J3.get e h2.2).trans h2.1) rfl h3 (um ((J3.get pr h4.2).trans h4.1) ((J3.get e2 h5.2).trans h5.1) rfl h6 (bP i1 i2 ?_)))))));refine(pd (xs:=as.map V.ref) (c:=1200) (λi s'=>FJ st dp p s1.n ((dD d++dP b)++(rows.take i).flatMap iO) s') (λi s' hJ=>tV (yS hJ) hJ.hd) (λi s' m' x hJ hx hm'=>?_) _ 0 _ _ (by simpa using J3) rfl (cc _) (by rw[aX];exact ak [_,_,_ - 0,_] 4 0x18c60a1f3b4cd0000a5025826438442005260520c0004c8200026241c500002641880009 rfl (zs _ 0) ba h8)).mono λfl s4 q9=>aL q9 λe4 J4=>?_
 .obtain ⟨q,hq,rfl⟩:∃u,as[i]?=some u/\x=.ref u:=by
   obtain hx:=aW hx fM
   cases e:as[i]? with
   |none=>obtain hx:=e▸hx;exact aP hx
   |some u=>obtain hx:=e▸hx;exact ao u rfl ((ag hx).symm)
  have hi:i<rows.length:=by refine ck h8 ?_;exact(List.getElem?_eq_some_iff.mp hq).1
  obtain to:rows[i]?=some rows[i]:=dS hi;refine aA (h9 i q rows[i] hq to) λe' es' k1 k2 k3=>?_
  obtain⟨m'',rfl⟩:∃q,m'=q+1200:=⟨m' - 1200,by exact sc hm'⟩
  obtain hs:=BA rows iO to;have ht:=gB;unfold dG at ht;obtain ht:=aW ht bA
  refine(Vt hJ (ak [_,_] 2 0x18c18803e91a00014c601800429 rfl aS mF) w (hr _ (bV to)) aQ (by rw[bA];exact ak [_,_,_,_,_,_] 6 0x18c60aee0940006944d12a853884a2950d11390a30 rfl hi hs ht) k1 k2 k3).mono λf s7 q9=>aL q9 λe7 J7=>⟨e7,?_⟩
  rw[wA rows iO to,<- iW];exact J7
 .subst e4;rw[aX,h8,ip] at J4;change FJ st dp p s1.n (dG d b rows) s4 at J4;dsimp only;obtain hF:∀x∈dG d b rows,x<26:=FQ hr;generalize dG d b rows=F at J4 hF gB h;refine fW J4.work λa1 a2 a3 a4=>?_
  obtain ou:aw s4.ae 72=some st.n:=by rw[J4.ae];rfl
  obtain mJ:(F.map bW).length<=aK:=by refine aR (aX _) ?_;exact au gB (by decide)
  refine bC (ng (yo (pc (n:=m+7990) rfl (DX (n:=m+7988) rfl (qX (v:=.ref s1.n) ou a3 (D6 a4 mJ (yq mJ (bP ?_ J4.full (λs5 N5=>?_)))))))))
  .exact yU mJ
  obtain oF:=N5.n
  obtain C5:CJ st dp s1.n s4.n F 0 {s5 with loc:=[]}:=by
   obtain J5:=J4.nw N5;refine⟨⟨J5.full.has,J5.full.lo⟩,by refine(?_:s4.n<s5.n);exact jS oF,J5.get,J5.lo,J5.hd,J5.dr,J5.dp,J5.ae,a1,a2,J5.work.2.2.1,J5.work.2.2.2,?_⟩;rw[N5.get,ar rfl];rfl
  refine(D0 (xs:=(List.range (F.map bW).length).map λ(j:Nat)=>V.int (j:Int)) (c0:=12) (λi s'=>CJ st dp s1.n s4.n F i s') (λi s' hJ=>yT hJ.hd) (λi s' m' x hJ hx hm'=>?_) _ 0 _ _ C5 rfl (cc _) (by rw[aX,eJ,aX];exact au (iY gB 13) (au (ce rfl:5013<=7993) c9))).mono λY s6 C6=>?_
  .refine aF (List.getElem?_eq_some_iff.mp hx) λhi hx=>?_
   rw[List.getElem_map,List.getElem_range] at hx;subst hx;rw[aX,eJ,aX] at hi
   obtain⟨m'',rfl⟩:∃q,m'=q+12:=⟨m' - 12,by exact sc hm'⟩
   exact Kf hJ aQ hF (ak [_] 1 1741688154278994224 rfl gB) (dS hi)
  .rw [aX,eJ,aX] at C6;obtain c1:=C6.work.1;obtain c2:=C6.work.2.1;obtain c3:=C6.work.2.2.1;obtain c4:=C6.work.2.2.2.1;obtain c5:=C6.work.2.2.2.2;replace c5:=ip▸c5;refine h s4.n _ ⟨?_,⟨C6.full.has,C6.full.lo⟩,?_,C6.get⟩ ?_ C6.n c5
   .obtain q1:=C6.lo;obtain q2:=C6.dr;obtain q3:=J4.hd;obtain⟨tr,n4,loc,ae,dr,KO,Oe,lo⟩:=s6;dsimp only at q1 q2;subst q1 q2;refine tb q3 ?_;exact sb hd' rfl
   .have:=C6.n;exact(ak [_,_,_,_] 4 0x18c60ce229c85280d0000a630 rfl dz a2 this:st.n<=s6.n)
   .exact ak [_,_,_] 3 0x18c19445280d0000a630 rfl dz a2
end
end
section
section
variable (rd:Nat->Nat->Nat)
noncomputable def az(d:Nat):Nat->Pl×Nat:=Nat.rec (λn=>(.plain (rd n 10) (Nat.beq (rd (n+1) 2) 1),n+2)) (λY g n=>cond (Nat.blt (rd n 6) 3) (.plain (rd (n+1) 10) (Nat.beq (rd (n+2) 2) 1),n+3) (cond (Nat.beq (rd n 6) 3) (.ite (g (n+1)).1 (g (g (n+1)).2).1,(g (g (n+1)).2).2)
 (cond (Nat.beq (rd n 6) 4) (.perf (g (n+1)).1,(g (n+1)).2) (.eval (Nat.beq (rd (g (n+1)).2 2) 1) (rd ((g (n+1)).2+1) 4) (g (n+1)).1,(g (n+1)).2+2)))) d
noncomputable def jA(d n:Nat):Ev:=.stat d (aM (az rd d n).1) ((az rd d n).1.due.map a0)
noncomputable def fx(d n:Nat):List Ev:=Nat.rec [.draw 10 (rd n 10),.draw 2 (rd (n+1) 2)] (λd Y=>.draw 6 (rd n 6)::cond (Nat.blt (rd n 6) 3) [.draw 10 (rd (n+1) 10),.draw 2 (rd (n+2) 2)] (jA rd d (n+1) ::
 cond (Nat.beq (rd n 6) 3) [jA rd d (az rd d (n+1)).2] (cond (Nat.beq (rd n 6) 4) [] [.draw 2 (rd (az rd d (n+1)).2 2),.draw 4 (rd ((az rd d (n+1)).2+1) 4)]))) d
noncomputable def ke(d n:Nat):V×List V×Nat:=(aM (az rd d n).1,(az rd d n).1.due.map a0,(az rd d n).2)
variable {rd}
theorem ql{d n:Nat}:az rd (d+1) n=cond (Nat.blt (rd n 6) 3) (.plain (rd (n+1) 10) (Nat.beq (rd (n+2) 2) 1),n+3) (cond (Nat.beq (rd n 6) 3) (.ite (az rd d (n+1)).1 (az rd d (az rd d (n+1)).2).1,(az rd d (az rd d (n+1)).2).2)
 (cond (Nat.beq (rd n 6) 4) (.perf (az rd d (n+1)).1,(az rd d (n+1)).2) (.eval (Nat.beq (rd (az rd d (n+1)).2 2) 1) (rd ((az rd d (n+1)).2+1) 4) (az rd d (n+1)).1,(az rd d (n+1)).2+2))):=rfl
theorem sE{d n:Nat}:fx rd (d+1) n=.draw 6 (rd n 6)::cond (Nat.blt (rd n 6) 3) [.draw 10 (rd (n+1) 10),.draw 2 (rd (n+2) 2)] (jA rd d (n+1) ::
 cond (Nat.beq (rd n 6) 3) [jA rd d (az rd d (n+1)).2] (cond (Nat.beq (rd n 6) 4) [] [.draw 2 (rd (az rd d (n+1)).2 2),.draw 4 (rd ((az rd d (n+1)).2+1) 4)])):=rfl
theorem wE{P:Pl×Nat->Prop}{d n:Nat}(h0:Nat.blt (rd n 6) 3=true->P (.plain (rd (n+1) 10) (Nat.beq (rd (n+2) 2) 1),n+3))(h1:Nat.beq (rd n 6) 3=true->P (.ite (az rd d (n+1)).1 (az rd d (az rd d (n+1)).2).1,(az rd d (az rd d (n+1)).2).2))(h2:Nat.beq (rd n 6) 4=true->P (.perf (az rd d (n+1)).1,(az rd d (n+1)).2))(h3:Nat.beq (rd n 6) 4=false->P (.eval (Nat.beq (rd (az rd d (n+1)).2 2) 1) (rd ((az rd d (n+1)).2+1) 4) (az rd d (n+1)).1,(az rd d (n+1)).2+2)):P (az rd (d+1) n):=by
 refine bh ql ?_
 cases a:Nat.blt (rd n 6) 3 with
 |true=>exact h0 a
 |false=>cases b:Nat.beq (rd n 6) 3 with
  |true=>exact h1 b
  |false=>cases c:Nat.beq (rd n 6) 4 with
   |true=>exact h2 c
   |false=>exact h3 c
theorem sL(h:∀n l,0<l->rd n l<l)(d:Nat):∀n,(az rd d n).1.ok=true:=by
 induction d with
 |zero=>exact λn=>Nat.blt_eq.mpr (h n 10 (by decide))
 |succ d ih=>exact λn=>wE (P:=λp=>p.1.ok=true) (λY=>Nat.blt_eq.mpr (h _ 10 (by decide))) (λY=>gN (ih _) (ih _)) (λY=>ih _) (λY=>gN (Nat.blt_eq.mpr (h _ 4 (by decide))) (ih _))
theorem qd(d:Nat):∀n,(az rd d n).1.due.length<=2 ^ (d+1):=by
 induction d with
 |zero=>exact λn=>yG _ _
 |succ d h1=>
  intro n;have hp:2<=2 ^ (d+1):=Nat.pow_le_pow_right (n:=2) (by decide) (dw 1 d);refine wE (P:=λp=>p.1.due.length<=2 ^ (d+1+1)) (λY=>?_) (λY=>?_) (λY=>?_) (λY=>?_)
  .exact au (yG _ _) (ak [_] 1 0xc1000970000921800049 rfl hp)
  .exact (aR bA (ak [_,_,_] 3 0x31820012e289403190630 rfl (h1 (n+1)) (h1 (az rd d (n+1)).2)):((az rd d (n+1)).1.due++(az rd d (az rd d (n+1)).2).1.due).length<=_)
  .exact ak [_,_] 2 0x31820012e080005310c221800049 rfl hp (h1 (n+1))
  .refine (aR bA ?_:((match Nat.beq (rd (az rd d (n+1)).2 2) 1 with | true=>[21] | false=>[])++(az rd d (n+1)).1.due).length<=_);cases Nat.beq (rd (az rd d (n+1)).2 2) 1
   .exact (jM _).symm▸(ak [_,_] 2 3395294441506352 rfl (h1 (n+1)))
   .exact ak [_,_] 2 0x31820012e088800290c221800049 rfl hp (h1 (n+1))
end
theorem EY(l:List Nat):cV (l.map a0)=true:=by
 induction l with
 |nil=>rfl
 |cons i l ih=>
  refine(?_:(bS (a0 i)&&cV (l.map a0))=true);rw[ih,Bool.and_true];unfold a0
  repeat' split
  all_goals rfl
end
section
noncomputable def Fh(r:Option (a9 V))(v:V)(l:List V):Bool:=match r with
 |some (.ok (.tup [u,.ref k]) st')=>match st'.dr,st'.tr.get k with
  |[],some (.list m)=>vc u v&&rF m l
  |_,_=>false
 |_=>false
noncomputable def nA(e:List Ev)(d:Nat):St:=⟨.nil,0,[],[],e,12+2*d,false,0⟩
noncomputable def ro(D:Nat)(pre:List Ev):Bool:=(List.range 10).all λw=>(List.range 2).all λb=>Fh ((ac P D cg 100).body gS [] [.src,.int D] (nA (pre++[.draw 10 w,.draw 2 b]) D)) (iL w (Nat.beq b 1)) ((kE w (Nat.beq b 1)).map a0)
theorem SS:ro 0 []=true:=by kernel_rfl
theorem SU:((List.range 3).all λx=>ro 1 [.draw 6 x])=true:=by kernel_rfl
theorem SV:((List.range 3).all λx=>ro 2 [.draw 6 x])=true:=by kernel_rfl
def fZ(D:Nat)(e:List Ev)(v:V)(l:List V):Prop:=Ok ((ac P D cg 100).body gS [] [.src,.int D]) (nA e D) λu st'=>∃k,u=.tup [v,.ref k]/\st'.dr=[]/\st'.tr.get k=some (.list l)
set_option tactic.hygienic true in
theorem Nt{D:Nat}{e:List Ev}{v:V}{l:List V}(h:Fh ((ac P D cg 100).body gS [] [.src,.int D] (nA e D)) v l=true):fZ D e v l:=by
 unfold fZ Ok;generalize (ac P D cg 100).body gS [] [.src,.int D] (nA e D)=r at h ⊢;rcases r with _ | ⟨u,s⟩ | ⟨_,_⟩
 .exact aC h
 .cases u<;>try exact aC h
  rename_i l2;rcases l2 with _ | ⟨u,_ | ⟨w,tl⟩⟩<;>try exact aC h
  cases w<;>try exact aC h
  rename_i k;rcases tl with _ | ⟨_,_⟩<;>try exact aC h
  obtain h:(match s.dr,s.tr.get k with | [],some (.list m)=>vc u v&&rF m l | _,_=>false)=true:=h;generalize e1:s.dr=d at h;generalize e3:s.tr.get k=g at h;rcases d with _ | ⟨_,_⟩
  .rcases g with _ | g
   .exact aC h
   .cases g<;>try exact aC h
    refine aL (aD (show (_&&_)=true from h)) λh1 h2=>?_
    refine aL (F9 h1) ?_;rintro rfl Y;refine aL (F8 h2) ?_;rintro rfl Y;exact⟨_,s,rfl,k,rfl,e1,e3⟩
  .exact aC h
 .exact aC h
theorem BN{D w b:Nat}{pre:List Ev}(h:ro D pre=true)(hw:w<10)(hb:b<2):fZ D (pre++[.draw 10 w,.draw 2 b]) (iL w (Nat.beq b 1)) ((kE w (Nat.beq b 1)).map a0) :=
 Nt (List.all_eq_true.mp (List.all_eq_true.mp h w (List.mem_range.mpr hw)) b (List.mem_range.mpr hb))
noncomputable def hO:List S:=gS.body
section
variable {v1 v2:V}{f1 f2:List V}
theorem M0{st:St}{Q:V->St->Prop}{l m:List V}(f:bc st)(h:(l++m).length<=aK)(k:∀s,Nw st s (.list (l++m))->Q (.ref st.n) s):Ok (jU .add (.fl l) (.fl m)) st Q:=dm (m:=cM (l++m)) rfl (dZ f h k)
theorem uH{st:St}{Q:V->St->Prop}{j:Nat}{l m:List V}(f:bc st)(g:st.tr.get j=some (.list l))(h:(l++m).length<=aK)(k:∀s,Nw st s (.list (l++m))->Q (.ref st.n) s):Ok (jU .add (.ref j) (.fl m)) st Q:=dm (m:=cM (l++m)) (bu (eT g) rfl) (dZ f h k)
theorem sK{loc:List (Nat×V)}{ae:List (Nat×Nat)}{dr:List Ev}{dp:Nat}{hd:Bool}:bc ⟨.nil,0,loc,ae,dr,dp,hd,0⟩:=⟨λk h=>absurd h (l8 _),bI _⟩
theorem y4{D n dp:Nat}{e:List Ev}{d:Nat}{Q:V->St->Prop}(aS:12+2*d=dp+1)(h:Ok ((ac P D cg n).ss hO) ⟨.nil,0,[(7,.src),(42,.int d)],[],e,dp,false,0⟩ λf st'=>Q (match f with | .ret v=>v | _=>.none) {st' with loc:=[],ae:=[],dp:=12+2*d}):Ok ((ac P D cg (n+1)).body gS [] [.src,.int d]) (nA e d) Q :=
 uk (bs:=[(7,.src),(42,.int d)]) rfl aS (Ok.eq (y:=(ac P D cg n).ss hO) (st2:=⟨.nil,0,[(7,.src),(42,.int d)],[],e,dp,false,0⟩) rfl h)
noncomputable def nk(f:Nat->Fs):List S->Nat->St->Option St
 |[],_,st=>some st
 |_::_,0,_=>none
 |m::r,n+1,st=>match (f n).s m st with
  |some (.ok .next s1)=>nk f r n s1
  |_=>none
theorem ur{D n:Nat}{suf:List S}{s1:St}{Q:Fl->St->Prop}(h:Ok ((ac P D cg n).ss suf) s1 Q):∀{pre:List S} {st:St},nk (ac P D cg) pre (n+pre.length) st=some s1->Ok ((ac P D cg (n+pre.length)).ss (pre++suf)) st Q:=by
 intro pre
 induction pre with
 |nil=>intro st e;exact tb (ag e) h
 |cons m r ih=>
  intro st e;obtain e:(match (ac P D cg (n+r.length)).s m st with | some (.ok .next s1)=>nk (ac P D cg) r (n+r.length) s1 | _=>none)=some s1:=e;generalize hx:(ac P D cg (n+r.length)).s m st=x at e;rcases x with _ | ⟨_ | _ | _ | _,s2⟩ | _<;>try (cases (show none=some s1 from e);done)
  exact bC (aT .next s2 hx (ih e))
noncomputable abbrev LS(d:Nat)(l:List (Nat×V))(e:List Ev)(dp:Nat):St:=⟨.nil,0,(7,.src)::(42,.int d)::l,[],e,dp,false,0⟩
theorem D4{D n:Nat}{cn:cz}{c:E}{a b:List S}{st s1:St}{Q:Fl->St->Prop}(h:((ac P D cn n).t c) st=some (.ok true s1))(k:Ok ((ac P D cn n).ss a) s1 Q):Ok ((ac P D cn (n+1)).s (.ite c a b)) st Q:=uo (aT true s1 h k)
theorem RY{D n:Nat}{cn:cz}{c a b:E}{st s1:St}{Q:V->St->Prop}(h:((ac P D cn n).t c) st=some (.ok true s1))(k:Ok ((ac P D cn n).e a) s1 Q):Ok ((ac P D cn (n+1)).e (.ite c a b)) st Q:=D5 (aT true s1 h k)
theorem RX{D n:Nat}{cn:cz}{c a b:E}{st s1:St}{Q:V->St->Prop}(h:((ac P D cn n).t c) st=some (.ok false s1))(k:Ok ((ac P D cn n).e b) s1 Q):Ok ((ac P D cn (n+1)).e (.ite c a b)) st Q:=D5 (aT false s1 h k)
noncomputable def vK(k:Nat):List S:=match hO[k]? with
 |some (.ite _ a _)=>a
 |_=>[]
theorem BL{D dp:Nat}{es e2:List Ev}(aS:12+2*D=dp+1)(p:nk (ac P D cg) (hO.take 3) 99 (LS D [] es dp)=some (LS D [(35,.int 3),(44,v1),(45,.fl f1)] e2 dp))(p2:nk (ac P D cg) ((vK 3).take 1) 94 (LS D [(35,.int 3),(44,v1),(45,.fl f1)] e2 dp)=some (LS D [(35,.int 3),(44,v1),(45,.fl f1),(30,v2),(47,.fl f2)] [] dp))(hl:(f1++f2).length<=aK):fZ D es (oO v1 v2) (f1++f2):=by
 refine y4 (n:=99) aS (ur (n:=96) (pre:=hO.take 3) (suf:=hO.drop 3) (bC (D4 (s1:=LS D [(35,.int 3),(44,v1),(45,.fl f1)] e2 dp) (by kernel_rfl) (ur (n:=93) (pre:=(vK 3).take 1) (suf:=(vK 3).drop 1) (bC (ng (pf (cm (aT (oO v1 v2) (LS D [(35,.int 3),(44,v1),(45,.fl f1),(30,v2),(47,.fl f2)] [] dp) (by kernel_rfl) (cm (iG (br rfl (br rfl (M0 sK hl λs N=>da ⟨by refine(?_:2<=aK);decide,?_⟩)))))))))) p2))) p);exact cL 0 rfl N.dr (by refine(?_:s.tr.get 0=_);rw[N.get];exact ar rfl)
theorem BM{D dp:Nat}{es:List Ev}(aS:12+2*D=dp+6)(p:nk (ac P D cg) (hO.take 4) 99 (LS D [] es (dp+5))=some (LS D [(35,.int 4),(44,v1),(45,.fl f1)] [] (dp+5)))(hl:(a0 10::f1).length<=aK):fZ D es (rk v1) (a0 10::f1):=by
 refine y4 (n:=99) aS (ur (n:=95) (pre:=hO.take 4) (suf:=hO.drop 4) (bC (D4 (s1:=LS D [(35,.int 4),(44,v1),(45,.fl f1)] [] (dp+5)) (by kernel_rfl) ?_)) p);exact bC (ng (pf (cm (aT (rk v1) (LS D [(35,.int 4),(44,v1),(45,.fl f1)] [] (dp+5)) (by kernel_rfl) (cm (iG (ib (aT ([a0 10]) (LS D [(35,.int 4),(44,v1),(45,.fl f1)] [] (dp+5)) (by kernel_rfl) (dZ sK (by show 1<=aK;decide) λs N=>br (v:=.fl f1) (by rw[N.loc];rfl) (uH N.full (by rw[N.get];exact ar rfl) hl λs2 N2=>da ⟨by show 2<=aK;decide,(cL s.n rfl (N2.dr.trans N.dr) (by refine(?_:s2.tr.get s.n=_);rw[N2.get];exact ar rfl))⟩))))))))))
theorem sO{D dp n:Nat}{t:Bool}{es:List Ev}(aS:12+2*D=dp+1)(p:nk (ac P D cg) (hO.take 7) 99 (LS D [] es dp)=some (LS D [(35,.int 5),(44,v1),(45,.fl f1),(49,iP t),(50,iS n)] [] dp))(hl:((match t with | true=>[a0 21] | false=>[])++f1).length<=aK):fZ D es (mw t n v1) ((match t with | true=>[a0 21] | false=>[])++f1):=by
 refine y4 (n:=99) aS (ur (n:=92) (pre:=hO.take 7) (suf:=hO.drop 7) ?_ p)
 induction t using Bool.casesOn with
 |false=>
  refine bC (ng (pf (cm (aT (mw false n v1) (LS D [(35,.int 5),(44,v1),(45,.fl f1),(49,iP false),(50,iS n)] [] dp) (by kernel_rfl) (cm (iG (RX (s1:=LS D [(35,.int 5),(44,v1),(45,.fl f1),(49,iP false),(50,iS n)] [] dp) (by kernel_rfl) (ib (aT ([]) (LS D [(35,.int 5),(44,v1),(45,.fl f1),(49,iP false),(50,iS n)] [] dp) (by kernel_rfl) (dZ sK (by show _<=aK;decide) λs N=>br (v:=.fl f1) (by rw[N.loc];rfl) (uH N.full (by rw[N.get];exact ar rfl) hl λs2 N2=>da ⟨by show 2<=aK;decide,?_⟩)))))))))))
  exact cL s.n rfl (N2.dr.trans N.dr) (by refine(?_:s2.tr.get s.n=_);rw[N2.get];exact ar rfl)
 |true=>
  refine bC (ng (pf (cm (aT (mw true n v1) (LS D [(35,.int 5),(44,v1),(45,.fl f1),(49,iP true),(50,iS n)] [] dp) (by kernel_rfl) (cm (iG (RY (s1:=LS D [(35,.int 5),(44,v1),(45,.fl f1),(49,iP true),(50,iS n)] [] dp) (by kernel_rfl) (ib (aT ([a0 21]) (LS D [(35,.int 5),(44,v1),(45,.fl f1),(49,iP true),(50,iS n)] [] dp) (by kernel_rfl) (dZ sK (by show _<=aK;decide) λs N=>br (v:=.fl f1) (by rw[N.loc];rfl) (uH N.full (by rw[N.get];exact ar rfl) hl λs2 N2=>da ⟨by show 2<=aK;decide,?_⟩)))))))))));exact cL s.n rfl (N2.dr.trans N.dr) (by refine(?_:s2.tr.get s.n=_);rw[N2.get];exact ar rfl)
end
end
section
section
variable {rd:Nat->Nat->Nat}
theorem QB{l m:List Nat}(h:l.length+m.length<=1000):(l.map a0++m.map a0).length<=aK:=by
 rw[bA,aX,aX];exact au h (by decide)
theorem sC{d n:Nat}(h:Nat.blt (rd n 6) 3=true):az rd (d+1) n=(.plain (rd (n+1) 10) (Nat.beq (rd (n+2) 2) 1),n+3)/\fx rd (d+1) n=[.draw 6 (rd n 6),.draw 10 (rd (n+1) 10),.draw 2 (rd (n+2) 2)]:=by
 constructor
 .rw [ql,h];rfl
 .rw [sE,h];rfl
theorem wg{d n:Nat}(h:rd n 6=3):az rd (d+1) n=(.ite (az rd d (n+1)).1 (az rd d (az rd d (n+1)).2).1,(az rd d (az rd d (n+1)).2).2)/\fx rd (d+1) n=[.draw 6 3,jA rd d (n+1),jA rd d (az rd d (n+1)).2]:=by
 constructor
 .rw [ql,h];rfl
 .rw [sE,h];rfl
theorem wi{d n:Nat}(h:rd n 6=4):az rd (d+1) n=(.perf (az rd d (n+1)).1,(az rd d (n+1)).2)/\fx rd (d+1) n=[.draw 6 4,jA rd d (n+1)]:=by
 constructor
 .rw [ql,h];rfl
 .rw [sE,h];rfl
theorem sB{d n:Nat}(h:rd n 6=5):az rd (d+1) n=(.eval (Nat.beq (rd (az rd d (n+1)).2 2) 1) (rd ((az rd d (n+1)).2+1) 4) (az rd d (n+1)).1,(az rd d (n+1)).2+2)/\fx rd (d+1) n=[.draw 6 5,jA rd d (n+1),.draw 2 (rd (az rd d (n+1)).2 2),.draw 4 (rd ((az rd d (n+1)).2+1) 4)]:=by
 constructor
 .rw [ql,h];rfl
 .rw [sE,h];rfl
theorem Nr(h:∀n l,0<l->rd n l<l)(d n:Nat)(hd:d<=2):fZ d (fx rd d n) (aM (az rd d n).1) ((az rd d n).1.due.map a0):=by
 have wH:=λn=>h n 10 (by decide)
 have h2:=λn=>h n 2 (by decide)
 obtain h4:=λn=>h n 4 (by decide)
 obtain h6:=h n 6 (by decide)
 have De:∀e n,e<=1->(az rd e n).1.due.length<=4:=λe n he=>by
  have:=qd (rd:=rd) e n
  have:2 ^ (e+1)<=4:=by
   obtain rfl | rfl:e=0\/e=1:=by exact ak [_] 1 0x628c0014c060002601000530 rfl he
   .decide
   .decide
  exact au (‹_›) this
 have more:∀{e:Nat},e<=1->(∀v1 v2 f1 f2,(f1++f2).length<=aK->fZ (e+1) [.draw 6 3,.stat e v1 f1,.stat e v2 f2] (oO v1 v2) (f1++f2))->(∀v1 f1,(a0 10::f1).length<=aK->fZ (e+1) [.draw 6 4,.stat e v1 f1] (rk v1) (a0 10::f1))->
   (∀b n v1 f1,b<2->n<4->((match Nat.beq b 1 with | true=>[a0 21] | false=>[])++f1).length<=aK->fZ (e+1) [.draw 6 5,.stat e v1 f1,.draw 2 b,.draw 4 n] (mw (Nat.beq b 1) n v1) ((match Nat.beq b 1 with | true=>[a0 21] | false=>[])++f1))->
   ((List.range 3).all λx=>ro (e+1) [.draw 6 x])=true->fZ (e+1) (fx rd (e+1) n) (aM (az rd (e+1) n).1) ((az rd (e+1) n).1.due.map a0):=λ{e} he k1 k2 k3 k4=>by
  obtain hl:=De e (n+1) he
  by_cases q:rd n 6<3
  .have hb:Nat.blt (rd n 6) 3=true:=by rw[iu];exact q
   obtain e1:=(sC (d:=e) hb).1;obtain e2:=(sC (d:=e) hb).2;rw[e1,e2];exact BN (pre:=[.draw 6 (rd n 6)]) (List.all_eq_true.mp k4 _ (List.mem_range.mpr q)) (wH (n+1)) (h2 (n+2))
  have:rd n 6=3\/rd n 6=4\/rd n 6=5:=by exact ak [_] 1 0x18c528c0054c060022603000d3031c4001a602001930 rfl h6 q
  refine bR this (λdA=>?_) (λq7=>bR q7 (λdA=>?_) (λdA=>?_))
  .obtain e1:=(wg (d:=e) dA).1;obtain e2:=(wg (d:=e) dA).2;rw[e1,e2];obtain kl:=De e (az rd e (n+1)).2 he;obtain g:=k1 (aM (az rd e (n+1)).1) (aM (az rd e (az rd e (n+1)).2).1) _ _ (QB (l:=(az rd e (n+1)).1.due) (m:=(az rd e (az rd e (n+1)).2).1.due) (au (Nat.add_le_add hl kl) (ce rfl)));exact(bh gb g:fZ (e+1) [.draw 6 3,.stat e (aM (az rd e (n+1)).1) ((az rd e (n+1)).1.due.map a0),.stat e (aM (az rd e (az rd e (n+1)).2).1) ((az rd e (az rd e (n+1)).2).1.due.map a0)] (oO (aM (az rd e (n+1)).1) (aM (az rd e (az rd e (n+1)).2).1)) (((az rd e (n+1)).1.due++(az rd e (az rd e (n+1)).2).1.due).map a0))
  .obtain e1:=(wi (d:=e) dA).1;obtain e2:=(wi (d:=e) dA).2;rw[e1,e2];exact k2 (aM (az rd e (n+1)).1) ((az rd e (n+1)).1.due.map a0) (by rw[de,aX];exact au (show _<=5 by exact dg hl) (by decide))
  .obtain e1:=(sB (d:=e) dA).1;obtain e2:=(sB (d:=e) dA).2;rw[e1,e2]
   obtain g:=k3 (rd (az rd e (n+1)).2 2) (rd ((az rd e (n+1)).2+1) 4) (aM (az rd e (n+1)).1) ((az rd e (n+1)).1.due.map a0) (h2 _) (h4 _) (by
    rw[bA,aX];refine au (show _<=5 from ?_) (by decide)
    cases Nat.beq (rd (az rd e (n+1)).2 2) 1<;>simp<;>(first | exact ak [_] 1 1738392368169619760 rfl hl | exact ak [_] 1 0x182002a510000521001130 rfl hl))
   have e3:((match Nat.beq (rd (az rd e (n+1)).2 2) 1 with | true=>[a0 21] | false=>[])++(az rd e (n+1)).1.due.map a0)=((match Nat.beq (rd (az rd e (n+1)).2 2) 1 with | true=>[21] | false=>[])++(az rd e (n+1)).1.due).map a0:=by
    rw[gb];cases Nat.beq (rd (az rd e (n+1)).2 2) 1<;>rfl
   obtain g:=eU g e3;exact g
 obtain rfl | rfl | rfl:d=0\/d=1\/d=2:=by exact ak [_] 1 0x18a518004980c0014c060002601000930 rfl hd
 .exact BN (pre:=[]) SS (wH n) (h2 (n+1))
 .refine more (e:=0) (by simp +arith) (λv1 v2 f1 f2 hl=>BL (dp:=13) (e2:=[.stat 0 v2 f2]) rfl (by kernel_rfl) (by kernel_rfl) hl) (λv1 f1 hl=>BM (dp:=8) rfl (by kernel_rfl) hl) (λb m v1 f1 hb hm hl=>?_) SU;have e1:b=0\/b=1:=by exact ak [_] 1 0x628c0014c060002602000930 rfl hb
  have e2:m=0\/m=1\/m=2\/m=3:=by exact ak [_] 1 0x6294a3000d3018004980c0014c060002602001130 rfl hm
  rcases e1 with rfl | rfl
  .rcases e2 with rfl | rfl | rfl | rfl<;>exact sO (dp:=13) (t:=false) rfl (by kernel_rfl) hl
  .rcases e2 with rfl | rfl | rfl | rfl<;>exact sO (dp:=13) (t:=true) rfl (by kernel_rfl) hl
 .refine more (e:=1) (dw 1 0) (λv1 v2 f1 f2 hl=>BL (dp:=15) (e2:=[.stat 1 v2 f2]) rfl (by kernel_rfl) (by kernel_rfl) hl) (λv1 f1 hl=>BM (dp:=10) rfl (by kernel_rfl) hl) (λb m v1 f1 hb hm hl=>?_) SV;have e1:b=0\/b=1:=by exact ak [_] 1 0x628c0014c060002602000930 rfl hb
  have e2:m=0\/m=1\/m=2\/m=3:=by exact ak [_] 1 0x6294a3000d3018004980c0014c060002602001130 rfl hm
  rcases e1 with rfl | rfl
  .rcases e2 with rfl | rfl | rfl | rfl<;>exact sO (dp:=15) (t:=false) rfl (by kernel_rfl) hl
  .rcases e2 with rfl | rfl | rfl | rfl<;>exact sO (dp:=15) (t:=true) rfl (by kernel_rfl) hl
end
noncomputable def bj(X:Sx)(n l:Nat):Nat:=(pp X n%(l:Int)).toNat
theorem ru(X:Sx)(n l:Nat)(h:0<l):bj X n l<l:=by
 obtain h1:=Int.emod_nonneg (pp X n) (show (l:Int)≠0 by exact se h);have h2:=Int.emod_lt_of_pos (pp X n) (show (0:Int)<l by exact Ib h);unfold bj;exact zU h h2
theorem rr(X:Sx)(n l:Nat)(h:0<l):pp X n%(l:Int)=(bj X n l:Int):=by
 have h1:=Int.emod_nonneg (pp X n) (show (l:Int)≠0 by exact se h);unfold bj;exact(Int.toNat_of_nonneg h1).symm
theorem Nc{X:Sx}{fin:Nat->Prop}(hg:X.gen=ke (bj X)):∀(d n:Nat),fin (az (bj X) d n).2->dI (X.at_ 0 fin) n (fx (bj X) d n):=by
 have dr:∀{n l:Nat} {r:List Ev},0<l->l<1000000->dI (X.at_ 0 fin) (n+1) r->dI (X.at_ 0 fin) n (.draw l (bj X n l)::r):=λ{n l r} h1 h2 k=>(bP ⟨h1,h2⟩ (rr X n l h1) k)
 have sr:∀{d n:Nat} {r:List Ev},dI (X.at_ 0 fin) (az (bj X) d n).2 r->dI (X.at_ 0 fin) n (jA (bj X) d n::r):=λ{d n r} k=>by
  exact(tb hg (bP rfl rfl k):(X.gen d n).1=_/\(X.gen d n).2.1=_/\dI (X.at_ 0 fin) (X.gen d n).2.2 r)
 intro d
 induction d using Nat.casesOn with
 |zero=>exact λn h=>dr (by decide) (by decide) (dr (by decide) (by decide) h)
 |succ d=>
  intro n h;obtain h6:=ru X n 6 (by decide)
  by_cases q:bj X n 6<3
  .have hb:Nat.blt (bj X n 6) 3=true:=by rw[iu];exact q
   obtain e1:=(sC (rd:=bj X) (d:=d) hb).1;obtain e2:=(sC (rd:=bj X) (d:=d) hb).2;obtain h:=e1▸h;exact bh e2 (dr (by decide) (by decide) (dr (by decide) (by decide) (dr (by decide) (by decide) h)))
  have:bj X n 6=3\/bj X n 6=4\/bj X n 6=5:=by exact ak [_] 1 0x18c528c0054c060022603000d3031c4001a602001930 rfl h6 q
  refine bR this (λdA=>?_) (λq7=>bR q7 (λdA=>?_) (λdA=>?_))
  .refine aL (wg (rd:=bj X) (d:=d) dA) λe1 e2=>?_
   replace h:=e1▸h;rw[e2,<- dA];exact dr (by decide) (by decide) (sr (sr h))
  .refine aL (wi (rd:=bj X) (d:=d) dA) λe1 e2=>?_
   rw[e1] at h;rw[e2,<- dA];exact dr (by decide) (by decide) (sr h)
  .obtain e1:=(sB (rd:=bj X) (d:=d) dA).1;obtain e2:=(sB (rd:=bj X) (d:=d) dA).2;rw[e1] at h;rw[e2,<- dA];exact dr (by decide) (by decide) (sr (dr (by decide) (by decide) (dr (by decide) (by decide) h)))
end
section
section
variable {ρ:List Addr}{s:Shared}{st:St}
theorem L5:P.fd 46=some gS:=by kernel_rfl
theorem UB(hP:X.P=P)(hg:X.gen=ke (bj X))(hZ:∀lo fin,aU (X.at_ lo fin))(hD:∀lo fin,im (X.at_ lo fin)){d:Nat}(hd:d<=2)(hS:∀lo fin,md (X.at_ lo fin) d)(I:ai X C ρ st s)(hh:st.hd=false){v:V}{fs:List V}{r:List Ev}{t:Tok}(eB:st.dr=.stat d v fs::r)(aS:12+2*d<=st.dp):bl X C ρ s (call (.ref (X.ad X.P.ka)) [.ref X.src,.int (Int.ofNat d) t]) (some (.ok (.tup [v,.fl fs]) {st with dr:=r})):=by
 refine af (I.small (Ft (st:=st)) hh (dp:=12+2*d) aS) λn0 hf Ic=>?_
 obtain hf:=eU hf eB;obtain f1:=hf.1;obtain f2:=hf.2.1;obtain f3:=hf.2.2;rw[hg] at f1 f2 f3;replace Ic:=Ic (λn=>n=(az (bj X) d n0).2) (fx (bj X) d n0) (Nc hg d n0 rfl);obtain Z:=hZ 0 λn=>n=(az (bj X) d n0).2
 obtain g:=Nr (ru X) d n0 hd;unfold fZ at g
 obtain⟨M,hM⟩:∃M,100=M+1:=⟨99,rfl⟩
 refine cps λG kG=>?_
 obtain g:=hM▸g;obtain g:=hP▸g;obtain S:=yV Z (hD _ _) (hS _ _) FP M;obtain⟨u,pC,e1,k,rfl,e2,e3⟩:=g;obtain bJ:=λn l h=>ru X n l h
 obtain hv:bS v=true:=by rw[<- f1];exact kH _ (sL bJ d n0)
 obtain Wg:cV fs=true:=by rw[<- f2];exact EY _
 refine aA (Z.fn 46 gS (by refine(?_:X.P.fd 46=_);refine tb hP ?_;exact L5) (by refine(?_:X.P.nest 46=_);refine tb hP ?_;rfl)) λob data g1 g2 g3=>?_
 refine fW (g3 (by refine(?_:(46:Nat)≠X.P.cZ);refine tb hP ?_;decide)) λg3 g4 g5 g6=>?_
 refine kG ?_;obtain OE:X.P.ka=46:=by exact tb hP rfl
 refine tb OE (mc.call λQ E W=>vH (X:=X.at_ 0 λn=>n=(az (bj X) d n0).2) (D:=d) (fd:=gS) (clo:=[]) (l:=[.src,.int d]) Z S tU Ic (Ic.stay _ _ g1) g2 g3 (g4.keeps Ic.stay) (uR Z Ic g5) (λx k q=>nomatch q) ⟨_,_,rfl,rfl,_,_,rfl,⟨t,rfl⟩,rfl⟩ (?_:me _ C _ s ((step (X.at_ 0 λn=>n=(az (bj X) d n0).2).P d (ac (X.at_ 0 λn=>n=(az (bj X) d n0).2).P d cg M)).body gS [] [.src,.int d] (nA (fx (bj X) d n0) d)) Q E));refine ja (show (step (X.at_ 0 λn=>n=(az (bj X) d n0).2).P d (ac (X.at_ 0 λn=>n=(az (bj X) d n0).2).P d cg M)).body gS [] [.src,.int d] (nA (fx (bj X) d n0) d)=some (.ok (.tup [aM (az (bj X) d n0).1,.ref k]) pC) from e1) ?_;intro b ρ' s' A K rb;refine cps λG kG=>?_
 obtain A':=am.forget (τ:=[]) (r:=r) I (λn e=>by refine aR (show n=(az (bj X) d n0).2 from e) ?_;exact f3) e2 A K;obtain⟨a,vs,rfl,ht,x1,w1,rfl,r1,x2,w2,rfl,⟨a2,rfl,hk⟩,rfl⟩:=rb;refine aA (A.inv.obj k a2 hk) λo ob' h1 h2 h3=>?_
 obtain rfl:=ag (aE (bU e3) h1);obtain⟨h5,ws,n,h6,h7,Y⟩:=h3;refine kG ?_
 obtain gW:s.heap.get? a2=none:=by
  refine af A.ext.ex λmore O6 hm=>?_
  have:ρ'=more:=by rw[O6];rfl
  exact hm a2 (by refine nU this ?_;exact bV hk)
 obtain Q9:=(I.get_none gW).1;obtain n1:=(I.get_none gW).2.1;obtain n2:=(I.get_none gW).2.2.1;refine W.now A' ⟨a,_,rfl,ht,x1,_,rfl,?_,_,_,rfl,t5 a2 ws rfl ⟨ob',h2,h5,n,h6⟩ ?_ n1 n2,rfl⟩
 .refine nU f1 ?_;exact(EX (kH _ (sL bJ d n0))).mp r1
 .refine nU f2 ?_;exact(uC (EY _)).mp h7
end
theorem UE:∀(D:Nat),D<=3->∀{X:Sx},X.P=P->X.gen=ke (bj X)->(∀lo fin,aU (X.at_ lo fin))->(∀lo fin,im (X.at_ lo fin))->md X D:=by
 intro D
 induction D with
 |zero=>exact λ_ {X} _ _ _ _=>λY Y h Y Y=>absurd h (l8 _)
 |succ D ih=>
  intro hD X hP hg hZ wL C ρ s st d v fs r t I eB hd aS hh;obtain IH:∀lo fin,md (X.at_ lo fin) D:=λlo fin=>ih (cq hD) (X:=X.at_ lo fin) hP hg (λa b=>hZ a b) (λa b=>wL a b)
  by_cases q:d<D
  .exact ih (cq hD) hP hg hZ wL I eB q aS hh
  .obtain rfl:d=D:=by exact Nat.le_antisymm (jK hd) (Nat.le_of_not_lt q)
   exact UB hP hg hZ wL (jK hD) IH I hh eB aS
end
section
set_option genCtorIdx true in
set_option genInjectivity true in
inductive Fd where | v (y:Nat) | c (u:V) | l
noncomputable def kN:Nat×Fd->S
 |(x,.v y)=>.aY (.loc 175) x (.loc y)
 |(x,.c u)=>.aY (.loc 175) x (.c u)
 |(x,.l)=>.aY (.loc 175) x (.list [])
noncomputable def fill(loc:List (Nat×V)):List (Nat×Fd)->Nat->List (Nat×V)->List (Nat×V)
 |[],_,es=>es
 |(x,.v y)::r,n,es=>fill loc r n (aI es x ((aw loc y).getD .none))
 |(x,.c u)::r,n,es=>fill loc r n (aI es x u)
 |(x,.l)::r,n,es=>fill loc r (n+1) (aI es x (.ref n))
noncomputable def m6:List (Nat×Fd)->Nat
 |[]=>0
 |(_,.l)::r=>m6 r+1
 |_::r=>m6 r
section
variable {cn:cz}{n:Nat}{st:St}{α : Type}
theorem ym{o e:E}{x:Nat}{Q:Fl->St->Prop}(h:Ok (((ac P D cn) n).e e) st λv s1=>Ok (((ac P D cn) n).e o) s1 λov s2=>∃k c dd es,ov=.ref k/\s2.tr.get k=some (.inst c dd)/\s2.tr.get dd=some (.ns es)/\P.at_ c x=true/\es.length*2000<=aK/\s2.lo<=dd/\bc s2/\∀s3,Pt s2 s3 dd (.ns (aI es x v))->Q .next s3):Ok (((ac P D cn) (n+1)).s (.aY o x e)) st Q:=by
 refine Ok.bind (x:=((ac P D cn) n).e e) (h.mono λv s1 h1=>Ok.bind (x:=((ac P D cn) n).e o) (h1.mono λov s2 hq=>?_));refine V2 hq ?_;rintro k c dd es e1 g1 g2 ha hl aQ f q;subst e1;refine Ok.bind (x:=setAttr P (.ref k) x v) (Ok.bind (x:=qo k) (.bind (qY g1 (.pure (Ok.bind (x:=lh k) (.bind (qY g1 (.pure ?_))))))));unfold nv;exact tb ha (.bind (qY g2 (.bind (qZ hl (S9 f g2 aQ λs3 p=>.pure (q s3 p))))))
theorem Fm{x:Nat}{v:V}:∀{es:List (Nat×V)},(aI es x v).length<=es.length+1
 |[]=>bI 1
 |(y,u)::r=>by
  rw[Fk]
  cases Nat.beq y x with
  |true=>exact Nat.le_succ _
  |false=>have:=Fm (x:=x) (v:=v) (es:=r);exact dg this
theorem RS{k c dd:Nat}:∀(l:List (Nat×Fd)) {m:Nat} {st:St} {es:List (Nat×V)},bc st->st.tr.get k=some (.inst c dd)->st.tr.get dd=some (.ns es)->k<st.n->dd<st.n->k≠dd->st.lo<=dd->aw st.loc 175=some (.ref k)->(∀p∈l,P.at_ c p.1=true)->
  (∀x y,(x,Fd.v y)∈l->(aw st.loc y).isSome=true)->es.length+l.length<=40->l.length+6<=m->
  Ok (((ac P D cn) m).ss (l.map kN)) st λf s=>f=.next/\jN st s/\bc s/\s.n=st.n+m6 l/\s.tr.get dd=some (.ns (fill st.loc l st.n es))/\(∀j,st.n<=j->j<s.n->s.tr.get j=some (.list []))/\∀j,j<st.n->j≠dd->s.tr.get j=st.tr.get j:=by
 intro y9
 induction y9 with
 |nil=>
  intro m st es f g1 g2 hk hd qy aQ ln c6 hv hl hm
  obtain⟨m,rfl⟩:∃q,m=q+1:=⟨m - 1,by exact sc (au (dw 1 (_+5)) hm)⟩
  exact fE (oY rfl .refl f rfl g2 (λj h1 h2=>absurd h2 (Nat.not_lt_of_le h1)) (λj Y Y=>rfl))
 |cons p l ih=>
  intro m st es f g1 g2 hk hd qy aQ ln c6 hv hl hm
  obtain⟨m,rfl⟩:∃q,m=q+6:=⟨m - 6,by simp only[de] at hm;exact sc (au (dw 6 (_+1)) hm)⟩
  have eC:es.length*2000<=aK:=by
   have:es.length<=40:=by exact tT hl
   exact au (Nat.mul_le_mul_right 2000 this) (by decide)
  have ba:∀x v,(aI es x v).length+l.length<=40:=λx v=>by have:=Fm (x:=x) (v:=v) (es:=es);simp only[de] at hl;exact ak [_,_,_] 3 0x18c100a1288c8280005309040284a10000a630 rfl hl this
  have go:∀(x:Nat) (v:V) (s3:St),Pt st s3 dd (.ns (aI es x v))->Ok (((ac P D cn) (m+5)).ss (l.map kN)) s3 λf s=>f=.next/\jN st s/\bc s/\s.n=st.n+m6 l/\s.tr.get dd=some (.ns (fill st.loc l st.n (aI es x v)))/\(∀j,st.n<=j->j<s.n->s.tr.get j=some (.list []))/\∀j,j<st.n->j≠dd->s.tr.get j=st.tr.get j:=λx v s3 P3=>by
   have hn:=P3.n;have el:=P3.loc;refine(ih (es:=aI es x v) P3.full (by rw[P3.get,aj qy];exact g1) (by rw[P3.get,ar rfl]) (zY hk hn) (zY hd hn) qy (by refine aR P3.lo ?_;exact aQ) (by refine tb el ?_;exact ln) (λp hp=>c6 p (.tail _ hp)) (λx y dB=>by rw[el];exact hv x y (.tail _ dB)) (ba x v) (by simp only[de] at hm;exact jK hm)).mono λf s hq=>?_
   refine lU hq λa1 a2 a3 a4 a5 a6 a7=>oY a1 ⟨a2.loc.trans P3.loc,a2.ae.trans P3.ae,a2.dr.trans P3.dr,a2.dp.trans P3.dp,a2.hd.trans P3.hd,a2.lo.trans P3.lo⟩ a3 (I3 hn hq) (by rw[a5,el,hn]) (λj h1 h2=>a6 j (I4 hn h1) h2) (λj h1 h2=>?_)
   rw[a7 j (r9 hn h1) h2,P3.get,aj h2]
  obtain⟨x,fd⟩:=p;have wS:=c6 _ (List.mem_cons_self ..)
  cases fd with
  |v y=>
   have hy:=hv x y (.head _);refine aF (Option.isSome_iff_exists.mp hy) λu hu=>bC (ym (br hu (br ln (xU k c dd es rfl g1 g2 wS eC aQ f (λs3 P3=>?_)))))
   have:=go x u s3 P3;refine this.mono λf s q9=>lU q9 λa1 a2 a3 a4 a5 a6 a7=>oY a1 a2 a3 a4 (?_:_=some (O.ns (fill st.loc l st.n (aI es x ((aw st.loc y).getD .none))))) a6 a7
   refine tb hu ?_;exact a5
  |c u=>exact bC (ym (fU (br ln (xU k c dd es rfl g1 g2 wS eC aQ f (λs3 P3=>go x u s3 P3)))))
  |l=>
   refine bC (ym (ib (da (dZ f (by decide) λs2 N2=>?_))));have cF:=N2.n;have lt:∀{j},j<st.n->s2.tr.get j=st.tr.get j:=λ{j} hj=>by rw[N2.get,aj (bz hj)]
   have qk:=(lt hk).trans g1;have Nf:=(lt hd).trans g2;refine br (by refine tb N2.loc ?_;exact ln) (xU k c dd es rfl qk Nf wS eC (by refine aR N2.lo ?_;exact aQ) N2.full (λs3 P3=>?_));have hn:=P3.n;have el:s3.loc=st.loc:=P3.loc.trans N2.loc;refine(ih (es:=aI es x (.ref st.n)) P3.full (by rw[P3.get,aj qy];exact qk) (by rw[P3.get,ar rfl]) (by exact ak [_,_,_,_] 4 0x18c614e0394c6800053190a30 rfl hk cF hn) (by exact ak [_,_,_,_] 4 0x18c614e0394c6800053190a30 rfl hd cF hn) qy (by refine tb P3.lo ?_;refine tb N2.lo ?_;exact aQ) (by refine tb el ?_;exact ln) (λp hp=>c6 p (.tail _ hp)) (λx y dB=>by rw[el];exact hv x y (.tail _ dB)) (ba x _) (by simp only[de] at hm;exact jK hm)).mono λf s hq=>?_
   refine lU hq λa1 a2 a3 a4 a5 a6 a7=>?_
   refine oY a1 ⟨a2.loc.trans el,a2.ae.trans (P3.ae.trans N2.ae),a2.dr.trans (P3.dr.trans N2.dr),a2.dp.trans (P3.dp.trans N2.dp),a2.hd.trans (P3.hd.trans N2.hd),a2.lo.trans (P3.lo.trans N2.lo)⟩ a3 (by refine(?_:s.n=st.n+(m6 l+1));exact I5 cF hn hq) ?_ (λj h1 h2=>?_) (λj h1 h2=>?_)
   .refine (?_:_=some (O.ns (fill st.loc l (st.n+1) (aI es x (.ref st.n)))));rw[a5,el,hn,cF]
   .by_cases q:j=st.n
    .subst q;rw[a7 _ (I6 cF hn) (dU hd),P3.get,aj (dU hd),N2.get,ar rfl]
    .exact a6 j (ak [_,_,_,_] 4 0x6318c19c8c71c6619c47090d0000a630 rfl cF hn h1 q) h2
   .rw [a7 j (ak [_,_,_,_] 4 0x18c614a628cc7090d0000a630 rfl cF hn h1) h2,P3.get,aj h2,lt h1]
end
end
section
section
variable {cn:cz}{n:Nat}{st:St}{α : Type}
noncomputable def oV(bs:List (Nat×V)):List (Nat×V):=bs.foldl (λacc p=>aI acc p.1 p.2) []
theorem Ab:∀{bs:List (Nat×V)} {st:St},fP [] bs st=some (.ok () {st with loc:=bs.foldl (λacc p=>aI acc p.1 p.2) st.loc})
 |[],st=>rfl
 |(x,v)::bs,st=>by
  refine(?_:fP [] bs {st with loc:=aI st.loc x v}=_);rw[Ab];rfl
theorem R3{x:Mo α}{dp:Nat}{Q:α->St->Prop}(h:st.dp=dp+1)(k:Ok x {st with dp:=dp} λa s=>Q a {s with dp:=st.dp}):Ok (lower x) st Q:=by
 refine ci k λa s e q=>aT a ({s with dp:=st.dp}) ?_ q
 unfold lower;rw[h];dsimp only;rw[e]
theorem uq{c f dp:Nat}{fd:FD}{l:List (Nat×Fd)}{a:List V}{bs:List (Nat×V)}{m:Nat}{Q:V->St->Prop}(hx:P.exc c=false)(hi:P.init c=some f)(hf:P.fd f=some fd)(cG:Nat.beq f P.cZ=false)(jj:fd.cs=[])(hb:fd.body=l.map kN)(NV:∀k,lf fd (.ref k::a)=some ((175,.ref k)::bs))(ha:a.length<=20)(c6:∀p∈l,P.at_ c p.1=true)(ln:∀v,aw (oV ((175,v)::bs)) 175=some v)(hv:∀k x y,(x,Fd.v y)∈l->(aw (oV ((175,k)::bs)) y).isSome=true)(hl:l.length<=40)(hm:l.length+6<=m)(fu:bc st)(aS:st.dp=dp+2)(h:∀s,jN st s->bc s->s.n=st.n+2+m6 l->s.tr.get st.n=some (.ns (fill (oV ((175,.ref (st.n+1))::bs)) l (st.n+2) []))->s.tr.get (st.n+1)=some (.inst c st.n)->(∀j,st.n+2<=j->j<s.n->s.tr.get j=some (.list []))->(∀j,j<st.n->s.tr.get j=st.tr.get j)->Q (.ref (st.n+1)) s) :
  Ok (((ac P D cn) (m+2)).call (.cls c) a) st Q:=by
 refine dm (m:=lG P c>>=λk=>kt P ((ac P D cn) (m+1)) c k a) (show Option.or (cond (small a.length) (some (lG P c>>=λk=>kt P ((ac P D cn) (m+1)) c k a)) none) _=_ by rw[gH (au ha (by decide))];rfl) ?_;unfold lG;refine tb hx (.bind (.bind (qW fu λs1 N1=>qW N1.full λs2 N2=>?_)));have n1:=N1.n;have n2:=N2.n;unfold kt;rw[hi];dsimp only;refine tb (show P.nest f=false from rfl) ?_;refine tb hf ?_;rw[cG];have d2:s2.dp=(dp+1)+1:=N2.dp.trans (N1.dp.trans aS);refine .bind (R3 d2 (uk (bs:=(175,.ref s1.n)::bs) (NV _) (dp:=dp) rfl (Ok.eq (y:=((ac P D cn) m).ss (l.map kN)) (st2:={s2 with loc:=oV ((175,.ref s1.n)::bs),ae:=[],dp:=dp}) ?_ ?_)))
 .rw [jj,hb];refine(?_:Mo.bind (fP [] ((175,.ref s1.n)::bs)) (λY=>((ac P D cn) m).ss (l.map kN)) {s2 with loc:=[],ae:=[],dp:=dp}=_);unfold Mo.bind;rw[Ab];rfl
 .have g1:s2.tr.get s1.n=some (.inst c st.n):=by rw[N2.get,ar rfl]
  obtain g2:s2.tr.get st.n=some (.ns []):=by rw[N2.get,aj (I7 n1),N1.get,ar rfl]
  have ls:s2.lo=st.lo:=N2.lo.trans N1.lo;refine(RS l (k:=s1.n) (c:=c) (dd:=st.n) (es:=[]) (st:={s2 with loc:=oV ((175,.ref s1.n)::bs),ae:=[],dp:=dp}) N2.full.any g1 g2 (by refine(?_:s1.n<s2.n);exact jS n2) (by refine(?_:st.n<s2.n);exact I8 n1 n2) (zZ n1) (by refine aR ls ?_;exact fu.lo) (ln _) c6 (λx y dB=>hv _ x y dB) (by simpa using hl) hm).mono λfl s3 hq=>?_
  refine lU hq λe3 r3 f3 n3 a3 b3 c3=>?_
  subst e3;have Ra:s3.n=s2.n+m6 l:=n3;refine .pure (tb n1 ?_);obtain z2:s2.n=st.n+2:=by exact ak [_,_,_] 3 0x18c34000498c86800053090d0000a630 rfl n1 n2
  refine h _ ⟨N2.loc.trans N1.loc,N2.ae.trans N1.ae,r3.dr.trans (N2.dr.trans N1.dr),d2.trans aS.symm |> λe=>e,r3.hd.trans (N2.hd.trans N1.hd),r3.lo.trans ls⟩ ⟨f3.has,f3.lo⟩ (by refine(?_:s3.n=_);exact ak [_,_,_,_,_] 5 0x18c61a28800093198d1494c6800053090d0000a630 rfl n1 n2 n3) ?_ ?_ (λj h1 h2=>b3 j (by refine(?_:s2.n<=j);exact I9 n1 n2 h1) h2) λj hj=>?_
  .refine sb n1 ?_;refine sb z2 ?_;exact a3
  .have:s3.tr.get s1.n=s2.tr.get s1.n:=c3 s1.n (by refine(?_:s1.n<s2.n);exact jS n2) (zZ n1);refine sb n1 ?_;exact this.trans g1
  .have:s3.tr.get j=s2.tr.get j:=c3 j (by refine(?_:j<s2.n);exact ak [_,_,_,_] 4 0x18c614a628cc6800053090d0000a630 rfl n1 n2 hj) (bz hj);exact this.trans (by rw[N2.get,aj (z0 n1 hj),N1.get,aj (bz hj)])
noncomputable def wk:List (Nat×Fd):=[(11,.v 11),(200,.v 200),(59,.v 59)]
noncomputable def wl:List (Nat×Fd):=[(49,.v 49),(64,.v 64)]
noncomputable def wm:List (Nat×Fd):=[(11,.v 11),(20,.v 20),(73,.v 73),(147,.v 147)]
noncomputable def sG:List (Nat×Fd):=[(180,.v 180),(11,.v 11),(181,.c .none),(182,.c (.str [])),(183,.c (.str [])),(184,.c (.bool false)),(16,.c .none),(185,.c (.str [])),(186,.c .none),(187,.c (.bool false)),(188,.c (.bool false)),(189,.l),(76,.l),(79,.c .none),(190,.c .none),(191,.c (.str [])),(192,.c (.int 0)),(193,.c (.int 0)),(12,.c .none)]
theorem Sw:wp.body=wk.map kN:=rfl
theorem S0:wq.body=wl.map kN:=rfl
theorem S1:wr.body=wm.map kN:=rfl
theorem Qb:wo.body=sG.map kN:=rfl
end
end
section
noncomputable def o8:V->Bool
 |.ref j=>Nat.blt j 102
 |v=>bS v
noncomputable def vL:O->Bool
 |.list l=>l.all o8
 |.inst _ d=>Nat.blt d 102
 |.ns es=>es.all λp=>o8 p.2
 |.dict es=>es.all λp=>o8 p.2
 |_=>false
theorem zE{τ:List Nat}(h:∀j,j<102->τ[j]?=some j){v:V}(e:o8 v=true):bv τ v v:=by
 induction v using Internal.V.casesOn with
 |ref j=>
  obtain e:Nat.blt j 102=true:=e
  exact ao j rfl (h j (by simpa [iu] using e))
 |_=>exact bv.nn (show bS _=true from e)
theorem GL{τ:List Nat}(h:∀j,j<102->τ[j]?=some j):∀{l:List V},l.all o8=true->cp τ l l:=by
 intro x9
 induction x9 with
 |nil=>
  intro Y
  exact rfl
 |cons v l ih=>
  intro e;simp only[List.all_cons,bQ] at e;exact bF v l rfl (zE h e.1) (ih e.2)
theorem zD{κ : Type}{τ:List Nat}(h:∀j,j<102->τ[j]?=some j):∀{l:List (κ×V)},(l.all λp=>o8 p.2)=true->ft τ l l:=by
 intro x9
 induction x9 with
 |nil=>
  intro Y
  exact rfl
 |cons q0 l ih=>
  obtain⟨x,v⟩:=q0;intro e;simp only[List.all_cons,bQ] at e;exact bF v l rfl (zE h e.1) (ih e.2)
theorem GN{τ:List Nat}(h:∀j,j<102->τ[j]?=some j){o:O}(e:vL o=true):kT τ o o:=by
 induction o using Internal.O.casesOn with
 |list l=>exact ao l rfl (GL h e)
 |inst c d=>exact ao d rfl (h d (by have e:Nat.blt d 102=true:=e;simpa [iu] using e))
 |ns es=>exact ao es rfl (zD h e)
 |dict es=>exact ao es rfl (zD h e)
 |_=>exact aC e
theorem Vo:((List.range 102).all λi=>match du.get i with | some o=>vL o | none=>false)=true:=by kernel_rfl
theorem FS{i:Nat}(h:i<102):∃o,du.get i=some o/\vL o=true:=by
 have:=List.all_eq_true.mp Vo i (List.mem_range.mpr h)
 cases e:du.get i with
 |none=>obtain this:=e▸this;exact aC this
 |some o=>obtain this:=e▸this;exact ao o rfl this
noncomputable def qb:Tr->Nat->Nat->Nat->Bool
 |.nil,_,_,_=>true
 |.node v l r,off,stp,b=>(v.isNone || Nat.blt off b)&&qb l (off+stp) (2*stp) b&&qb r (off+2*stp) (2*stp) b
theorem vX:∀{t:Tr} {off stp b:Nat},qb t off stp b=true->∀{i:Nat} {o:O},t.get i=some o->off+i*stp<b
 |.nil,_,_,_,_,i,o,e=>by exact aP e
 |.node v l r,off,stp,b,h,i,o,e=>by
  obtain h:((v.isNone || Nat.blt off b)&&qb l (off+stp) (2*stp) b&&qb r (off+2*stp) (2*stp) b)=true:=h;simp only[bQ] at h;rw[Tr.get_node] at e
  by_cases q:i=0
  .replace e:=aW e (ar q);subst e q;have:=h.1.1;simp only[Option.isNone_some,Bool.false_or,iu] at this;exact ak [_,_,_] 3 3504504197890968112 rfl this
  .rw [aj q] at e
   by_cases p:i%2=1
   .rw [ar p] at e;have:=vX h.1.2 e;have hi:i=2*(i/2)+1:=by exact G3 p
    have:off+stp+i/2*(2*stp)=off+i*stp:=by
     conv=>rhs;rw[hi]
     rw[Nat.add_mul,Nat.one_mul,Nat.mul_comm 2 (i/2),Nat.mul_assoc];exact ak [_,_,(_/2)*(2*_)] 3 3668574779023920 rfl
    exact sb this (‹_›)
   .rw [aj p] at e;have:=vX h.2 e;have hi:i=2*(i/2 - 1)+2:=by exact vy q p
    have:off+2*stp+(i/2 - 1)*(2*stp)=off+i*stp:=by
     conv=>rhs;rw[hi]
     rw[Nat.add_mul,Nat.mul_comm 2 (i/2 - 1),Nat.mul_assoc];exact ak [_,_,((_/2) - 1)*(2*_)] 3 0x34200025465044900012a30 rfl
    exact sb this (‹_›)
noncomputable def pj:Nat->List O->Tr->Tr
 |_,[],t=>t
 |n,o::os,t=>pj (n+1) os (t.put n o)
theorem yX:∀{os:List O} {n:Nat} {t:Tr},(∀j,j<n->∃o,t.get j=some o)->∀j,(pj n os t).get j=if n<=j/\j<n+os.length then os[j - n]? else t.get j:=by
 intro x9
 induction x9 with
 |nil=>
  intro n t Y j
  refine bh (aj (by simp)) ?_;rfl
 |cons o os ih=>
  intro n t h j;obtain e:=Tr.uD (o:=o) h;have g:=λj=>Tr.fy (t:=t) (i:=n) (o:=o) (by refine tb e ?_;rfl) j
  refine(?_:(pj (n+1) os (t.put n o)).get j=_)
  refine aE (ih (λj hj=>by
   rw[g]
   by_cases q:j=n
   .rw [ar q];exact⟨o,rfl⟩
   .rw [aj q];exact h j (Nat.lt_of_le_of_ne (jK hj) q)) j) ?_
  by_cases q1:n+1<=j/\j<n+1+os.length
  .rw [ar q1,ar (by simp;exact ak [_,_,_] 3 0x18824200014ca110c6041224800053088628000530 rfl q1)];have:j - n=(j - (n+1))+1:=by exact G4 q1
   rw[this];rfl
  .rw [aj q1,g]
   by_cases q2:j=n
   .subst q2;rw[ar rfl,ar (by simp)]
    try simp
   .rw [aj q2,aj (by simp;exact ak [_,_,_] 3 0x18c60c5080005328063031c70898e41224800053088628000530 rfl q1 q2)]
noncomputable def je(k:Nat)(d:Bool)(u:V):List O:=[.ns [(11,.str [77,65,73,78]),(20,.ref 1),(73,.ref 104),(147,.ref 106)],.inst 66 102,.dict [],.ns [(49,.ref 107),(64,u)],.inst 67 105,.list (yF k)] ++
 ((List.range k).flatMap λi=>[rj i,.inst 61 (108+2*i)])++(match d with | true=>[lB (108+2*k),.inst 10 (108+2*k),.list [],.list []] | false=>[])
theorem Vj{k:Nat}(h1:1<=k)(h3:k<=3)(u:V):kO k false u=pj 102 (je k false u) du:=by
 obtain rfl | rfl | rfl:k=1\/k=2\/k=3:=by exact rZ h1 h3
 all_goals kernel_rfl
theorem Vk{k:Nat}(h1:1<=k)(h3:k<=3)(u:V):kO k true u=(pj 102 (je k true u) du).put 2 (.list [.ref 8,.ref 79,.ref 91,.ref (109+2*k)]):=by
 obtain rfl | rfl | rfl:k=1\/k=2\/k=3:=by exact rZ h1 h3
 all_goals kernel_rfl
theorem wj(k:Nat)(d:Bool)(u:V):(je k d u).length+102=fp k d:=by
 unfold je fp
 have:∀k,((List.range k).flatMap λi=>[rj i,O.inst 61 (108+2*i)]).length=2*k:=by
  intro k
  induction k with
  |zero=>rfl
  |succ k ih=>rw[List.range_succ,List.flatMap_append,bA,ih];simp;exact G5
 rw[bA,bA,this];cases d<;>simp<;>exact ak [_] 1 0x340004a800d89400cc940004a8000c9 rfl
theorem qi:∀j,j<102->∃o,du.get j=some o:=λj hj=>af (FS hj) λo h Y=>⟨o,h⟩
theorem uV{k:Nat}{d:Bool}(h1:1<=k)(h3:k<=3)(u:V)(j:Nat):(kO k d u).get j=if d=true/\j=2 then some (.list [.ref 8,.ref 79,.ref 91,.ref (109+2*k)]) else if 102<=j/\j<fp k d then (je k d u)[j - 102]? else du.get j:=by
 obtain e:=wj k d u
 induction d using Bool.casesOn with
 |false=>
  rw[Vj h1 h3,yX qi,show 102+(je k false u).length=fp k false by exact zJ e,aj (show ¬ (false=true/\j=2) from λh=>absurd h.1 (by decide))]
 |true=>
  obtain g2:(pj 102 (je k true u) du).get 2=du.get 2:=by rw[yX qi,aj (G6)]
  refine aF (qi 2 (by decide)) λo ho=>?_
  rw[Vk h1 h3,Tr.fy (by refine tb (Tr.rp (g2.trans ho)) ?_;rfl),yX qi,show 102+(je k true u).length=fp k true by exact zJ e]
  by_cases q:j=2
  .rw [ar q,ar ⟨rfl,q⟩]
  .rw [aj q,aj (show ¬ (true=true/\j=2) from λh=>q h.2)]
theorem Vi{k:Nat}{d:Bool}(h1:1<=k)(h3:k<=3)(u:V){j:Nat}{o:O}(e:(kO k d u).get j=some o):j<fp k d:=by
 refine rN λhn=>?_
 obtain hs:102<=fp k d:=by unfold fp;exact ak [_,_] 2 0x288a000254006c480cc9 rfl
 rw[uV h1 h3,aj (show ¬ (d=true/\j=2) from λh=>by exact hn (dx (cb h.2) (bx (ce rfl:2<102) hs))),aj (show ¬ (102<=j/\j<fp k d) from λh=>by exact hn h.2)] at e;have:=vX (t:=du) (off:=0) (stp:=1) (b:=102) (by kernel_rfl) e;exact ak [_,_] 2 0xc631c4033250000ae0000243101992638a30 rfl hn hs this
end
section
noncomputable def yE(i:Nat)(r:List Pl):O:=.ns [(11,.str [80,48+i]),(200,.str []),(59,.tup (r.map aM))]
structure jE(st:St)(as:List Nat)(rows:List (List Pl))(d b:Bool)(i0 x0:Nat):Prop where
 data:∀j,j<102->j≠2\/d=false->st.tr.get j=du.get j
 two:d=true->st.tr.get 2=some (.list [.ref 8,.ref 79,.ref 91,.ref (i0+1)])
 eV:st.tr.get 102=some (.list (as.map V.ref))
 len:as.length=rows.length
 eE:∀(i a:Nat) (r:List Pl),as[i]?=some a->rows[i]?=some r->st.tr.get a=some (.inst 61 (a - 1))/\st.tr.get (a - 1)=some (yE i r)
 fG:as.Pairwise λx y=>x+2<=y
 bg:∀a∈as,104<=a/\a<i0
 item:d=true->st.tr.get i0=some (lB i0)/\st.tr.get (i0+1)=some (.inst 10 i0)/\st.tr.get (i0+2)=some (.list [])/\st.tr.get (i0+3)=some (.list [])/\i0+4<=x0
 i0:103<=i0/\i0<=x0
 p0:st.tr.get x0=some (.dict [])
 p1:st.tr.get (x0+1)=some (.ns [(49,.ref 102),(64,eF b)])
 p2:st.tr.get (x0+2)=some (.inst 67 (x0+1))
 p3:st.tr.get (x0+3)=some (.ns [(11,.str [77,65,73,78]),(20,.ref 1),(73,.ref x0),(147,.ref (x0+2))])
 p4:st.tr.get (x0+4)=some (.inst 66 (x0+3))
 n:x0+5<=st.n
noncomputable def oP(d:Bool)(i0:Nat):List Nat:=cond d [i0,i0+1,i0+2,i0+3] []
noncomputable def lR(as:List Nat)(d:Bool)(i0 x0:Nat):List Nat:=[x0+3,x0+4,x0,x0+1,x0+2,102]++(as.flatMap λa=>[a - 1,a])++oP d i0
noncomputable def cx(as:List Nat)(d:Bool)(i0 x0:Nat):List Nat:=List.range 102++lR as d i0 x0
section
variable {st:St}{as:List Nat}{rows:List (List Pl)}{d b:Bool}{i0 x0:Nat}
theorem FM{j:Nat}(h:j<102):(cx as d i0 x0)[j]?=some j:=by
 unfold cx;rw[kX (by refine bh eJ ?_;exact h),List.getElem?_range h]
theorem jB{j:Nat}:(cx as d i0 x0)[102+j]?=(lR as d i0 x0)[j]? := by
 unfold cx;rw[io (by refine aR eJ ?_;exact et 102 _),eJ]
 congr 1;exact by simp
noncomputable def Al(st:St)(τ:List Nat):List O->List Nat->Prop
 |[],[]=>True
 |oc::os,j::l=>(∃o,st.tr.get j=some o/\kT τ oc o)/\Al st τ os l
 |_,_=>False
theorem Al.get{τ:List Nat}:∀{os:List O} {l:List Nat},Al st τ os l->∀{q j:Nat},l[q]?=some j->∃oc o,os[q]?=some oc/\st.tr.get j=some o/\kT τ oc o
 |[],[],_,q,j,e=>by simp at e
 |oc::os,j'::l,h,0,j,e=>by
  simp only[List.getElem?_cons_zero,Option.some.injEq] at e;subst e
  exact af h.1 λo h1 h2=>bF oc o rfl h1 h2
 |oc::os,j'::l,h,q+1,j,e=>by
  exact Al.get h.2 e
 |[],_::_,h,_,_,_=>h.elim
 |_::_,[],h,_,_,_=>h.elim
theorem Al.len{τ:List Nat}:∀{os:List O} {l:List Nat},Al st τ os l->os.length=l.length
 |[],[],_=>rfl
 |oc::os,j'::l,h=>by simp[Al.len h.2]
 |[],_::_,h=>h.elim
 |_::_,[],h=>h.elim
theorem Al.app{τ:List Nat}:∀{os os':List O} {l l':List Nat},Al st τ os l->Al st τ os' l'->Al st τ (os++os') (l++l')
 |[],_,[],_,_,h'=>h'
 |oc::os,_,j'::l,_,h,h'=>⟨h.1,Al.app h.2 h'⟩
 |[],_,_::_,_,h,_=>h.elim
 |_::_,_,[],_,h,_=>h.elim
theorem iN{τ:List Nat}{i j:Nat}(h:τ[i]?=some j):bv τ (.ref i) (.ref j):=by exact ao j rfl h
theorem cw{τ:List Nat}{x:Nat}{v u:V}{es fs:List (Nat×V)}(h:bv τ v u)(hs:ft τ es fs):ft τ ((x,v)::es) ((x,u)::fs):=(bF u fs rfl h hs)
theorem ug{τ:List Nat}:ft (κ := Nat) τ [] []:=rfl
theorem jE.small(B:jE st as rows d b i0 x0){k:Nat}(hk:rows.length=k)(h1:1<=k)(h3:k<=3){u:V}(hu:∀τ,bv τ u (eF b)):gi (cx as d i0 x0) (kO k d u) st:=by
 have ba:=B.len;replace ba:=eU ba hk;have two:∀j,j<102->(cx as d i0 x0)[j]?=some j:=λj hj=>FM hj
 obtain UU:(cx as d i0 x0)[102]?=some (x0+3):=jB (j:=0);obtain UV:(cx as d i0 x0)[104]?=some x0:=jB (j:=2);obtain UW:(cx as d i0 x0)[105]?=some (x0+1):=jB (j:=3);obtain UX:(cx as d i0 x0)[106]?=some (x0+2):=jB (j:=4);obtain UY:(cx as d i0 x0)[107]?=some 102:=jB (j:=5)
 obtain sI:∀l:List Nat,(l.flatMap λa=>[a - 1,a]).length=2*l.length:=λl=>by
  induction l with
  |nil=>rfl
  |cons a l ih=>refine tb lY ?_;refine tb bA ?_;refine tb ih ?_;simp;exact ak [_] 1 0x300094800053040004a800049 rfl
 obtain fget:∀(l:List Nat) (i a:Nat),l[i]?=some a->(l.flatMap λa=>[a - 1,a])[2*i]?=some (a - 1)/\(l.flatMap λa=>[a - 1,a])[2*i+1]?=some a:=by
  intro l
  induction l with
  |nil=>intro i a e;simp at e
  |cons c l ih=>
   intro i a e
   induction i using Nat.casesOn with
   |zero=>simp at e;subst e;exact⟨rfl,rfl⟩
   |succ i=>
    simp only[List.getElem?_cons_succ] at e;exact ih i a e
 have FR:∀(i a:Nat),as[i]?=some a->(cx as d i0 x0)[108+2*i]?=some (a - 1)/\(cx as d i0 x0)[109+2*i]?=some a:=λi a e=>by
  obtain e1:=(fget as i a e).1;obtain e2:=(fget as i a e).2;obtain hi:i<as.length:=(List.getElem?_eq_some_iff.mp e).1;have fl:=sI as;constructor
  .have:=jB (as:=as) (d:=d) (i0:=i0) (x0:=x0) (j:=6+2*i);rw[show 108+2*i=102+(6+2*i) by exact ak [_] 1 0x3420002540006480cc940004a800d89 rfl,this];unfold lR;rw[kX (by simp only[bA,fl,de,iX];exact ak [_,_] 2 0x61200025450000a50000a50000a50000a50000a50000a40004a000254000648a30 rfl hi),io (et (0+1+1+1+1+1+1) (2*_))];refine ck e1 ?_;congr 1;exact by simp
  .have:=jB (as:=as) (d:=d) (i0:=i0) (x0:=x0) (j:=6+(2*i+1));rw[show 109+2*i=102+(6+(2*i+1)) by exact ak [_] 1 0x34210000a4002540006480cc940004a800da9 rfl,this];unfold lR;rw[kX (by simp only[bA,fl,de,iX];exact Nat.add_lt_add_left (show 2*_+1<2*_ from gc 2 hi) 6),io (et (0+1+1+1+1+1+1) (2*_+1))];refine ck e2 ?_;congr 1;exact by simp
 have uT:d=true->∀q,q<4->(cx as d i0 x0)[108+2*k+q]?=some (i0+q):=λhd q hq=>by
  have:=jB (as:=as) (d:=d) (i0:=i0) (x0:=x0) (j:=6+2*k+q);refine tb (show 108+2*k+q=102+(6+2*k+q) by exact ak [_,_] 2 0x34222800095000192033251140004a800d89 rfl) ?_;refine tb this ?_;unfold lR;obtain fl:=sI as;refine aE (io (by simp only[bA,fl,de,iX];exact G7 ba)) ?_
  have:6+2*k+q - ([x0+3,x0+4,x0,x0+1,x0+2,102]++as.flatMap λa=>[a - 1,a]).length=q:=by
   simp only[bA,fl,de,iX];exact G8 ba
  rw[this];refine tb hd ?_;have:q=0\/q=1\/q=2\/q=3:=by exact ak [_] 1 0x6294a3000d3018004980c0014c060002602001130 rfl hq
  rcases this with rfl | rfl | rfl | rfl<;>rfl
 have Tx:cp (cx as d i0 x0) (yF k) (as.map V.ref):=by
  obtain gen:∀(l:List Nat) (o:Nat),(∀i a,l[i]?=some a->(cx as d i0 x0)[109+2*(o+i)]?=some a)->cp (cx as d i0 x0) ((List.range' o l.length).map λi=>.ref (109+2*i)) (l.map V.ref):=by
   intro l
   induction l with
   |nil=>exact λo Y=>rfl
   |cons a l ih=>
    intro o h;refine bF _ _ rfl (iN (by simpa using h 0 a rfl)) (ih (o+1) λi c e=>?_);have:=h (i+1) c e;refine tb (show o+1+i=o+(i+1) by exact ak [_,_] 2 0xd0800053182228000530 rfl) ?_;exact this
  have:=gen as 0 λi a e=>by rw[jM];exact(FR i a e).2
  obtain this:=ba▸this;obtain this:=List.range_eq_range'▸this;exact this
 have al:Al st (cx as d i0 x0) (je k d u) (lR as d i0 x0):=by
  refine Al.app (Al.app ?_ ?_) ?_
  .refine oY ⟨_,B.p3,_,rfl,cw (by dsimp only[bv]) (cw (iN (two 1 (by decide))) (cw (iN UV) (cw (iN UX) ug)))⟩ ⟨_,B.p4,_,rfl,UU⟩ ⟨_,B.p0,_,rfl,rfl⟩ ⟨_,B.p1,_,rfl,cw (iN UY) (cw (hu _) ug)⟩ ⟨_,B.p2,_,rfl,UW⟩ ⟨_,B.eV,_,rfl,Tx⟩ trivial
  .obtain gen:∀(l:List Nat) (o:Nat),(∀i a,l[i]?=some a->(∃q,st.tr.get (a - 1)=some q/\kT (cx as d i0 x0) (rj (o+i)) q)/\∃q,st.tr.get a=some q/\kT (cx as d i0 x0) (.inst 61 (108+2*(o+i))) q)->Al st (cx as d i0 x0) ((List.range' o l.length).flatMap λi=>[rj i,.inst 61 (108+2*i)]) (l.flatMap λa=>[a - 1,a]):=by
    intro l
    induction l with
    |nil=>intro o _;exact trivial
    |cons a l ih=>
     intro o h;obtain h1:=(h 0 a rfl).1;obtain h2:=(h 0 a rfl).2;refine bP h1 h2 (ih (o+1) λi c e=>?_);have:=h (i+1) c e;refine tb (show o+1+i=o+(i+1) by exact ak [_,_] 2 0xd0800053182228000530 rfl) ?_;exact this
   have:=gen as 0 λi a e=>by
    rw[jM];have hi:i<as.length:=(List.getElem?_eq_some_iff.mp e).1;obtain hr:rows[i]?=some rows[i]:=dS (G9 hk ba hi);obtain g1:=(B.eE i a rows[i] e hr).1;obtain g2:=(B.eE i a rows[i] e hr).2;refine⟨⟨_,g2,_,rfl,cw (by dsimp only[bv]) (cw (by dsimp only[bv]) (cw (by dsimp only[bv]) ug))⟩,⟨_,g1,_,rfl,(FR i a e).1⟩⟩
   obtain this:=ba▸this;obtain this:=List.range_eq_range'▸this;exact this
  .have item:d=true->Al st (cx as d i0 x0) [lB (108+2*k),.inst 10 (108+2*k),.list [],.list []] [i0,i0+1,i0+2,i0+3]:=λhd=>by
    obtain g1:=(B.item hd).1;obtain g2:=(B.item hd).2.1;obtain g3:=(B.item hd).2.2.1;obtain g4:=(B.item hd).2.2.2.1;obtain t0:=uT hd 0 (by decide);obtain t2:=uT hd 2 (by decide);obtain t3:=uT hd 3 (by decide);refine hV ⟨_,g1,_,rfl,?_⟩ ⟨_,g2,_,rfl,t0⟩ ⟨_,g3,_,rfl,by dsimp only[cp]⟩ ⟨_,g4,_,rfl,by dsimp only[cp]⟩ trivial;refine cw (by dsimp only[bv]) (cw (by dsimp only[bv]) (cw (by dsimp only[bv]) (cw (by dsimp only[bv]) (cw (by dsimp only[bv]) (cw (by dsimp only[bv]) (cw (by dsimp only[bv]) (cw (by dsimp only[bv]) (cw (by dsimp only[bv]) (cw (by dsimp only[bv]) (cw (by dsimp only[bv]) (cw (iN t2) (cw (iN t3) (cw (by dsimp only[bv]) (cw (by dsimp only[bv]) (cw (by dsimp only[bv]) (cw (by dsimp only[bv]) (cw (by dsimp only[bv]) (cw (by dsimp only[bv]) ug))))))))))))))))))
   cases hd:d with
   |false=>exact trivial
   |true=>have:=item hd;obtain this:=hd▸this;exact this
 have cy:(cx as d i0 x0).length=fp k d:=by
  unfold cx;refine tb bA ?_;refine tb eJ ?_;refine sb al.len ?_;refine sb (wj k d u) ?_;exact ak [_] 1 936804960937446601 rfl
 refine⟨?_,λi j e=>?_,λq oc e=>by refine bh cy ?_;exact Vi h1 h3 u e⟩
 .have qw:=B.i0
  have fl:∀q∈(as.flatMap λa=>[a - 1,a]),103<=q/\q<i0:=λq hq=>by
   refine af (List.mem_flatMap.mp hq) λa ha hq=>?_
   have:=B.bg a ha;simp only[ef,er,fF] at hq;exact ak [_,_,_,_ - 1] 4 0x6318828c832019d251c2439c8828c03001a12520c0004cc2000a6041c10000a661800029 rfl (zs _ 1) this hq
  have fn:∀l:List Nat,(∀a∈l,104<=a)->(l.Pairwise λx y=>x+2<=y)->(l.flatMap λa=>[a - 1,a]).Nodup:=by
   intro l
   induction l with
   |nil=>intro _ _;exact List.nodup_nil
   |cons a l ih=>
    intro h1 h2;refine aL (List.pairwise_cons.mp h2) λp1 p2=>bh lY (List.nodup_append.mpr (bP ?_ (ih (λc hc=>h1 c (.tail _ hc)) p2) (λx hx y hy e=>?_)))
    .have:=h1 a (.head _);simp;exact G' this
    .refine af (List.mem_flatMap.mp hy) λc hc hy=>?_
     have:=p1 c hc;have:=h1 a (.head _);simp only[ef,er,fF] at hx hy;exact Ha e ‹_› hx hy
  have it:∀q∈oP d i0,i0<=q/\q<x0:=λq hq=>by
   refine gn d (λhd=>?_) λhd=>?_
   .obtain hq:=hd▸hq;exact(nofun:_->_) hq
   .
    obtain hq:=hd▸hq;change q∈[i0,i0+1,i0+2,i0+3] at hq;have:=(B.item hd).2.2.2.2;simp only[ef,er,fF] at hq;exact ak [_,_,_] 3 0x18c414641940a528d0001a6121a00024c2434000298487090628001130 rfl this hq
  obtain Qg:(oP d i0).Nodup:=by
   cases d with
   |false=>exact List.nodup_nil
   |true=>simp[show oP true i0=[i0,i0+1,i0+2,i0+3] from rfl]
  refine List.nodup_append.mpr (bP List.nodup_range (List.nodup_append.mpr ⟨List.nodup_append.mpr ⟨by simp;exact ak [_,_] 2 0x62108431c6032262638c0654c4c7180cc9898e301893131c6031a6240c601800ce9 rfl qw,fn as (λa ha=>(B.bg a ha).1) B.fG,λx hx y hy e=>?_⟩,Qg,λx hx y hy e=>?_⟩) (λx hx y hy e=>?_))
  .have:=fl y hy;simp only[ef,er,fF] at hx;exact ak [_,_,_,_] 4 0x18c631ca5294a30199321a00024c6434000298c87190d000226321a00034c64414261980ce91ce440c601800ce9 rfl qw e this hx
  .have:=it y hy;refine bR (List.mem_append.mp hx) (λhx=>?_) (λhx=>?_)
   .simp only[ef,er,fF] at hx;exact ak [_,_,_,_] 4 0x6318c7294a528c0664c86800093190d0000a6321c6434000898c868000d3191051986701ce440c601800ce9 rfl qw e this hx
   .have:=fl x hx;exact ak [_,_,_,_] 4 0x18c6390528060033a4829c43190e30 rfl e ‹_› this
  .have hx:=List.mem_range.mp hx;refine bR (List.mem_append.mp hy) (λhy=>?_) (λhy=>?_)
   .refine bR (List.mem_append.mp hy) (λhy=>?_) (λhy=>?_)
    .simp only[ef,er,fF] at hy;exact ak [_,_,_,_] 4 0x18c631ca5294a30199331a00024c6634000298cc7198d000226331a00034c6620199321ce440c601800ce9 rfl qw e hx hy
    .have:=fl y hy;exact ak [_,_,_] 3 0x6318e414a21880ce9100cc980e30 rfl e hx this
   .have:=it y hy;exact ak [_,_,_,_] 4 0x6318c720a330ce020199321ce440c601800ce9 rfl qw e hx this
 .by_cases hi:i<102
  .rw [FM hi] at e;obtain rfl:=ag e
   by_cases lr:d=true/\i=2
   .refine aL lr ?_;rintro hd rfl;refine⟨.list [.ref 8,.ref 79,.ref 91,.ref (109+2*k)],_,by rw[uV h1 h3,ar ⟨hd,rfl⟩],B.two hd,_,rfl,⟨_,_,rfl,iN (two 8 (by decide)),_,_,rfl,iN (two 79 (by decide)),_,_,rfl,iN (two 91 (by decide)),_,_,rfl,iN ?_,rfl⟩⟩;have:=uT hd 1 (by decide);obtain this:=(Iv (a:=k))▸this;exact this
   .refine af (FS hi) λo g1 g2=>bF o o ?_ ?_ (GN two g2)
    .rw [uV h1 h3,aj lr,aj (show ¬ (102<=i/\i<fp k d) from λh=>ak [_,_] 2 0x631c828c030019922019930 rfl hi h)];exact g1
    .rw [B.data i hi ?_]
     .exact g1
     .by_cases q:i=2
      .right
       cases hd:d with
       |false=>rfl
       |true=>exact absurd ⟨hd,q⟩ lr
      .exact .inl q
  .obtain ⟨q,rfl⟩:∃q,i=102+q:=⟨i - 102,Iw hi⟩
   obtain e:=aW e jB;refine aA (al.get e) λoc o g1 g2 g3=>bF oc o ?_ g2 g3
   have hq:q<(je k d u).length:=(List.getElem?_eq_some_iff.mp g1).1;have:=wj k d u;rw[uV h1 h3,aj (show ¬ (d=true/\102+q=2) from Ix),ar (show 102<=102+q/\102+q<fp k d from⟨et 102 _,ak [_,_,_] 3 0x18c292200332472400cc988a30 rfl hq this⟩),Nat.add_sub_cancel_left];exact g1
end
end
section
section
variable {st:St}{as:List Nat}{rows:List (List Pl)}{d b:Bool}{i0 x0:Nat}
theorem VI(b:Bool):bS (eF b)=true:=by cases b<;>rfl
theorem jE.lt(B:jE st as rows d b i0 x0):∀j∈cx as d i0 x0,j<st.n:=by
 intro j hj;have hn:=B.n;have hi:=B.i0;unfold cx lR at hj;rcases List.mem_append.mp hj with hj | hj
 .have:=List.mem_range.mp hj;exact ak [_,_,_,_] 4 0x18c614662019933206120c806748628001530 rfl hn hi this
 .refine bR (List.mem_append.mp hj) (λhj=>?_) (λhj=>?_)
  .refine bR (List.mem_append.mp hj) (λhj=>?_) (λhj=>?_)
   .simp only[ef,er,fF] at hj;exact ak [_,_,_,_] 4 0x18c614665294a5180cc998d000126131a00014c26384c6800113098d0001a613206120c806748628001530 rfl hn hi hj
   .refine af (List.mem_flatMap.mp hj) λa ha hj=>?_
    have:=B.bg a ha;simp only[ef,er,fF] at hj;exact ak [_,_,_,_,_,_ - 1] 6 0x6318c6146851ce83ad08294c3301a1240c241900ce90c50002a60520c0004d42000a6641cd0000a6a1980029 rfl (zs _ 1) hn hi this hj
  .refine gn d (λhd=>?_) λhd=>?_
   .obtain hj:=hd▸hj;exact(nofun:_->_) hj
   .
    obtain hj:=hd▸hj;change _∈[i0,i0+1,i0+2,i0+3] at hj;have:=(B.item hd).2.2.2.2;simp only[ef,er,fF] at hj;exact ak [_,_,_,_] 4 0x631851994a51a00034ca6340004994c6800053298e53206120c806748628001530 rfl hn hi hj
theorem jE.wd(B:jE st as rows d b i0 x0){k:Nat}(hk:rows.length=k)(h1:1<=k)(h3:k<=3):Wd k d b st (x0+4):=by
 have M1:=B.small hk h1 h3 (u:=.any) λτ=>by dsimp only[bv]
 have M2:=B.small hk h1 h3 (u:=eF b) λτ=>bv.nn (VI b)
 refine t4 (cx as d i0 x0) M1 M2 ?_ (jB (j:=1)) B.lt;obtain ba:=B.len
 have sI:∀l:List Nat,(l.flatMap λa=>[a - 1,a]).length=2*l.length:=λl=>by
  induction l with
  |nil=>rfl
  |cons a l ih=>rw[lY,bA,ih];simp;exact ak [_] 1 0x300094800053040004a800049 rfl
 unfold cx lR fp;rw[bA,bA,bA,eJ,sI,ba,hk];cases d<;>simp[show oP true i0=[i0,i0+1,i0+2,i0+3] from rfl,show oP false i0=[] from rfl]<;>(first | exact ak [_] 1 0x340004a800d89420002540006480cc9 rfl | exact ak [_] 1 0x340008940004a800d894200044a0002540006480cc9 rfl)
theorem jE.prog(B:jE st as rows d b i0 x0):pP st (x0+4) rows:=by
 obtain hn:=B.n;obtain hi:=B.i0;refine⟨x0+3,_,x0+2,x0+1,_,102,as,⟨B.p4,by exact hn⟩,⟨B.p3,by exact cq hn⟩,rfl,⟨B.p2,by exact au (lk rfl:_+3<=_+5) hn⟩,⟨B.p1,by exact au (lk rfl:_+2<=_+5) hn⟩,rfl,⟨B.eV,by exact bx (au hi.1 hi.2) (tT hn)⟩,B.len,λi a r e1 e2=>?_⟩;obtain g1:=(B.eE i a r e1 e2).1;obtain g2:=(B.eE i a r e1 e2).2;have:=B.bg a (bV e1);exact bF (a - 1) _ ⟨g1,by exact bx this.2 (au hi.2 (au (et _ 5) hn))⟩ ⟨g2,by exact ak [_,_,_,_,_ - 1] 5 0x6318c28d08294c3301a1240c241900ce90c50002a60520c0004d02000a6641cd0000a681980029 rfl (zs _ 1) hn hi this⟩ rfl
end
theorem Kt(k:Nat)(d b:Bool)(dr:List Ev):(ac P 3 (aZ k d b) 9499).s (.asg 20 false (.call (.ah 56) [])) ⟨.nil,0,[(7,.src)],[],dr,60,false,0⟩=some (.ok .next ⟨du,102,[(7,.src),(20,.ref 1)],[],dr,60,false,0⟩):=by kernel_rfl
end
section
theorem gP:∀{l m acc:List Nat},dd acc (l++m)=dd (dd acc l) m:=by
 intro x9
 induction x9 with
 |nil=>
  intro m acc
  exact rfl
 |cons x l ih=>
  intro m acc;refine(?_:(if acc.contains x then dd acc (l++m) else dd (acc++[x]) (l++m))=dd (if acc.contains x then dd acc l else dd (acc++[x]) l) m)
  split
  .exact ih
  .exact ih
theorem Kz{x:Nat}{r acc:List Nat}:dd acc (x::x::r)=dd acc (x::r):=by
 refine(?_:(if acc.contains x then (if acc.contains x then dd acc r else dd (acc++[x]) r) else (if (acc++[x]).contains x then dd (acc++[x]) r else dd (acc++[x]++[x]) r))=(if acc.contains x then dd acc r else dd (acc++[x]) r))
 split
 .rfl
 .exact (ar (List.contains_iff_mem.mpr (by simp)))
theorem nY:∀(p:Pl) (acc:List Nat),dd acc (c7 p)=dd acc p.due
 |.plain w b,acc=>by
  refine(?_:dd acc (kF w b++[])=dd acc (kE w b));rw[lX];rcases ER w b with ⟨rfl,rfl⟩ | e
  .exact Kz
  .rw [e]
 |.ite x y,acc=>by
  have:c7 (.ite x y)=c7 x++c7 y:=by exact List.flatMap_append
  rw[this,gP,nY x,nY y]
  exact(bh gP rfl:_=dd acc (x.due++y.due))
 |.perf x,acc=>by
  have:c7 (.perf x)=[10]++c7 x:=by rfl
  rw[this,gP,nY x]
  exact(bh gP rfl:_=dd acc ([10]++x.due))
 |.eval t n x,acc=>by
  induction t using Bool.casesOn with
  |true=>
   have:c7 (.eval true n x)=[21]++c7 x:=by rfl
   rw[this,gP,nY x]
   exact(bh gP rfl:_=dd acc ([21]++x.due))
  |false=>
   have:c7 (.eval false n x)=c7 x:=by rfl
   rw[this,nY x];rfl
noncomputable def dO(r:List Pl):List Nat:=r.flatMap Pl.due
theorem Kx:∀(r:List Pl) (acc:List Nat),dd acc (iO r)=dd acc (dO r):=by
 intro x9
 induction x9 with
 |nil=>
  intro acc
  exact rfl
 |cons p r ih=>
  intro acc;refine(?_:dd acc (c7 p++iO r)=dd acc (p.due++dO r));rw[gP,gP,nY,ih]
theorem Ky:∀(rs:List (List Pl)) (acc:List Nat),dd acc (rs.flatMap iO)=dd acc (rs.flatMap dO):=by
 intro x9
 induction x9 with
 |nil=>
  intro acc
  exact rfl
 |cons r rs ih=>
  intro acc;rw[lY,lY,gP,gP,Kx,ih]
noncomputable def yD(d b:Bool)(rows:List (List Pl)):List Nat:=(dD d++dP b)++rows.flatMap dO
theorem AR(d b:Bool)(rows:List (List Pl)):dd [] (dG d b rows)=dd [] (yD d b rows):=by
 unfold dG yD;rw[gP,Ky,<- gP]
noncomputable def Pl.dep:Pl->Nat
 |.plain _ _=>0
 |.ite a b=>max a.dep b.dep+1
 |.perf a=>a.dep+1
 |.eval _ _ a=>a.dep+1
theorem Nh{rd:Nat->Nat->Nat}(d:Nat):∀n,(az rd d n).1.dep<=d:=by
 induction d with
 |zero=>exact λn=>bI _
 |succ d ih=>exact λn=>wE (P:=λp=>p.1.dep<=d+1) (λY=>cc _) (λY=>dg (Nat.max_le.mpr ⟨ih _,ih _⟩)) (λY=>dg (ih _)) (λY=>dg (ih _))
theorem rH:∀p:Pl,p.within.length+2<=2 ^ (p.dep+1)
 |.plain _ _=>bI 2
 |.ite a b=>by
  obtain h1:=rH a;obtain h2:=rH b;obtain e1:2 ^ (a.dep+1)<=2 ^ (max a.dep b.dep+1):=Nat.pow_le_pow_right (by decide) (dg (Nat.le_max_left _ _));obtain e2:2 ^ (b.dep+1)<=2 ^ (max a.dep b.dep+1):=Nat.pow_le_pow_right (by decide) (dg (Nat.le_max_right _ _));refine(?_:((a::a.within)++b::b.within).length+2<=2 ^ (max a.dep b.dep+1+1))
  rw[Nat.pow_succ,bA,de,de];exact ak [_,_,_,_,_] 5 0x318c608004ba200024a10000a6480005300d261a443340004990628000930 rfl h1 h2 e1 e2
 |.perf a=>by
  have h1:=rH a;refine(?_:(a::a.within).length+2<=2 ^ (a.dep+1+1))
  rw[Nat.pow_succ,de];exact ak [_,_] 2 0xc100097140004940002980628000930 rfl h1
 |.eval _ _ a=>by
  have h1:=rH a;refine(?_:(a::a.within).length+2<=2 ^ (a.dep+1+1));rw[Nat.pow_succ,de];exact ak [_,_] 2 0xc100097140004940002980628000930 rfl h1
theorem rI:∀p:Pl,p.ok=true->∀u∈p.within,u.ok=true
 |.plain _ _,_,u,hu=>by cases hu
 |.ite a b,h,u,hu=>by
  obtain h:(a.ok&&b.ok)=true:=h;simp only[bQ] at h;obtain hu:u∈(a::a.within)++b::b.within:=hu;refine bR (List.mem_append.mp hu) (λhu=>?_) (λhu=>?_)
  .rcases List.mem_cons.mp hu with rfl | hu
   .exact h.1
   .exact rI a h.1 u hu
  .rcases List.mem_cons.mp hu with rfl | hu
   .exact h.2
   .exact rI b h.2 u hu
 |.perf a,h,u,hu=>by
  have h:a.ok=true:=h;rcases List.mem_cons.mp (show u∈a::a.within from hu) with rfl | hu
  .exact h
  .exact rI a h u hu
 |.eval _ n a,h,u,hu=>by
  have h:(Nat.blt n 4&&a.ok)=true:=h;simp only[bQ] at h;rcases List.mem_cons.mp (show u∈a::a.within from hu) with rfl | hu
  .exact h.2
  .exact rI a h.2 u hu
theorem kb{α β : Type}{f:α->List β}{c:Nat}:∀{l:List α},(∀x∈l,(f x).length<=c)->(l.flatMap f).length<=c*l.length
 |[],_=>by simp
 |x::l,h=>by
  obtain h1:=h x (.head _);have h2:=kb (l:=l) λy hy=>h y (.tail _ hy)
  rw[lY,bA,de,Nat.mul_add,Nat.mul_one];exact ak [_,_,_,_*_] 4 0x18c1446689403390630 rfl h1 h2
section
variable (rd:Nat->Nat->Nat)
noncomputable def cu:Nat->Nat->List Pl×Nat
 |0,n=>([],n)
 |t+1,n=>((az rd 2 n).1::(cu t (az rd 2 n).2).1,(cu t (az rd 2 n).2).2)
noncomputable def gR:Nat->Nat->List Ev
 |0,_=>[]
 |t+1,n=>jA rd 2 n::gR t (az rd 2 n).2
noncomputable def cT:Nat->Nat->List (List Pl)×Nat
 |0,n=>([],n)
 |k+1,n=>((cu rd (1+rd n 4) (n+1)).1::(cT k (cu rd (1+rd n 4) (n+1)).2).1,(cT k (cu rd (1+rd n 4) (n+1)).2).2)
noncomputable def gx:Nat->Nat->List Ev
 |0,_=>[]
 |k+1,n=>.draw 4 (rd n 4)::(gR rd (1+rd n 4) (n+1)++gx k (cu rd (1+rd n 4) (n+1)).2)
end
variable {rd:Nat->Nat->Nat}
theorem BI:∀t n,(cu rd t n).1.length=t:=by
 intro x9
 induction x9 with
 |zero=>
  intro Y
  exact rfl
 |succ t ih=>
  intro n;refine(?_:((az rd 2 n).1::(cu rd t (az rd 2 n).2).1).length=t+1);rw[de,ih]
theorem sM:∀k n,(cT rd k n).1.length=k:=by
 intro x9
 induction x9 with
 |zero=>
  intro Y
  exact rfl
 |succ k ih=>
  intro n;refine(?_:(_::(cT rd k _).1).length=k+1);rw[de,ih]
theorem wF:∀t n,∀p∈(cu rd t n).1,∃m,p=(az rd 2 m).1
 |0,_,p,h=>by cases h
 |t+1,n,p,h=>by
  rcases List.mem_cons.mp (show p∈(az rd 2 n).1::(cu rd t (az rd 2 n).2).1 from h) with rfl | h
  .exact ⟨n,rfl⟩
  .exact wF t _ p h
theorem mz(h4:∀n,rd n 4<4):∀k n,∀r∈(cT rd k n).1,r.length<=4/\∀p∈r,∃m,p=(az rd 2 m).1
 |0,_,r,h=>by cases h
 |k+1,n,r,h=>by
  rcases List.mem_cons.mp (show r∈(cu rd (1+rd n 4) (n+1)).1::(cT rd k (cu rd (1+rd n 4) (n+1)).2).1 from h) with rfl | h
  .exact ⟨by refine aR (BI _ _) ?_;have:=h4 n;exact zK this,wF _ _⟩
  .exact mz h4 k _ r h
theorem EP(m:Nat):(az rd 2 m).1.within.length<=6:=by
 obtain h1:=rH (az rd 2 m).1;obtain h2:=Nh (rd:=rd) 2 m;exact IW h1 (Nat.pow_le_pow_right (n:=2) (by decide) (dg h2))
theorem MZ(h:∀n l,0<l->rd n l<l)(k n:Nat):∀r∈(cT rd k n).1,lW r:=λr hr=>by
 refine aL (mz (λn=>h n 4 (by decide)) k n r hr) λh1 h2=>⟨λq hq=>?_,λq hq=>?_,λq hq=>?_,by exact au h1 c9⟩
 .refine aF (h2 q hq) ?_;rintro m rfl;exact sL h 2 m
 .refine aF (h2 q hq) ?_;rintro m rfl;exact rI _ (sL h 2 m)
 .refine aF (h2 q hq) ?_;rintro m rfl;have:=EP (rd:=rd) m;exact au this c9
theorem Vh(h:∀n l,0<l->rd n l<l){d b:Bool}{k n:Nat}(hk:k<=3):(dG d b (cT rd k n).1).length<=500:=by
 have hd:(dD d).length<=1:=by cases d<;>decide
 have hb:(dP b).length<=1:=by cases b<;>decide
 obtain hr:((cT rd k n).1.flatMap iO).length<=84*(cT rd k n).1.length:=kb λr hr=>by
  obtain h1:=(mz (λn=>h n 4 (by decide)) k n r hr).1;obtain h2:=(mz (λn=>h n 4 (by decide)) k n r hr).2
  obtain h9:(r.flatMap c7).length<=21*r.length:=kb λp hp=>by
   refine aF (h2 p hp) ?_;rintro m rfl;obtain h3:=EP (rd:=rd) m;have:(((az rd 2 m).1::(az rd 2 m).1.within).flatMap Pl.head).length<=3*((az rd 2 m).1::(az rd 2 m).1.within).length:=kb λq Y=>B' q
   unfold c7;rw[de] at this;exact au this (gc 3 (dg h3))
  exact(au h9 (gc 21 h1):(r.flatMap c7).length<=84)
 rw[sM] at hr;unfold dG;rw[bA,bA];exact ak [_,_,_,_] 4 0xc631820fa251344a210151509840014c82000a621000d30 rfl hk hd hb hr
theorem KZ(h:∀n l,0<l->rd n l<l){k n:Nat}(hk:k<=3):((cT rd k n).1.flatMap dO).length<=500:=by
 have hr:((cT rd k n).1.flatMap dO).length<=32*(cT rd k n).1.length:=kb λr hr=>by
  obtain h1:=(mz (λn=>h n 4 (by decide)) k n r hr).1;obtain h2:=(mz (λn=>h n 4 (by decide)) k n r hr).2
  obtain h9:(r.flatMap Pl.due).length<=8*r.length:=kb λp hp=>by
   refine aF (h2 p hp) ?_;rintro m rfl;exact qd 2 m
  exact(au h9 (gc 8 h1):(r.flatMap Pl.due).length<=32)
 rw[sM] at hr;exact au hr (au (gc 32 hk) (ce rfl))
end
section
section
variable {k:Nat}{d b:Bool}{n:Nat}{st s:St}
theorem JR{l:List V}:aZ k d b 36 l st=none:=si rfl
theorem JS{l:List V}:aZ k d b 46 l st=none:=si rfl
theorem RR{l v dp m:Nat}{r:List Ev}{Q:V->St->Prop}(eB:st.dr=.draw l v::r)(aS:st.dp=dp+1)(h:Q (.int v) {st with dr:=r}):Ok (((ac P 3 (aZ k d b)) (m+1)).call (.fn 36) [.src,.int (Int.ofNat l)]) st Q:=by
 refine Ok.eq (y:=(step P 3 ((ac P 3 (aZ k d b)) m)).call (.fn 36) [.src,.int (Int.ofNat l)]) (st2:=st) ?_ (dm (m:=px r (.int v)) ?_ (aT _ _ rfl h))
 .refine (?_:(match aZ k d b 36 [.src,.int (Int.ofNat l)] st with | some r=>some (a9.ok r st) | none=>(step P 3 ((ac P 3 (aZ k d b)) m)).call (.fn 36) [.src,.int (Int.ofNat l)] st)=_);exact tb JR rfl
 .show Option.or (qc [.src,.int (Int.ofNat l)] st) _=_;rw[show qc [.src,.int (Int.ofNat l)] st=some (px r (.int v)) from bu (a:=(V.src,V.int (Int.ofNat l))) rfl (bu (a:=l) rfl (di (by rw[aS];rfl) (bu (a:=(v,r)) (by rw[eB];exact di (Nat.beq_refl l) rfl) rfl)))];rfl
theorem yp{l v dp m:Nat}{r:List Ev}{Q:V->St->Prop}(h7:aw st.loc 7=some .src)(eB:st.dr=.draw l v::r)(aS:st.dp=dp+1)(h:Q (.int v) {st with dr:=r}):Ok (((ac P 3 (aZ k d b)) (m+5)).e (.call (.ah 36) [.loc 7,.c (.int (Int.ofNat l))])) st Q :=
 iH (iI rfl (cm (br h7 (cm (fU (da (.pure (RR eB aS h))))))))
theorem RU{q m:Nat}{v:V}{fs:List V}{r:List Ev}{Q:V->St->Prop}(eB:st.dr=.stat q v fs::r)(hq:q<3)(aS:12+2*q<=st.dp)(hh:st.hd=false)(h:Q (.tup [v,.fl fs]) {st with dr:=r}):Ok (((ac P 3 (aZ k d b)) (m+1)).call (.fn 46) [.src,.int (Int.ofNat q)]) st Q:=by
 refine Ok.eq (y:=(step P 3 ((ac P 3 (aZ k d b)) m)).call (.fn 46) [.src,.int (Int.ofNat q)]) (st2:=st) ?_ (dm (m:=px r (.tup [v,.fl fs])) ?_ (aT _ _ rfl h))
 .refine (?_:(match aZ k d b 46 [.src,.int (Int.ofNat q)] st with | some r=>some (a9.ok r st) | none=>(step P 3 ((ac P 3 (aZ k d b)) m)).call (.fn 46) [.src,.int (Int.ofNat q)] st)=_);exact tb JS rfl
 .show Option.or (rB 3 [.src,.int (Int.ofNat q)] st) _=_;rw[show rB 3 [.src,.int (Int.ofNat q)] st=some (px r (.tup [v,.fl fs])) from bu (a:=(V.src,V.int (Int.ofNat q))) rfl (bu (a:=q) rfl (di (gN (gN (gN rfl (by rw[iu];exact hq)) (ir aS)) (by rw[hh];rfl)) (bu (a:=((v,fs),r)) (by rw[eB];exact di (Nat.beq_refl q) rfl) rfl)))];rfl
theorem Sa{q m:Nat}{v:V}{fs:List V}{r:List Ev}{Q:V->St->Prop}(h7:aw st.loc 7=some .src)(eB:st.dr=.stat q v fs::r)(hq:q<3)(aS:12+2*q<=st.dp)(hh:st.hd=false)(h:Q (.tup [v,.fl fs]) {st with dr:=r}):Ok (((ac P 3 (aZ k d b)) (m+5)).e (.call (.ah 46) [.loc 7,.c (.int (Int.ofNat q))])) st Q :=
 iH (iI rfl (cm (br h7 (cm (fU (da (.pure (RU eB hq aS hh h))))))))
theorem RL{x y:Nat}{e:E}{Q:Fl->St->Prop}(h:Ok (((ac P 3 (aZ k d b)) n).e e) st λu s1=>∃v w,u=.tup [v,w]/\s1.hd=false/\Q .next {s1 with loc:=aI (aI s1.loc x v) y w}):Ok (((ac P 3 (aZ k d b)) (n+1)).s (.cr [(x,false),(y,false)] e)) st Q:=by
 refine Ok.bind (x:=((ac P 3 (aZ k d b)) n).e e) (h.mono λu s1 hq=>aA hq λv w e1 hh q=>?_);subst e1;exact Ok.bind (x:=eP ()) (RP hh (aT .next _ rfl q))
structure LI(s:St)(as:List Nat)(rows:List (List Pl))(due:List Nat)(dl:Nat)(dr:List Ev):Prop where
 full:bc s
 lo:s.lo=0
 hd:s.hd=false
 dp:s.dp=60
 ae:s.ae=[]
 dr:s.dr=dr
 l7:aw s.loc 7=some .src
 fS:aw s.loc 20=some (.ref 1)
 fT:aw s.loc 49=some (.ref 102)
 fC:aw s.loc 57=some (.ref dl)
 data:∀j,j<102->s.tr.get j=du.get j
 eV:s.tr.get 102=some (.list (as.map V.ref))
 due:s.tr.get dl=some (.list (due.map a0))
 gu:103<=dl/\dl<s.n
 len:as.length=rows.length
 eE:∀(i a:Nat) (r:List Pl),as[i]?=some a->rows[i]?=some r->s.tr.get a=some (.inst 61 (a - 1))/\s.tr.get (a - 1)=some (yE i r)
 fG:as.Pairwise λx y=>x+2<=y
 bg:∀a∈as,104<=a/\a<s.n
 n:104<=s.n
variable {as:List Nat}{rows:List (List Pl)}{due:List Nat}{dl:Nat}{dr:List Ev}
theorem LI.grow(J:LI s as rows due dl dr){s':St}(r:jN s s')(f:bc s')(hn:s.n<=s'.n)(hg:∀j,j<s.n->s'.tr.get j=s.tr.get j):LI s' as rows due dl dr:=by
 have h0:=J.n;obtain cE:=J.gu;refine⟨f,r.lo.trans J.lo,r.hd.trans J.hd,r.dp.trans J.dp,r.ae.trans J.ae,r.dr.trans J.dr,by rw[r.loc];exact J.l7,by rw[r.loc];exact J.fS,by rw[r.loc];exact J.fT,by refine tb r.loc ?_;exact J.fC,λj hj=>(hg j (bx hj (au (ce rfl) h0))).trans (J.data j hj),by refine aE (hg _ (cq h0)) ?_;exact J.eV,by refine aE (hg _ cE.2) ?_;exact J.due,by exact⟨cE.1,bx cE.2 hn⟩,J.len,λi a q e1 e2=>?_,J.fG,λa ha=>by have:=J.bg a ha;exact⟨this.1,bx this.2 hn⟩,by exact bx h0 hn⟩;have:=J.bg a (bV e1);refine tb (hg _ ((id (And.symm this)).left)) ?_;exact tb (hg _ (dx (Nat.sub_le _ 1) this.2)) (J.eE i a q e1 e2)
theorem LI.nw(J:LI s as rows due dl dr){s':St}{o:O}(N:Nw s s' o):LI s' as rows due dl dr :=
 J.grow N.tojN N.full (by refine bh N.n ?_;exact Nat.le_succ _) λj hj=>by rw[N.get,aj (bz hj)]
theorem LI.set(J:LI s as rows due dl dr){x:Nat}{v:V}(h:x≠7/\x≠20/\x≠49/\x≠57):LI {s with loc:=aI s.loc x v} as rows due dl dr :=
 ⟨J.full.loc',J.lo,J.hd,J.dp,J.ae,J.dr,by rw[bf,aj (bO h.1)];exact J.l7,by rw[bf,aj (bO h.2.1)];exact J.fS,by rw[bf,aj (bO h.2.2.1)];exact J.fT,by rw[bf,aj (bO h.2.2.2)];exact J.fC,J.data,J.eV,J.due,J.gu,J.len,J.eE,J.fG,J.bg,J.n⟩
theorem LI.draw(J:LI s as rows due dl dr){r:List Ev}:LI {s with dr:=r} as rows due dl r :=
 ⟨⟨J.full.has,J.full.lo⟩,J.lo,J.hd,J.dp,J.ae,rfl,J.l7,J.fS,J.fT,J.fC,J.data,J.eV,J.due,J.gu,J.len,J.eE,J.fG,J.bg,J.n⟩
theorem LI.Ri(J:LI s as rows due dl dr){s':St}{more:List Nat}(N:Nw s s' (.list (more.map a0))):LI {s' with loc:=aI s'.loc 57 (.ref s.n)} as rows more s.n dr:=by
 obtain J':=J.nw N;obtain h0:=J.n;obtain hn:=N.n;refine⟨J'.full.loc',J'.lo,J'.hd,J'.dp,J'.ae,J'.dr,by rw[bf,aj (by decide)];exact J'.l7,by rw[bf,aj (by decide)];exact J'.fS,by rw[bf,aj (by decide)];exact J'.fT,by rw[bf,ar rfl],J'.data,J'.eV,?_,by refine(?_:103<=s.n/\s.n<s'.n);exact Hb h0 hn,J'.len,J'.eE,J'.fG,J'.bg,J'.n⟩;rw[N.get,ar rfl]
structure SI(s:St)(as:List Nat)(sl dl:Nat)(done:List Pl):Prop where
 tQ:aw s.loc 59=some (.ref sl)
 it:s.tr.get sl=some (.list (done.map aM))
 bg:103<=sl/\sl<s.n/\dl≠sl
 as:∀a∈as,a<sl
theorem LI.put(J:LI s as rows due dl dr){sl:Nat}{done more:List Pl}(S:SI s as sl dl done){s':St}(N:Pt s s' sl (.list (more.map aM))):LI s' as rows due dl dr:=by
 obtain h0:=J.n;obtain cE:=J.gu;have hn:=N.n;refine d7 S.bg λr1 r2 r3=>?_
 have lt:∀{j},j≠sl->s'.tr.get j=s.tr.get j:=λ{j} hj=>by rw[N.get,aj hj]
 refine⟨N.full,N.lo.trans J.lo,N.hd.trans J.hd,N.dp.trans J.dp,N.ae.trans J.ae,N.dr.trans J.dr,by rw[N.loc];exact J.l7,by rw[N.loc];exact J.fS,by rw[N.loc];exact J.fT,by refine tb N.loc ?_;exact J.fC,λj hj=>(lt (uc (bx hj (k0 r1)))).trans (J.data j hj),by refine aE (lt (bz r1)) ?_;exact J.eV,by refine aE (lt r3) ?_;exact J.due,by exact Hc cE hn,J.len,λi a q e1 e2=>?_,J.fG,λa ha=>by have:=J.bg a ha;exact zL hn this,by exact Hd h0 hn⟩;obtain h1:=J.bg a (bV e1);obtain h2:=S.as a (bV e1);refine tb (lt (bz h2)) ?_;exact tb (lt (bz (dx (Nat.sub_le _ 1) h2))) (J.eE i a q e1 e2)
noncomputable def Ai:List S:=[.cr [(60,false),(45,false)] (.call (.ah 46) [.loc 7,.c (.int 2)]),.ex (.meth (.loc 59) 0 [.loc 60]),.asg 57 false (.bin .add (.loc 57) (.loc 45))]
theorem PY{m sl:Nat}{done:List Pl}{p:Pl}{x:V}{i:V}(J:LI s as rows due dl (.stat 2 (aM p) (p.due.map a0)::dr))(S:SI s as sl dl done)(hs:aw s.loc 58=some i)(h1:done.length<=100)(h2:due.length+p.due.length<=1000) :
  Ok (cr (.loc 28) x>>=λY=>((ac P 3 (aZ k d b)) (m+20)).ss Ai) s λf s'=>f=.next/\∃sk,LI s' as rows (due++p.due) sk dr/\SI s' as sl sk (done++[p])/\aw s'.loc 58=some i:=by
 obtain J1:=J.set (x:=28) (v:=x) (by decide);refine lK (bC (RL (Sa (q:=2) J1.l7 J1.dr (by decide) (by refine bh J1.dp ?_;decide) J1.hd (bF _ _ rfl J1.hd ?_))));dsimp only;obtain J2:=((J1.draw (r:=dr)).set (x:=60) (v:=aM p) (by decide)).set (x:=45) (v:=.fl (p.due.map a0)) (by decide);have lk:∀y,y≠28->y≠60->y≠45->aw (aI (aI (aI s.loc 28 x) 60 (aM p)) 45 (.fl (p.due.map a0))) y=aw s.loc y:=λy a1 a2 a3=>by rw[bf,aj a3,bf,aj a2,bf,aj a1]
 obtain r1:=S.bg.1;obtain r2:=S.bg.2.1;obtain r3:=S.bg.2.2;refine bC (lI (kB (br (v:=.ref sl) (by refine aE (lk 59 (by decide) (by decide) (by decide)) ?_;exact S.tQ) (pb S.it (br (v:=aM p) (by rw[bf,aj (by decide),bf,ar rfl]) ⟨J2.full,by refine aR J.lo ?_;exact dw 0 _,done.map aM,S.it,by rw[aX];exact au (dg h1) (by decide),λs3 P3=>?_⟩)))));have l9:=P3;replace l9:=(show done.map aM++[aM p]=(done++[p]).map aM by refine bh gb ?_;rfl)▸l9;have J3:=J2.put (sl:=sl) (done:=done) ⟨by refine aE (lk 59 (by decide) (by decide) (by decide)) ?_;exact S.tQ,S.it,S.bg,S.as⟩ l9;have l3:s3.loc=aI (aI (aI s.loc 28 x) 60 (aM p)) 45 (.fl (p.due.map a0)):=P3.loc;obtain hl:(due.map a0++p.due.map a0).length<=aK:=by rw[bA,aX,aX];exact au h2 (by decide)
 refine bC (gF (iG (br J3.fC (br (v:=.fl (p.due.map a0)) (by rw[l3,bf,ar rfl]) (uH J3.full J3.due hl λs4 N4=>?_)))));have GJ:Nw s3 s4 (.list ((due++p.due).map a0)):=by refine gb▸?_;exact N4
 obtain J4:=J3.Ri GJ;obtain qC:=N4.n;obtain fA:s3.n=s.n:=P3.n;refine fE ⟨rfl,s3.n,J4,⟨?_,?_,?_,S.as⟩,?_⟩
 .refine (?_:aw (aI s4.loc 57 _) 59=_);rw[bf,aj (by decide),N4.loc,l3,lk 59 (by decide) (by decide) (by decide)];exact S.tQ
 .refine (?_:s4.tr.get sl=_);rw[N4.get,aj (He r2 fA),l9.get,ar rfl]
 .exact (ak [_,_,_,_] 4 0x6318c4218e384c528060033a47198d0000a67214601800ce9 rfl r1 r2 qC fA:103<=sl/\sl<s4.n/\s3.n≠sl)
 .refine (?_:aw (aI s4.loc 57 _) 58=_);rw[bf,aj (by decide),N4.loc,l3,lk 58 (by decide) (by decide) (by decide)];exact hs
end
end
section
section
variable {k:Nat}{d b:Bool}{n:Nat}{st s:St}
variable {as:List Nat}{rows:List (List Pl)}{due:List Nat}{dl:Nat}{dr tl:List Ev}{rd:Nat->Nat->Nat}
theorem RT{i:Nat}{Q:V->St->Prop}(hi:i<10)(h:Q (.str [48+i]) st):Ok (nC 4 [.int (i:Int)]) st Q:=dm (m:=pure (.str [48+i])) (di (show Nat.blt i 10=true by rw[iu];exact hi) rfl) (.pure h)
theorem Se{j:Nat}{l:List V}{Q:V->St->Prop}(g:st.tr.get j=some (.list l))(hl:l.length<=aK)(h:Q (.tup l) st):Ok (nC 2 [.ref j]) st Q :=
 dm (m:=js l) (by refine(?_:(Option.bind (cI st (.ref j)) (λl=>some (js l))).or _=_);refine tb (eT g) ?_;rfl) (.bind (qZ hl (.pure h)))
theorem DU{v:Nat}{Q:V->St->Prop}(h:Q (.int ((1+v:Nat):Int)) st):Ok (jU .add (.int 1) (.int (v:Int))) st Q:=by
 refine aT (.int (1+(v:Int))) st rfl ?_;refine tb (show (1:Int)+(v:Int)=((1+v:Nat):Int) by exact Hf) ?_;exact h
theorem RJ{a c:aN}{Q:V->St->Prop}(hl:a.length+c.length<=aK)(h:Q (.str (a++c)) st):Ok (jU .add (.str a) (.str c)) st Q:=dm (m:=room (a.length+c.length)>>=λY=>pure (.str (a++c))) rfl (.bind (qZ hl (.pure h)))
noncomputable def Jv:List S:=[.asg 59 false (.list []),.fr (.loc 28) (.call (.ah 29) [.bin .add (.c (.int 1)) (.call (.ah 36) [.loc 7,.c (.int 4)])]) Ai,
 .ex (.meth (.loc 49) 0 [.call (.ah 61) [.bin .add (.c (.str [80])) (.call (.ah 31) [.loc 58]),.c (.str []),.call (.ah 62) [.loc 59]]])]
theorem Tw(r:List Pl)(p:Pl):dO (r++[p])=dO r++p.due:=by simp[dO]
theorem Sr{m i n':Nat}(h:∀n l,0<l->rd n l<l)(J:LI s as rows due dl (.draw 4 (rd n' 4)::(gR rd (1+rd n' 4) (n'+1)++tl)))(hi:i<10)(ba:rows.length=i)(ki:due.length<=400) :
  Ok (cr (.loc 58) (.int (i:Int))>>=λY=>((ac P 3 (aZ k d b)) (m+200)).ss Jv) s λf s'=>f=.next/\∃as' sk,LI s' as' (rows++[(cu rd (1+rd n' 4) (n'+1)).1]) (due++dO (cu rd (1+rd n' 4) (n'+1)).1) sk tl:=by
 have ht:1+rd n' 4<=4:=by have:=h n' 4 (by decide);exact zK this
 obtain lx:=BI (rd:=rd) (1+rd n' 4) (n'+1)
 obtain dA:∀j,(dO ((cu rd (1+rd n' 4) (n'+1)).1.take j)).length<=32:=λj=>by
  obtain h9:(((cu rd (1+rd n' 4) (n'+1)).1.take j).flatMap Pl.due).length<=8*((cu rd (1+rd n' 4) (n'+1)).1.take j).length:=kb λp hp=>by
   refine aF (wF _ _ p (pN hp)) ?_;rintro q rfl;exact qd 2 q
  obtain h9:=fN▸h9;exact(Hg ht lx h9:(((cu rd (1+rd n' 4) (n'+1)).1.take j).flatMap Pl.due).length<=32)
 obtain J1:=J.set (x:=58) (v:=.int (i:Int)) (by decide);refine lK ?_;refine bC (gF (ib (da (dZ J1.full (by decide) λs2 N2=>?_))));obtain cF:s2.n=s.n+1:=N2.n;obtain J2:=(J1.nw N2).set (x:=59) (v:=.ref s.n) (by decide);obtain l2:s2.loc=aI s.loc 58 (.int (i:Int)):=N2.loc;have h0:=J.n;obtain cE:=J.gu;refine bC (pe (pc (x:=29) (t:=1) rfl (iG (fU (yp (l:=4) (dp:=59) J2.l7 J2.dr J2.dp (DU (yq (au ht (by decide)) (bP rfl ?_ ?_))))))))
 .exact yU (au ht (by decide))
 obtain J3:=J2.draw (r:=gR rd (1+rd n' 4) (n'+1)++tl);generalize Cr:(cu rd (1+rd n' 4) (n'+1)).1=row at lx dA ⊢;generalize 1+rd n' 4=t at ht lx Cr J3 ⊢;refine(pd (xs:=(List.range t).map λ(j:Nat)=>V.int (j:Int)) (c:=40) (λj s'=>∃dl m',LI s' as rows (due++dO (row.take j)) dl (gR rd (t - j) m'++tl)/\SI s' as s.n dl (row.take j)/\row=row.take j++(cu rd (t - j) m').1/\aw s'.loc 58=some (.int (i:Int))/\s.n<s'.n) (λj s' q9=>ci q9 λY Y hJ Y=>yT hJ.hd) (λj s' m2 x q9 hx mM=>jD q9 λdl m' hJ hS hw wK bJ=>?_) _ 0 _ _ (t5 dl (n'+1) (by simpa [dO] using J3) ⟨?_,?_,?_,?_⟩ ?_ ?_ ?_) rfl (cc _) (by rw[aX,eJ];exact Hh ht)).mono λf s4 q9=>aL q9 λe4 q8=>jD q8 λsm m4 J4 S4 w4 wK td=>?_
 .refine aF (List.getElem?_eq_some_iff.mp hx) ?_;rintro hj -;rw[aX,eJ] at hj
  obtain⟨m2,rfl⟩:∃q,m2=q+20:=⟨m2 - 20,by exact Hi mM⟩
  obtain⟨q,hq⟩:∃q,t - j=q+1:=⟨t - j - 1,by exact zM hj⟩
  rw[hq] at hJ hw
  obtain hp:row[j]?=some (az rd 2 m').1:=by
   rw[hw,io (by refine aR fN ?_;exact zN),fN,iZ (zO lx hj),Nat.sub_self];rfl
  obtain gX:row.take (j+1)=row.take j++[(az rd 2 m').1]:=by rw[jJ,hp];rfl
  refine(PY (p:=(az rd 2 m').1) (dr:=gR rd q (az rd 2 m').2++tl) hJ hS wK (by refine aR fN ?_;exact Hj ht lx) (by rw[bA];exact IX ki (dA j) (qd 2 m'))).mono λf s5 q9=>aL q9 λe5 q8=>bE q8 λvW J5 S5 h5=>⟨e5,vW,(az rd 2 m').2,?_,?_,?_,h5,by have:=S5.bg;exact Hk this⟩
  .rw [gX,Tw,<- iW,show t - (j+1)=q by exact lb hq];exact J5
  .refine bh gX ?_;exact S5
  .rw [gX,show t - (j+1)=q by exact lb hq,iW];exact hw
 .refine (?_:aw (aI s2.loc 59 _) 59=_);rw[bf,ar rfl]
 .refine (?_:s2.tr.get s.n=_);refine aE (N2.get _) ?_;exact ar rfl
 .exact (Hl cF cE:103<=s.n/\s.n<s2.n/\dl≠s.n)
 .exact λa ha=>(J.bg a ha).2
 .refine List.take_zero▸?_;rw[Nat.sub_zero];refine Cr▸?_;rfl
 .refine (?_:aw (aI s2.loc 59 _) 58=_);rw[bf,aj (by decide),l2,bf,ar rfl]
 .exact (jS cF:s.n<s2.n)
 subst e4;rw[aX,eJ,<- lx,ip] at J4 S4;rw[lx,Nat.sub_self] at J4;change LI s4 as rows (due++dO row) sm tl at J4;obtain Pz:(row.map aM).length<=aK:=by refine aR (aX _) ?_;exact au (show row.length<=4 by exact zP ht lx) (by decide)
 have BX:as.length=i:=J.len.trans ba;refine bC (lI (kB (br (v:=.ref 102) J4.fT (pb J4.eV (iH (iI (v:=.cls 61) rfl (cm (iG (fU (pc (x:=31) (t:=4) rfl (br wK (RT hi (RJ (by refine(?_:2<=aK);decide) (cm (fU (cm (pc (x:=62) (t:=2) rfl (br S4.tQ (Se S4.it Pz (da (.pure ?_)))))))))))))))))))));refine uq (c:=61) (f:=206) (fd:=wp) (l:=wk) (dp:=58) (bs:=[(11,.str ([80]++[48+i])),(200,.str []),(59,.tup (row.map aM))]) rfl rfl (by kernel_rfl) rfl rfl Sw (λk=>rfl) (by simp) (by decide) (λv=>rfl) (λk x y dB=>?_) (by decide) (by refine(?_:9<=_);exact Hm) J4.full J4.dp λs5 r5 f5 n5 g1 g2 Y g3=>?_
 .simp only[wk,ef,Prod.mk.injEq,Fd.v.injEq,er,fF] at dB;rcases dB with ⟨_,rfl⟩ | ⟨_,rfl⟩ | ⟨_,rfl⟩<;>rfl
 have J5:=J4.grow r5 f5 (Hn n5) g3;obtain qC:=J4.n;obtain B8:=J4.gu;refine⟨J5.full,by refine aR J5.lo ?_;exact cc _,as.map V.ref,J5.eV,by rw[aX,BX];exact au (show i+1<=10 by exact Ho hi) (by decide),λs6 P6=>?_⟩;have ge:=P6;obtain ge:=(show as.map V.ref++[V.ref (s4.n+1)]=(as++[s4.n+1]).map V.ref by refine bh gb ?_;rfl)▸ge;obtain n6:=P6.n;have t9:s5.n=s4.n+2:=n5;have lt:∀{j},j≠102->s6.tr.get j=s5.tr.get j:=λ{j} hj=>by rw[P6.get,aj hj]
 refine fE ⟨rfl,as++[s4.n+1],sm,ge.full,ge.lo.trans J5.lo,ge.hd.trans J5.hd,ge.dp.trans J5.dp,ge.ae.trans J5.ae,ge.dr.trans J5.dr,by rw[ge.loc];exact J5.l7,by rw[ge.loc];exact J5.fS,by rw[ge.loc];exact J5.fT,by refine ge.loc▸?_;exact J5.fC,λj hj=>(lt (zQ hj)).trans (J5.data j hj),by rw[ge.get,ar rfl],by refine aE (lt (Hp B8)) ?_;exact J5.due,by exact Hq n5 B8 n6,by refine bA▸?_;rw[bA];exact J5.len▸rfl,λj a r e1 e2=>?_,?_,λa ha=>?_,by exact Hr h0 td n5 n6⟩
 .by_cases hj:j<as.length
  .replace e1:=aW e1 (kX hj);obtain e2:=aW e2 (kX (by refine ck J5.len ?_;exact hj));have:=J5.bg a (bV e1);rw[lt (Ht this),lt (Iy this)];exact J5.eE j a r e1 e2
  .obtain xe:j<as.length+1:=by
    have:=(List.getElem?_eq_some_iff.mp e1).1;obtain this:=eU this bA;exact this
   obtain rfl:j=as.length:=Iz hj xe;rw[io (bI _),Nat.sub_self] at e1;rw[io (by refine bh J5.len ?_;exact bI _),J5.len,Nat.sub_self] at e2;obtain rfl:=ag e1;obtain rfl:=ag e2;rw[lt (IA h0 td),lt (IB h0 td),Nat.add_sub_cancel];refine⟨g2,?_⟩;rw[g1,BX];rfl
 .refine List.pairwise_append.mpr (bP J5.fG (List.pairwise_singleton _ _) (λx hx y hy=>?_));rw[lZ] at hy;have:=J4.bg x hx;exact ID hy this
 .rcases List.mem_append.mp ha with ha | ha
  .have:=J5.bg a ha;exact zL n6 this
  .rw [lZ] at ha;exact IE h0 td n5 n6 ha
end
end
section
section
variable {k:Nat}{d b:Bool}{n:Nat}{st s:St}
variable {as:List Nat}{rows:List (List Pl)}{due:List Nat}{dl:Nat}{dr tl:List Ev}{rd:Nat->Nat->Nat}
noncomputable def nr(rs:List (List Pl)):List Nat:=rs.flatMap dO
theorem Tz(rs:List (List Pl))(r:List Pl):nr (rs++[r])=nr rs++dO r:=by simp[nr]
theorem TA(h:∀n l,0<l->rd n l<l)(tl:List Ev){m:Nat}{Q:Fl->St->Prop}(hQ:∀s as dl,LI s as (cT rd (1+rd 0 3) 1).1 (nr (cT rd (1+rd 0 3) 1).1) dl tl->Ok (((ac P 3 (aZ k d b)) (m+300)).ss (lm.body.drop 6)) s Q) :
  Ok (((ac P 3 (aZ k d b)) (m+303)).ss (lm.body.drop 3)) ⟨du,102,[(7,.src),(20,.ref 1)],[],.draw 3 (rd 0 3)::(gx rd (1+rd 0 3) 1++tl),60,false,0⟩ Q:=by
 obtain f0:bc ⟨du,102,[(7,.src),(20,.ref 1)],[],.draw 3 (rd 0 3)::(gx rd (1+rd 0 3) 1++tl),60,false,0⟩:=⟨qi,cc _⟩
 refine bC (gF (ib (da (dZ f0 (by show 0<=aK;decide) λs1 N1=>bC (gF (ib (da (dZ (st:={s1 with loc:=aI s1.loc 49 (.ref 102)}) N1.full.loc' (by show 0<=aK;decide) λs2 N2=>?_))))))));have n1:s1.n=103:=N1.n;obtain n2:s2.n=104:=by refine aE N2.n ?_;refine(?_:s1.n+1=_);exact Hu n1
 obtain l2:s2.loc=[(7,.src),(20,.ref 1),(49,.ref 102)]:=by
  refine aE N2.loc ?_;refine(?_:aI s1.loc 49 _=_);rw[N1.loc];rfl
 obtain oW:∀j,j<102->s2.tr.get j=du.get j:=λj hj=>by
  rw[N2.get,aj (by refine(?_:j≠s1.n);exact Hv n1 hj)];rw[N1.get,aj (by refine(?_:j≠102);exact zQ hj)]
 obtain J2:LI {s2 with loc:=aI s2.loc 57 (.ref 103)} [] [] [] 103 (.draw 3 (rd 0 3)::(gx rd (1+rd 0 3) 1++tl)):=by
  refine⟨N2.full.loc',N2.lo.trans N1.lo,N2.hd.trans N1.hd,N2.dp.trans N1.dp,N2.ae.trans N1.ae,N2.dr.trans N1.dr,by rw[l2];rfl,by rw[l2];rfl,by rw[l2];rfl,by rw[l2];rfl,oW,?_,?_,by refine(?_:103<=103/\103<s2.n);exact Hw n2,rfl,λi a r e Y=>(by simp at e),.nil,λa ha=>(by cases ha),by refine(?_:104<=s2.n);exact cb (id (bU n2))⟩
  .refine (?_:s2.tr.get 102=_);rw[N2.get,aj (by refine(?_:102≠s1.n);exact Hx n1)];rw[N1.get];exact ar rfl
  .refine (?_:s2.tr.get 103=_);rw[N2.get,ar (by refine(?_:103=s1.n);exact id (bU n1))];rfl
 rw[n1];obtain hK:1+rd 0 3<=3:=by have:=h 0 3 (by decide);exact vz this
 obtain BU:1+rd 0 3<=aK:=au hK (by decide);refine bC (pe (pc (x:=29) (t:=1) rfl (iG (fU (yp (l:=3) (dp:=59) J2.l7 J2.dr J2.dp (DU (yq BU ⟨rfl,?_,?_⟩)))))))
 .exact yU BU
 obtain J3:=J2.draw (r:=gx rd (1+rd 0 3) 1++tl);obtain oE:=sM (rd:=rd) (1+rd 0 3) 1
 obtain ki:∀i,(nr ((cT rd (1+rd 0 3) 1).1.take i)).length<=96:=λi=>by
  obtain h9:(((cT rd (1+rd 0 3) 1).1.take i).flatMap dO).length<=32*((cT rd (1+rd 0 3) 1).1.take i).length:=kb λr hr=>by
   refine aL (mz (λn=>h n 4 (by decide)) _ _ r (pN hr)) λq1 q2=>?_
   obtain h8:(r.flatMap Pl.due).length<=8*r.length:=kb λp hp=>by
    refine aF (q2 p hp) ?_;rintro q rfl;exact qd 2 q
   exact(au h8 (gc 8 q1):(r.flatMap Pl.due).length<=32)
  obtain h9:=fN▸h9;exact(au h9 (gc 32 (au (Nat.min_le_right _ _) (au (cb oE) hK))):(((cT rd (1+rd 0 3) 1).1.take i).flatMap dO).length<=96)
 generalize Ct:(cT rd (1+rd 0 3) 1).1=rows at hQ oE ki;generalize 1+rd 0 3=K at hK J3 Ct oE ⊢;refine(pd (xs:=(List.range K).map λ(j:Nat)=>V.int (j:Int)) (c:=220) (λi s'=>∃as dl n',LI s' as (rows.take i) (nr (rows.take i)) dl (gx rd (K - i) n'++tl)/\rows=rows.take i++(cT rd (K - i) n').1) (λj s' q9=>lV q9 λY Y Y hJ Y=>yT hJ.hd) (λi s' m2 x q9 hx mM=>lV q9 λas dl n' hJ hw=>?_) _ 0 _ _ (ky ([]) 103 1 (J3) (by rw[List.take_zero,Nat.sub_zero,Ct];rfl)) rfl (cc _) (by rw[aX,eJ];exact ak [_,_ - 0,_] 3 0x18c14025699200014a00dc4c42001a60520c0004c4200026041c100002621800009 rfl (zs _ 0) hK)).mono λf s4 q9=>aL q9 λe4 q8=>lV q8 λJb sm m4 J4 w4=>?_
 .refine aF (List.getElem?_eq_some_iff.mp hx) λhi hx=>?_
  rw[List.getElem_map,List.getElem_range] at hx;subst hx;rw[aX,eJ] at hi
  obtain⟨m2,rfl⟩:∃q,m2=q+200:=⟨m2 - 200,by exact sc (au (by decide) mM)⟩
  obtain⟨q,hq⟩:∃q,K - i=q+1:=⟨K - i - 1,by exact zM hi⟩
  rw[hq] at hJ hw
  obtain hp:rows[i]?=some (cu rd (1+rd n' 4) (n'+1)).1:=by
   rw[hw,io (by refine aR fN ?_;exact zN),fN,iZ (zO oE hi),Nat.sub_self];rfl
  obtain gX:rows.take (i+1)=rows.take i++[(cu rd (1+rd n' 4) (n'+1)).1]:=by rw[jJ,hp];rfl
  obtain hJ':LI s' as (rows.take i) (nr (rows.take i)) dl (.draw 4 (rd n' 4)::(gR rd (1+rd n' 4) (n'+1)++(gx rd q (cu rd (1+rd n' 4) (n'+1)).2++tl))):=by
   have:gx rd (q+1) n'++tl=.draw 4 (rd n' 4)::(gR rd (1+rd n' 4) (n'+1)++(gx rd q (cu rd (1+rd n' 4) (n'+1)).2++tl)):=by
    refine(?_:(.draw 4 (rd n' 4)::(gR rd (1+rd n' 4) (n'+1)++gx rd q (cu rd (1+rd n' 4) (n'+1)).2))++tl=_);rw[List.cons_append,iW]
   refine ck this ?_;exact hJ
  refine(Sr h hJ' (bx hi (au hK (ce rfl))) (by refine aE fN ?_;exact iZ (cq (bx hi (cb oE.symm)))) (by have:=ki i;exact au this c9)).mono λf s5 q9=>aL q9 λe5 q8=>kR q8 λJc vW J5=>⟨e5,Jc,vW,(cu rd (1+rd n' 4) (n'+1)).2,?_,?_⟩
  .rw [gX,Tz,show K - (i+1)=q by exact lb hq];exact J5
  .rw [gX,show K - (i+1)=q by exact lb hq,iW];exact hw
 .subst e4;rw[aX,eJ,Nat.sub_self,<- oE,ip] at J4;exact hQ s4 Jb sm J4
end
end
section
section
variable {k:Nat}{d b:Bool}{n:Nat}{st s:St}
variable {as:List Nat}{rows:List (List Pl)}{due:List Nat}{dl:Nat}{dr tl:List Ev}
structure MI(s:St)(as:List Nat)(rows:List (List Pl))(due:List Nat)(dl:Nat)(dr:List Ev)(d:Bool)(i0 fr:Nat)(F:List Nat)(u:V):Prop where
 full:bc s
 lo:s.lo=0
 hd:s.hd=false
 dp:s.dp=60
 ae:s.ae=[]
 dr:s.dr=dr
 l7:aw s.loc 7=some .src
 fS:aw s.loc 20=some (.ref 1)
 fT:aw s.loc 49=some (.ref 102)
 fC:aw s.loc 57=some (.ref dl)
 lD:aw s.loc 63=some (.ref fr)
 tR:aw s.loc 64=some u
 data:∀j,j<102->j≠2\/d=false->s.tr.get j=du.get j
 two:d=true->s.tr.get 2=some (.list [.ref 8,.ref 79,.ref 91,.ref (i0+1)])
 eV:s.tr.get 102=some (.list (as.map V.ref))
 due:s.tr.get dl=some (.list (due.map a0))
 gu:103<=dl/\dl<fr
 len:as.length=rows.length
 eE:∀(i a:Nat) (r:List Pl),as[i]?=some a->rows[i]?=some r->s.tr.get a=some (.inst 61 (a - 1))/\s.tr.get (a - 1)=some (yE i r)
 fG:as.Pairwise λx y=>x+2<=y
 bg:∀a∈as,104<=a/\a<fr
 item:d=true->s.tr.get i0=some (lB i0)/\s.tr.get (i0+1)=some (.inst 10 i0)/\s.tr.get (i0+2)=some (.list [])/\s.tr.get (i0+3)=some (.list [])/\i0+4<=s.n
 front:s.tr.get fr=some (.list (F.map a0))
 iy:104<=fr/\fr<i0/\i0<=s.n
theorem LI.mi(J:LI s as rows due dl dr){s':St}(N:Nw s s' (.list [])){u:V}:MI {s' with loc:=aI (aI s'.loc 63 (.ref s.n)) 64 u} as rows due dl dr false s'.n s.n [] u:=by
 have J':=J.nw N;obtain hn:=N.n;have h0:=J.n;obtain cE:=J.gu;obtain lk:∀y,y≠63->y≠64->aw (aI (aI s'.loc 63 (.ref s.n)) 64 u) y=aw s'.loc y:=λy a1 a2=>by rw[bf,aj a2,bf,aj a1]
 refine⟨J'.full.loc',J'.lo,J'.hd,J'.dp,J'.ae,J'.dr,(lk 7 (by decide) (by decide)).trans J'.l7,(lk 20 (by decide) (by decide)).trans J'.fS,(lk 49 (by decide) (by decide)).trans J'.fT,(lk 57 (by decide) (by decide)).trans J'.fC,?_,?_,λj hj Y=>J'.data j hj,λh=>(by cases h),J'.eV,J'.due,by exact Hy cE,J'.len,J'.eE,J'.fG,λa ha=>J.bg a ha,λh=>((nofun:_->_) h),?_,?_⟩
 .refine (?_:aw (aI (aI s'.loc 63 _) 64 u) 63=_);rw[bf,aj (by decide),bf,ar rfl]
 .refine (?_:aw (aI (aI s'.loc 63 _) 64 u) 64=_);rw[bf,ar rfl]
 .refine (?_:s'.tr.get s.n=_);rw[N.get,ar rfl];rfl
 .exact (ak [_,_] 2 0x18c42061014221880d090c406848d0000a630 rfl hn h0:104<=s.n/\s.n<s'.n/\s'.n<=s'.n)
variable {i0 fr:Nat}{F:List Nat}{u:V}
theorem MI.draw(J:MI s as rows due dl dr d i0 fr F u){r:List Ev}:MI {s with dr:=r} as rows due dl r d i0 fr F u :=
 ⟨⟨J.full.has,J.full.lo⟩,J.lo,J.hd,J.dp,J.ae,rfl,J.l7,J.fS,J.fT,J.fC,J.lD,J.tR,J.data,J.two,J.eV,J.due,J.gu,J.len,J.eE,J.fG,J.bg,J.item,J.front,J.iy⟩
theorem MI.use(J:MI s as rows due dl dr d i0 fr F u){v:V}:MI {s with loc:=aI s.loc 64 v} as rows due dl dr d i0 fr F v :=
 ⟨⟨J.full.has,J.full.lo⟩,J.lo,J.hd,J.dp,J.ae,J.dr,by rw[bf,aj (by decide)];exact J.l7,by rw[bf,aj (by decide)];exact J.fS,by rw[bf,aj (by decide)];exact J.fT,by rw[bf,aj (by decide)];exact J.fC,by rw[bf,aj (by decide)];exact J.lD,by rw[bf,ar rfl],J.data,J.two,J.eV,J.due,J.gu,J.len,J.eE,J.fG,J.bg,J.item,J.front,J.iy⟩
theorem MI.put(J:MI s as rows due dl dr d i0 fr F u){s':St}{G:List Nat}(N:Pt s s' fr (.list (G.map a0))):MI s' as rows due dl dr d i0 fr G u:=by
 obtain hn:=N.n;refine d7 J.iy λf1 f2 f3=>?_
 obtain cE:=J.gu;have lt:∀{j},j≠fr->s'.tr.get j=s.tr.get j:=λ{j} hj=>by rw[N.get,aj hj]
 refine⟨N.full,N.lo.trans J.lo,N.hd.trans J.hd,N.dp.trans J.dp,N.ae.trans J.ae,N.dr.trans J.dr,by rw[N.loc];exact J.l7,by rw[N.loc];exact J.fS,by rw[N.loc];exact J.fT,by refine tb N.loc ?_;exact J.fC,by refine tb N.loc ?_;exact J.lD,by rw[N.loc];exact J.tR,λj hj h=>(lt (uc (bx hj (au (ce rfl) f1)))).trans (J.data j hj h),λh=>(lt (uc (bx (ce rfl:2<104) f1))).trans (J.two h),(lt (dE (cq f1))).trans J.eV,(lt (dE cE.2)).trans J.due,cE,J.len,λi a q e1 e2=>?_,J.fG,J.bg,λh=>?_,by rw[N.get,ar rfl],by exact⟨f1,f2,au f3 (cb hn.symm)⟩⟩
 .have:=J.bg a (bV e1);refine tb (lt (dE this.2)) ?_;exact tb (lt (bz (dx (Nat.sub_le _ 1) this.2))) (J.eE i a q e1 e2)
 .obtain g1:=(J.item h).1;obtain g2:=(J.item h).2.1;obtain g3:=(J.item h).2.2.1;obtain g4:=(J.item h).2.2.2.1;obtain g5:=(J.item h).2.2.2.2;exact hV ((lt (dU f2)).trans g1) ((lt (qV (iB f2))).trans g2) ((lt (lH (bx f2 hB))).trans g3) ((lt (lH (bx f2 hB))).trans g4) (HA hn g5)
theorem MI.twice(J:MI s as rows due dl dr false s.n fr F u){s5 s6:St}(r5:jN s s5)(f5:bc s5)(n5:s5.n=s.n+4)(g1:s5.tr.get s.n=some (lB s.n))(g2:s5.tr.get (s.n+1)=some (.inst 10 s.n))(g3:s5.tr.get (s.n+2)=some (.list []))(g4:s5.tr.get (s.n+3)=some (.list []))(g5:∀j,j<s.n->s5.tr.get j=s.tr.get j)(P6:Pt s5 s6 2 (.list [.ref 8,.ref 79,.ref 91,.ref (s.n+1)])):MI s6 as rows due dl dr true s.n fr F u:=by
 obtain hn:=P6.n;refine d7 J.iy λf1 f2 f3=>?_
 obtain cE:=J.gu;have lt:∀{j},j≠2->j<s.n->s6.tr.get j=s.tr.get j:=λ{j} hj h=>by rw[P6.get,aj hj,g5 j h]
 have up:∀{j},j≠2->s6.tr.get j=s5.tr.get j:=λ{j} hj=>by rw[P6.get,aj hj]
 refine⟨P6.full,P6.lo.trans (r5.lo.trans J.lo),P6.hd.trans (r5.hd.trans J.hd),P6.dp.trans (r5.dp.trans J.dp),P6.ae.trans (r5.ae.trans J.ae),P6.dr.trans (r5.dr.trans J.dr),by refine tb P6.loc ?_;refine tb r5.loc ?_;exact J.l7,by refine tb P6.loc ?_;refine tb r5.loc ?_;exact J.fS,by refine tb P6.loc ?_;refine tb r5.loc ?_;exact J.fT,by refine tb P6.loc ?_;refine tb r5.loc ?_;exact J.fC,by refine tb P6.loc ?_;refine tb r5.loc ?_;exact J.lD,by refine tb P6.loc ?_;refine tb r5.loc ?_;exact J.tR,λj hj h=>?_,λY=>by rw[P6.get,ar rfl],(lt (dU (dw (Nat.succ 2) 99)) (dx (au (ce rfl:102<=104) f1) f2)).trans J.eV,(lt (lH (bx (ce rfl:2<103) cE.1)) (bL cE.2 f2)).trans J.due,cE,J.len,λi a q e1 e2=>?_,J.fG,J.bg,λY=>(hV ((up (lH (bL (bx (ce rfl:2<104) f1) f2))).trans g1) ((up (ak [_,_] 2 0x6318e300092800053114601800d09 rfl f1 f2)).trans g2) ((up (lH (Nat.add_lt_add_right (dx (cc _) f2) 2))).trans g3) ((up (dU (dw (Nat.succ 2) _))).trans g4) (ak [_,_,_] 3 0x18c19200044c47090d00022630 rfl n5 hn)),(lt (lH (bx (ce rfl:2<104) f1)) (zR f2)).trans J.front,by exact ak [_,_,_,_] 4 0x18c63108194451986603424519866034247090d00022630 rfl n5 hn f1 f2⟩
 .refine bR h (λh=>?_) (λh=>?_)
  .exact (lt h (ak [_,_,_] 3 0x18c61464201993214601800d09 rfl f1 f2 hj)).trans (J.data j hj (.inr rfl))
  .exact kM h
 .have:=J.bg a (bV e1);refine tb (lt (lH (bx (ce rfl:2<104) this.1)) (bL this.2 f2)) ?_;exact tb (lt (HC this) (dx (Nat.sub_le _ 1) (bL this.2 f2))) (J.eE i a q e1 e2)
theorem Vm:du.get 1=some (.inst 21 0):=by kernel_rfl
theorem Vl:∃es,du.get 0=some (.ns es)/\aw es 23=some (.ref 2):=(ao _ rfl rfl)
theorem Vn:du.get 2=some (.list [.ref 8,.ref 79,.ref 91]):=by kernel_rfl
end
end
section
section
variable {k:Nat}{d b:Bool}{n:Nat}{st s:St}
variable {as:List Nat}{rows:List (List Pl)}{due:List Nat}{dl:Nat}{dr tl:List Ev}{i0 fr:Nat}{F:List Nat}{u:V}{D:Bool}
theorem Qa{e:Nat}:decide ((e:Int)=1)=Nat.beq e 1:=by
 rw[dh,Bool.eq_iff_iff,decide_eq_true_iff,decide_eq_true_iff];exact⟨Int.ofNat.inj,λh=>tb h rfl⟩
theorem Ec{m e:Nat}{r:List Ev}{Q:Bool->St->Prop}(h7:aw s.loc 7=some .src)(eB:s.dr=.draw 3 e::r)(aS:s.dp=59+1)(h:Q (Nat.beq e 1) {s with dr:=r}):Ok (((ac P 3 (aZ k d b)) (m+6)).t (.cmp .eq (.call (.ah 36) [.loc 7,.c (.int 3)]) (.c (.int 1)))) s Q:=by
 refine ut (yp (l:=3) h7 eB aS (fU (aT (decide ((e:Int)=1)) ({s with dr:=r}) rfl ?_)));refine aR Qa ?_;exact h
theorem Qc(n:Nat):lB n=.ns (fill (oV [(175,.ref (n+1)),(180,.int 1),(11,.str [82])]) sG (n+2) []):=by kernel_rfl
noncomputable def CG:S:=.ite (.cmp .eq (.call (.ah 36) [.loc 7,.c (.int 3)]) (.c (.int 1))) [.ex (.meth (.attr (.loc 20) 23) 0 [.call (.ah 10) [.c (.int 1),.c (.str [82])]]),.ex (.meth (.loc 63) 0 [.tuple [.c (.str [82]),.c (.str [116,119,105,99,101])]])] []
noncomputable def CF:S:=.ite (.cmp .eq (.call (.ah 36) [.loc 7,.c (.int 3)]) (.c (.int 1))) [.asg 64 false (.tuple [.c (.str [81,48])]),.ex (.meth (.loc 63) 0 [.tuple [.c (.str [81,48]),.c (.str [117,115,105,110,103])]])] []
theorem Ss:V.tup [.str [82],.str [116,119,105,99,101]]=a0 24:=by kernel_rfl
theorem Su:V.tup [.str [81,48],.str [117,115,105,110,103]]=a0 25:=by kernel_rfl
theorem D9{m:Nat}{x y:aN}{v:V}(e:V.tup [.str x,.str y]=v):Ok (((ac P 3 (aZ k d b)) (m+5)).e (.tuple [.c (.str x),.c (.str y)])) s λu s'=>u=v/\s'=s :=
 pf (cm (fU (cm (fU (da (bP (by refine(?_:2<=aK);decide) e rfl))))))
theorem Fy{m:Nat}{E:E}{i:Nat}(J:MI s as rows due dl dr D i0 fr F u)(he:Ok (((ac P 3 (aZ k d b)) (m+3)).e E) s λv s'=>v=a0 i/\s'=s)(hl:F.length<=100){r:List S}{Q:Fl->St->Prop}(hQ:∀s',MI s' as rows due dl dr D i0 fr (F++[i]) u->Ok (((ac P 3 (aZ k d b)) (m+6)).ss r) s' Q):Ok (((ac P 3 (aZ k d b)) (m+7)).ss (.ex (.meth (.loc 63) 0 [E])::r)) s Q:=by
 obtain f1:=J.iy.1;obtain f2:=J.iy.2.1;obtain f3:=J.iy.2.2;refine bC (lI (kB (br J.lD (pb J.front (he.mono λv s' hq=>?_)))));obtain e1:=hq.1;obtain e2:=hq.2;subst e1 e2;refine⟨J.full,by refine aR J.lo ?_;exact cc _,_,J.front,by rw[aX];exact au (dg hl) (by decide),λs3 P3=>?_⟩;have l9:=P3;rw[show F.map a0++[a0 i]=(F++[i]).map a0 by refine bh gb ?_;rfl] at l9;exact hQ s3 (J.put l9)
theorem Uy{m e:Nat}(J:MI s as rows due dl (.draw 3 e::tl) false s.n fr [] u):Ok (((ac P 3 (aZ k d b)) (m+60)).s CG) s λf s'=>f=.next/\MI s' as rows due dl tl (Nat.beq e 1) s.n fr (dD (Nat.beq e 1)) u:=by
 refine uo (Ec J.l7 J.dr J.dp ?_);obtain J1:=J.draw (r:=tl)
 cases Nat.beq e 1 with
 |false=>exact fE ⟨rfl,J1⟩
 |true=>
  refine ja (ar rfl) (cps λG kG=>af Vl λBm z1 z2=>?_);obtain g1:s.tr.get 1=some (.inst 21 0):=(J.data 1 (by decide) (.inl (by decide))).trans Vm;obtain g0:s.tr.get 0=some (.ns Bm):=(J.data 0 (by decide) (.inl (by decide))).trans z1;have g2:s.tr.get 2=some (.list [.ref 8,.ref 79,.ref 91]):=(J.data 2 (by decide) (.inr rfl)).trans Vn;obtain f1:=J.iy.1;obtain f2:=J.iy.2.1;obtain f3:=J.iy.2.2;refine kG (bC (lI (kB (uj (br J1.fS (um (c:=21) (dd:=0) g1 g0 rfl z2 (pb g2 (iH (iI (v:=.cls 10) rfl (cm (fU (cm (fU (da (.pure (uq (c:=10) (f:=204) (fd:=wo) (l:=sG) (dp:=58) (bs:=[(180,.int 1),(11,.str [82])]) rfl rfl (by kernel_rfl) rfl rfl Qb (λk=>rfl) (by decide) (by decide) (λv=>rfl) (λk x y dB=>?_) (by decide) (by refine(?_:25<=_);exact by simp +arith) J1.full J1.dp λs5 r5 f5 n5 h1 h2 h3 h4=>?_))))))))))))))))
  .simp only[sG,ef,Prod.mk.injEq,Fd.v.injEq,er,fF,reduceCtorEq,and_false,false_or] at dB;rcases dB with ⟨_,rfl⟩ | ⟨_,rfl⟩<;>rfl
  have t9:s5.n=s.n+4:=n5;obtain h1':s5.tr.get s.n=some (lB s.n):=by rw[Qc];exact h1
  refine⟨f5,by refine aR r5.lo ?_;refine aR J.lo ?_;exact by simp +arith,_,(h4 2 (by refine(?_:2<s.n);exact bL (bx (ce rfl:2<104) f1) f2)).trans g2,by decide,λs6 P6=>?_⟩;obtain J6:=J1.twice (s5:=s5) (s6:=s6) ⟨r5.loc,r5.ae,r5.dr,r5.dp,r5.hd,r5.lo⟩ f5 t9 h1' h2 (h3 _ (bI _) (by refine(?_:s.n+2<s5.n);exact HD t9)) (h3 _ (by refine(?_:s.n+2<=s.n+3);exact cq (dT (_+2))) (by refine(?_:s.n+3<s5.n);exact cb (id (bU t9)))) h4 P6;exact Fy (m:=m+51) (i:=24) J6 (D9 Ss) (by decide) λs7 J7=>fE ⟨rfl,J7⟩
theorem Uw{m e:Nat}(J:MI s as rows due dl (.draw 3 e::tl) D i0 fr F (eF false))(hF:F.length<=1):Ok (((ac P 3 (aZ k d b)) (m+60)).s CF) s λf s'=>f=.next/\MI s' as rows due dl tl D i0 fr (F++dP (Nat.beq e 1)) (eF (Nat.beq e 1)):=by
 refine uo (Ec J.l7 J.dr J.dp ?_);obtain J1:=J.draw (r:=tl)
 cases Nat.beq e 1 with
 |false=>
  refine fE ⟨rfl,(?_:MI _ as rows due dl tl D i0 fr (F++[]) (eF false))⟩
  refine aR (lX _) ?_;exact J1
 |true=>
  exact ja (ar rfl) (bC (gF (aT (eF true) ({s with dr:=tl}) rfl (Fy (m:=m+51) (i:=25) (J1.use (v:=eF true)) (D9 Su) (au hF c9) λs7 J7=>fE ⟨rfl,J7⟩))))
structure PI(s:St)(rows:List (List Pl))(due:List Nat)(D B:Bool)(p fr dl:Nat):Prop where
 full:bc s
 lo:s.lo=0
 hd:s.hd=false
 dp:s.dp=60
 ae:s.ae=[]
 iz:aw s.loc 65=some (.ref p)
 lD:aw s.loc 63=some (.ref fr)
 fC:aw s.loc 57=some (.ref dl)
 front:s.tr.get fr=some (.list ((dD D++dP B).map a0))
 due:s.tr.get dl=some (.list (due.map a0))
 lt:fr<s.n/\dl<s.n/\p<s.n
 big:∃as i0 x0,jE s as rows D B i0 x0/\p=x0+4
noncomputable def z9:S:=.asg 65 false (.call (.ah 66) [.c (.str [77,65,73,78]),.loc 20,.dict [] [],.call (.ah 67) [.loc 49,.loc 64]])
theorem RQ{m:Nat}{Q:V->St->Prop}(f:bc st)(h:∀s,Nw st s (.dict [])->Q (.ref st.n) s):Ok (((ac P 3 (aZ k d b)) (m+1)).e (.dict [] [])) st Q:=Ok.bind (qW f λs N=>.pure (h s N))
theorem Uu{m:Nat}{B:Bool}(J:MI s as rows due dl dr D i0 fr (dD D++dP B) (eF B)):Ok (((ac P 3 (aZ k d b)) (m+60)).s z9) s λf s'=>f=.next/\PI s' rows due D B (s.n+4) fr dl:=by
 refine d7 J.iy λf1 f2 f3=>?_
 obtain cE:=J.gu;refine gF (iH (iI (v:=.cls 66) rfl (cm (fU (cm (br J.fS (cm (RQ J.full λs1 N1=>cm (iH (iI (v:=.cls 67) rfl (cm (br (v:=.ref 102) (by rw[N1.loc];exact J.fT) (cm (br (v:=eF B) (by rw[N1.loc];exact J.tR) (da (.pure ?_))))))))))))))));have n1:=N1.n;have og:s1.dp=58+2:=N1.dp.trans J.dp;refine uq (c:=67) (f:=207) (fd:=wq) (l:=wl) (dp:=58) (bs:=[(49,.ref 102),(64,eF B)]) rfl rfl (by kernel_rfl) rfl rfl S0 (λk=>rfl) (by simp) (by decide) (λv=>rfl) (λk x y dB=>?_) (by decide) (by refine(?_:8<=_);exact by simp +arith) N1.full og λs2 r2 LX n2 a1 a2 Y a4=>?_
 .simp only[wl,ef,Prod.mk.injEq,Fd.v.injEq,er,fF] at dB;rcases dB with ⟨_,rfl⟩ | ⟨_,rfl⟩<;>rfl
 obtain iE:s2.n=s.n+3:=by refine tb n2 ?_;exact tb n1 rfl
 refine da (.pure (uq (c:=66) (f:=208) (fd:=wr) (l:=wm) (dp:=58) (bs:=[(11,.str [77,65,73,78]),(20,.ref 1),(73,.ref s.n),(147,.ref (s1.n+1))]) rfl rfl (by kernel_rfl) rfl rfl S1 (λk=>rfl) (by simp) (by decide) (λv=>rfl) (λk x y dB=>?_) (by decide) (by refine(?_:10<=_);exact by simp +arith) LX (r2.dp.trans og) λs3 r3 LY n3 b1 b2 Y b4=>?_))
 .simp only[wm,ef,Prod.mk.injEq,Fd.v.injEq,er,fF] at dB;rcases dB with ⟨_,rfl⟩ | ⟨_,rfl⟩ | ⟨_,rfl⟩ | ⟨_,rfl⟩<;>rfl
 obtain Ra:s3.n=s.n+5:=by rw[n3,iE];rfl
 have lt:∀j,j<s.n->s3.tr.get j=s.tr.get j:=λj hj=>by
  rw[b4 j (ak [_,_,_,_,_] 5 0x631852a0a341a26800093090d0000a630 rfl n1 n2 hj),a4 j (nS n1 hj),N1.get,aj (bz hj)]
 have lk:∀y,y≠65->aw (aI s3.loc 65 (.ref (s2.n+1))) y=aw s.loc y:=λy hy=>by rw[bf,aj hy,r3.loc,r2.loc,N1.loc]
 refine⟨rfl,LY.loc',r3.lo.trans (r2.lo.trans (N1.lo.trans J.lo)),r3.hd.trans (r2.hd.trans (N1.hd.trans J.hd)),r3.dp.trans (r2.dp.trans (N1.dp.trans J.dp)),r3.ae.trans (r2.ae.trans (N1.ae.trans J.ae)),?_,(lk 63 (by decide)).trans J.lD,(lk 57 (by decide)).trans J.fC,(lt fr (bx f2 f3)).trans J.front,(lt dl (bx (bL cE.2 f2) f3)).trans J.due,?_,as,i0,s.n,?_,rfl⟩
 .refine (?_:aw (aI s3.loc 65 _) 65=_);rw[bf,ar rfl,iE]
 .exact (ak [_,_,_,_,_,_,_,_,_] 9 0x6318c631082ba00044c85798af01a308000935b8d16400049a5468000532a10509866033a43288a30 rfl f2 f3 cE n1 n2 n3:fr<s3.n/\dl<s3.n/\s.n+4<s3.n)
 .refine ⟨λj hj h=>(lt j (ak [_,_,_,_] 4 0x18c630a53100cc99865114601800d09 rfl f1 f2 f3 hj)).trans (J.data j hj h),λh=>(lt 2 (bx (bL (bx (ce rfl:2<104) f1) f2) f3)).trans (J.two h),(lt 102 (bx (bL (bx (ce rfl:102<104) f1) f2) f3)).trans J.eV,J.len,λi a r e1 e2=>?_,J.fG,λa ha=>by have:=J.bg a ha;exact⟨this.1,bL this.2 f2⟩,λh=>?_,by exact⟨au (k0 f1) (cq f2),f3⟩,?_,?_,?_,?_,?_,by refine(?_:s.n+5<=s3.n);exact ak [_,_,_,_,_,_] 6 0x18c60d10002a623455000126541a26800093090d0000a630 rfl n1 n2 n3⟩
  .have:=J.bg a (bV e1);have:=J.eE i a r e1 e2;exact⟨(lt a (HE f2 f3 ‹_›)).trans this.1,(lt (a - 1) (HF f2 f3 ‹_›)).trans this.2⟩
  .obtain g1:=(J.item h).1;obtain g2:=(J.item h).2.1;obtain g3:=(J.item h).2.2.1;obtain g4:=(J.item h).2.2.2.1;obtain g5:=(J.item h).2.2.2.2;exact hV ((lt _ (mR g5)).trans g1) ((lt _ (HG g5)).trans g2) ((lt _ (cq g5)).trans g3) ((lt _ (g5)).trans g4) g5
  .refine (?_:s3.tr.get s.n=_);rw[b4 _ (by exact ak [_,_,_,_] 4 0x630a511a26800093090d0000a630 rfl n1 n2),a4 _ (by exact jS n1),N1.get,ar rfl]
  .refine (?_:s3.tr.get (s.n+1)=_);refine tb (b4 _ (HH n1 n2)) ?_;refine sb n1 ?_;refine sb a1 ?_;rfl
  .refine (?_:s3.tr.get (s.n+2)=_);refine tb (b4 _ (HI n1 n2)) ?_;refine tb (show s.n+2=s1.n+1 by exact HJ n1) ?_;refine tb a2 ?_;exact sb n1 rfl
  .refine (?_:s3.tr.get (s.n+3)=_);refine sb iE ?_;refine tb b1 ?_;refine tb n1 ?_;rfl
  .refine (?_:s3.tr.get (s.n+4)=_);refine tb (show s.n+4=s2.n+1 by exact HK iE) ?_;refine tb b2 ?_;exact sb iE rfl
theorem Uz{N e:Nat}(hN:60<=N)(J:MI s as rows due dl (.draw 3 e::tl) false s.n fr [] u):Ok (((ac P 3 (aZ k d b)) N).s CG) s λf s'=>f=.next/\MI s' as rows due dl tl (Nat.beq e 1) s.n fr (dD (Nat.beq e 1)) u:=by
 obtain⟨m,rfl⟩:∃m,N=m+60:=⟨N - 60,by exact sc hN⟩
 exact Uy J
theorem Ux{N e:Nat}(hN:60<=N)(J:MI s as rows due dl (.draw 3 e::tl) D i0 fr F (eF false))(hF:F.length<=1):Ok (((ac P 3 (aZ k d b)) N).s CF) s λf s'=>f=.next/\MI s' as rows due dl tl D i0 fr (F++dP (Nat.beq e 1)) (eF (Nat.beq e 1)):=by
 obtain⟨m,rfl⟩:∃m,N=m+60:=⟨N - 60,by exact sc hN⟩
 exact Uw J hF
theorem Uv{N:Nat}(hN:60<=N){B:Bool}(J:MI s as rows due dl dr D i0 fr (dD D++dP B) (eF B)):Ok (((ac P 3 (aZ k d b)) N).s z9) s λf s'=>f=.next/\PI s' rows due D B (s.n+4) fr dl:=by
 obtain⟨m,rfl⟩:∃m,N=m+60:=⟨N - 60,by exact sc hN⟩
 exact Uu J
end
end
section
section
variable {k:Nat}{d b:Bool}{n:Nat}{st s:St}
theorem Sb{l:List V}{i:Nat}{v:V}{Q:V->St->Prop}(hl:l.length<=10)(e:l[i]?=some v)(h:Q v st):Ok (pE (.tup l) (.int (i:Int))) st Q:=lJ (FG (st:=st) (o:=.tup l) rfl (au hl (by decide)) e) h
structure CM(s0:St)(acc:Nat)(ys:List V)(i:Nat)(s:St):Prop where
 full:bc s
 n:s.n=s0.n
 get:∀j,j≠acc->s.tr.get j=s0.tr.get j
 lo:s.lo=s0.lo
 hd:s.hd=s0.hd
 dp:s.dp=s0.dp
 ae:s.ae=s0.ae
 dr:s.dr=s0.dr
 it:s.tr.get acc=some (.list (ys.take i))
theorem Dy{s0:St}{a acc m idx:Nat}{iv:Int}{xs ys:List V}(OY:iv=(idx:Int))(f:bc s0)(ha:s0.tr.get a=some (.list xs))(cG:a≠acc)(lp:s0.tr.get acc=some (.list []))(ba:ys.length=xs.length)(PK:xs.length<=2000)(hd:s0.hd=false)(aQ:s0.lo<=acc)(dB:∀(i:Nat) x y,xs[i]?=some x->ys[i]?=some y->∃l,x=.tup l/\l.length<=10/\l[idx]?=some y)(hm:xs.length+20<=m) :
  Ok (((ac P 3 (aZ k d b)) m).dy (.sub (.loc 41) (.c (.int iv))) [] (.loc 41) (.ref a) 0 [] acc) s0 λY s'=>CM s0 acc ys xs.length s':=by
 subst OY;refine D0 (c0:=10) (λi s'=>CM s0 acc ys i s') (λi s' J=>tV (by refine aE (J.get a cG) ?_;exact ha) (J.hd.trans hd)) (λi s' m' x J hx hm'=>?_) _ 0 _ _ ⟨f,rfl,λj Y=>rfl,rfl,rfl,rfl,rfl,rfl,by exact lp⟩ rfl (cc _) (au (lk rfl:_+11<=_+20) hm)
 obtain⟨m',rfl⟩:∃q,m'=q+10:=⟨m' - 10,by exact sc hm'⟩
 have hi:i<xs.length:=(List.getElem?_eq_some_iff.mp hx).1;obtain hy:ys[i]?=some ys[i]:=dS (r9 ba hi);refine bE (dB i x _ hx hy) ?_;rintro l rfl h1 h2;refine lK (RV (yr (br (v:=.tup l) (by rw[bf,ar rfl]) (fU (Sb h1 h2 (t4 _ J.it (by refine aR J.lo ?_;exact aQ) (by refine tb fN ?_;exact au (show _<=2001 by exact dg (au (Nat.min_le_right _ _) (au (cb ba) PK))) (by decide)) J.full.loc' (λs3 P3=>?_)))))));refine⟨P3.full,P3.n.trans J.n,λj hj=>by rw[P3.get,aj hj];exact J.get j hj,P3.lo.trans J.lo,P3.hd.trans J.hd,P3.dp.trans J.dp,P3.ae.trans J.ae,P3.dr.trans J.dr,?_⟩;rw[P3.get,ar rfl];refine tb jJ ?_;exact tb hy rfl
noncomputable def cO(i:Nat):V:=.str (m5 i)
theorem Rd:((List.range 26).all λi=>match fo 8 (cO i) with | some d=>PyData.eqv d d | none=>false)=true:=by kernel_rfl
theorem LC{l:List Nat}(h:∀i∈l,i<26):sy (l.map cO) (l.map cO)=some true:=by
 obtain go:∀{l:List Nat},(∀i∈l,i<26)->∃ds,nq (l.map cO)=some ds/\PyData.eqvAll ds ds=true:=by
  intro l
  induction l with
  |nil=>intro _;exact ao ([]) rfl rfl
  |cons i l ih=>
   intro h;refine af (ih λj hj=>h j (.tail _ hj)) λds h1 h2=>?_
   have:=List.all_eq_true.mp Rd i (List.mem_range.mpr (h i (.head _)));refine bX (fo 8 (cO i)) (λq=>?_) λd q=>?_
   .obtain this:=q▸this;exact aC this
   .
    obtain this:=q▸this;refine ao (d::ds) ?_ ?_
    .exact (bu q (bu h1 rfl):pn (fo 8) (cO i::l.map cO)=_)
    .simp only[PyData.eqvAll,this,h2,Bool.and_self]
 refine(ay (cond · _ _) (Nat.beq_refl _)).trans ?_
 induction l using List.casesOn with
 |nil=>rfl
 |cons i l=>
  exact af (go h) λds h1 h2=>bu h1 (bu h1 (ay some h2))
theorem LZ(i:Nat):∃l,bW i=.tup l/\l.length<=10/\l[1]?=some (cO i):=(cL _ rfl (by simp) rfl)
theorem Sv{i:Nat}(h:i<26):∃l,a0 i=.tup l/\l.length<=10/\l[0]?=some (cO i):=by
 have:∀i,i<26->∃k,a0 i=.tup [cO i,.str k]:=λi hi=>by
  unfold a0 cO m5
  repeat' split
  all_goals first | exact⟨_,rfl⟩ | lia
 exact aF (this i h) λk e=>cL _ e (by simp) rfl
noncomputable def keysOf(i:Nat):List aN:=[zl i,m5 i]
theorem Qi:((List.range 26).all λi=>(List.range 26).all λj=>Nat.beq i j || !decide (keysOf i=keysOf j))=true:=by kernel_rfl
theorem T9{l:List Nat}(h:∀i∈l,i<26)(hn:l.Nodup):uO (l.map bW)=some l.length:=by
 have ba:l.length<=26:=by
  have:=Hs.yh hn (l:=List.range 26) λq hq=>List.mem_range.mpr (h q hq)
  rwa [eJ] at this
 have ht:∀l:List Nat,rD (l.map bW)=some (l.map keysOf):=by
  intro l
  induction l with
  |nil=>rfl
  |cons i l ih=>
   exact bu (a:=[V.str (zl i),V.str (m5 i)]) rfl (bu (a:=keysOf i) rfl (bu ih rfl))
 obtain hd:(l.map keysOf).Nodup:=List.pairwise_map.mpr (hn.imp_of_mem λ{i j} hi hj e q=>by
  have:=List.all_eq_true.mp (List.all_eq_true.mp Qi i (List.mem_range.mpr (h i hi))) j (List.mem_range.mpr (h j hj));rw[q] at this
  simp[e] at this)
 refine bu (ht l) (di (gN ?_ (eZ hd)) (ay some (aX _)));rw[aX];exact ir (show l.length<=76 by exact au ba c9)
end
end
section
section
variable {k:Nat}{d b:Bool}{n:Nat}{st s:St}
structure Up(s0 s:St):Prop where
 full:bc s
 n:s0.n<=s.n
 get:∀j,j<s0.n->s.tr.get j=s0.tr.get j
 lo:s.lo=s0.lo
 hd:s.hd=s0.hd
 dp:s.dp=s0.dp
 ae:s.ae=s0.ae
variable {s0:St}
theorem Up.refl(f:bc s):Up s s:=⟨f,bI _,λY Y=>rfl,rfl,rfl,rfl,rfl⟩
theorem Up.nw(U:Up s0 s){s':St}{o:O}(N:Nw s s' o):Up s0 s' :=
 ⟨N.full,by have:=N.n;have:=U.n;exact HL ‹_› this,λj hj=>by have:=U.n;rw[N.get,aj (dE (bx hj this))];exact U.get j hj,N.lo.trans U.lo,N.hd.trans U.hd,N.dp.trans U.dp,N.ae.trans U.ae⟩
theorem Up.old(U:Up s0 s){s':St}(N:nM s s'):Up s0 s':=by
 obtain e:=N.eq;exact⟨N.full,au U.n N.n,λj hj=>by have:=U.n;refine aE (N.get j (bx hj this)) ?_;exact U.get j hj,by rw[e];exact U.lo,by rw[e];exact U.hd,by rw[e];exact U.dp,by rw[e];exact U.ae⟩
theorem Up.set(U:Up s0 s){l:List (Nat×V)}:Up s0 {s with loc:=l}:=⟨U.full.loc',U.n,U.get,U.lo,U.hd,U.dp,U.ae⟩
theorem Up.put(U:Up s0 s){s':St}{j:Nat}{o:O}(N:Pt s s' j o)(h:s0.n<=j):Up s0 s' :=
 ⟨N.full,by have:=N.n;have:=U.n;exact HM ‹_› this,λi hi=>by rw[N.get,aj (dE (bx hi h))];exact U.get i hi,N.lo.trans U.lo,N.hd.trans U.hd,N.dp.trans U.dp,N.ae.trans U.ae⟩
variable {rows:List (List Pl)}{due:List Nat}{p fr dl:Nat}
theorem D2{m:Nat}{s:St}(U:Up s0 s)(J:PI s0 rows due d b p fr dl)(hk:rows.length=k)(h1:1<=k)(h3:k<=3)(hr:∀r∈rows,lW r)(gB:(dG d b rows).length<=500)(iz:aw s.loc 65=some (.ref p))(hm:8000<=m){Q:V->St->Prop}(h:∀a s',nM s s'->s.n<=a->a<s'.n->s'.tr.get a=some (.list ((dd [] (dG d b rows)).map bW))->Q (.ref a) s'):Ok (((ac P 3 (aZ k d b)) (m+3)).e (.call (.ah 69) [.loc 65])) s Q:=by
 refine lV J.big ?_;rintro as i0 x0 B rfl;refine iH (iI (v:=.fn 69) rfl ((nb (n:=m) (br iz ⟨rfl,rfl⟩:Ok _ s λv s1=>v=.ref (x0+4)/\s1=s)).mono λl s1 hq=>bE hq λv e1 e2 e3=>?_));subst e1 e2 e3;refine yn rfl Bx (L4 U.full (U.hd.trans J.hd) (by refine tb U.dp ?_;refine tb J.dp ?_;decide) ((B.wd hk h1 h3).keep U.n U.get) (bx J.lt.2.2 U.n) (B.prog.keep U.n U.get) hr (HN hk h3) (au gB c9) (iB (iB hm)) h)
theorem RM{A B:E}{Q:V->St->Prop}(h:Ok (((ac P 3 (aZ k d b)) (n+1)).e A) st λv s1=>v=.bool true/\Ok (((ac P 3 (aZ k d b)) n).e B) s1 Q):Ok (((ac P 3 (aZ k d b)) (n+3)).e (.bo true [A,B])) st Q:=by
 refine Ok.eq (y:=((ac P 3 (aZ k d b)) (n+1)).e A>>=λv=>pG v>>=λbb=>(match true,bb with | true,false=>pure v | false,true=>pure v | _,_=>((ac P 3 (aZ k d b)) (n+1)).bo true [B]:Mo V)) (st2:=st) rfl (.bind (h.mono λv s1 hq=>?_));obtain e:=hq.1;obtain h:=hq.2;subst e;exact Ok.bind (x:=pG (.bool true)) (lJ rfl h)
theorem R8{a:E}{Q:V->St->Prop}(h:Ok (((ac P 3 (aZ k d b)) n).e a) st λv s1=>∃j l N,v=.ref j/\s1.tr.get j=some (.list l)/\s1.hd=false/\uO l=some N/\Q (.int N) s1):Ok (((ac P 3 (aZ k d b)) (n+1)).e (.lP 51 71 a)) st Q:=by
 refine dm (f:=λY=>cond (uM P 51 71 0) (some (((ac P 3 (aZ k d b)) n).e a>>=λv=>rd (yZ v))) none) (m:=((ac P 3 (aZ k d b)) n).e a>>=λv=>rd (yZ v)) (di (by kernel_rfl) rfl) (.bind (h.mono λv s1 hq=>fq hq λj l N e g hh hs q=>?_));subst e;exact lJ (bu (eT g) (di (c := !s1.hd) (by refine tb hh ?_;rfl) (bu hs rfl))) q
theorem Qq{m:Nat}(J:PI s0 rows due d b p fr dl)(hk:rows.length=k)(h1:1<=k)(h3:k<=3)(hr:∀r∈rows,lW r)(gB:(dG d b rows).length<=500)(ki:due=rows.flatMap dO)(w':due.length<=500)(hm:8500<=m) :
  Ok (((ac P 3 (aZ k d b)) (m+40)).ss (lm.body.drop 11)) s0 λf s=>f=.ret (.bool true):=by
 have U0:Up s0 s0:=.refl J.full;have hT:∀x∈dG d b rows,x<26:=FQ hr;have hW:∀x∈dd [] (dG d b rows),x<26:=λx hx=>hT x ((sj.mp hx).resolve_left (er))
 have oq:(dd [] (dG d b rows)).length<=500:=by have:=qa (l:=dG d b rows) (acc:=[]);simp only[iX] at this;exact au this (l0 gB)
 have xk:dd [] (dG d b rows)=dd [] ((dD d++dP b)++due):=by refine tb ki ?_;exact AR d b rows
 refine bC (gF (yo (D2 (m:=m+34) U0 J hk h1 h3 hr gB J.iz (au (ce rfl:8000<=8500) (au hm hB)) λa s1 O1 qr mD g1=>?_)));obtain U1:=U0.old O1;refine bP ((lE g1).2) U1.full (λs2 N2=>?_);obtain U2:=U1.nw N2;obtain e1:=O1.eq;obtain l1:s1.loc=s0.loc:=by rw[e1]
 have n2:=N2.n;generalize wO:dd [] (dG d b rows)=W at hW oq xk g1;obtain hM:(W.map bW).length+20<=m+37:=by rw[aX];exact ak [_,_] 2 0x18c14004a98200144c420fa2621842689 rfl hm oq
 have hc:=Dy (k:=k) (d:=d) (b:=b) (s0:={s2 with loc:=[]}) (a:=a) (acc:=s1.n) (idx:=1) (iv:=1) (xs:=W.map bW) (ys:=W.map cO) rfl ⟨U2.full.has,U2.full.lo⟩ (by rw[N2.get,aj (bz mD)];exact g1) (bz mD) (by rw[N2.get,ar rfl]) (by simp) (by refine aR (aX _) ?_;exact au oq c9) (U2.hd.trans J.hd) (by refine tb U2.lo ?_;refine tb J.lo ?_;exact dw 0 _) (λi x y hx hy=>?_) hM;refine Ok.mono hc λY s3 C3=>?_
 rotate_left
 .rw [fM] at hx hy;refine bX W[i]? (λq=>?_) λw q=>?_
  .rw [q] at hx;exact aP hx
  .
   rw[q] at hx hy;obtain rfl:=ag hx;obtain rfl:=ag hy;exact LZ w
 rw[aX,show W.length=(W.map cO).length by exact bh (aX _) rfl] at C3;have gh:s3.tr.get s1.n=some (.list (W.map cO)):=by have:=C3.it;rwa [ip] at this
 have n3:s3.n=s2.n:=C3.n
 have U3:Up s0 {s3 with loc:=aI s1.loc 68 (.ref s1.n),ae:=s1.ae,dp:=s1.dp,hd:=s1.hd}:=by
  refine⟨⟨C3.full.has,C3.full.lo⟩,by refine(?_:s0.n<=s3.n);have:=U2.n;exact ak [_,_,_,_,_] 5 0x18c6306901ce8340002994c5288630 rfl qr mD n2 n3,λj hj=>?_,C3.lo.trans U2.lo,U1.hd,U1.dp,U1.ae⟩;have:=U1.n;exact aE (C3.get j (uc (bL (bx hj qr) mD))) (U2.get j hj)
 have QD:∀y,y≠68->aw (aI s1.loc 68 (.ref s1.n)) y=aw s0.loc y:=λy hy=>by rw[bf,aj hy];exact sb l1 rfl
 obtain Qm:aw (aI s1.loc 68 (.ref s1.n)) 68=some (.ref s1.n):=by rw[bf,ar rfl]
 refine bC (gF (ib (da (dZ U3.full (by decide) λs4 N4=>?_))));have U4:=U3.nw N4;have n4:s4.n=s3.n+1:=N4.n;have l4:s4.loc=aI s1.loc 68 (.ref s1.n):=N4.loc;have Np:s4.tr.get s1.n=some (.list (W.map cO)):=by rw[N4.get,aj (by refine(?_:s1.n≠s3.n);exact ak [_,_,_] 3 0x6318e39447090d0000a630 rfl n2 n3)];exact gh
 have Nz:s4.tr.get s3.n=some (.list []):=by refine aE (N4.get _) ?_;exact ar rfl
 have U5:Up s0 {s4 with loc:=aI s4.loc 70 (.ref s3.n)}:=U4.set;have xQ:∀y,y≠68->y≠70->aw (aI s4.loc 70 (.ref s3.n)) y=aw s0.loc y:=λy h1 h2=>by rw[bf,aj h2,l4];exact QD y h1
 obtain Qn:aw (aI s4.loc 70 (.ref s3.n)) 68=some (.ref s1.n):=by rw[bf,aj (by decide),l4];exact Qm
 obtain Qo:aw (aI s4.loc 70 (.ref s3.n)) 70=some (.ref s3.n):=by rw[bf,ar rfl]
 obtain tZ:=J.lt.1;obtain oW:=J.lt.2.1;obtain Wt:=J.lt.2.2;obtain Wa:=U1.n;generalize sP:(dD d++dP b)++due=L at xk
 have BV:∀x∈L,x<26:=by
  refine sb sP ?_;refine tb ki ?_;intro x hx;obtain h2:x∈dd [] (yD d b rows):=by rw[sj];exact .inr hx
  rw[<- AR,wO] at h2;exact hW x h2
 have wN:L.length<=600:=by
  refine sb sP ?_;rw[bA,bA];have Od:(dD d).length<=1:=by cases d<;>simp[dD]
  obtain lq:(dP b).length<=1:=by cases b<;>simp[dP]
  exact au (Nat.add_le_add (Nat.add_le_add Od lq) w') (ce rfl)
 obtain Nm:s4.tr.get fr=some (.list ((dD d++dP b).map a0)):=(U5.get fr tZ).trans J.front;obtain Ng:s4.tr.get dl=some (.list (due.map a0)):=(U5.get dl oW).trans J.due;refine bC (pe (iG (br (v:=.ref fr) ((xQ 63 (by decide) (by decide)).trans J.lD) (br (v:=.ref dl) ((xQ 57 (by decide) (by decide)).trans J.fC) (DV U5.full Nm Ng (by refine sb gb ?_;rw[aX];refine tb sP ?_;exact au wN (by decide)) λs6 N6=>?_)))));have rV:=N6;rw[<- gb,sP] at rV;obtain U6:=U5.nw rV;have n6:s6.n=s4.n+1:=N6.n;have g6:s6.tr.get s4.n=some (.list (L.map a0)):=by refine aE (rV.get _) ?_;exact ar rfl
 have Do:∀j,j<s4.n->s6.tr.get j=s4.tr.get j:=λj hj=>by rw[rV.get,aj (by refine(?_:j≠s4.n);exact bz hj)]
 obtain l6:s6.loc=aI s4.loc 70 (.ref s3.n):=N6.loc;obtain i1:=(lE g6).1;obtain i2:=(lE g6).2
 have start:Up s0 s6/\s6.n=s6.n/\s6.tr.get s1.n=some (.list (W.map cO))/\s6.tr.get s4.n=some (.list (L.map a0))/\s6.tr.get s3.n=some (.list ((dd [] (L.take 0)).map a0))/\aw s6.loc 65=some (.ref p)/\aw s6.loc 68=some (.ref s1.n)/\aw s6.loc 70=some (.ref s3.n):=(QK U6 rfl ((Do _ (ak [_,_,_,_] 4 0x18c614e2340002994c7090d0000a630 rfl n2 n3 n4)).trans Np) g6 (by rw[Do _ (jS n4),Nz];rfl) (by rw[l6];exact(xQ 65 (by decide) (by decide)).trans J.iz) (by rw[l6];exact Qn) (by rw[l6];exact Qo))
 refine bP i1 i2 (Ok.mono (pd (xs:=L.map a0) (c:=40) (λi s'=>Up s0 s'/\s'.n=s6.n/\s'.tr.get s1.n=some (.list (W.map cO))/\s'.tr.get s4.n=some (.list (L.map a0))/\s'.tr.get s3.n=some (.list ((dd [] (L.take i)).map a0))/\aw s'.loc 65=some (.ref p)/\aw s'.loc 68=some (.ref s1.n)/\aw s'.loc 70=some (.ref s3.n)) (λi s' hJ=>tV hJ.2.2.2.1 (hJ.1.hd.trans J.hd)) (λi s' m' x hJ hx hm'=>?_) _ 0 _ _ start rfl (cc _) ?_) λf s7 q9=>aL q9 λe7 q8=>VW q8 λU7 n7 g7 Y q7 QT Dx QX=>?_)
 rotate_left
 .rw [aX];exact ak [_,_,_ - 0] 3 0x6318280091304000294005099042584c43084d12520c0004c8200026241c500002641880009 rfl (zs _ 0) hm wN
 rotate_left
 .obtain U:=hJ.1;obtain hn:=hJ.2.1;obtain h1:=hJ.2.2.1;obtain h2:=hJ.2.2.2.1;obtain h3:=hJ.2.2.2.2.1;obtain h4:=hJ.2.2.2.2.2.1;obtain h5:=hJ.2.2.2.2.2.2.1;obtain h6:=hJ.2.2.2.2.2.2.2
  obtain⟨m'',rfl⟩:∃q,m'=q+40:=⟨m' - 40,by exact sc hm'⟩
  obtain⟨w,hw,rfl⟩:∃w,L[i]?=some w/\x=a0 w:=by
   obtain hx:=aW hx fM
   cases e:L[i]? with
   |none=>obtain hx:=e▸hx;exact aP hx
   |some u=>rw[e] at hx;exact ao u rfl ((ag hx).symm)
  obtain PG:w<26:=BV w (bV hw);obtain jk:=CL Ly PG (l:=dd [] (L.take i)) λj hj=>BV j (pN ((sj.mp hj).resolve_left er))
  have gX:L.take (i+1)=L.take i++[w]:=by rw[jJ,hw];rfl
  obtain dk:=AS (l:=L.take i) (acc:=[]) (x:=w);obtain hi:i<L.length:=(List.getElem?_eq_some_iff.mp hw).1
  obtain Og:(dd [] (L.take i)).length<=600:=by
   have:=qa (l:=L.take i) (acc:=[]);obtain this:=fN▸this;simp only[iX] at this;exact au this (au (cb (jM _)) (au (Nat.min_le_right _ _) wN))
  refine lK ?_;have lk:∀y,y≠41->aw (aI s'.loc 41 (a0 w)) y=aw s'.loc y:=λy hy=>by rw[bf,aj hy]
  have C2:aw (aI s'.loc 41 (a0 w)) 41=some (a0 w):=by rw[bf,ar rfl]
  obtain V1:Up s0 {s' with loc:=aI s'.loc 41 (a0 w)}:=U.set;refine bC (uo (ut (br C2 (br (v:=.ref s3.n) ((lk 70 (by decide)).trans h6) (D8 h3 jk ?_)))))
  cases hc:(dd [] (L.take i)).contains w with
  |true=>
   replace dk:=hc▸dk;replace dk:=(ar rfl)▸dk;refine fE (fE (Dq rfl V1 hn h1 h2 ?_ ((lk 65 (by decide)).trans h4) ((lk 68 (by decide)).trans h5) ((lk 70 (by decide)).trans h6)))
   rw[gX,dk];exact h3
  |false=>
   rw[hc,aj (by decide)] at dk;refine ja (ar (show (!false)=true from rfl)) (bC (lI (kB (br (v:=.ref s3.n) ((lk 70 (by decide)).trans h6) (pb h3 (br C2 ⟨V1.full,by refine tb V1.lo ?_;refine tb J.lo ?_;exact cc _,_,h3,by rw[aX];exact au (dg Og) (by decide),λs8 P8=>?_⟩))))));refine fE (fE (Dq rfl (V1.put P8 (by have:=U2.n;exact ak [_,_,_,_,_] 5 0x18c6306901ce8340002994c5288630 rfl qr mD n2 n3)) (P8.n.trans hn) (by rw[P8.get,aj (IF n2 n3)];exact h1) (by rw[P8.get,aj (zW n4)];exact h2) ?_ (by rw[P8.loc];exact(lk 65 (by decide)).trans h4) (by rw[P8.loc];exact(lk 68 (by decide)).trans h5) (by rw[P8.loc];exact(lk 70 (by decide)).trans h6)));rw[P8.get,ar rfl,gX,dk,gb];rfl
 .subst e7;rw[aX,ip,<- xk] at q7;have NO:(W.map cO).length<=aK:=by refine aR (aX _) ?_;exact au oq (by decide)
  have NP:W.Nodup:=by refine ck wO ?_;exact Kw List.nodup_nil
  refine bC (ng (RM (n:=m+32) (Ok.mono (Q:=λv s8=>v=.bool true/\Up s0 s8/\s8.tr.get s1.n=some (.list (W.map cO))/\aw s8.loc 65=some (.ref p)/\aw s8.loc 68=some (.ref s1.n)/\s1.n<s8.n) ?_ λv s8 q9=>Gh q9 λe8 U8 g8 QU QV bJ=>⟨e8,?_⟩)))
  .refine DZ (br Dx (yo (br QX (bP ((lE q7).2) U7.full (λs8 N8=>?_)))));have U8:=U7.nw N8;have n8:=N8.n;have Wo:s3.n<s7.n:=ak [_,_,_,_] 4 0x18c614e2394c6800053090d0000a630 rfl n4 n6 n7;have qp:(W.map a0).length+20<=m+31:=by rw[aX];exact ak [_,_] 2 0x18c14003e98200144c420fa2621842689 rfl hm oq
   have kg:=Dy (k:=k) (d:=d) (b:=b) (s0:={s8 with loc:=[]}) (a:=s3.n) (acc:=s7.n) (idx:=0) (iv:=0) (xs:=W.map a0) (ys:=W.map cO) rfl ⟨U8.full.has,U8.full.lo⟩ (by rw[N8.get,aj (II n4 n6 n7)];exact q7) (ak [_,_,_,_] 4 0x6318c71ce2394c6800053090d0000a630 rfl n4 n6 n7) (by rw[N8.get,ar rfl]) (by simp) (by refine aR (aX _) ?_;exact au oq c9) (U8.hd.trans J.hd) (by refine tb U8.lo ?_;refine tb J.lo ?_;exact dw 0 _) (λi x y hx hy=>by
    rw[fM] at hx hy;refine bX W[i]? (λq=>?_) λw q=>?_
    .rw [q] at hx;exact aP hx
    .
     rw[q] at hx hy;obtain rfl:=ag hx;obtain rfl:=ag hy
     exact Sv (hW w (bV q))) qp
   refine Ok.mono kg λY s9 C9=>?_
   rw[aX,show W.length=(W.map cO).length by exact bh (aX _) rfl] at C9;obtain gp:s9.tr.get s7.n=some (.list (W.map cO)):=by have:=C9.it;rwa [ip] at this
   obtain gg:s9.tr.get s1.n=some (.list (W.map cO)):=by
    refine aE (C9.get _ (ak [_,_,_,_,_,_] 6 0x6318c631c7588e951a00014ce8340002994c7090d0000a630 rfl n2 n3 n4 n6 n7)) ?_;rw[N8.get,aj (IV n2 n3 n4 n6 n7)];exact g7
   have n9:s9.n=s8.n:=C9.n;refine QO true ({s9 with loc:=s7.loc,ae:=s7.ae,dp:=s7.dp,hd:=s7.hd}) ?_ rfl ?_ gg QT Dx (by refine(?_:s1.n<s9.n);exact ak [_,_,_,_,_,_,_,_] 8 0x18c6318c615e23b5c68000535b0e951a00014ce8340002994c7090d0000a630 rfl n2 n3 n4 n6 n7 n8 n9)
   .obtain q:sA s9 (.ref s1.n) (.ref s7.n)=some true:=bu (eT gg) (bu (eT gp) (LC hW));exact ay (λo:Option Bool=>o.bind λr=>some (a9.ok r {s9 with loc:=s7.loc,ae:=s7.ae,dp:=s7.dp,hd:=s7.hd})) q
   .refine ⟨⟨C9.full.has,C9.full.lo⟩,by refine(?_:s0.n<=s9.n);have:=U7.n;exact ak [_,_,_,_,_,_,_,_,_,_] 10 0x18c6318c63183980f191a00014df03b5c68000535b0d0000a6951ce8340002994c5288630 rfl qr mD n2 n3 n4 n6 n7 n8 n9,λj hj=>?_,C9.lo.trans U8.lo,U7.hd,U7.dp,U7.ae⟩;have:=U7.n;exact aE (C9.get j (ak [_,_,_,_,_,_,_,_,_] 9 0x6318c6318c638ef814303b5c68000535b0d0000a6951ce8340002994c5288630 rfl qr mD n2 n3 n4 n6 n7 hj)) (U8.get j hj)
  .refine DZ (R8 (D2 (m:=m+27) U8 J hk h1 h3 hr gB QU (ak [_] 1 0x1828006d307d0121842689 rfl hm) λa2 nu vt wH V' wD=>?_));obtain wD:=wO▸wD;have GK:=U8.old vt;refine qT a2 _ W.length rfl wD (GK.hd.trans J.hd) (T9 hW NP) ?_;obtain e10:=vt.eq;have l10:nu.loc=s8.loc:=by rw[e10]
   have No:nu.tr.get s1.n=some (.list (W.map cO)):=by
    refine aE (vt.get _ bJ) ?_;exact g8
   refine DX (n:=m+28) (x:=51) (t:=0) rfl (br (v:=.ref s1.n) (by rw[l10];exact QV) (D6 No NO (aT true nu (?_:some (a9.ok (decide (((W.length:Nat):Int)=(((W.map cO).length:Nat):Int))) nu)=_) rfl)));rw[aX,eZ rfl]
theorem Qr{N:Nat}(hN:8600<=N)(J:PI s0 rows due d b p fr dl)(hk:rows.length=k)(h1:1<=k)(h3:k<=3)(hr:∀r∈rows,lW r)(gB:(dG d b rows).length<=500)(ki:due=rows.flatMap dO)(w':due.length<=500) :
  Ok (((ac P 3 (aZ k d b)) N).ss (lm.body.drop 11)) s0 λf s=>f=.ret (.bool true):=by
 obtain⟨m,rfl⟩:∃m,N=m+40:=⟨N - 40,by exact sc (au (by decide) hN)⟩
 exact Qq J hk h1 h3 hr gB ki w' (ak [_] 1 0x183084d121400509843309 rfl hN)
end
end
section
noncomputable def nj(rd:Nat->Nat->Nat):Nat:=(cT rd (1+rd 0 3) 1).2
noncomputable def qP(rd:Nat->Nat->Nat):List Ev:=.draw 3 (rd 0 3)::(gx rd (1+rd 0 3) 1++[.draw 3 (rd (nj rd) 3),.draw 3 (rd (nj rd+1) 3)])
noncomputable def qO(rd:Nat->Nat->Nat):Bool:=Nat.beq (rd (nj rd) 3) 1
noncomputable def qN(rd:Nat->Nat->Nat):Bool:=Nat.beq (rd (nj rd+1) 3) 1
theorem Qt{rd:Nat->Nat->Nat}(h:∀n l,0<l->rd n l<l){M:Nat}(qp:8500<=M):Ok ((ac P 3 (aZ (1+rd 0 3) (qO rd) (qN rd)) (M+303)).ss (lm.body.drop 3)) ⟨du,102,[(7,.src),(20,.ref 1)],[],qP rd,60,false,0⟩ λf s=>f=.ret (.bool true):=by
 have hK:1+rd 0 3<=3:=by have:=h 0 3 (by decide);exact vz this
 obtain fine:=MZ h (1+rd 0 3) 1;obtain tot:=Vh (d:=qO rd) (b:=qN rd) (n:=1) h hK;obtain few:=KZ (n:=1) h hK;obtain ba:=sM (rd:=rd) (1+rd 0 3) 1;refine TA (m:=M) h [.draw 3 (rd (nj rd) 3),.draw 3 (rd (nj rd+1) 3)] λs as dl J=>?_
 generalize (cT rd (1+rd 0 3) 1).1=rows at J fine tot few ba;refine bC (gF (ib (da (dZ J.full (by show 0<=aK;decide) λs1 N1=>bC (gF (pf (da ⟨by show 0<=aK;decide,?_⟩)))))));obtain J1:=J.mi N1 (u:=eF false);refine bC (Ok.mono (Uz (by simp +arith) J1) λf s2 hq=>?_);obtain e2:=hq.1;obtain J2:=hq.2;subst e2;refine bC (Ok.mono (Ux (by simp +arith) J2 (by cases Nat.beq (rd (nj rd) 3) 1<;>simp[dD])) λf s3 hq=>?_);obtain e3:=hq.1;obtain J3:=hq.2;subst e3;refine bC (Ok.mono (Uv (by simp +arith) J3) λf s4 hq=>?_);obtain e4:=hq.1;obtain J4:=hq.2;subst e4;exact Qr (au (ce rfl:8600<=8500+295) (iY qp 295)) J4 ba (et 1 _) hK fine tot rfl few
theorem Qs{rd:Nat->Nat->Nat}(h:∀n l,0<l->rd n l<l):∃N,Ok ((ac P 3 (aZ (1+rd 0 3) (qO rd) (qN rd)) N).ss (.asg 20 false (.call (.ah 56) [])::lm.body.drop 3)) ⟨.nil,0,[(7,.src)],[],qP rd,60,false,0⟩ λf s=>f=.ret (.bool true):=by
 obtain⟨M,hM⟩:∃M,9499=M+303:=⟨9196,rfl⟩
 obtain qp:8500<=M:=by exact ak [_] 1 0x183084d1234025e984a369 rfl hM
 obtain hd:=Kt (1+rd 0 3) (qO rd) (qN rd) (qP rd);obtain hd:=hM▸hd;obtain ht:=Qt h qp;generalize M+303=N at hd ht;exact⟨N+1,bC (aT .next _ hd ht)⟩
end
section
noncomputable def xH(s:String):Value->Bool:=zk λt=>t==s
theorem CW{s:String}{v:Value}(h:xH s v=true):v=.type s:=Ge h λa e q=>e.trans (ay Value.type (eq_of_beq q))
section
variable (K:Frag) (ad:Nat->Addr) (nm:Nat->Str)
noncomputable def y'(f:List Value->Bool):Value->Bool:=nD λa=>cP (λo=>xH "tuple" o.cls&&AQ (λvs Y=>f vs.toList) o.data) (K.lookup a)
mutual
noncomputable def uI:V->Value->Bool
 |.none=>zh
 |.bool a=>F6 λb=>a==b
 |.int i=>Gb λj Y=>decide (i=j)
 |.str s=>zj λt Y=>decide (t=aJ s)
 |.bytes Y=>λY=>false
 |.tup l=>y' K (uJ l)
 |.fl Y=>λY=>false
 |.bg Y=>λY=>false
 |.ref Y=>λY=>false
 |.fn f=>nD λa=>Nat.beq a (ad f)
 |.cls f=>nD λa=>Nat.beq a (ad f)
 |.typ n=>zk λt=>t==lS n
 |.blt n=>zc λt=>t==jW n
 |.src=>λY=>false
 |.any=>λY=>false
 |.tok Y=>λY=>false
noncomputable def uJ:List V->List Value->Bool
 |[]=>cN
 |x::xs=>lM λv vs=>uI x v&&uJ xs vs
end
noncomputable def vQ(cd:Value)(q:Str):Bool:=nD (λa=>cP (λo=>AO (λvs=>cP (zj λs Y=>decide (s=q)) vs[1]?) o.data) (K.lookup a)) cd
noncomputable def AT(ds:List V)(v:Value):Bool:=cN ds&&zh v || y' K (uJ K ad ds) v
noncomputable def wX(cQ:Addr)(ch:Str)(f:FD)(fd:FuncData):Bool :=
 decide (fd.params.posonlyargs=[]/\fd.params.args.map (·.arg)=f.ps.map nm/\fd.params.vararg=none/\fd.params.kwonlyargs=[]/\fd.params.kwarg=none/\fd.scope.kind=.function/\fd.scope.isGenerator=false/\fd.scope.isCoroutine=false/\
  fd.globals=mainGlobals/\fd.builtins=builtinsNs/\(fd.scope.names.filter (·.2==.cell)).map (·.1)=f.cs.map nm/\(∀x∈f.ps,fd.scope.names.lookup (nm x)=some (if f.cs.contains x then NameKind.cell else NameKind.local))/\
  f.cs.Nodup/\f.ps.Nodup/\f.ds.length<=f.ps.length/\(fd.scope.names.lookup ("seen" : Str)=some .local->nD (λc=>Nat.beq c cQ) fd.code=true/\(fd.qualname++(".<locals>." : Str))++("seen" : Str)=ch))
noncomputable def BB(cQ:Addr)(ch:Str)(f:FD)(fd:FuncData):Bool:=z' (eQ nm fd.scope f.body) fd.body&&wX nm cQ ch f fd
noncomputable def BC(cZ:Nat)(cQ:Addr)(ch:Str)(p:Nat×FD):Bool :=
 cP (λo=>AP (λdata=>Nat.beq p.1 cZ || (BB nm cQ ch p.2 data&&vQ K data.code data.qualname&&AT K ad p.2.ds data.defaults&&cN data.closure)) o.data) (K.lookup (ad p.1))
noncomputable def BP(p:Nat×V):Bool :=
 cP (λo=>match o with
  |some val=>uI K ad p.2 val
  |none=>cP (λval=>uI K ad p.2 val && !decide (nm p.1=("__name__" : Str))) (bootBuiltins (nm p.1))) (nsIn K mainGlobals (nm p.1))
end
section
variable {K:Frag}{ad:Nat->Addr}{nm:Nat->Str}
theorem FU{f:List Value->Bool}{v:Value}{h:Heap}{G:Prop}(hk:K.In h)(e:y' K f v=true)(g:∀a vs,v=.ref a->IsTup h a (List.toArray vs)->f vs=true->G):G :=
 pH e λa ev e=>db e λob eo e=>Ks (aD e).2 λvs n ed e'=>g a vs.toList ev ⟨ob,hk _ _ eo,CW (aD e).1,n,ed⟩ e'
mutual
theorem yQ(fQ:X.ad=ad)(hk:K.In X.hF):∀{v:V} {val:Value},uI K ad v val=true->av X X.hF [] v val
 |.none,val,h=>Gc h
 |.bool a,val,h=>VJ h λb e q=>e.trans (ay Value.bool (eq_of_beq q).symm)
 |.int i,val,h=>VK h λj t e q=>⟨t,e.trans (ay (Value.int · t) (bG q).symm)⟩
 |.str s,val,h=>Gd h λj t e q=>⟨t,e.trans (ay (Value.str · t) (bG q))⟩
 |.tup l,val,h=>FU hk h λa vs e q h=>⟨a,vs,e,q,yR fQ hk h⟩
 |.fn f,val,h=>pH h λa e q=>e.trans (ay Value.ref ((bY q).trans (congrFun fQ f).symm))
 |.cls f,val,h=>pH h λa e q=>e.trans (ay Value.ref ((bY q).trans (congrFun fQ f).symm))
 |.typ n,val,h=>Ge h λa e q=>e.trans (ay Value.type (eq_of_beq q))
 |.blt n,val,h=>F5 h λa e q=>e.trans (ay Value.builtin (eq_of_beq q))
 |.bytes b,val,h=>aC h
 |.fl l,val,h=>aC h
 |.bg n,val,h=>aC h
 |.ref k,val,h=>aC h
 |.src,val,h=>aC h
 |.any,val,h=>aC h
 |.tok n,val,h=>aC h
theorem yR(fQ:X.ad=ad)(hk:K.In X.hF):∀{l:List V} {vs:List Value},uJ K ad l vs=true->aB X X.hF [] l vs
 |[],vs,h=>cH h
 |x::xs,vs,h=>kC h λv r e q=>⟨v,r,e,yQ fQ hk (aD q).1,yR fQ hk (aD q).2⟩
end
theorem AI{h:Heap}(hk:K.In h){cd:Value}{q:Str}(e:vQ K cd q=true):h.CodeRec cd q :=
 pH e λc e1 e=>db e λo e2 e=>Kn e λvs e3 e=>db e λv e4 e=>Gd e λs t e5 e=>⟨c,o,vs,t,e1,hk _ _ e2,e3,e4.trans (ay some (e5.trans (ay (Value.str · t) (bG e))))⟩
theorem KC(fQ:X.ad=ad)(hk:K.In X.hF){ds:List V}{v:Value}(e:AT K ad ds v=true):pL X X.hF ds v :=
 ((Bool.or_eq_true _ _).mp e).imp (λe=>⟨cH (aD e).1,Gc (aD e).2⟩) λe=>FU hk e λa vs e1 e2 e=>⟨a,vs,e1,e2,yR fQ hk e⟩
theorem B2(lv:X.nm=nm){cQ:Addr}{ch:Str}(hc:X.cQ=cQ)(hq:X.ch=ch){f:FD}{fd:FuncData}(h:wX nm cQ ch f fd=true):rR X f fd:=by
 subst lv hc hq;obtain h:=bG h;exact⟨h.1,h.2.1,h.2.2.1,h.2.2.2.1,h.2.2.2.2.1,h.2.2.2.2.2.1,h.2.2.2.2.2.2.1,h.2.2.2.2.2.2.2.1,h.2.2.2.2.2.2.2.2.1,h.2.2.2.2.2.2.2.2.2.1,h.2.2.2.2.2.2.2.2.2.2.1,h.2.2.2.2.2.2.2.2.2.2.2.1,h.2.2.2.2.2.2.2.2.2.2.2.2.1,h.2.2.2.2.2.2.2.2.2.2.2.2.2.1,h.2.2.2.2.2.2.2.2.2.2.2.2.2.2.1,λq=>⟨pH (h.2.2.2.2.2.2.2.2.2.2.2.2.2.2.2 q).1 λa e z=>e.trans (ay Value.ref (bY z)),(h.2.2.2.2.2.2.2.2.2.2.2.2.2.2.2 q).2⟩⟩
theorem M4(lv:X.nm=nm){cQ:Addr}{ch:Str}(hc:X.cQ=cQ)(hq:X.ch=ch){f:FD}{fd:FuncData}(h:BB nm cQ ch f fd=true):kU X f fd :=
 ⟨B2 lv hc hq (aD h).2,Jg (aD h).1 λb e q=>⟨b,e,tb lv q⟩⟩
theorem M5(fQ:X.ad=ad)(hk:K.In X.hF)(lv:X.nm=nm){cQ:Addr}{ch:Str}(hc:X.cQ=cQ)(hq:X.ch=ch){cZ f:Nat}{fd:FD}(h:BC K ad nm cZ cQ ch (f,fd)=true) :
  ∃ob data,X.hF.get? (X.ad f)=some ob/\ob.data=.func data/\(f≠cZ->kU X fd data/\X.hF.CodeRec data.code data.qualname/\pL X X.hF fd.ds data.defaults/\data.closure=[]) :=
 db h λo e1 h=>Ko h λdata e2 h=>⟨o,data,tb fQ (hk _ _ e1),e2,λcG=>((Bool.or_eq_true _ _).mp h).elim (λh=>absurd (bY h) cG) λh =>
  fW (ez h) λh1 h2 h3 h4=>⟨M4 lv hc hq h1,AI hk h2,KC fQ hk h3,cH h4⟩⟩
theorem Nu(fQ:X.ad=ad)(hk:K.In X.hF)(lv:X.nm=nm){mg mb:Str->Option Value}(hg:X.hF.Ns mainGlobals mg)(hb:∀x:Str,x≠"__name__"->mb x=bootBuiltins x){x:Nat}{v:V}(h:BP K ad nm (x,v)=true) :
  ∃val,av X X.hF [] v val/\(mg (X.nm x)=some val\/(mg (X.nm x)=none/\mb (X.nm x)=some val)):=by
 subst lv;refine db h λo e h=>?_
 cases o with
 |some val=>exact⟨val,yQ fQ hk h,.inl (mg_of hk hg e)⟩
 |none=>exact db h λval e2 h=>⟨val,yQ fQ hk (aD h).1,.inr ⟨ns_none_of hk hg e,(hb _ (of_decide_eq_false (eD (aD h).2))).trans e2⟩⟩
theorem tY{α : Type}:∀{l:List (Nat×α)} {x:Nat} {v:α},aw l x=some v->(x,v)∈l
 |(y,u)::r,x,v,h=>by
  obtain h:(match Nat.beq y x with | true=>some u | false=>aw r x)=some v:=h;rw[dh] at h
  by_cases q:y=x
  .subst q;rw[eZ rfl] at h;obtain rfl:=ag h;exact .head _
  .rw [dJ q] at h;exact .tail _ (tY h)
theorem tX:∀{l:List ((Nat×Nat)×Nat)} {c m v:Nat},mT l c m=some v->((c,m),v)∈l
 |((a,b),u)::r,c,m,v,h=>by
  obtain h:(match Nat.beq a c&&Nat.beq b m with | true=>some u | false=>mT r c m)=some v:=h;rw[dh,dh] at h
  by_cases q:a=c
  .by_cases q2:b=m
   .subst q q2;simp only[decide_true,Bool.and_true] at h;obtain rfl:=ag h;exact .head _
   .rw [dJ q2,Bool.and_false] at h;exact .tail _ (tX h)
  .rw [dJ q,Bool.false_and] at h;exact .tail _ (tX h)
end
end
section
noncomputable def GP:List (Nat×Nat):=[(10,136),(13,681),(17,89),(21,162),(24,700),(36,692),(39,717),(43,731),(46,738),(56,707),(61,577),(66,645),(67,617),(69,553),(77,173),(78,180),(81,194),(86,219),(88,201),(90,60),(92,187),(93,245),(94,238),(95,206),(96,231),(104,263),(105,270),(106,275),(107,250),(110,340),(111,297),(114,304),(115,211),(117,312),(118,290),(119,326),(121,319),(122,333),(123,347),(125,354),(126,368),(129,389),(130,375),(131,382),(135,226),(137,396),(138,403),(139,410),(140,417),(141,459),(142,424),(143,431),(144,438),(145,445),(146,452),(151,478),(155,485),(156,471),(157,492),(158,361),(161,502),(162,507),(163,526),(164,464),(165,497),(166,531),(168,548),(169,543),(172,282),(173,538),(202,37),(203,79),(204,107),(205,154),(206,567),(207,595),(208,635),(209,664),(210,114),(211,614),(214,743)]
noncomputable def kA:List aN:=[[97,112,112,101,110,100],[101,120,116,101,110,100],[112,111,112],[99,111,117,110,116],[103,101,116],[115,112,108,105,116],[95,95,105,110,105,116,95,95],[115,111,117,114,99,101],[108,105,109,105,116],[105,116,101,109],[73,116,101,109],[110,97,109,101],[115,104,97,112,101],[83,104,97,112,101],[99,97,116,101,103,111,114,121],[111,102,116,101,110],[111,99,99,117,114,115],[79,99,99,117,114,115],[97,98,111,118,101],[97,100,100],[100,97,116,97],[68,97,116,97],[114,111,111,116],[119,111,114,107,105,110,103],[95,108,97,119,95,108,101,97,102],[116,97,98,108,101],[105,110,110,101,114],[105,110,100,101,120,101,115],[116,117,114,110],[114,97,110,103,101],[111,116,104,101,114],[115,116,114],[113,117,97,108,105,102,105,101,114,115],[115,117,98,115,99,114,105,112,116,115],[112,97,114,116],[119,97,121],[95,108,97,119,95,100,114,97,119],[105,115,95,98,97,100],[114,101,102],[95,108,97,119,95,114,101,102],[95,108,97,119,95,79,78,69],[112,97,105,114],[100,101,112,116,104],[95,108,97,119,95,112,108,97,105,110],[111,110,101],[102,97,117,108,116,115],[95,108,97,119,95,115,116,97,116,101,109,101,110,116],[109,111,114,101],[95,108,97,119,95,89,69,83],[114,111,119,115],[115,117,98,106,101,99,116],[108,101,110],[99,101,108,108,115],[99,101,108,108],[115,99,114,105,112,116],[105,110,116],[95,108,97,119,95,100,97,116,97],[100,117,101],[115,112,111,116],[115,116,97,116,101,109,101,110,116,115],[115,116,97,116,101,109,101,110,116],[80,97,114,97,103,114,97,112,104],[116,117,112,108,101],[102,114,111,110,116],[117,115,105,110,103],[112,114,111,103,114,97,109],[80,114,111,103,114,97,109],[80,114,111,99,101,100,117,114,101,115],[104,101,97,114,100],[102,97,117,108,116,115,95,111,102],[112,97,105,114,115],[115,101,116],[102,111,117,110,100],[102,105,108,101,115],[108,105,110,107,97,103,101],[108,105,110,101],[107,105,100,115],[114,101,99,111,114,100,115],[105,116,101,109,115,95,117,110,100,101,114],[112,97,114,101,110,116],[97,114,111,117,110,100],[105,116,101,109,115,95,97,114,111,117,110,100],[70,73,76,76,69,82],[116,101,120,116,115],[78,85,77,66,69,82,83],[103,111,97,108],[103,111,97,108,115,95,111,102],[116,111,112],[114,111,111,116,95,111,102],[97,116],[67,104,101,99,107,70,97,117,108,116],[97,108,105,107,101],[97,108,108,95,105,116,101,109,115],[111,110,108,121,95,111,110,101],[108,101,97,100,115,95,116,104,114,111,117,103,104],[110,97,109,101,115,95,97,114,111,117,110,100],[102,105,108,101,95,111,102],[119,111,114,100],[99,104,97,110,103,101],[119,104,101,110,115],[98,111,100,121],[66,82,65,78,67,72,69,68],[107,101,121],[115,101,101,110],[101,120,99,104,97,110,103,101,100,95,98,111,100,105,101,115],[98,111,100,105,101,115,95,111,102],[112,97,114,116,115,95,111,102],[102,105,110,100,95,105,116,101,109],[111,112,101,114,97,110,100],[101,120,112,114],[110,117,109,98,101,114,95,102,97,117,108,116,115],[105,115,95,105,110,100,101,120,95,110,97,109,101],[102,97,117,108,116],[119,104,97,116],[112,97,114,116,95,102,97,117,108,116,115],[116,97,98,108,101,115,95,97,114,111,117,110,100],[108,101,115,115],[114,101,102,95,102,97,117,108,116,115],[105,116,101,109,95,111,102],[99,97,116,101,103,111,114,121,95,111,102],[65,82,73,84,72,77,69,84,73,67],[111,112,101,114,97,110,100,95,102,97,117,108,116,115],[105,115,95,110,117,109,98,101,114,95,111,112,101,114,97,110,100],[110,97,109,101,95,111,102],[99,97,116,101,103,111,114,105,101,115],[112,108,97,99,101,95,102,97,117,108,116,115],[105,115,95,119,111,114,116,104],[107,105,110,100],[99,111,110,100],[99,111,110,100,95,102,97,117,108,116,115],[119,111,114,116,104,95,102,97,117,108,116,115],[110,97,109,101,100,95,102,97,117,108,116,115],[115,111,114,116,95,102,114,111,109],[115,111,114,116,95,116,111],[98,97,114,114,101,100],[99,97,110,95,109,111,118,101],[114,101,102,115],[109,111,118,101,95,102,97,117,108,116,115],[97,114,105,116,104,95,102,97,117,108,116,115],[100,105,118,105,100,101,95,102,97,117,108,116,115],[103,114,111,117,112,95,102,97,117,108,116,115],[105,110,105,116,105,97,108,105,122,101,95,102,97,117,108,116,115],[115,101,116,95,102,97,117,108,116,115],[115,101,97,114,99,104,95,102,97,117,108,116,115],[115,116,114,105,110,103,95,102,97,117,108,116,115],[117,110,115,116,114,105,110,103,95,102,97,117,108,116,115],[105,110,115,112,101,99,116,95,102,97,117,108,116,115],[112,114,111,99,101,100,117,114,101,115],[114,97,110,103,101,95,111,102],[116,111,108,100],[114,111,119],[111,98,106,101,99,116,95,102,97,117,108,116,115],[108,111,111,112],[98,101,103,105,110],[115,116,101,112],[101,118,97,108,117,97,116,101,95,102,97,117,108,116,115],[112,97,105,114,95,102,97,117,108,116,115],[108,111,111,112,95,102,97,117,108,116,115],[99,111,117,110,116,101,114,95,102,97,117,108,116,115],[109,111,100,101],[110,97,109,101,115],[102,105,108,101,95,110,97,109,101,115,95,102,97,117,108,116,115],[114,101,99,111,114,100,95,102,97,117,108,116,115],[115,111,114,116,95,102,97,117,108,116,115],[100,97,116,97,95,102,97,117,108,116,115],[102,108,111,119,95,102,97,117,108,116,115],[102,105,108,101,95,102,97,117,108,116,115],[115,111,114,116,101,100],[110,97,109,101,95,102,97,117,108,116,115],[117,115,105,110,103,95,102,97,117,108,116,115],[111,117,116,101,114],[108,105,115,116],[115,116,97,116,101,109,101,110,116,115,95,119,105,116,104,105,110],[115,116,97,116,101,109,101,110,116,95,102,97,117,108,116,115],[69,120,99,101,112,116,105,111,110],[115,101,108,102],[108,111,119],[104,105,103,104],[100,101,112,101,110,100,105,110,103],[107,101,121,115],[108,101,118,101,108],[112,105,99,116,117,114,101,95,116,101,120,116],[117,115,97,103,101],[115,105,103,110],[105,115,95,115,101,112,97,114,97,116,101],[114,101,100,101,102,105,110,101,115],[118,97,108,117,101],[105,115,95,106,117,115,116,105,102,105,101,100],[105,115,95,98,108,97,110,107,95,122,101,114,111],[99,111,110,100,105,116,105,111,110,115],[114,101,110,97,109,101,115],[98,97,115,101],[111,102,102,115,101,116],[115,105,122,101],[107,105,100],[115,111,114,116,115],[112,105,99,116,117,114,101],[100,105,103,105,116,115],[115,99,97,108,101],[105,115,95,115,105,103,110,101,100],[115,101,99,116,105,111,110],[115,101,99,116,105,111,110,95,101,110,100],[76,101,100,103,101,114,69,114,114,111,114,46,95,95,105,110,105,116,95,95],[79,99,99,117,114,115,46,95,95,105,110,105,116,95,95],[73,116,101,109,46,95,95,105,110,105,116,95,95],[68,97,116,97,46,95,95,105,110,105,116,95,95],[80,97,114,97,103,114,97,112,104,46,95,95,105,110,105,116,95,95],[80,114,111,99,101,100,117,114,101,115,46,95,95,105,110,105,116,95,95],[80,114,111,103,114,97,109,46,95,95,105,110,105,116,95,95],[83,104,97,112,101,46,95,95,105,110,105,116,95,95],[73,116,101,109,46,97,100,100],[80,114,111,99,101,100,117,114,101,115,46,114,97,110,103,101,95,111,102],[99,108,97,117,115,101,115],[115,105,103,110,95,112,108,97,99,101],[108,97,119]]
noncomputable def gE(n:Nat):Str:=match kA[n]? with
 |some k=>aJ k
 |none=>⟨Array.replicate (n+1000) 0⟩
noncomputable def cS(n:Nat):Addr:=(aw GP n).getD 0
noncomputable def y8:Str:=aJ [98,111,100,105,101,115,95,111,102,46,60,108,111,99,97,108,115,62,46,115,101,101,110]
end
section
noncomputable def qJ(K:Frag)(c:Nat)(n:Str):Bool:=cP Option.isNone (findIn K (.ref (cS c)) n)
noncomputable def ty(K:Frag)(c:Nat)(n:Str)(s:String):Bool:=cP (cP (zc λt=>t==s)) (findIn K (.ref (cS c)) n)
noncomputable def xz(K:Frag)(c:Nat)(n:Str)(f:Nat):Bool:=cP (cP (nD λt=>Nat.beq t (cS f))) (findIn K (.ref (cS c)) n)&&cP (xH "function") (typeIn K (.ref (cS f)))
theorem tA{K:Frag}{c:Nat}{n:Str}(h:qJ K c n=true):findIn K (.ref (cS c)) n=some none:=db h λo e h=>e.trans (ay some (Option.isNone_iff_eq_none.mp h))
theorem tz{K:Frag}{c:Nat}{n:Str}{s:String}(h:ty K c n s=true):findIn K (.ref (cS c)) n=some (some (.builtin s)) :=
 db h λo e h=>db h λv e2 h=>F5 h λt e3 h=>e.trans (ay some (e2.trans (ay some (e3.trans (ay Value.builtin (eq_of_beq h))))))
theorem xA{K:Frag}{c:Nat}{n:Str}{f:Nat}(h:xz K c n f=true):findIn K (.ref (cS c)) n=some (some (.ref (cS f)))/\typeIn K (.ref (cS f))=some (.type "function") :=
 ⟨db (aD h).1 λo e h=>db h λv e2 h=>pH h λt e3 h=>e.trans (ay some (e2.trans (ay some (e3.trans (ay Value.ref (bY h)))))),
  db (aD h).2 λo e h=>e.trans (ay some (CW h))⟩
noncomputable def AD(K:Frag)(p:Nat×Nat):Bool :=
 decide (keepIn K (.ref (cS p.1))=true/\hasDictIn K (cS p.1)=true/\qJ K p.1 "__getattr__" = true/\ty K p.1 "__setattr__" "object.__setattr__" = true/\xz K p.1 "__init__" p.2=true/\
  (∀q∈pT,q.1.1=p.1->qJ K p.1 (gE q.1.2)=true)/\
  (P.exc p.1=true->ty K p.1 "__getattribute__" "BaseException.__getattribute__" = true/\mroIn K (cS p.1) (.type "Exception")=some true/\sF K (cS p.1)=true)/\
  (P.exc p.1=false->ty K p.1 "__getattribute__" "object.__getattribute__" = true/\plainOver K (cS p.1)=true/\makesIn K (cS p.1)=true/\∀q∈DG,q.1.1=p.1->xz K p.1 (gE q.1.2) q.2=true))
end
section
theorem Rr:nZ kA=true:=by kernel_rfl
theorem Rs:kA.all (λk=>Nat.blt k.length 1000)=true:=by kernel_rfl
theorem Rt(x y:Nat)(h:gE x=gE y):x=y:=by
 obtain hd:=AY Rr
 obtain hs:∀{k:aN} {i:Nat},kA[i]?=some k->k.length<1000:=λ{k i} e=>by
  have:=List.all_eq_true.mp Rs k (bV e)
  simpa [iu] using this
 unfold gE at h;refine lN kA[x]? (λk ex=>?_) λex=>?_
 .
  refine lN kA[y]? (λk' ey=>?_) λey=>?_
  .
   rw[ex,ey] at h;have h:aJ k=aJ k':=h;have e1:(kA.map aJ)[x]?=some (aJ k):=by rw[fM,ex];rfl
   obtain e2:(kA.map aJ)[y]?=some (aJ k):=by rw[fM,ey,h];rfl
   refine aF (List.getElem?_eq_some_iff.mp e1) λl1 v1=>?_
   refine aF (List.getElem?_eq_some_iff.mp e2) λl2 v2=>?_
   exact(List.getElem_inj (h₀:=l1) (h₁:=l2) hd).mp (v1.trans v2.symm)
  .
   rw[ex,ey] at h;obtain h:=ay (λs:Str=>s.cps.size) h;have h:k.length=y+1000:=by simpa [aJ] using h
   have:=hs ex;exact ak [_,_,_] 3 0x630e32107d0980d01f42630 rfl h this
 .
  cases ey:kA[y]? with
  |some k'=>
   rw[ex,ey] at h;obtain h:=ay (λs:Str=>s.cps.size) h;have h:x+1000=k'.length:=by simpa [aJ] using h
   have:=hs ey;exact vw this (sb h c9)
  |none=>
   rw[ex,ey] at h;have h:=ay (λs:Str=>s.cps.size) h;have h:x+1000=y+1000:=by simpa using h
   exact I2 h
noncomputable def sp(K:Frag):Obj:=(K.lookup 692).getD {cls:=.none,data:=.plain}
noncomputable def ms(K:Frag):FuncData:=match (sp K).data with | .func d=>d | _=>default
structure HP(K:Frag):Prop where
 fns:Bs.all (BC K cS gE P.cZ 269 y8)=true
 ah:BO.all (BP K cS gE)=true
 cls:CP.all (AD K)=true
 flt:K.lookup (cS 90)=some (nV (cS 90))
 bi:nsIn K mainGlobals "__builtins__" = some (some (.ref 4))
 Kr:K.lookup (cS P.cZ)=some (sp K)
 Km:(sp K).data=.func (ms K)
 Kp:wX gE 269 y8 so (ms K)=true
 Kq:zy (ms K)
 Kk:vQ K (ms K).code (ms K).qualname=true
 Kl:(ms K).defaults=.none
noncomputable def mW(K:Frag)(prog:Program)(w:World)(hF:Heap)(src ct:Addr)(cells:List Int)(gen:Nat->Nat->V×List V×Nat)(lo:Nat)(tk:Nat->Value)(fin:Nat->Prop):Sx :=
 {prog,w,hF,K,P:=P,nm:=gE,ad:=cS,src,ct,tab:=265,cQ:=269,ch:=y8,cells,gen,lo,tk,fin}
theorem xB{K:Frag}(H:HP K){c:Nat}{G:Prop}(h:(P.init c).isSome=true)(g:∀f,P.init c=some f->AD K (c,f)=true->G):G:=by
 refine bX (P.init c) (λe=>?_) λf e=>g f e (List.all_eq_true.mp H.cls _ (tY e))
 rw[e] at h;exact aC h
theorem CI{q:Nat->Bool}{c:Nat}(h:∀r∈pT,r.1.1=c->q r.1.2=true){x:Nat}(e:P.at_ c x=true):q x=true:=by
 refine bX (mT pT c x) (λz=>?_) λv z=>h _ (tX z) rfl
 obtain e:(mT pT c x).isSome=true:=e;rw[z] at e;exact aC e
theorem UC{K:Frag}(H:HP K){prog:Program}{w:World}{hF:Heap}{src ct:Addr}{cells:List Int}{gen:Nat->Nat->V×List V×Nat}{lo:Nat}{tk:Nat->Value}{fin:Nat->Prop}{p:Program}{loose:List Str}{mean:ExcName->Option Value}{mg mb:Str->Option Value}(hk:K.In hF)(T:Top p loose mean mg mb hF)(C:CodeHd hF 269 265):aU (mW K prog w hF src ct cells gen lo tk fin) where
 nm:=Rt
 limit:=T.nolimit
 o0:=by kernel_rfl
 o5:=by kernel_rfl
 o6:=by kernel_rfl
 o4:=by kernel_rfl
 mX:=by kernel_rfl
 mZ:=by kernel_rfl
 mY:=by kernel_rfl
 CK:=hk
 Bq:=by with_unfolding_all kernel_rfl
 fn:=λf fd h Y=>M5 (X:=mW K prog w hF src ct cells gen lo tk fin) rfl hk rfl rfl rfl (List.all_eq_true.mp H.fns (f,fd) (tY h))
 FL:=⟨C,(by refine(?_:(mainGlobals:Nat)≠265);decide),mg,T.g,by
  refine zp T.bmain λbm ob h1 h2 h3 h4 h5 h6=>?_
  have e:=mg_of hk T.g H.bi;replace e:=aW e h1;cases e
  exact⟨4,ob,h1,h2,by decide,by show (4:Nat)≠265;decide,h3,h4,h5,h6⟩⟩
 keep:=λc h=>xB H h λf Y m=>(bG m).1
 cls:=λc h hx=>xB H h λf hf m=>by
  obtain q:=bG m;obtain y:=q.2.2.2.2.2.2.2 hx
  exact⟨tz y.1,tA q.2.2.1,tz q.2.2.2.1,y.2.1,q.2.1,y.2.2.1,λx e=>tA (CI (q:=λx=>qJ K c (gE x)) q.2.2.2.2.2.1 e),
   λm g e=>xA (y.2.2.2 ((c,m),g) (tX e) rfl),λg e=>xA (sb (ag (hf.symm.trans e)) q.2.2.2.2.1)⟩
 exc:=λc h hx=>xB H h λf hf m=>by
  obtain q:=bG m;obtain y:=q.2.2.2.2.2.2.1 hx;obtain rfl:c=90:=bY hx
  exact⟨tz y.1,tA q.2.2.1,tz q.2.2.2.1,y.2.1,hk _ _ H.flt,y.2.2,q.2.1,λx e=>tA (CI (q:=λx=>qJ K 90 (gE x)) q.2.2.2.2.2.1 e),
   λg e=>xA (ag (hf.symm.trans e)▸q.2.2.2.2.1)⟩
 glob:=⟨mg,mb,T.g,T.b,λx v h=>Nu (X:=mW K prog w hF src ct cells gen lo tk fin) rfl hk rfl T.g T.builtins (List.all_eq_true.mp H.ah (x,v) (tY h))⟩
end
section
theorem Ba{K:Frag}(H:HP K){prog:Program}{w:World}{hF:Heap}{src ct:Addr}{cells:List Int}{gen:Nat->Nat->V×List V×Nat}{lo:Nat}{tk:Nat->Value}{fin:Nat->Prop}(hk:K.In hF):zx (mW K prog w hF src ct cells gen lo tk fin) where
 h7:=by kernel_rfl
 h8:=by kernel_rfl
 mB:=(ao 51 (by kernel_rfl) (by kernel_rfl))
 fn:=(t6 (sp K) (ms K) (hk _ _ H.Kr) H.Km (B2 (X:=mW K prog w hF src ct cells gen lo tk fin) rfl rfl rfl H.Kp) H.Kq (AI hk H.Kk) H.Kl)
end
section
theorem BH{X:Sx}(hg:X.gen=ke (bj X)):∀(t n:Nat) (r:List Ev),dI X (cu (bj X) t n).2 r->dI X n (gR (bj X) t n++r)
 |0,_,_,h=>h
 |t+1,n,r,h=>by
  show (X.gen 2 n).1=_/\(X.gen 2 n).2.1=_/\dI X (X.gen 2 n).2.2 (gR (bj X) t (az (bj X) 2 n).2++r);rw[hg];exact⟨rfl,rfl,BH hg t _ r h⟩
theorem BG{X:Sx}(hg:X.gen=ke (bj X)):∀(k n:Nat) (r:List Ev),dI X (cT (bj X) k n).2 r->dI X n (gx (bj X) k n++r)
 |0,_,_,h=>h
 |k+1,n,r,h=>by
  show dI X n (.draw 4 (bj X n 4)::((gR (bj X) (1+bj X n 4) (n+1)++gx (bj X) k (cu (bj X) (1+bj X n 4) (n+1)).2)++r));rw[iW];exact⟨⟨by decide,by decide⟩,rr X n 4 (by decide),BH hg _ _ _ (BG hg k _ r h)⟩
theorem Nd{X:Sx}(hg:X.gen=ke (bj X))(hf:∀n,X.fin n):dI X 0 (qP (bj X)):=by
 exact⟨⟨by decide,by decide⟩,rr X 0 3 (by decide),BG hg _ _ _ ⟨⟨by decide,by decide⟩,rr X _ 3 (by decide),⟨by decide,by decide⟩,rr X _ 3 (by decide),hf _⟩⟩
theorem Rq:gE 7=("source" : Str):=by kernel_rfl
theorem GO:1<cS 36:=by decide +kernel
theorem Rv{l:List (Str×NameKind)}(h:l.filter (·.2==.cell)=[])(n:Str):l.lookup n≠some .cell:=λe=>by
 have:(n,NameKind.cell)∈l:=by
  induction l with
  |nil=>cases e
  |cons q r ih=>
   obtain⟨a,b⟩:=q;rw[eK] at e
   by_cases z:(n==a)=true
   .rw [z] at e;have z:=eq_of_beq z;cases e;subst z;exact .head _
   .rw [Bool.not_eq_true] at z;rw[z] at e;refine .tail _ (ih ?_ e);rw[List.filter_cons] at h
    split at h
    .cases h
    .exact h
 have m:(n,NameKind.cell)∈l.filter (·.2==.cell):=List.mem_filter.mpr ⟨this,rfl⟩;rw[h] at m;cases m
theorem C7{K0:Frag}{prog:Program}{w:World}{hF:Heap}{L fa:Addr}{cd:Value}{sc:Scope}{m:Str->Option Value}{p:Program}{loose:List Str}{mean:ExcName->Option Value}{mg mb:Str->Option Value}{cA lQ:Addr}{vs:List Value}{cells:List Int}{t:Tok}{rest:List Stmt}{s:Shared}{Q:Flow->Shared->Prop}{E:WB}(hk:K0.In hF)(H:HP K0)(T:Top p loose mean mg mb hF)(C:CodeHd hF 269 265)(K:Below callerA hF [] hF)(F:Fr hF L s.heap m)(hm:m "source" = some (.ref lQ))(ff:s.heap.IsList lQ #[.ref cA,.int (0:Nat) t])(kh:s.heap.IsList cA vs.toArray)(ta:IntsAre vs cells)(cG:cells≠[])(ba:cells.length<1000)(sN:hF.get? lQ=none)(jj:cA≠lQ)(tN:hF.get? 265=none)(gY:s.heap.get? 265=some (tabObj #[]))(oA:sc.kind=.function)(Pb:sc.names.filter (·.2==.cell)=[])(tt:sc.names.lookup ("seen" : Str)≠some .local)(w0:eQ gE sc (.asg 20 false (.call (.ah 56) [])::lm.body.drop 3) rest=true)(hQ:∀s',hF.StaysIn s'.heap->GrownAt 265 s'.heap->s'.gens=s.gens->s'.os=s.os->Q (.ret (.bool true)) s') :
  wpAny (model prog w) (callerA.deeper (envOf "law" sc L fa cd)) (execs rest (envOf "law" sc L fa cd)) Q E s:=by
 let X0:=mW K0 prog w hF lQ cA cells (λY Y=>(.none,[],0)) 0 (λY=>.none) (λY=>True)
 let X:=mW K0 prog w hF lQ cA cells (ke (bj X0)) 0 (λY=>.none) (λY=>True)
 have hg:X.gen=ke (bj X):=rfl;have hZ:∀lo fin,aU (X.at_ lo fin):=λlo fin=>UC H hk T C
 have hD:∀lo fin,im (X.at_ lo fin):=λlo fin=>KX (hZ lo fin) (Ba H hk) cG ba
 refine lV (Qs (ru X)) λN f st' mN hf=>?_
 subst hf;have NA:=ru X 0 3 (by decide)
 have S:aV X (ac X.P 3 (aZ (1+bj X 0 3) (qO (bj X)) (qN (bj X))) N) :=
  yV (hZ 0 X.fin) (hD 0 X.fin) (UE 3 (bI 3) rfl hg hZ hD) (Vf rfl hZ hD (et 1 _) (vz NA)) N
 have K2:=K.push (name := "law") (a:=fa) (cd:=cd) F oA;refine fK F.ns λoL es ep g1 g2 g3=>?_
 have LN:hF.get? L=none:=dc F.above;refine ci ((Ba H (w:=w) (prog:=prog) (src:=lQ) (ct:=cA) (cells:=cells) (gen:=ke (bj X0)) (lo:=0) (tk:=λY=>.none) (fin:=λY=>True) hk).fn) λod dd Pf Y=>?_
 let CC:bw:=⟨envOf "law" sc L fa cd,envOf "law" sc L fa cd,[],callerA.deeper (envOf "law" sc L fa cd)⟩
 have I:ai X CC [] ⟨.nil,0,[(7,.src)],[],qP (bj X),60,false,0⟩ s:=by
  refine⟨⟨oA,rfl,rfl,rfl,K2.stack,λn e=>?_,λq=>absurd q tt⟩,F.keep,rfl,λk a e=>(nomatch e),λk o e=>?_,List.nodup_nil,λa h=>(nomatch h),λa h=>(nomatch h),⟨m,F.ns,λx v e=>?_⟩,⟨oL,g1,⟨es,ep,g2⟩⟩,LN,λx k e=>(nomatch e),K2.frames,λL' hL=>?_,
   ⟨⟨0,t,ff,Nd hg λY=>trivial⟩,⟨vs.toArray,kh,ta⟩⟩,sN,jj,⟨⟨#[],gY,?_,λpos c' e=>?_⟩⟩,tN,⟨_,_,?_,Pf⟩,λa h=>(nomatch h),?_,?_,λY=>rfl,rfl,.inl rfl⟩
  .exact absurd (e:sc.names.lookup n=some .cell) (Rv Pb n)
  .exact aP (show none=some o from e)
  .have e':(match Nat.beq 7 x with | true=>some V.src | false=>none)=some v:=e
   cases z:Nat.beq 7 x with
   |false=>rw[z] at e';cases e'
   |true=>
    rw[z] at e';cases e';obtain rfl:=bY z;refine⟨.ref lQ,?_,?_⟩
    .rw [show X.nm 7=("source" : Str) from Rq];exact hm
    .dsimp only[av];rfl
  .obtain rfl:L'=L:=by
    have:L'∈[L]:=hL
    simpa using this
   exact⟨oL,g1,⟨es,ep,g2⟩⟩
  .trivial
  .cases e
  .show 1<cS 36;exact GO
  .show (1+claimMargin)+1+3*60+10<recursionLimit;decide +kernel
  .show 4+3+40*60+60<cLine;decide +kernel
 refine S.ss (C:=CC) I w0 Q E ?_;change aG X CC [] s (eH X) ((ac P 3 _ N).ss _ _) Q E;rw[mN];intro b ρ' s' A r;refine af r ?_;rintro val rfl hv;dsimp only[av] at hv;subst hv;exact af A.inv.tab.at_ λps h1 Y=>hQ s' A.inv.stay ⟨ps,h1⟩ A.gens A.os
end
end Mine.Internal
namespace Mine
open PySem PySem.W PyProof.Rows Internal
namespace main
def tw10044588960856096794:=Nat
def tw10047389527955405517:=Nat
def tw10092017014551392330:=Nat
def tw10094358506670053839:=Nat
def tw10114013102757674387:=Nat
def tw10140136200207757160:=Nat
def tw10159738436595150677:=Nat
def tw10169072693733980587:=Nat
def tw10231336680788121439:=Nat
def tw10234815189450012239:=Nat
def tw1027651156746619712:=Nat
def tw10334261112615635914:=Nat
def tw10363585996791799541:=Nat
def tw10391951854915411234:=Nat
def tw104360540948158410:=Nat
def tw10453263994017694363:=Nat
def tw10455743928339290457:=Nat
def tw10463206416058312583:=Nat
def tw1054321117371714560:=Nat
def tw10609540516017602915:=Nat
def tw10625486282989778954:=Nat
def tw10645133690899816355:=Nat
def tw10652611922669240339:=Nat
def tw10652863235454686790:=Nat
def tw10665089971535097683:=Nat
def tw10750994468655217958:=Nat
def tw10825838108423173272:=Nat
def tw10864377008497418100:=Nat
def tw10876229203375891673:=Nat
def tw10877679251791092727:=Nat
def tw10896356407431480244:=Nat
def tw10924716458440934090:=Nat
def tw1092785777240315536:=Nat
def tw1098248734344127483:=Nat
def tw10992214633131536827:=Nat
def tw1099256609624015869:=Nat
def tw11001617756164336837:=Nat
def tw11003572833241299968:=Nat
def tw11092141859048813250:=Nat
def tw11101190512080308003:=Nat
def tw11156056980113079860:=Nat
def tw1118068078248606362:=Nat
def tw11181722664286889309:=Nat
def tw11218778669853930896:=Nat
def tw11221353774195762014:=Nat
def tw11239335112260394413:=Nat
def tw11261727412033496967:=Nat
def tw11349898740250378076:=Nat
def tw11374851513655246148:=Nat
def tw11399646045708457374:=Nat
def tw11409991511011244131:=Nat
def tw1142173933681417890:=Nat
def tw11461230924637031220:=Nat
def tw11544348965984651327:=Nat
def tw11554813239044494598:=Nat
def tw11595355409239048105:=Nat
def tw11692516046256081784:=Nat
def tw11735423636902730196:=Nat
def tw11752208632293872130:=Nat
def tw11774690029378154688:=Nat
def tw11785714552879321826:=Nat
def tw11857135199678951331:=Nat
def tw11982392923317675503:=Nat
def tw12003311720067154257:=Nat
def tw12027323910402764344:=Nat
def tw12205347405646519318:=Nat
def tw12222963475772708484:=Nat
def tw12252054271945606052:=Nat
def tw12273490649430754879:=Nat
def tw12298629886278197574:=Nat
def tw12343854547171428336:=Nat
def tw1236483940969888574:=Nat
def tw1242282695825638017:=Nat
def tw12431731261707249289:=Nat
def tw12455012482086183272:=Nat
def tw12518504611687188807:=Nat
def tw1253437644075932092:=Nat
def tw1255815211270559930:=Nat
def tw12564604832814323664:=Nat
def tw12590340796369385619:=Nat
def tw12623159325031504133:=Nat
def tw12646911602827044314:=Nat
def tw12692632004510240207:=Nat
def tw12732289081945773324:=Nat
def tw12748397558918655664:=Nat
def tw1277227365148379705:=Nat
def tw1277820614484962519:=Nat
def tw12839114828313443825:=Nat
def tw12872379398031375081:=Nat
def tw12885673836220544336:=Nat
def tw12909650291622432550:=Nat
def tw12915833801598196605:=Nat
def tw12922898485456448571:=Nat
def tw12927740378394474205:=Nat
def tw12941917028564957548:=Nat
def tw12974819211118642341:=Nat
def tw12992176717851604617:=Nat
def tw1306636233014830658:=Nat
def tw13077236301305049449:=Nat
def tw13110970153573199417:=Nat
def tw13148611719377898607:=Nat
def tw13157206579259725088:=Nat
def tw13180746182150919023:=Nat
def tw1319676515408343850:=Nat
def tw13216256296407541030:=Nat
def tw13224007501803129859:=Nat
def tw13270728482189477470:=Nat
def tw13293747886898857621:=Nat
def tw13350764725976880583:=Nat
def tw13402765919934010277:=Nat
def tw13503263706703578961:=Nat
def tw13590572293223372214:=Nat
def tw13597483153833180358:=Nat
def tw1360087194343636844:=Nat
def tw13626721169425172152:=Nat
def tw13642826006792871662:=Nat
def tw13667920496262714385:=Nat
def tw13676971244355772609:=Nat
def tw13693970394777133609:=Nat
def tw1372806426800153423:=Nat
def tw13777938177461255882:=Nat
def tw13797323745857372409:=Nat
def tw13876859957761632879:=Nat
def tw13972245371655741198:=Nat
def tw13974046611088194958:=Nat
def tw13989496423458381343:=Nat
def tw14027531716089632829:=Nat
def tw14097447854668400296:=Nat
def tw1409966394225722968:=Nat
def tw14168887731352723522:=Nat
def tw14216407083858561409:=Nat
def tw14218914174604095658:=Nat
def tw1429040668314091153:=Nat
def tw14364048958407549093:=Nat
def tw1439166485080882:=Nat
def tw14439473939278146460:=Nat
def tw1453356044741674121:=Nat
def tw1454224541498743561:=Nat
def tw14639212616227390028:=Nat
def tw14662554035588321541:=Nat
def tw14672674291997333471:=Nat
def tw1469836325065767749:=Nat
def tw14722489848711283861:=Nat
def tw14793117695081215449:=Nat
def tw14864641218109852296:=Nat
def tw1496695287857109588:=Nat
def tw14982579698679351253:=Nat
def tw15023316991559800185:=Nat
def tw1504049600530537962:=Nat
def tw15060185592220127646:=Nat
def tw15079240505294077160:=Nat
def tw15225127925928830808:=Nat
def tw15270170921892066516:=Nat
def tw15352771483252387427:=Nat
def tw15356762974548107741:=Nat
def tw15365013842991253249:=Nat
def tw15438212644395081984:=Nat
def tw15465920861327815835:=Nat
def tw15467891735981029475:=Nat
def tw15485851114877660061:=Nat
def tw15491723280356408159:=Nat
def tw15514936471743626214:=Nat
def tw15558288988949320067:=Nat
def tw15580989882048331800:=Nat
def tw15595112118272840620:=Nat
def tw15616401959046598769:=Nat
def tw15643365686152983790:=Nat
def tw15734200111481486640:=Nat
def tw15734660467963936456:=Nat
def tw15768048840197415361:=Nat
def tw15928290008803537013:=Nat
def tw15955573374722617477:=Nat
def tw16008457594558532635:=Nat
def tw16026485685270457870:=Nat
def tw16046730324260685337:=Nat
def tw16049902774474827687:=Nat
def tw16135426469972691074:=Nat
def tw16136984950599521427:=Nat
def tw1615045767204293396:=Nat
def tw1615956725737779560:=Nat
def tw16187894506366716058:=Nat
def tw16193401482309157537:=Nat
def tw16218864148678617972:=Nat
def tw16305672181175384284:=Nat
def tw16320215318167395912:=Nat
def tw1632041292262086317:=Nat
def tw16320729459185622934:=Nat
def tw16411370214107742406:=Nat
def tw16451033083921036709:=Nat
def tw16452447596832230105:=Nat
def tw16508919721030705984:=Nat
def tw16572128252103988241:=Nat
def tw16629339528299215175:=Nat
def tw16641786646906312760:=Nat
def tw16656740534632174751:=Nat
def tw16676564476587882173:=Nat
def tw16689149305811164139:=Nat
def tw1677766988990989824:=Nat
def tw16778611742570070204:=Nat
def tw16798622893749714585:=Nat
def tw16806246253224384389:=Nat
def tw16826212616301561204:=Nat
def tw16922381011570985944:=Nat
def tw16923884221124529275:=Nat
def tw16948680386487030729:=Nat
def tw16950194794029067938:=Nat
def tw16952715711813285254:=Nat
def tw16959884160788844718:=Nat
def tw16965079339398995527:=Nat
def tw16992577462220537533:=Nat
def tw17052023290607921161:=Nat
def tw17057053908230417247:=Nat
def tw17091655785135471103:=Nat
def tw17118054049896295152:=Nat
def tw17128291446047057950:=Nat
def tw17146568849442343683:=Nat
def tw1714950047550659301:=Nat
def tw17201416709059790184:=Nat
def tw1720846800190507362:=Nat
def tw17223442867436993403:=Nat
def tw17242618495524080942:=Nat
def tw17268439761433841065:=Nat
def tw17272174723667511238:=Nat
def tw17275675667316583603:=Nat
def tw17292155258170135553:=Nat
def tw17353955331779342651:=Nat
def tw17374960159479907963:=Nat
def tw17431719831054627609:=Nat
def tw17438294365789470252:=Nat
def tw17450470499104002142:=Nat
def tw17453503289922162039:=Nat
def tw17477492558424962760:=Nat
def tw17510229520200029679:=Nat
def tw17679725944135375923:=Nat
def tw17699438841360665129:=Nat
def tw17737603089517620647:=Nat
def tw17958375852430007124:=Nat
def tw17972981104911746267:=Nat
def tw18068205395882661460:=Nat
def tw18107819660038123188:=Nat
def tw18120430973489738927:=Nat
def tw18165044119631177899:=Nat
def tw18178676814319149831:=Nat
def tw18218335207050127959:=Nat
def tw18238007617527299592:=Nat
def tw1826329307503635854:=Nat
def tw18287795668848337631:=Nat
def tw18325589031809861271:=Nat
def tw18332899500509843999:=Nat
def tw18385570937342765463:=Nat
def tw18403998269306519403:=Nat
def tw18421580907717582127:=Nat
def tw18428669670746838259:=Nat
def tw18431692314602308842:=Nat
def tw18442785490491869365:=Nat
def tw1850612553970854742:=Nat
def tw1886080085820668685:=Nat
def tw1980160206288974728:=Nat
def tw2007339730380871907:=Nat
def tw221909299271738847:=Nat
def tw2433702464844828792:=Nat
def tw2456247091588846565:=Nat
def tw2538046985915079169:=Nat
def tw2583023086579268501:=Nat
def tw2629084897520917108:=Nat
def tw2647654807098235363:=Nat
def tw2702614204127132176:=Nat
def tw2704602940660078815:=Nat
def tw2714283472998740243:=Nat
def tw2724176850512262202:=Nat
def tw2729793432009153956:=Nat
def tw2744014450722944760:=Nat
def tw2759098988195820126:=Nat
def tw2852251193174398662:=Nat
def tw2900998541784483753:=Nat
def tw2921621734765799159:=Nat
def tw2921958311620399285:=Nat
def tw3027586509356016917:=Nat
def tw3045742163950154196:=Nat
def tw30802899008314538:=Nat
def tw3160845607165458772:=Nat
def tw3298483428156984901:=Nat
def tw3299218664060906527:=Nat
def tw3314904115985164895:=Nat
def tw3343439749351644125:=Nat
def tw3370190323706015969:=Nat
def tw3394367416137920725:=Nat
def tw341453280667917650:=Nat
def tw3454311308915712629:=Nat
def tw3464709057266567092:=Nat
def tw3466206800631347469:=Nat
def tw3562595001068472590:=Nat
def tw358491910552652209:=Nat
def tw3626430660855392483:=Nat
def tw3748114642381145586:=Nat
def tw3756182928292023547:=Nat
def tw3779293765908593550:=Nat
def tw3796207824708393856:=Nat
def tw3848698983108048278:=Nat
def tw3867218068155391060:=Nat
def tw387501639795913443:=Nat
def tw3905226178654972811:=Nat
def tw3958507339218470045:=Nat
def tw3960113756560652017:=Nat
def tw4020083893523227988:=Nat
def tw4038153913678941442:=Nat
def tw4044139247061151142:=Nat
def tw4044807437886835965:=Nat
def tw4072190877284726289:=Nat
def tw4088224383575840552:=Nat
def tw4126091431370883743:=Nat
def tw4156125974679941130:=Nat
def tw4189750870438640210:=Nat
def tw4289460656931056126:=Nat
def tw4297412468100583042:=Nat
def tw4305066583602341486:=Nat
def tw4310270188432123100:=Nat
def tw4365514962571936147:=Nat
def tw4475767826048309731:=Nat
def tw4500915450034043215:=Nat
def tw4508364121390281068:=Nat
def tw452746233719593009:=Nat
def tw4573282807186111410:=Nat
def tw4638281056170512193:=Nat
def tw4650958065196391918:=Nat
def tw4651154628705390771:=Nat
def tw4749052000479324790:=Nat
def tw4766233809647381661:=Nat
def tw4775608329324902142:=Nat
def tw4817600198373253283:=Nat
def tw4839478117068044826:=Nat
def tw48596604365144762:=Nat
def tw4900431672193113347:=Nat
def tw4917070330192852093:=Nat
def tw49674306023711395:=Nat
def tw4990475226369331113:=Nat
def tw5081338017982231179:=Nat
def tw5102693214775723256:=Nat
def tw5127751686995613262:=Nat
def tw5160751907100791332:=Nat
def tw5234446048077146213:=Nat
def tw5240536507193477226:=Nat
def tw5243159528196176124:=Nat
def tw5287059835090251167:=Nat
def tw5309058905264134205:=Nat
def tw5378808338967829844:=Nat
def tw5396188567872606041:=Nat
def tw5396361742852586263:=Nat
def tw5401703158475992631:=Nat
def tw5418533224930618480:=Nat
def tw5436791530062809996:=Nat
def tw545269030811804461:=Nat
def tw5473700226181020891:=Nat
def tw5517759331935216279:=Nat
def tw5532463470591059822:=Nat
def tw5585478044538960755:=Nat
def tw5623159541915647742:=Nat
def tw5649967823195072380:=Nat
def tw5665735395497279834:=Nat
def tw5684232945270242834:=Nat
def tw5781596087445459943:=Nat
def tw5797031442667253490:=Nat
def tw5831584030425509755:=Nat
def tw5842977544298395883:=Nat
def tw5871769198996169552:=Nat
def tw588950844065142505:=Nat
def tw5921134243170700561:=Nat
def tw6041185293024905222:=Nat
def tw6075091234017535682:=Nat
def tw6112859857366181021:=Nat
def tw6161133996638707016:=Nat
def tw6162249291895867263:=Nat
def tw6214117541549086881:=Nat
def tw6237627108579964202:=Nat
def tw6385024630547198690:=Nat
def tw6389877041954997217:=Nat
def tw6455149578367423246:=Nat
def tw6508729118710982530:=Nat
def tw6511744376749373798:=Nat
def tw6541472054586571296:=Nat
def tw6542085627976250192:=Nat
def tw6557543464795787104:=Nat
def tw656089360051881306:=Nat
def tw65644731488775911:=Nat
def tw6565609875121592624:=Nat
def tw6596593509180878263:=Nat
def tw66260789543402106:=Nat
def tw6635558491612396129:=Nat
def tw6655696309031964122:=Nat
def tw6657087868060814:=Nat
def tw6663778134991626487:=Nat
def tw6674893403203295414:=Nat
def tw669201953871153471:=Nat
def tw6696893160125735727:=Nat
def tw6702130215012162313:=Nat
def tw6741292078354696603:=Nat
def tw6785657489111691699:=Nat
def tw6788530277367551627:=Nat
def tw6855474311058116810:=Nat
def tw6862268138105152660:=Nat
def tw6880717277089553138:=Nat
def tw6886502059237256666:=Nat
def tw6910295442248876197:=Nat
def tw6946311139365774590:=Nat
def tw6981815665589151136:=Nat
def tw7074144079889050967:=Nat
def tw7083192437325867461:=Nat
def tw7093617532817203218:=Nat
def tw7108953243070827183:=Nat
def tw7153082081811710619:=Nat
def tw7165207203227711834:=Nat
def tw7221758910455160077:=Nat
def tw7293298908176781663:=Nat
def tw7301844627453684160:=Nat
def tw7332552209862256014:=Nat
def tw7439787175107056256:=Nat
def tw750237026923860459:=Nat
def tw7514964652732493775:=Nat
def tw7590696779544312186:=Nat
def tw7623511443260959870:=Nat
def tw7647378279178456250:=Nat
def tw7691172733374981047:=Nat
def tw7698036289167662538:=Nat
def tw7699798408344515789:=Nat
def tw7742616358663508648:=Nat
def tw7761410557224570781:=Nat
def tw785246043732427063:=Nat
def tw7904437144335635152:=Nat
def tw7943094425149488825:=Nat
def tw7974275031393228247:=Nat
def tw8060562821785662972:=Nat
def tw8090509862211737132:=Nat
def tw8127475511531132179:=Nat
def tw8207831470162742035:=Nat
def tw8211959896082780389:=Nat
def tw8228058824784995430:=Nat
def tw8260724100714396741:=Nat
def tw8278394305814214361:=Nat
def tw833945537157984683:=Nat
def tw8436210846270712021:=Nat
def tw8440099810896429113:=Nat
def tw8475525182357872103:=Nat
def tw8478376212529829071:=Nat
def tw8484041278411425421:=Nat
def tw8546124895413445307:=Nat
def tw854977524454699277:=Nat
def tw8557395850702784662:=Nat
def tw8561170505333791620:=Nat
def tw8652556701797213591:=Nat
def tw8809968196449919288:=Nat
def tw8844999433837080629:=Nat
def tw8905464785575363620:=Nat
def tw892681787802806017:=Nat
def tw9006321595064636914:=Nat
def tw9121559901702372667:=Nat
def tw9189880136782149556:=Nat
def tw9190990891756207365:=Nat
def tw9253799994812790149:=Nat
def tw9265829497004654079:=Nat
def tw9272984997812220495:=Nat
def tw9274054859765456524:=Nat
def tw9302470337196694018:=Nat
def tw9361300454564663673:=Nat
def tw9368617206455126095:=Nat
def tw9369988214560726041:=Nat
def tw9376575566392132001:=Nat
def tw9381277316556691805:=Nat
def tw9392487213469676918:=Nat
def tw9394770849952503311:=Nat
def tw9417822746687237092:=Nat
def tw9470667924834194258:=Nat
def tw9483120023164983764:=Nat
def tw9498315638749924794:=Nat
def tw9508770018378322450:=Nat
def tw9557352009045844224:=Nat
def tw9561784451562097942:=Nat
def tw9563168847844234846:=Nat
def tw9573086628692744296:=Nat
def tw962032349192862916:=Nat
def tw962193829226610041:=Nat
def tw9656510801202774680:=Nat
def tw9681375758050803366:=Nat
def tw9756827057097773860:=Nat
def tw979501456738626862:=Nat
def tw9808303207383738048:=Nat
def tw9840939614602229412:=Nat
def tw9848185148710128376:=Nat
def tw9925469786538053656:=Nat
def tw9964214247947446159:=Nat
def tw9976160756891316704:=Nat
end main
theorem Un {M : Model} {A : Around} {Q : Flow → Shared → Prop} {E : Value → Shared → Prop} {s : Shared} {env : Env} {x1 x2 : Stmt} {rest : List Stmt}
    (h : ∀ R : {R : Sem Flow // R = execs rest env}, wpAny M A (exec x1 env) (fun f s1 => f = .next ∧ wpAny M A (exec x2 env) (fun f s2 => f = .next ∧ wpAny M A R.1 Q E s2) E s1) E s) : wpAny M A (execs (x1 :: x2 :: rest) env) Q E s := by
  refine wpAny_execs_cons (wpAny_mono (h ⟨_, rfl⟩) (fun f s1 ⟨e, k⟩ => ?_) fun Y Y h => h)
  subst e
  dsimp only
  refine wpAny_execs_cons (wpAny_mono k (fun f s2 ⟨e, k⟩ => ?_) fun Y Y h => h)
  subst e
  exact k
theorem Pn {K : Frag} {h : Heap} {G : Prop} (Y : K.In h) (H : HP K) (g : HP K → G) : G := g H
theorem BS {c : ClaimW} {cl : Str → Option Addr} {mean : ExcName → Option Value} {args : List WData} {s₁ s' : Shared} {v : Value} (hv : v = .bool true) (hr : ∀ x, c.raises args x = false) (hp : c.post args (.bool true) args = true) (hk : ∀ b o, s₁.heap.get? b = some o → s'.heap.get? b = some o) (ho : s'.os = s₁.os) (hg : s'.gens = #[]) (gr : GrownAt 265 s'.heap) :
    GoodW c cl mean args s₁ (.ok (.ret v)) s' ∧ GrownAll [(269, 265)] s'.heap := by
  subst hv
  exact ⟨⟨.inl ⟨_, _, [], rfl, hr, .bool true, hp, fun Y => ⟨List.nodup_nil, fun Y h => (nomatch h)⟩⟩, hk, ho, hg⟩, gr, trivial⟩
set_option Elab.async true in
set_option maxHeartbeats 0 in
theorem main : PySem.Challenge.rw_og0105_01.Holds := by
  w_on; o_law; k_head; (case hw => w_witness2)
  k_go0
  refine Pn (by assumption) (by exact ⟨by kernel_rfl, by kernel_rfl, by kernel_rfl, by kernel_rfl, by kernel_rfl, by kernel_rfl, by kernel_rfl, by kernel_rfl, ⟨⟨fun i => List.getD [_, _, _, _, _, _, _, _, _, _, _, _, _, _, _, _, _, _, _, _, _, _, _, _, _, _, _, _, _, _, _, _, _, _, _] i default, rfl⟩, by kernel_rfl⟩, by kernel_rfl, by kernel_rfl⟩) fun H0 => ?_
  refine Un ?_
  intro R
  k_steps
  all_goals first
    | exact True.intro
    | (obtain ⟨Y, rfl⟩ := R
       have hi := (by assumption : IntsAre _ (List.map (fun k' => k') _))
       have ha := (by assumption : 0 < (List.map (fun k' => k') _).length)
       rename_i N
       refine C7 (by assumption) (by assumption) (by assumption) (by assumption) (by assumption) (by assumption) (if_pos rfl) ⟨_, (N _ (.head _)).1, rfl, _, rfl⟩ ⟨_, (N _ (.tail _ (.head _))).1, rfl, _, rfl⟩ hi ?_ ?_ (N _ (.head _)).2.2 ?_ (N _ (.tail _ (.tail _ (.tail _ (.head _))))).2.2 (N _ (.tail _ (.tail _ (.tail _ (.head _))))).1 rfl ?_ ?_ ?_ ?_
       · exact fun q => by rw [q] at ha; exact absurd ha (Nat.lt_irrefl _)
       · rw [List.length_map]; exact Nat.lt_of_le_of_lt (List.length_take_le _ _) (by decide)
       · exact Nat.ne_of_lt (by assumption : _ ∧ _).1
       · kernel_rfl
       · decide +kernel
       · kernel_rfl
       · intro s' a b c d
         refine BS rfl (raisesW_false ?_) ?_ a d (c.trans (by assumption)) b
         · wrow_none_raised
         · kc_post)
    | (obtain ⟨Y, rfl⟩ := R
       rename_i N
       refine C7 (vs := [_]) (by assumption) (by assumption) (by assumption) (by assumption) (by assumption) (by assumption) (if_pos rfl) ⟨_, (N _ (.head _)).1, rfl, _, rfl⟩ ⟨_, (N _ (.tail _ (.head _))).1, rfl, _, rfl⟩ (.cons 0 _ .nil) ?_ ?_ (N _ (.head _)).2.2 ?_ (N _ (.tail _ (.tail _ (.tail _ (.tail _ (.head _)))))).2.2 (N _ (.tail _ (.tail _ (.tail _ (.tail _ (.head _)))))).1 rfl ?_ ?_ ?_ ?_
       · exact List.cons_ne_nil _ _
       · decide
       · exact Nat.ne_of_lt (by assumption : _ ∧ _).1
       · kernel_rfl
       · decide +kernel
       · kernel_rfl
       · intro s' a b c d
         refine BS rfl (raisesW_false ?_) ?_ a d (c.trans (by assumption)) b
         · wrow_none_raised
         · kc_post)
end Mine
theorem PySem.Challenge.cw_og0105_01_holds : PySem.Challenge.rw_og0105_01.Holds :=
  Mine.main
