import PyProof.Rows.All
import Wide.All
import OpenK.AllK
import Wide.FinOn
import KE.KBytesWalk
import KE.KRevIter
import KE.BytesMake
import KE.KTryMore
import PyProof.ExcClass3
import PyProof.AttrMissSeq
import PyProof.IsiH_list
import KE.KDictOf
import KE.KPar
import KE.KTreeF
import PySem.Challenge.RW_nz0231_01
set_option Elab.async false
set_option genInjectivity false
set_option genSizeOf false
set_option genCtorIdx false
set_option bootstrap.genMatcherCode false
set_option compiler.extract_closed false
noncomputable section
set_option autoImplicit false
set_option maxRecDepth 100000
set_option linter.all false
namespace Internal
open PySem PySem.W PyProof.Rows PySem.Calls
noncomputable abbrev ad:=@Nat.le_trans
noncomputable abbrev ae:=@Eq.symm
noncomputable abbrev af:=@wpAny_bind
noncomputable abbrev ah:=@congrArg
noncomputable abbrev aj:=@Nat.le_of_ble_eq_true
noncomputable abbrev an:=@Bool.and_eq_true_iff
noncomputable abbrev ao:=@wpAny_pure
noncomputable abbrev aq:=@List.length_map
noncomputable abbrev au:=@List.mem_of_getElem?
noncomputable abbrev av:=@List.mem_singleton
noncomputable abbrev aw:=@Nat.le_of_eq
noncomputable abbrev ay:=@List.getElem?_eq_getElem
noncomputable abbrev az:=@Nat.lt_of_le_of_lt
noncomputable abbrev aA:=@List.length_append
noncomputable abbrev aB:=@List.mem_cons_of_mem
noncomputable abbrev aC:=@Nat.lt_of_lt_of_le
noncomputable abbrev aE:=@Bool.false_ne_true
noncomputable abbrev aF:=@of_decide_eq_true
noncomputable abbrev aG:=@Nat.le_refl
noncomputable abbrev aH:=@List.append_assoc
noncomputable abbrev aI:=@Heap.get?_push_of_some
noncomputable abbrev aK:=@List.mem_cons
noncomputable abbrev aL:=@Nat.le_of_lt
noncomputable abbrev aN:=@Int.lt_of_lt_of_le
noncomputable abbrev aP:=@Option.some.inj
noncomputable abbrev aQ:=@Heap.get?_push_size
noncomputable abbrev aR:=@List.getD_eq_getElem?_getD
noncomputable abbrev aS:=@Heap.lt_size
noncomputable abbrev aU:=@PySem.sizeLine_eq
noncomputable abbrev aV:=@List.mem_cons_self
noncomputable abbrev aW:=@Int.ofNat_le
noncomputable abbrev aX:=@Int.ofNat_lt
noncomputable abbrev aY:=@List.map_append
noncomputable abbrev aZ:=@decide_eq_true
noncomputable abbrev a9:=@Nat.le_add_right
noncomputable abbrev bb:=@Nat.add_le_add_left
noncomputable abbrev bc:=@List.getElem?_map
noncomputable abbrev be:=@Option.map_eq_some_iff
noncomputable abbrev bh:=@List.getElem?_eq_some_iff
noncomputable abbrev bl:=@wpAny_holding
noncomputable abbrev bp:=@Int.le_trans
noncomputable abbrev br:=@of_decide_eq_false
noncomputable abbrev bu:=@Array.length_toList
noncomputable abbrev bw:=@Nat.ne_of_lt
noncomputable abbrev bx:=@List.mem_append_right
noncomputable abbrev bz:=@decide_eq_false
noncomputable abbrev bA:=@Int.natCast_nonneg
noncomputable abbrev bC:=@Nat.zero_le
noncomputable abbrev bD:=@Nat.add_le_add_right
noncomputable abbrev bE:=@builtinLookup_eq_fast
noncomputable abbrev bF:=@Nat.add_le_add
noncomputable abbrev bG:=@wpAny_of_eq
noncomputable abbrev bH:=@Nat.le_of_lt_succ
noncomputable abbrev bI:=@List.mem_append
noncomputable abbrev bJ:=@List.mem_append_left
noncomputable abbrev bK:=@List.length_take
noncomputable abbrev bL:=@Nat.succ.inj
noncomputable abbrev bN:=@wpAny_specialOf
noncomputable abbrev bV:=@List.take_add_one
noncomputable abbrev bX:=@List.contains_iff_mem
noncomputable abbrev bZ:=@Nat.zero_add
noncomputable abbrev cb:=@Option.isSome_iff_exists
noncomputable abbrev ce:=@wpAny_standAt
noncomputable abbrev cf:=@List.exists_cons_of_length_eq_add_one
noncomputable abbrev cq:=@List.mem_map
noncomputable abbrev cy:=@List.length_cons
noncomputable abbrev cA:=@isSubtype_type
noncomputable abbrev cD:=@wpAny_loadPart_at
noncomputable abbrev cE:=@Nat.le_succ_of_le
noncomputable abbrev cF:=@List.take_of_length_le
noncomputable abbrev cG:=@Nat.lt_trans
noncomputable abbrev cJ:=@typeLookup_type
noncomputable abbrev cK:=@List.append_nil
noncomputable abbrev cL:=@List.length_set
noncomputable abbrev cS:=@List.mem_filterMap
noncomputable abbrev cT:=@Nat.le_succ
noncomputable abbrev cU:=@Int.lt_of_le_of_lt
noncomputable abbrev cY:=@List.getElem?_append_left
noncomputable abbrev cZ:=@Int.not_lt
noncomputable abbrev c9:=@Array.getElem?_toList
noncomputable abbrev dp:=@Bool.or_eq_true_iff
noncomputable abbrev dq:=@Nat.mul_le_mul_left
noncomputable abbrev dE:=@codeAny_builtin
noncomputable abbrev dG:=@Classical.byContradiction
noncomputable abbrev dJ:=@Heap.get?_update_self
noncomputable abbrev dK:=@List.perm_append_comm
noncomputable abbrev d8:=@List.length_range
noncomputable abbrev d9:=@List.size_toArray
noncomputable abbrev eu:=@Bool.eq_iff_iff
noncomputable abbrev eI:=@beq_iff_eq
noncomputable abbrev iw:=@Nat.not_lt
noncomputable abbrev iV:=@Nat.lt_of_add_lt_add_left
noncomputable abbrev wR:=@Nat.lt_of_succ_lt
end Internal
namespace Internal
universe u
theorem dw{p0 p1:Prop}{q:Prop}(h:p0/\p1)(f:p0->p1->q):q:=f h.1 h.2
theorem ie{p0 p1 p2:Prop}{q:Prop}(h:p0/\p1/\p2)(f:p0->p1->p2->q):q:=f h.1 h.2.1 h.2.2
theorem ij{p0 p1 p2 p3:Prop}{q:Prop}(h:p0/\p1/\p2/\p3)(f:p0->p1->p2->p3->q):q:=f h.1 h.2.1 h.2.2.1 h.2.2.2
theorem Hy{p0 p1 p2 p3 p4:Prop}{q:Prop}(h:p0/\p1/\p2/\p3/\p4)(f:p0->p1->p2->p3->p4->q):q:=f h.1 h.2.1 h.2.2.1 h.2.2.2.1 h.2.2.2.2
theorem Mf{p0 p1 p2 p3 p4 p5:Prop}{q:Prop}(h:p0/\p1/\p2/\p3/\p4/\p5)(f:p0->p1->p2->p3->p4->p5->q):q:=f h.1 h.2.1 h.2.2.1 h.2.2.2.1 h.2.2.2.2.1 h.2.2.2.2.2
theorem cN{A0:Sort _}{p0:A0->Prop}{q:Prop}(h:∃a,p0 a)(f:∀a,p0 a->q):q:=by obtain⟨a,h0⟩:=h;exact f a h0
theorem aT{A0:Sort _}{p0 p1:A0->Prop}{q:Prop}(h:∃a,p0 a/\p1 a)(f:∀a,p0 a->p1 a->q):q:=by obtain⟨a,h0,h1⟩:=h;exact f a h0 h1
theorem pH{A0:Sort _}{p0 p1 p2:A0->Prop}{q:Prop}(h:∃a,p0 a/\p1 a/\p2 a)(f:∀a,p0 a->p1 a->p2 a->q):q:=by obtain⟨a,h0,h1,h2⟩:=h;exact f a h0 h1 h2
theorem Mk{A0:Sort _}{p0 p1 p2 p3 p4:A0->Prop}{q:Prop}(h:∃a,p0 a/\p1 a/\p2 a/\p3 a/\p4 a)(f:∀a,p0 a->p1 a->p2 a->p3 a->p4 a->q):q:=by obtain⟨a,h0,h1,h2,h3,h4⟩:=h;exact f a h0 h1 h2 h3 h4
theorem KP{A0:Sort _}{p0 p1 p2 p3 p4 p5 p6:A0->Prop}{q:Prop}(h:∃a,p0 a/\p1 a/\p2 a/\p3 a/\p4 a/\p5 a/\p6 a)(f:∀a,p0 a->p1 a->p2 a->p3 a->p4 a->p5 a->p6 a->q):q:=by obtain⟨a,h0,h1,h2,h3,h4,h5,h6⟩:=h;exact f a h0 h1 h2 h3 h4 h5 h6
theorem fv{A0:Sort _}{A1:Sort _}{p0:A0->A1->Prop}{q:Prop}(h:∃a b,p0 a b)(f:∀a b,p0 a b->q):q:=by obtain⟨a,b,h0⟩:=h;exact f a b h0
theorem eA{A0:Sort _}{A1:Sort _}{p0 p1:A0->A1->Prop}{q:Prop}(h:∃a b,p0 a b/\p1 a b)(f:∀a b,p0 a b->p1 a b->q):q:=by obtain⟨a,b,h0,h1⟩:=h;exact f a b h0 h1
theorem eT{A0:Sort _}{A1:Sort _}{p0 p1 p2:A0->A1->Prop}{q:Prop}(h:∃a b,p0 a b/\p1 a b/\p2 a b)(f:∀a b,p0 a b->p1 a b->p2 a b->q):q:=by obtain⟨a,b,h0,h1,h2⟩:=h;exact f a b h0 h1 h2
theorem LZ{A0:Sort _}{A1:Sort _}{A2:Sort _}{p0:A0->A1->A2->Prop}{q:Prop}(h:∃a b c,p0 a b c)(f:∀a b c,p0 a b c->q):q:=by obtain⟨a,b,c,h0⟩:=h;exact f a b c h0
theorem iR{A0:Sort _}{A1:Sort _}{A2:Sort _}{p0 p1:A0->A1->A2->Prop}{q:Prop}(h:∃a b c,p0 a b c/\p1 a b c)(f:∀a b c,p0 a b c->p1 a b c->q):q:=by obtain⟨a,b,c,h0,h1⟩:=h;exact f a b c h0 h1
theorem sd{A0:Sort _}{A1:Sort _}{A2:Sort _}{p0 p1 p2:A0->A1->A2->Prop}{q:Prop}(h:∃a b c,p0 a b c/\p1 a b c/\p2 a b c)(f:∀a b c,p0 a b c->p1 a b c->p2 a b c->q):q:=by obtain⟨a,b,c,h0,h1,h2⟩:=h;exact f a b c h0 h1 h2
theorem Fb{A0:Sort _}{A1:Sort _}{A2:Sort _}{p0 p1 p2 p3:A0->A1->A2->Prop}{q:Prop}(h:∃a b c,p0 a b c/\p1 a b c/\p2 a b c/\p3 a b c)(f:∀a b c,p0 a b c->p1 a b c->p2 a b c->p3 a b c->q):q:=by obtain⟨a,b,c,h0,h1,h2,h3⟩:=h;exact f a b c h0 h1 h2 h3
theorem KN{A0:Sort _}{A1:Sort _}{A2:Sort _}{p0 p1 p2 p3 p4:A0->A1->A2->Prop}{q:Prop}(h:∃a b c,p0 a b c/\p1 a b c/\p2 a b c/\p3 a b c/\p4 a b c)(f:∀a b c,p0 a b c->p1 a b c->p2 a b c->p3 a b c->p4 a b c->q):q:=by obtain⟨a,b,c,h0,h1,h2,h3,h4⟩:=h;exact f a b c h0 h1 h2 h3 h4
theorem LQ{A0:Sort _}{A1:Sort _}{A2:Sort _}{p0 p1 p2 p3 p4 p5:A0->A1->A2->Prop}{q:Prop}(h:∃a b c,p0 a b c/\p1 a b c/\p2 a b c/\p3 a b c/\p4 a b c/\p5 a b c)(f:∀a b c,p0 a b c->p1 a b c->p2 a b c->p3 a b c->p4 a b c->p5 a b c->q):q:=by obtain⟨a,b,c,h0,h1,h2,h3,h4,h5⟩:=h;exact f a b c h0 h1 h2 h3 h4 h5
theorem wY{A0:Sort _}{A1:Sort _}{A2:Sort _}{A3:Sort _}{p0 p1:A0->A1->A2->A3->Prop}{q:Prop}(h:∃a b c d,p0 a b c d/\p1 a b c d)(f:∀a b c d,p0 a b c d->p1 a b c d->q):q:=by obtain⟨a,b,c,d,h0,h1⟩:=h;exact f a b c d h0 h1
theorem JO{A0:Sort _}{A1:Sort _}{A2:Sort _}{A3:Sort _}{p0 p1 p2:A0->A1->A2->A3->Prop}{q:Prop}(h:∃a b c d,p0 a b c d/\p1 a b c d/\p2 a b c d)(f:∀a b c d,p0 a b c d->p1 a b c d->p2 a b c d->q):q:=by obtain⟨a,b,c,d,h0,h1,h2⟩:=h;exact f a b c d h0 h1 h2
theorem FA{A0:Sort _}{A1:Sort _}{A2:Sort _}{A3:Sort _}{p0 p1 p2 p3:A0->A1->A2->A3->Prop}{q:Prop}(h:∃a b c d,p0 a b c d/\p1 a b c d/\p2 a b c d/\p3 a b c d)(f:∀a b c d,p0 a b c d->p1 a b c d->p2 a b c d->p3 a b c d->q):q:=by obtain⟨a,b,c,d,h0,h1,h2,h3⟩:=h;exact f a b c d h0 h1 h2 h3
theorem qw{A0:Sort _}{A1:Sort _}{A2:Sort _}{A3:Sort _}{p0 p1 p2 p3 p4:A0->A1->A2->A3->Prop}{q:Prop}(h:∃a b c d,p0 a b c d/\p1 a b c d/\p2 a b c d/\p3 a b c d/\p4 a b c d)(f:∀a b c d,p0 a b c d->p1 a b c d->p2 a b c d->p3 a b c d->p4 a b c d->q):q:=by obtain⟨a,b,c,d,h0,h1,h2,h3,h4⟩:=h;exact f a b c d h0 h1 h2 h3 h4
theorem KS{a b n r:Nat}(h:a+4 * (n+1)+50 < r)(k:b<=a+4):b+4 * n+50 < r:=by omega
theorem Ks{a b n r:Nat}(h:a+40 * (n+1)+100 < r)(k:b<=a+40):b+40 * n+100 < r:=by omega
theorem I4{j i k:Nat}(h:j - i=k+1):j - (i+1)=k:=ah Nat.pred h
theorem IF{j i:Nat}(h:j - i=0)(l:i<=j):i=j:=Nat.le_antisymm l (Nat.le_of_sub_eq_zero h)
theorem HU{t N:Nat}(h:t < N):((N - t : Nat):Int) - 1=(N - (t+1):Nat):=by
 rw[show N - t=(N - (t+1))+1 from (Nat.succ_pred_eq_of_pos (Nat.sub_pos_of_lt h)).symm];exact Int.add_sub_cancel (N - (t+1):Nat) 1
theorem LH{x y:Nat}:(max (x:Int) y).toNat=max x y:=by omega
theorem Na{a m r:Nat}(h:a+m+50 < r):a < r:=az (Nat.le_add_right_of_le (a9 a m)) h
end Internal
namespace Internal
open PySem PySem.W PyProof.Rows PySem.Calls
noncomputable def ic(c:Code):Prop:=∀ (M:Model)(v:Value)(p:Pos)(s:Shared),Sem.wp M ⟨c,none,none,[],none⟩ (Builtin.Bytes.exported v) (λb _ _=>b=false) (λ_ _ _=>True) p s
structure Nd(Γ:Ctx):Prop where
 code : ic Γ.code
 below : ∀x∈Γ.below,ic x.1
noncomputable def cW{α:Type}(M:Model)(A:Around)(t:Sem α)(Q:α->Shared->Prop)(E:Value->Shared->Prop)(s:Shared):Prop:=
 ∀Γ p,Γ.In A->Nd Γ->Sem.wp M Γ t (λa _ s'=>Q a s') (λe _ s'=>E e s') p s
noncomputable def codeN(M:Model)(A:Around)(c:Code)(R:Result->Shared->Prop)(s:Shared):Prop:=
 ∀Γ p,Γ.code=c->Γ.Below A->(∀x∈Γ.below,ic x.1)->wpCode M Γ R p s
section
variable {α β:Type}{M:Model}{A:Around}{E:Value->Shared->Prop}{s:Shared}
theorem cW.of{t:Sem α}{Q:α->Shared->Prop}(h:wpAny M A t Q E s):cW M A t Q E s:=λΓ p i _=>h Γ p i
theorem ax{a:α}{Q:α->Shared->Prop}(h:Q a s):cW M A (pure a) Q E s:= .of (ao h)
theorem aD{t:Sem α}{Q Q':α->Shared->Prop}{E':Value->Shared->Prop}(h:cW M A t Q E s)(hQ:∀a s,Q a s->Q' a s)(hE:∀e s,E e s->E' e s):cW M A t Q' E' s:=
 λΓ p i d=>Sem.wp_mono M Γ t (λa _ z=>hQ a z) (λe _ z=>hE e z) p s (h Γ p i d)
theorem ai{m:Sem α}{f:α->Sem β}{Q:β->Shared->Prop}(h:cW M A m (λa s'=>cW M A (f a) Q E s') E s):cW M A (m >>= f) Q E s:=λΓ p i d=>by
 rw[Sem.wp_bind']
 exact Sem.wp_mono M Γ m (λa p' z y=>y Γ p' i d) (λ_ _ _ y=>y) p s (h Γ p i d)
theorem dx{m:Sem α}{k:Value->Sem Unit}{Q:α->Shared->Prop}(h:cW M A m Q (λe s'=>cW M A (k e) (λ_ s''=>E e s'') E s') s):cW M A (m.onRaise k) Q E s:=λΓ p i d=>by
 rw[Sem.wp_onRaise]
 exact Sem.wp_mono M Γ m (λ_ _ _ y=>y) (λe p' z y=>y Γ p' i d) p s (h Γ p i d)
theorem j5{m:Sem α}{Q:Except Value α->Shared->Prop}(h:cW M A m (λa=>Q (.ok a)) (λe=>Q (.error e)) s):cW M A m.attempt Q E s:=λΓ p i d=>by
 rw[Sem.wp_attempt];exact h Γ p i d
theorem aJ{vs:List Value}{m:Sem α}{Q:α->Shared->Prop}(h:cW M A m Q E s):cW M A (holding vs m) Q E s:=λΓ p i d=>by
 rw[Sem.wp_holding];exact h Γ p i d
theorem dA{c:Prop} [Decidable c] {a b:Sem α}{Q:α->Shared->Prop}(q:¬c)(h:cW M A b Q E s):cW M A (if c then a else b) Q E s:=by refine ae (if_neg q)▸ ?_;exact h
theorem uS{c:Prop} [Decidable c] {a b:Sem α}{Q:α->Shared->Prop}(q:c)(h:cW M A a Q E s):cW M A (if c then a else b) Q E s:=by refine ae (if_pos q)▸ ?_;exact h
theorem qW{tag:String}{Q:Unit->Shared->Prop}(h:Q () s):cW M A (rule tag) Q E s:= .of (wpAny_rule h)
theorem bB{pos:Pos}{Q:Unit->Shared->Prop}(h:Q () s):cW M A (standAt pos) Q E s:= .of (ce h)
theorem bQ{t:Sem α}{a:α}{Q:α->Shared->Prop}(e:t=pure a)(h:Q a s):cW M A t Q E s:=by subst e;exact ax h
theorem Nd.enter{Γ:Ctx}(d:Nd Γ)(c:Code)(h:Option Value)(p:Pos):∀x∈(Γ.enter c h p).below,ic x.1:=λx hx=>by
 have : x∈(Γ.code,p)::Γ.below:=hx
 rcases aK.mp this with rfl | m
 ·exact d.code
 ·exact d.below x m
theorem tC{c:Code}{h:Option Value}{Q:Flow->Shared->Prop}
  (hc:codeN M (A.mark h) c (λr s'=>match r with | .ok f=>Q f s' | .error e=>E e s') s)(hnb:h≠some byPass:=by intro x;cases x):cW M A (run c h) Q E s:=
 λΓ p i d=>by rw[Sem.wp_run];exact hc _ p rfl (i.enter c h p hnb) (d.enter c h p)
theorem u2{c:Code}{Q:Value->Shared->Prop}
  (hc:codeN M A c (λr s'=>match r with | .ok (.ret v)=>Q v s' | .ok _=>False | .error e=>E e s') s):cW M A (runValue c) Q E s:=
 λΓ p i d=>by rw[Sem.wp_runValue];exact hc _ p rfl (i.enter c none p (by intro x;cases x)) (d.enter c none p)
theorem iF{f:Value}{pos:List Value}{kw:List (Str×Value)}{Q:Value->Shared->Prop}
  (hc:codeN M A (.call f ⟨pos,kw⟩) (λr s'=>match r with | .ok (.ret v)=>Q v s' | .ok _=>False | .error e=>E e s') s):cW M A (call f pos kw) Q E s:=u2 hc
theorem eW{c:Code}{R R':Result->Shared->Prop}(h:codeN M A c R s)(hR:∀r s,R r s->R' r s):codeN M A c R' s:=
 λΓ p hc i d=>wpCode_mono hR (h Γ p hc i d)
theorem bP{c:Code}{R:Result->Shared->Prop}(ok:ic c)
  (h:cW M (A.under c) (M.den c) (λfin s'=>match fin with | .done f=>R (.ok f) s' | .again c'=>c'.quiet=true/\codeN M A c' R s')
   (λe s'=>R (.error e) s') s):codeN M A c R s:=λΓ p hc i d=>by
 refine (wpCode_iff_wp ..).mpr ?_;rw[hc]
 refine Sem.wp_mono M Γ _ (λfin p' s' h'=> ?_) (λ_ _ _ h'=>h') p s (h Γ p (hc▸i.in) ⟨by refine ae hc▸ ?_;exact ok,d⟩)
 cases fin with
 |done f=>exact h'
 |again c'=>exact⟨h'.1,h'.2 (Γ.goto c') p' rfl (i.goto c') d⟩
theorem Fa{x:Bool}:((x&&false)||false)=false:=by cases x<;>rfl
theorem tA{v:Value}{Q:Bool->Shared->Prop}(h:Q false s):cW M A (Builtin.Bytes.exported v) Q E s:=λΓ p _ d=>by
 show Q (((Γ.code,p)::Γ.below).any _) s
 rw[List.any_eq_false.mpr λx hx=> ?_]
 ·exact h
 ·have z:=λok : ic x.1=>ok M v x.2 s
  rcases aK.mp hx with rfl | m
  ·exact λq=>aE ((z d.code).symm.trans (dp.mpr (.inl q)))
  ·exact λq=>aE ((z (d.below _ m)).symm.trans (dp.mpr (.inl q)))
end
theorem AM : Nd ⟨.builtin "claim.caller" {},none,none,[],none⟩:=⟨λ_ _ _ _=>rfl,λ_ h=>nomatch h⟩
theorem Ak{prog:Program}{w:World}{t:Sem Fin}{s:Shared}{R:Result->Shared->Prop}(hreg:s.asleep)
  (h:cW (model prog w) callerA t (λfin s'=>∃f,fin= .done f/\(R (.ok f) s'/\leftWithCleanup s'.gens=false)) (λe s'=>R (.error e) s'/\leftWithCleanup s'.gens=false) s) :
  ∃n r s' s'',runN (denote table) prog w n s ⟨t, .builtin "claim.caller" {},default,[]⟩= .halted (outcomeOf r) s'/\
   schedN (denote table) prog w n (.single s ⟨t, .builtin "claim.caller" {},default,[]⟩)= .halted (outcomeOf r) s'/\s'.forget=s''.forget/\R r s'':=by
 have z : Sem.wp (model prog w) ⟨.builtin "claim.caller" {},none,none,[],none⟩ t (Sem.finPost (model prog w) ⟨.builtin "claim.caller" {},none,none,[],none⟩ λr s'=>R r s'/\leftWithCleanup s'.gens=false)
   (λe _ s'=>R (.error e) s'/\leftWithCleanup s'.gens=false) default s:=by
  refine Sem.wp_mono (model prog w) _ t (λfin p' s' h'=> ?_) (λ_ _ _ h'=>h') default s (h _ default caller_in AM)
  refine aT h' λf zr1_ hf=> ?_;subst zr1_
  exact hf
 refine FA (wp_halts_full (M:=model prog w) (R:=R) hreg z) λn r s₁ s₂ hs hn hfo hR=> ?_
 exact⟨n,r,s₂,s₁,hn,hs,hfo,hR⟩
theorem AN{c:ClaimW}{tree:List Value->Sem Fin}{w:World}{s:Shared}{free:Addr->Prop}{gens:Prop}{kept:Heap->Prop}(hz:s.asleep)(hgens:s.gens=#[])
  (hspec:∀args,c.pre args=true->WData.layableAll args=true->
   ∀ord : List DictEntry->List DictEntry,(∀l,(ord l).Perm l)->
   ∃vs s₁,layAllW c.records (classAt s.heap) w.params ord args s=some (vs,s₁)/\
    cW (model c.prog w) callerA (tree vs) (λfin s'=>∃f,fin= .done f/\(c.Ends s args vs s₁ (.ok f) s'/\s'.os=s.os/\AllBare s'.gens/\kept s'.heap))
     (λe s'=>c.Ends s args vs s₁ (.error e) s'/\s'.os=s.os/\AllBare s'.gens/\kept s'.heap) s₁) :
  c.CallFrom (λvs=>⟨tree vs, .builtin "claim.caller" {},default,[]⟩) w free gens kept s:=by
 intro args hpre hlay ord hord
 refine dG λhn=> ?_
 refine eA (hspec args hpre hlay ord hord) λvs s₁ hlaid hcode=> ?_
 obtain⟨k,r,s',s'',hrun,hsched,hfo,hcase,hos,hkp⟩:=Ak (prog:=c.prog) (w:=w) (t:=tree vs) (s:=s₁)
  (R:=λr s'=>c.Ends s args vs s₁ r s'/\s'.os=s.os/\kept s'.heap) (Shared.asleep_of_life (layAllW_rest _ _ _ hlaid).2.2.2 hz)
  (aD hcode (λfin s' zz=>(by refine Mk zz λf e h1 h2 h3 h4=> ?_;exact⟨f,e,⟨h1,h2,h4⟩,leftWithCleanup_false_of_bare h3⟩)) λe s' zz=>(by refine ij zz λh1 h2 h3 h4=> ?_;exact⟨⟨h1,h2,h4⟩,leftWithCleanup_false_of_bare h3⟩))
 refine Hy (Shared.forget_eq hfo) λeh _ _ eo _=> ?_
 have hkp : kept s'.heap:=by refine ae eh▸ ?_;exact hkp
 rw[<-eo] at hos
 have hlife : s'.heap.life=s.heap.life:=(runN_life _ _ _ hrun).trans (layAllW_rest _ _ _ hlaid).2.2.2
 refine hn ⟨vs,s₁,hlaid,k,_,s',hsched, ?_,(λ_ i x hx=>by rw[hgens] at hx;simp at hx),hkp,by exact ah _ hlife,Shared.rest_eq hos⟩
 clear hn hlife hkp hos hsched
 refine dG λhn=> ?_
 rcases (hcase.congr eh) with ⟨v,rfl,d1,d2,d3,d4,d5⟩ | ⟨e,ob,cls,rfl,d1,d2,d3,d4,d5⟩
 ·exact hn (.inl ⟨v,rfl,d1,d2,d3,λb o y _=>d4 b o y,d5⟩)
 ·exact hn (.inr ⟨e,ob,cls,rfl,d1,d2,d3,d4,λb o y _=>d5 b o y⟩)
noncomputable abbrev GJ(q:Program)(loose:List Str)(XP:(Str->Option Value)->Heap->Prop)(YP:World->Heap->Prop)(r:RowW)(d:DefRec)(kwd:List (Str×Expr)):Prop:=
 ∀ (w:World)(s:Shared)(mg mb:Str->Option Value),Ground q loose r.records XP w s mg mb s.heap->YP w s.heap->∀ (a:Addr)(o:Obj)(pm cd doc dV kV:Value),s.heap.get? a=some o->
  o.data= .func { docDef d.name d.params d.body d.scope pm cd doc with defaults:=dV,kwdefaults:=kV }->s.heap.CodeRec cd d.name->Dflts mg s.heap d.params kwd dV kV->mg d.name=some (.ref a)->s.gens=#[]->sysModules < s.heap.objs.size->
  ∀ (args:List WData)(vals:List Value)(s₁:Shared),r.claim.pre args=true->WData.layableAll args=true->(∃ord : List DictEntry->List DictEntry,(∀l,(ord l).Perm l)/\layAllW r.records (classAt s.heap) w.params ord args s=some (vals,s₁))->
   cW (model r.prog w) callerA (PySem.call (.ref a) vals) (λv s'=>GoodWG r.claim (classAt s.heap) (ExcName.means s.heap) args s₁ (.ok (.ret v)) s')
    (λe s'=>GoodWG r.claim (classAt s.heap) (ExcName.means s.heap) args s₁ (.error e) s') s₁
end Internal
namespace Hd
open PySem PySem.W PyProof.Rows PySem.Calls Internal
theorem PySem.W.holds_open{r:OpenRow}{q:Program}{loose:List Str}{Xt:Shared->Bool}{XP:(Str->Option Value)->Heap->Prop}{α:Type}{Yf:Shared->α}{Ya:World->α}{YP:World->Heap->Prop}{d:DefRec}{kwd:List (Str×Expr)}{N:Nat}
  (left:LeftO r.prog q loose Xt Yf Ya N)(hY:∀w s,Yf s=Ya w->YP w s.heap)(hYk:∀w h h',YP w h->(∀b o,h.get? b=some o->h'.get? b=some o)->YP w h')
  (hX:∀s,Xt s=true->XP (s.heap.nsMap mainGlobals) s.heap)(hXk:∀mg h h',XP mg h->(∀b o,h.get? b=some o->h'.get? b=some o)->XP mg h')
  (hdef:defOf q r.name=some (d,kwd))(hp:r.prog.theDef r.name=some (d.params,d.body,d.scope))(hk:kwWritten? d.params.kwonlyargs d.params.kw_defaults=some kwd)(hRf:∀s,Xt s=true->RecFacts r.records s.heap)(hwr:(!r.writes||r.records.isEmpty)=true)
  (k1:r.wellSaid=true)(ok:(chainsOk q&&opensWell r.prog&&(frees r.toRowW&&r.within.isEmpty))=true)(hb:r.prog.bare)(hw:r.toRowW.promised)
  (call:GJ q loose XP YP r.toRowW d kwd):r.Holds:=by
 obtain⟨ok,k5⟩:=an.mp ok
 obtain⟨hch,o1⟩:=an.mp ok
 obtain⟨k5,k6⟩:=an.mp k5
 obtain⟨hsame,hu,ha,hap,hm⟩:=frees_parts k5
 refine⟨k1,hw,⟨hb,o1,by show r.makers.map _=[];rw[hm];rfl⟩,hw.witness,λw=>⟨(left.behind hX hch w).1,λs' hs'=> ?_⟩⟩
 refine dG λhn=> ?_
 obtain⟨s₀,hf,hg0,s,hT,hz,hgens,hg,G00,y⟩:=(left.behind (XP:=λmg h=>XP mg h/\RecFacts r.records h) (λs hs=>⟨hX s hs,hRf s hs⟩) hch w).2 s' hs'
 have G0 : Ground q loose [] XP w s (s.heap.nsMap mainGlobals) (s.heap.nsMap builtinsNs) s.heap:=⟨G00.T,G00.B,G00.D,G00.TE,G00.TD,G00.W,G00.X.1,G00.cls,G00.has,G00.apart,G00.once,G00.K⟩
 have RF:=G00.X.2
 have hT':=hT
 refine hn ⟨s₀,hf,hg0,s,hT,λn hn=> ?_,RF.1,RF.2.1, ?_⟩
 ·obtain rfl : n=r.name:=by split at hn<;>simp_all
  exact pinned_of_view hg G0 hdef hp hk
 have hgens : s.gens=#[]:=Array.eq_empty_of_size_eq_zero (eI.mp hgens)
 have G : Ground q loose r.records XP w s _ _ s.heap:=RF.ground G0
 refine AN (c:=r.toRowW.claim) hz hgens λargs hpre hlay ord hord=> ?_
 obtain⟨⟨vs,s₁⟩,hlaid⟩:=cb.mp (layAllW_isSome (P:=w.params) (ord:=ord) G.has args r.args s (pre_splitW hpre).1)
 have keeps:=layAllW_keeps _ _ _ hlaid
 have hal:=layAllW_rest _ _ _ hlaid
 obtain⟨as,hrd,hin,hold⟩:=reads_layAllW hord _ _ _ hlaid hlay s₁.heap (λ_ _ e=>e)
 have L : Laid r.records w s s₁ args vs as:=⟨⟨ord,hord,hlaid⟩,hrd,hin,hold,keeps,hal.1.trans hgens,hal.2.2.1⟩
 have G₁:=G.keeps hXk keeps
 obtain⟨a,o,pm,cd,doc,dV,kV,h1,h2,h3,h4,h5⟩:=G.fn hdef
 have h:=call w s _ _ G (hY w s y) a o pm cd doc dV kV h2 h3 h4 h5 (defOf_name hdef▸h1) hgens G.low args vs s₁ hpre hlay ⟨ord,hord,hlaid⟩
 have hi:=ident_freeW hu ha hap
 have hwi : r.toRowW.claim.within=[]:=List.isEmpty_iff.mp k6
 refine⟨vs,s₁,hlaid,ai (.of (wpAny_nsGet G₁.T.g ?_))⟩
 rw[h1]
 refine ai (aD h (λv s' g=>ax ⟨_,rfl,have z:=g.laid (c:=r.toRowW.claim) hsame hwi hi L;⟨z.1,z.2.1,z.2.2,λq=>⟨namesKept_of hT' hg r.keeps keeps g.2.1.old,noTable hwr q⟩⟩⟩) λe s' g=>have z:=g.laid (c:=r.toRowW.claim) hsame hwi hi L;⟨z.1,z.2.1,z.2.2,λq=>⟨namesKept_of hT' hg r.keeps keeps g.2.1.old,noTable hwr q⟩⟩)
end Hd
namespace Internal
open PySem PySem.W PyProof.Rows
noncomputable section
noncomputable abbrev pw : Program:=PySem.Challenge.rw_nz0231_01.row.toRowW.prog
noncomputable def q0 : Program:=view pw [61]
noncomputable def ja : List Str:=(pw.main.body.take 61).flatMap bindsAtTop
noncomputable def MG : Obj:={ cls:= .type "tuple",data:= .seq #[] }
noncomputable def MM : Obj:={ cls:= .none,data:= .fields #[] }
noncomputable def ME : Obj:={ cls:= .type "code",data:= .fields #[.str "<module>" 182, .str "<module>" 183, .str "/claim/cut.py" 184, .int 1 0, .int 0 0, .int 0 0, .int 0 0, .int 0 0, .ref 11, .bool false, .int 181 0, .ref 12, .none, .none, .none, .none, .int 185 0, .int 1 0, .str "/claim/cut.py" 186] }
noncomputable def MK : Obj:={ cls:= .type "frame",slots:=#[some (.ref 13),some (.ref 3),some (.ref 3),none,some (.str "__main__" 164),none,some (.ref 0)] }
noncomputable def Nk(P:Params):Heap:=⟨⟨[boot_o_0 P,boot_o_1 P,boot_o_2 P,boot_o_3 P,boot_o_4 P,boot_o_5 P,boot_o_6 P,boot_o_7 P,boot_o_8 P,boot_o_9 P,boot_o_10 P,MG,MM,ME,MK]⟩,{}⟩
noncomputable def M6(P:Params):BT:= .node (boot_o_0 P)
 (.node (boot_o_1 P) (.node (boot_o_3 P) (.node (boot_o_7 P) .nil .nil) (.node MG .nil .nil)) (.node (boot_o_5 P) (.node (boot_o_9 P) .nil .nil) (.node ME .nil .nil)))
 (.node (boot_o_2 P) (.node (boot_o_4 P) (.node (boot_o_8 P) .nil .nil) (.node MM .nil .nil)) (.node (boot_o_6 P) (.node (boot_o_10 P) .nil .nil) (.node MK .nil .nil)))
noncomputable def lK : List Stmt:=behindTheImports pw
noncomputable def xp : Env:={ scope:=pw.main.scope,locals:=mainNs,globals:=mainNs,cells:=[],code:= .ref 13,frame:=some 14 }
noncomputable def j0 : Code:= .body lK xp
noncomputable def p0 : Pos:=⟨0,0,0,0⟩
noncomputable def nh : Option Value:=some (.ref 6)
noncomputable def CO(w:World)(os:OsState):SharedT:=⟨M6 w.params,15,{},⟨[]⟩,boot_drawn,187,os⟩
noncomputable def Lu(ex:List Stmt->Env->Sem Flow):Thread:=⟨(ex lK xp).wrap doneF deadEnd id id,j0,p0,[topFrame p0]⟩
noncomputable abbrev Kx:=(String->Option Builtin)->Program->World->Nat->Option Value->Nat->Nat->SharedT->Thread->Option (Flow×SharedT×Code×Pos)
noncomputable def KO(sr:Kx)(tb:String->Option Builtin)(ex:List Stmt->Env->Sem Flow)(w:World)(os:OsState):Option (Flow×SharedT×Code×Pos):=
 sr tb pw w 11 nh 1 8000 (CO w os) (Lu ex)
noncomputable abbrev K3:=PySem.W.Fast.tw14364793385576792824
theorem IH : ∀w : World,(λos=>topGo K3 pw w 11 nh 12 ⟨boot_heap w.params,#[],boot_drawn,boot_toks,os⟩ (topStub pw))=λos=>some ((CO w os).abs,⟨denote K3 (.body lK xp),j0,p0,[topFrame p0]⟩):=λw=>by kernel_rfl
theorem HJ : ∀w : World,(λos=>segRun K3 pw w 11 nh 1 40 (CO w os).abs (blockOf lK xp j0 p0 [topFrame p0]))=λos=>some (.next,(CO w os).abs,j0,p0):=λw=>by kernel_rfl
theorem HI : ∀w : World,(fencedOpening treeTable pw w 16100).map (λs=>(s.heap,s.gens,s.drawn,s.toks))=some (boot_heap w.params,Array.mk [],boot_drawn,boot_toks):=boot_open rfl (by decide) λs=>rfl
theorem JP : ∀w : World,((boot_heap w.params).isNs mainGlobals&&(Array.mk []:Array GenState).size==0,(boot_heap w.params).objs.size,(boot_heap w.params).nsMap mainGlobals (Str.ofString "__annotations__"))=(true,11,nh):=λw=>by kernel_rfl
theorem Hu{tb:String->Option Builtin}(h:tb=K3)(w:World)(os:OsState):topGo tb pw w 11 nh 12 ⟨boot_heap w.params,#[],boot_drawn,boot_toks,os⟩ (topStub pw)=some ((CO w os).abs,⟨denote tb (.body lK xp),j0,p0,[topFrame p0]⟩):=by subst h;exact congrFun (IH w) os
theorem HX{tb:String->Option Builtin}(h:tb=K3)(w:World)(os:OsState):segRun tb pw w 11 nh 1 40 (CO w os).abs (blockOf lK xp j0 p0 [topFrame p0])=some (.next,(CO w os).abs,j0,p0):=by subst h;exact congrFun (HJ w) os
theorem JX{w:World}{s:Shared}{c:Code}{q:Pos}:topRun treeTable pw w 11 nh 4 s ⟨doneF .next,c,q,[topFrame p0]⟩=some s:=rfl
theorem L1{w:World}{os:OsState}{s':SharedT}{q:Pos}(hr:segRunT treeTable pw w 11 nh 1 8000 (CO w os) (piecesOf lK xp j0 p0 [topFrame p0])=some (.next,s',j0,q)) :
  topRun treeTable pw w 11 nh 16100 ⟨boot_heap w.params,#[],boot_drawn,boot_toks,os⟩ (topStub pw)=some s'.abs:=by
 have t1:=piece_app (rest:=[]) (segRun_of hr) (piece_nil JX)
 rw[cK] at t1
 exact topRun_mono 8044 _ _ _ _ (go_top (Hu PySem.W.Fast.te14364793385576792824 w os) (piece_block (HX PySem.W.Fast.te14364793385576792824 w os) t1))
theorem Ka{w:World}{os:OsState}{s:Shared}(t0:topRun treeTable pw w 11 nh 16100 ⟨boot_heap w.params,#[],boot_drawn,boot_toks,os⟩ (topStub pw)=some s)
  (h:(staticsOk (importedModules pw.main.body) (boot_heap w.params) s.heap&&namesBound pw s.heap&&gensDone s&&laidKept (boot_heap w.params) s.heap)=true) :
  topFrom treeTable pw w 16100 ⟨boot_heap w.params,#[],boot_drawn,boot_toks,os⟩=some s:=by
 obtain⟨z1,z⟩:=Prod.mk.inj (JP w)
 obtain⟨z2,z3⟩:=Prod.mk.inj z
 unfold topFrom
 dsimp only
 rw[z1,z2,z3]
 show (topRun treeTable pw w 11 nh 16100 _ _).bind _=_
 rw[t0]
 show (match _ with | true=>_ | false=>_)=_
 rw[h]
theorem JQ{tb:String->Option Builtin}{p:Program}{w:World}{N:Nat}{s s':Shared}(e:fencedOpening tb p w N=some s)(t:topFrom tb p w N s=some s'):openEnds tb p w N=some s':=by
 unfold openEnds
 rw[e]
 exact t
noncomputable abbrev ym(w:World)(s:Shared):Bool:=staticsOk (importedModules pw.main.body) (boot_heap w.params) s.heap&&namesBound pw s.heap&&gensDone s&&laidKept (boot_heap w.params) s.heap
theorem KL{α:Type}{Yf:Shared->α}{Ya:World->α}
  (look:∀ (w:World)(os:OsState),∃s' q,segRunT treeTable pw w 11 nh 1 8000 (CO w os) (Lu execs)=some (.next,s',j0,q)/\ym w s'.abs=true/\openSeen q0 ja (importedModules pw.main.body) (λ_=>true) true s'.abs=openGood q0 ja/\Yf s'.abs=Ya w) :
  LeftO pw q0 ja (λ_=>true) Yf Ya 16100:=λw=>by
 obtain⟨⟨h,gs,d,k,os⟩,e,e'⟩:=be.mp (HI w)
 obtain⟨rfl,rfl,rfl,rfl⟩ : h=boot_heap w.params/\gs=Array.mk []/\d=boot_drawn/\k=boot_toks:=by simpa only[Prod.mk.injEq] using e'
 obtain⟨s',q,hr,h1,h2,h3⟩:=look w os
 exact (ah (Option.map _) (JQ e (Ka (L1 hr) h1))).trans (ah some (Prod.ext h2 h3))
end
end Internal
namespace Internal
open PySem PySem.W PyProof.Rows PySem.Calls
theorem KA : namesResolve pw=true:=by kernel_rfl
theorem Kt : noRoadLSs { strict:= !(importedModules pw.main.body).all cThrough.contains,foot:=none,bare:=(["vars", "dir", "locals"]:List PySem.Str).filter (readsOut pw pw.main.body) } pw.main.body=true:=by kernel_rfl
theorem KB : (namesMeet pw pw.main.body λ_ n=>PySem.W.attrL n)=true:=by kernel_rfl
set_option maxHeartbeats 0 in
theorem Cd(h:PySem.Challenge.rw_nz0231_01.row.wellSaid=true->PySem.Challenge.rw_nz0231_01.row.Holds):PySem.Challenge.rw_nz0231_01.Holds :=by
 refine holds_law ?_ h
 unfold OpenLaw.wellSaid
 repeat' (with_reducible first | refine look_both ?_ ?_ | unfold OpenRow.wellSaid | unfold OpenRow.partSaid | unfold looksOpen)
 all_goals first | with_reducible exact KA | with_reducible exact Kt | with_reducible exact KB | kernel_rfl
set_option genCtorIdx true in
inductive LA where
 |pl (i:Nat)
 |fx (k i:Nat)
 |dy (k i:Nat)
 |tm (i:Nat)
 deriving DecidableEq
set_option genCtorIdx true in
inductive MV where
 |none
 |bool (b:Bool)
 |int (i:Int)
 |str (s:String)
 |bytes (b:List UInt8)
 |tup (vs:List MV)
 |ref (l:LA)
inductive MO where
 |inst (C:Addr)(d:LA)
 |ns (fs:List (String×MV))
 |list (vs:List MV)
 |fz (o:Obj)(vs:List MV)
 |bW (b:List UInt8)
 |bS (kvs:List (Int×MV))
 |dD (kvs:List (String×MV))
 |iS (kvs:List (List UInt8×MV))
structure MH where
 get : LA->Option MO
 us : LA->Prop
mutual
noncomputable def VR(ρ:LA->Addr)(U:LA->Prop)(h:Heap):MV->Value->Prop
 | .none,v=>v= .none
 | .bool b,v=>v= .bool b
 | .int i,v=>∃t,v= .int i t
 | .str x,v=>∃t,v= .str (Str.ofString x) t
 | .bytes b,v=>∃t,v= .bytes b.toArray t
 | .tup vs,v=>∃a o xs ep,v= .ref a/\h.get? a=some o/\o.cls= .type "tuple" /\ o.data= .seq xs ep/\cR ρ U h vs xs.toList
 | .ref l,v=>v= .ref (ρ l)/\U l
noncomputable def cR(ρ:LA->Addr)(U:LA->Prop)(h:Heap):List MV->List Value->Prop
 | [],ys=>ys=[]
 |x::xs,ys=>∃y ys',ys=y::ys'/\VR ρ U h x y/\cR ρ U h xs ys'
end
section
variable {ρ:LA->Addr}{U:LA->Prop}{h:Heap}
theorem VR.none : VR ρ U h .none .none:=by unfold VR;rfl
theorem VR.bool{b:Bool}:VR ρ U h (.bool b) (.bool b):=by unfold VR;rfl
theorem VR.int{i:Int}{t:Tok}:VR ρ U h (.int i) (.int i t):=by unfold VR;exact⟨t,rfl⟩
theorem VR.str{x:String}{t:Tok}:VR ρ U h (.str x) (.str (Str.ofString x) t):=by unfold VR;exact⟨t,rfl⟩
theorem VR.bytes{x:List UInt8}{t:Tok}:VR ρ U h (.bytes x) (.bytes x.toArray t):=by unfold VR;exact⟨t,rfl⟩
theorem VR.ref{l:LA}(u:U l):VR ρ U h (.ref l) (.ref (ρ l)):=by unfold VR;exact⟨rfl,u⟩
theorem VR.tup{vs:List MV}{a:Addr}{o:Obj}{xs:Array Value}{ep:Nat}(e:h.get? a=some o)(c:o.cls= .type "tuple") (d:o.data= .seq xs ep)(r:cR ρ U h vs xs.toList):VR ρ U h (.tup vs) (.ref a):=by
 unfold VR;exact⟨a,o,xs,ep,rfl,e,c,d,r⟩
theorem VR.none_inv{v:Value}(x:VR ρ U h .none v):v= .none:=by unfold VR at x;exact x
theorem VR.bool_inv{b:Bool}{v:Value}(x:VR ρ U h (.bool b) v):v= .bool b:=by unfold VR at x;exact x
theorem VR.int_inv{i:Int}{v:Value}(x:VR ρ U h (.int i) v):∃t,v= .int i t:=by unfold VR at x;exact x
theorem VR.str_inv{i:String}{v:Value}(x:VR ρ U h (.str i) v):∃t,v= .str (Str.ofString i) t:=by unfold VR at x;exact x
theorem VR.d7{i:List UInt8}{v:Value}(x:VR ρ U h (.bytes i) v):∃t,v= .bytes i.toArray t:=by unfold VR at x;exact x
theorem VR.bU{l:LA}{v:Value}(x:VR ρ U h (.ref l) v):v= .ref (ρ l)/\U l:=by unfold VR at x;exact x
theorem VR.dN{vs:List MV}{v:Value}(x:VR ρ U h (.tup vs) v):∃a o xs ep,v= .ref a/\h.get? a=some o/\o.cls= .type "tuple" /\ o.data= .seq xs ep/\cR ρ U h vs xs.toList:=by unfold VR at x;exact x
theorem VR.eH{i:Int}{v:Value}{P:Value->Prop}(x:VR ρ U h (.int i) v)(k:∀t,P (.int i t)):P v:=by obtain⟨t,rfl⟩:=x.int_inv;exact k t
theorem VR.fK{i j:Int}{v w:Value}{P:Value->Value->Prop}(x:VR ρ U h (.int i) v)(y:VR ρ U h (.int j) w)(k:∀t u,P (.int i t) (.int j u)):P v w:=by obtain⟨t,rfl⟩:=x.int_inv;obtain⟨u,rfl⟩:=y.int_inv;exact k t u
theorem VR.dg{i:List UInt8}{v:Value}{P:Value->Prop}(x:VR ρ U h (.bytes i) v)(k:∀t,P (.bytes i.toArray t)):P v:=by obtain⟨t,rfl⟩:=x.d7;exact k t
theorem VR.A7{i:String}{v:Value}{P:Value->Prop}(x:VR ρ U h (.str i) v)(k:∀t,P (.str (Str.ofString i) t)):P v:=by obtain⟨t,rfl⟩:=x.str_inv;exact k t
theorem VR.eB{l:LA}{v:Value}{P:Value->Prop}(x:VR ρ U h (.ref l) v)(k:U l->P (.ref (ρ l))):P v:=by obtain⟨rfl,u⟩:=x.bU;exact k u
theorem cR.nil : cR ρ U h [] []:=by unfold cR;rfl
theorem cR.cons{v:MV}{vs:List MV}{y:Value}{ys:List Value}(a:VR ρ U h v y)(b:cR ρ U h vs ys):cR ρ U h (v::vs) (y::ys):=by unfold cR;exact⟨y,ys,rfl,a,b⟩
theorem cR.nil_inv{ys:List Value}(x:cR ρ U h [] ys):ys=[]:=by unfold cR at x;exact x
theorem cR.cons_inv{v:MV}{vs:List MV}{ys:List Value}(x:cR ρ U h (v::vs) ys):∃y ys',ys=y::ys'/\VR ρ U h v y/\cR ρ U h vs ys':=by unfold cR at x;exact x
theorem cR.len : ∀ {vs:List MV}{ys:List Value},cR ρ U h vs ys->ys.length=vs.length
 | [],_,x=>by rw[x.nil_inv];rfl
 |_::_,_,x=>by obtain⟨y,ys',e,_,r⟩:=x.cons_inv;rw[e,cy,cy,r.len]
theorem cR.append : ∀ {vs:List MV}{ys:List Value}{ws:List MV}{zs:List Value},cR ρ U h vs ys->cR ρ U h ws zs->cR ρ U h (vs++ws) (ys++zs)
 | [],_,_,_,x,y=>by rw[x.nil_inv];exact y
 |_::_,_,_,_,x,y=>by obtain⟨a,ys',e,b,r⟩:=x.cons_inv;rw[e];exact .cons b (r.append y)
theorem cR.get : ∀ {vs:List MV}{ys:List Value}{i:Nat}{v:MV},cR ρ U h vs ys->vs[i]?=some v->∃y,ys[i]?=some y/\VR ρ U h v y
 | [],_,_,_,_,e=>by simp at e
 |a::vs,_,i,v,x,e=>by
  obtain⟨y,ys',q,b,r⟩:=x.cons_inv
  subst q
  cases i with
  |zero=>simp only[List.getElem?_cons_zero,Option.some.injEq] at e;subst e;exact⟨y,rfl,b⟩
  |succ i=>simp only[List.getElem?_cons_succ] at e ⊢;exact r.get e
theorem cR.take : ∀ {vs:List MV}{ys:List Value}(k:Nat),cR ρ U h vs ys->cR ρ U h (vs.take k) (ys.take k)
 |_,_,0,_=>by simpa using cR.nil
 | [],_,k+1,x=>by rw[x.nil_inv];simpa using cR.nil
 |_::_,_,k+1,x=>by obtain⟨y,ys',q,b,r⟩:=x.cons_inv;subst q;simpa using cR.cons b (r.take k)
theorem cR.drop : ∀ {vs:List MV}{ys:List Value}(k:Nat),cR ρ U h vs ys->cR ρ U h (vs.drop k) (ys.drop k)
 |_,_,0,x=>by simpa using x
 | [],_,k+1,x=>by rw[x.nil_inv];simpa using cR.nil
 |_::_,_,k+1,x=>by obtain⟨y,ys',q,b,r⟩:=x.cons_inv;subst q;simpa using r.drop k
theorem cR.set : ∀ {vs:List MV}{ys:List Value}(k:Nat){v:MV}{y:Value},cR ρ U h vs ys->VR ρ U h v y->cR ρ U h (vs.set k v) (ys.set k y)
 | [],_,_,_,_,x,_=>by rw[x.nil_inv];simpa using cR.nil
 |_::_,_,0,_,_,x,z=>by obtain⟨y,ys',q,_,r⟩:=x.cons_inv;subst q;simpa using cR.cons z r
 |_::_,_,k+1,_,_,x,z=>by obtain⟨y,ys',q,b,r⟩:=x.cons_inv;subst q;simpa using cR.cons b (r.set k z)
end
noncomputable def fN(w:World)(b:List UInt8):Int:=hashStr w ⟨b.toArray.map (·.toNat)⟩
inductive iy(ρ:LA->Addr)(U:LA->Prop)(h:Heap){κ K:Type}(enc:κ->K):List (κ×MV)->List (K×Value)->Prop where
 |nil : iy ρ U h enc [] []
 |cons {k v y es ys} (a:VR ρ U h v y)(b:iy ρ U h enc es ys):iy ρ U h enc ((k,v)::es) ((enc k,y)::ys)
noncomputable def nV(k:List UInt8):Value->Bool
 | .bytes b _=>b.toList==k
 |_=>false
theorem dc{k:List UInt8}{v:Value}(h:nV k v=true):∃t,v= .bytes k.toArray t:=by
 cases v<;>simp[nV] at h
 rename_i b t
 exact⟨t,by rw[<-h]⟩
section
variable {prog:Program}{w:World}{A:Around}{E:Value->Shared->Prop}{s:Shared}
theorem slot_bytes_hash : Slot "bytes" "__hash__" "bytes.__hash__" :=
 .of (owner := "bytes") (n := "__hash__") (by rw[cJ,bE];kernel_rfl) (by decide +kernel) (by decide +kernel) (by decide +kernel)
  (by first | exact .inl (by decide +kernel) | exact .inr (by decide +kernel)) (by rw[cA];kernel_rfl)
theorem entry_bytes_hash : entryFor table "bytes.__hash__" = some Builtin.«bytes.__hash__»:=entryFor_of_tree (by kernel_rfl)
theorem pv(a:Value):argsOk "bytes.__hash__" ⟨[a],[]⟩:=by unfold argsOk;kernel_rfl
theorem rT(w:World)(x:Str) : -(2:Int)^63<=hashStr w x/\hashStr w x < 2^63/\hashStr w x≠ -1:=by
 unfold hashStr
 split
 ·decide
 ·unfold reduceHash
  generalize w.params.strHash x.cps=i
  have m1:=Int.emod_nonneg (i.natAbs : Int) (show (2^61 - 1 : Int)≠0 by decide)
  have m2:=Int.emod_lt_of_pos (i.natAbs : Int) (show (0:Int) < 2^61 - 1 by decide)
  generalize (i.natAbs : Int) % (2^61 - 1)=r at *
  split
  ·rename_i q
   simp only[Bool.and_eq_true,decide_eq_true_eq] at q
   split
   ·decide
   ·rename_i z;simp only[eI] at z;exact⟨q.1,q.2,z⟩
  ·split
   ·dsimp only
    split
    ·decide
    ·rename_i z;simp only[eI] at z;refine⟨?_, ?_,z⟩<;>(first | lia | omega)
   ·dsimp only
    split
    ·decide
    ·rename_i z;simp only[eI] at z;refine⟨?_, ?_,z⟩<;>((first | exact bp (by decide) m1 | exact aN m2 (by decide)))
theorem lZ{x:List UInt8}{t:Tok}{Q:Int->Shared->Prop}(h:Q (fN w x) { s with toks:=s.toks+1 }):wpAny (model prog w) A (pyHash (.bytes x.toArray t)) Q E s:=by
 have hT : s.TypeIs (.bytes x.toArray t) "bytes" := rfl
 show wpAny _ _ (pyHashByItsType (.bytes x.toArray t)) Q E s
 unfold pyHashByItsType
 refine af ?_
 rw[cRoomFor,if_neg (by rw[(show [Value.bytes x.toArray t].any Value.onHeap=false from rfl)];exact aE)];refine ao ?_
 refine af (bN hT slot_bytes_hash.lookup ?_)
 show wpAny _ _ (if (some (Value.builtin "bytes.__hash__")==some Value.none)=true then _ else _) Q E s
 rw[if_neg (by rw[beq_builtin_none];exact aE)]
 refine af (bN hT slot_bytes_hash.lookup ?_)
 show wpAny _ _ (callSpecialIfBoundUnlessNone? (.bytes x.toArray t) "__hash__" _ >>= _) Q E s
 refine af (wpAny_callSpecialIfBoundUnlessNone?_slot hT slot_bytes_hash
  (wpAny_call_entry slot_bytes_hash hT entry_bytes_hash
   (show wpAny _ _ (strHash ⟨x.toArray.map (·.toNat)⟩ >>= λi=>(do ret (<-mkInt i))) _ _ s from ?_) (pv _)))
 unfold strHash
 refine af (af (wpAny_askSetting (ao (wpAny_ret_mkInt ?_))))
 obtain⟨r1,r2,r3⟩:=rT w ⟨x.toArray.map (·.toNat)⟩
 show wpAny _ _ (if (decide (-(2:Int)^63<=fN w x)&&decide (fN w x < 2^63))=true then _ else _) Q E _
 rw[if_pos (by rw[Bool.and_eq_true];exact⟨aZ r1,aZ r2⟩)]
 show wpAny _ _ (pure (if (fN w x== -1)=true then -2 else fN w x)) Q E _
 rw[if_neg (by simpa [fN] using r3)]
 exact ao h
theorem lO{a b:List UInt8}{t u:Tok}{Q:Bool->Shared->Prop}(h:Q (decide (a=b)) s):wpAny (model prog w) A (eqBool (.bytes a.toArray t) (.bytes b.toArray u)) Q E s:=by
 unfold eqBool
 show wpAny _ _ (if (Value.bytes a.toArray t==Value.bytes b.toArray u)=true then _ else _) Q E s
 by_cases hab : (Value.bytes a.toArray t==Value.bytes b.toArray u)=true
 ·rw[if_pos hab]
  have e : a=b:=by
   have:=eq_of_beq hab
   injection this with h1
   simpa using h1
  subst e
  exact af (wpAny_rule (ao (by simpa using h)))
 ·rw[if_neg hab]
  refine af (richCompare_gives (op:= .Eq) (T := "bytes") rfl rfl FB.slot_bytes_eq FB.entry_bytes_eq (FB.args_bytes_eq_2 _ _) (gives_bytes_eq _ _ t u) (λx=>nomatch x) (wpAny_truthy_bool ?_))
  have : (a.toArray.toList==b.toArray.toList)=decide (a=b):=by
   by_cases q : a=b
   ·subst q;simp
   ·rw[bz q];simpa using q
  rw[this];exact h
end
noncomputable def bytesKind(prog:Program)(w:World):KeyKind prog w (List UInt8) where
 is:=nV
 hash:=fN w
 inj:=λv a b ha hb=>by
  obtain⟨t,rfl⟩:=dc ha
  obtain⟨u,e⟩:=dc hb
  injection e with h1
  simpa using h1
 byValue:=λk v h=>by obtain⟨t,rfl⟩:=dc h;rfl
 pyHash:=λhv h=>by obtain⟨t,rfl⟩:=dc hv;exact lZ h
 eqBool:=λhu hv h=>by
  obtain⟨t,rfl⟩:=dc hu
  obtain⟨u,rfl⟩:=dc hv
  exact lO h
 «strs»:=λk x t v h=>by obtain⟨u,hu⟩:=dc h;cases hu
inductive xH(ρ:LA->Addr)(U:LA->Prop)(h:Heap):Option MV->Option Value->Prop where
 |so {a v} (r:VR ρ U h a v):xH ρ U h (some a) (some v)
 |no : xH ρ U h none none
theorem xH.got{ρ:LA->Addr}{U:LA->Prop}{h:Heap}{a:MV}{o:Option Value}:xH ρ U h (some a) o->∃v,o=some v/\VR ρ U h a v
 | .so r=>⟨_,rfl,r⟩
theorem xH.nil{ρ:LA->Addr}{U:LA->Prop}{h:Heap}{o:Option Value}:xH ρ U h Option.none o->o=Option.none
 | .no=>rfl
theorem xH.same{ρ:LA->Addr}{U:LA->Prop}{h:Heap}{a:Option MV}{o:Option Value}:xH ρ U h a o->o.isSome=a.isSome
 | .so _=>rfl
 | .no=>rfl
noncomputable def Ei(ρ:LA->Addr)(U:LA->Prop)(h:Heap)(fs:List (String×MV))(m:Str->Option Value):Prop:=
 (∀x : String,xH ρ U h (fs.lookup x) (m (Str.ofString x)))/\Within m (fs.map λp=>Str.ofString p.1)
noncomputable def mu(prog:Program)(w:World)(ρ:LA->Addr)(U:LA->Prop)(h:Heap)(a:Addr):MO->Prop
 | .inst C d=>h.get? a=some (instObj C (ρ d))/\U d
 | .ns fs=>∃m,h.Ns1 a m/\Ei ρ U h fs m
 | .list vs=>∃xs ep,h.get? a=some { cls:= .type "list",data:= .seq xs ep }/\cR ρ U h vs xs.toList
 | .fz o vs=>h.get? a=some o/\∃xs ep,o={ cls:= .type "list",data:= .seq xs ep }/\cR ρ U h vs xs.toList
 | .bW b=>h.get? a=some { cls:= .type "bytearray",data:= .bytearray b.toArray 0 }
 | .bS es=>∃kvs,h.DictOf (intKind prog w) a kvs/\iy ρ U h id es kvs
 | .dD es=>∃kvs,h.DictOf (strKind prog w) a kvs/\iy ρ U h Str.ofString es kvs
 | .iS es=>∃kvs,h.DictOf (bytesKind prog w) a kvs/\iy ρ U h id es kvs
noncomputable def IsTup(o:Obj):Prop:=o.cls= .type "tuple" /\ ∃xs ep,o.data= .seq xs ep
theorem ca{o:Obj} {es ep} (e:o.data= .dict es ep):¬IsTup o:=λx=>by obtain⟨_,xs,ep',h⟩:=x;replace h:=e▸h;cases h
theorem jb{o:Obj} {v} (e:o.data= .cell v):¬IsTup o:=λx=>by obtain⟨_,xs,ep',h⟩:=x;replace h:=e▸h;cases h
theorem j9{o:Obj}(e:o.cls≠ .type "tuple"):¬IsTup o:=λx=>e x.1
structure fh(ρ:LA->Addr)(U:LA->Prop)(h:Heap)(ρ':LA->Addr)(U':LA->Prop)(h':Heap):Prop where
 us : ∀l,U l->U' l/\ρ' l=ρ l
 tup : ∀a o,h.get? a=some o->IsTup o->h'.get? a=some o
section
variable {ρ ρ' ρ'':LA->Addr}{U U' U'':LA->Prop}{h h' h'':Heap}{w:World}
theorem fh.trans(x:fh ρ U h ρ' U' h')(y:fh ρ' U' h' ρ'' U'' h''):fh ρ U h ρ'' U'' h'':=
 ⟨λl u=>⟨(y.us l (x.us l u).1).1,(y.us l (x.us l u).1).2.trans (x.us l u).2⟩,λa o e c=>y.tup a o (x.tup a o e c) c⟩
mutual
theorem VR.mono(k:fh ρ U h ρ' U' h'):∀ {mv:MV}{v:Value},VR ρ U h mv v->VR ρ' U' h' mv v
 | .none,_,x=>by exact x.none_inv
 | .bool _,_,x=>by exact x.bool_inv
 | .int _,_,x=>by refine cN x.int_inv λt e=> ?_;rw[e];exact .int
 | .str _,_,x=>by refine cN x.str_inv λt e=> ?_;rw[e];exact .str
 | .bytes _,_,x=>by refine cN x.d7 λt e=> ?_;rw[e];exact .bytes
 | .tup vs,_,x=>by
  refine qw x.dN λa o xs ep e ho hc hd hv=> ?_
  refine ae e▸ ?_;exact .tup (k.tup a o ho ⟨hc,xs,ep,hd⟩) hc hd (cR.mono k hv)
 | .ref l,_,x=>by
  refine dw x.bU λe u=> ?_
  refine ae e▸((k.us l u).2)▸ ?_;exact .ref (k.us l u).1
theorem cR.mono(k:fh ρ U h ρ' U' h'):∀ {vs:List MV}{ys:List Value},cR ρ U h vs ys->cR ρ' U' h' vs ys
 | [],_,x=>by exact x.nil_inv
 |v::vs,_,x=>by
  refine eT x.cons_inv λy ys' e a b=> ?_
  refine ae e▸ ?_;exact .cons (VR.mono k a) (cR.mono k b)
end
theorem iy.mono{κ K:Type}{enc:κ->K}(k:fh ρ U h ρ' U' h'){es:List (κ×MV)}{ys:List (K×Value)}(x:iy ρ U h enc es ys):iy ρ' U' h' enc es ys:=by
 induction x with
 |nil=>exact .nil
 |cons a _ ih=>exact .cons (a.mono k) ih
theorem n9{prog:Program}{K:Type} [DecidableEq K] {knd:KeyKind prog w K}{a:Addr}{kvs:List (K×Value)}(ho:∀x,h.get? a=some x->h'.get? a=some x)(x:h.DictOf knd a kvs):h'.DictOf knd a kvs:=by
 obtain⟨o,es,ep,e,r⟩:=x;exact⟨o,es,ep,ho _ e,r⟩
theorem xH.mono(k:fh ρ U h ρ' U' h'){a:Option MV}{o:Option Value}:xH ρ U h a o->xH ρ' U' h' a o
 | .so r=> .so (r.mono k)
 | .no=> .no
theorem Ei.mono(k:fh ρ U h ρ' U' h'){fs:List (String×MV)}{m:Str->Option Value}(x:Ei ρ U h fs m):Ei ρ' U' h' fs m:=⟨λn=>(x.1 n).mono k,x.2⟩
theorem mu.mono{prog:Program}(k:fh ρ U h ρ' U' h'){a:Addr}{o:MO}(ho:∀x,h.get? a=some x->h'.get? a=some x)(x:mu prog w ρ U h a o):mu prog w ρ' U' h' a o:=by
 cases o with
 |inst C d=>refine dw x λe u=> ?_;exact⟨by refine ae ((k.us d u).2)▸ ?_;exact ho _ e,(k.us d u).1⟩
 |ns fs=>
  refine aT x λm e n=> ?_
  exact⟨m,e.at ho,n.mono k⟩
 |list vs=>refine eA x λxs ep e r=> ?_;exact⟨xs,ep,ho _ e,r.mono k⟩
 |fz o vs=>obtain⟨e,xs,ep,q,r⟩:=x;exact⟨ho _ e,xs,ep,q,r.mono k⟩
 |bW b=>exact ho _ x
 |bS es=>refine aT x λkvs e r=> ?_;exact⟨kvs,n9 ho e,r.mono k⟩
 |dD es=>refine aT x λkvs e r=> ?_;exact⟨kvs,n9 ho e,r.mono k⟩
 |iS es=>refine aT x λkvs e r=> ?_;exact⟨kvs,n9 ho e,r.mono k⟩
end
structure Cx where
 prog : Program
 w : World
 K : Frag
 h0 : Heap
 mg : Str->Option Value
 mb : Str->Option Value
 X : K.In h0
 g : h0.Ns mainGlobals mg
 b : h0.Ns builtinsNs mb
 bt : ∀x : Str,x ≠ "__name__" -> mb x=bootBuiltins x
 nl : h0.NoLimit
noncomputable abbrev Cx.M(cx:Cx):Model:=model cx.prog cx.w
structure Fd where
 env : Env
 names : List Str
 cI : List Addr
 outer : List Env
 gB : List Env
noncomputable abbrev Fd.oR(fd:Fd):List Addr:=fd.outer.filterMap (·.frame)
noncomputable abbrev Loc:=List (Option MV)
inductive ib(ρ:LA->Addr)(U:LA->Prop)(h:Heap)(env:Env)(names:List Str)(loc:Loc):Prop
 |mk (m:Str->Option Value)(ns:h.Ns env.locals m)(q:∀ (i:Nat) x mv,names[i]?=some x->loc[i]?=some (some mv)->
  (env.kindOf x=some .local->∃v,m x=some v/\VR ρ U h mv v)/\
  (env.kindOf x=some .cell∨env.kindOf x=some .free->∃c v,env.cells.lookup x=some c/\h.IsCell c (some v)/\VR ρ U h mv v))
structure LR(n:Nat)(A:Around)(gB:List Env):Prop where
 hh : A.handled=none
 dep : A.depth+4 * n+50 < recursionLimit
 un : A.units+40 * n+100 < cLine
 fr : A.frames=some gB
set_option genCtorIdx true in
inductive Kd where
 |any | cell | dict
noncomputable def yt : Kd->Obj->Prop
 | .any,o=>¬IsTup o
 | .cell,o=>∃v,o.data= .cell v
 | .dict,o=>∃es ep,o.data= .dict es ep
theorem yt.nt{k:Kd}{o:Obj}(f:yt k o):¬IsTup o:=match k,f with
 | .any,f=>f
 | .cell,⟨_,d⟩=>jb d
 | .dict,⟨_,_,d⟩=>ca d
inductive Spot(fd:Fd):Addr->Kd->Prop
 |cI {a} (h:a∈fd.cI):Spot fd a .any
 |cell {c} (h:c∈fd.env.cells):Spot fd c.2 .cell
 |frame {a} (h:a∈fd.oR):Spot fd a .dict
structure At(b:Nat)(ρ:LA->Addr)(U:LA->Prop)(h:Heap)(a:Addr)(k:Kd):Prop where
 z : b<=a
 u : ∀l,U l->ρ l≠a
 e : ∃o,h.get? a=some o/\yt k o
structure M7(fd:Fd):Prop where
 di : fd.env.locals∈fd.cI
 D1 : fd.env.cells.Pairwise λx y=>x.2≠y.2
 iu : ∀c∈fd.env.cells,c.2≠fd.env.locals
 mo : ∀a∈fd.cI,a∉fd.oR
 co : ∀c∈fd.env.cells,c.2∉fd.oR
 km : ∀e∈fd.outer,e.scope.kind≠ .module/\∃L,e.frame=some L
 Ll : fd.gB=fd.outer∨(fd.gB=fd.env::fd.outer/\fd.env.frame=some fd.env.locals/\fd.env.scope.kind≠ .module)
structure Good(cx:Cx)(n:Nat)(fd:Fd)(A:Around)(ρ:LA->Addr)(σ:MH)(loc:Loc)(s:Shared):Prop where
 obj : ∀l o,σ.get l=some o->σ.us l/\mu cx.prog cx.w ρ σ.us s.heap (ρ l) o
 inj : ∀l l',σ.us l->σ.us l'->ρ l=ρ l'->l=l'
 low : ∀l,σ.us l->cx.h0.objs.size<=ρ l/\∃o,s.heap.get? (ρ l)=some o/\¬IsTup o
 top : ∀b o,cx.h0.get? b=some o->s.heap.get? b=some o
 loc : ib ρ σ.us s.heap fd.env fd.names loc
 foot : ∀ {a k},Spot fd a k->At cx.h0.objs.size ρ σ.us s.heap a k
 st : M7 fd
 ak : LR n A fd.gB
 gens : s.gens=#[]
structure Step(fd:Fd)(ρ:LA->Addr)(U:LA->Prop)(s:Shared)(ρ':LA->Addr)(U':LA->Prop)(s':Shared):Prop where
 rest : ∃h' tk,s'={ s with heap:=h',toks:=tk }
 ex : ∀a o,s.heap.get? a=some o->∃o',s'.heap.get? a=some o'
 us : ∀l,U l->U' l/\ρ' l=ρ l
 fresh : ∀l,U' l->¬U l->s.heap.get? (ρ' l)=none
 keep : ∀a o,s.heap.get? a=some o->(∀l,U l->ρ l≠a)->a∉fd.cI->a∉fd.oR->s'.heap.get? a=some o
 gc : ∀a o,s.heap.get? a=some o->(∀l,U l->ρ l≠a)->a∉fd.cI->a∈fd.oR->∃sl,s'.heap.get? a=some { o with slots:=sl }
section
variable {cx:Cx}{n:Nat}{fd:Fd}{A:Around}{ρ ρ' ρ'':LA->Addr}{U U' U'':LA->Prop}{σ σ':MH}{loc:Loc}{s s' s'':Shared}
theorem Step.refl : Step fd ρ U s ρ U s:=
 ⟨⟨s.heap,s.toks,rfl⟩,λ_ o e=>⟨o,e⟩,λ_ u=>⟨u,rfl⟩,λ_ u n=>absurd u n,λ_ _ e _ _ _=>e,λ_ o e _ _ _=>⟨o.slots,e⟩⟩
theorem Step.trans(x:Step fd ρ U s ρ' U' s')(y:Step fd ρ' U' s' ρ'' U'' s''):Step fd ρ U s ρ'' U'' s'':=by
 have foot : ∀a o,s.heap.get? a=some o->(∀l,U l->ρ l≠a)->∀l,U' l->ρ' l≠a:=λa o e f l u=>by
  by_cases q : U l
  ·rw[(x.us l q).2];exact f l q
  ·have:=x.fresh l u q
   exact λz=>by rw[z,e] at this;cases this
 refine⟨?_,λa o e=>(by obtain⟨o',e'⟩:=x.ex a o e;exact y.ex a o' e'),λl u=>⟨(y.us l (x.us l u).1).1,(y.us l (x.us l u).1).2.trans (x.us l u).2⟩,λl u n=> ?_,λa o e f m o'=> ?_,λa o e f m o'=> ?_⟩
 ·obtain⟨h1,t1,rfl⟩:=x.rest
  obtain⟨h2,t2,rfl⟩:=y.rest
  exact⟨h2,t2,rfl⟩
 ·by_cases q : U' l
  ·rw[(y.us l q).2];exact x.fresh l q n
  ·cases h : s.heap.get? (ρ'' l) with
   |none=>rfl
   |some o=>
    obtain⟨o',e'⟩:=x.ex _ _ h
    rw[y.fresh l u q] at e';cases e'
 ·exact y.keep a o (x.keep a o e f m o') (foot a o e f) m o'
 ·obtain⟨sl,e1⟩:=x.gc a o e f m o'
  obtain⟨sl2,e2⟩:=y.gc a _ e1 (foot a o e f) m o'
  exact⟨sl2,e2⟩
theorem Good.di(G:Good cx n fd A ρ σ loc s):fd.env.locals∈fd.cI:=G.st.di
theorem Good.iu(G:Good cx n fd A ρ σ loc s):∀c∈fd.env.cells,c.2≠fd.env.locals:=G.st.iu
theorem Good.Ll(G:Good cx n fd A ρ σ loc s):fd.gB=fd.outer∨(fd.gB=fd.env::fd.outer/\fd.env.frame=some fd.env.locals/\fd.env.scope.kind≠ .module):=G.st.Ll
theorem Good.cI(G:Good cx n fd A ρ σ loc s)(a:Addr)(m:a∈fd.cI):cx.h0.objs.size<=a/\(∀l,σ.us l->ρ l≠a)/\a∉fd.oR/\∃o,s.heap.get? a=some o/\¬IsTup o:=
 have p:=G.foot (.cI m);⟨p.z,p.u,G.st.mo a m,p.e⟩
theorem Good.tv(G:Good cx n fd A ρ σ loc s)(c:Str×Addr)(m:c∈fd.env.cells):(∃o v,s.heap.get? c.2=some o/\o.data= .cell v)/\(∀l,σ.us l->ρ l≠c.2)/\c.2∉fd.oR:=
 have p:=G.foot (.cell m);⟨(by obtain⟨o,e,v,d⟩:=p.e;exact⟨o,v,e,d⟩),p.u,G.st.co c m⟩
theorem Good.MW(G:Good cx n fd A ρ σ loc s)(e:Env)(m:e∈fd.outer):e.scope.kind≠ .module/\∃L o es ep,e.frame=some L/\cx.h0.objs.size<=L/\(∀l,σ.us l->ρ l≠L)/\s.heap.get? L=some o/\o.data= .dict es ep:=
 have ⟨k,L,f⟩:=G.st.km e m
 have p:=G.foot (.frame (cS.mpr ⟨e,m,f⟩))
 have ⟨o,g,es,ep,d⟩:=p.e
 ⟨k,L,o,es,ep,f,p.z,p.u,g,d⟩
theorem Good.rE(G:Good cx n fd A ρ σ loc s){a:Addr}{o:Obj}(e:s.heap.get? a=some o)(c:IsTup o) :
  (∀l,σ.us l->ρ l≠a)/\a∉fd.cI/\a∉fd.oR:=by
 have key : ∀ {k:Kd},Spot fd a k->False:=λsp=>(by obtain⟨_,e',f⟩:=(G.foot sp).e;exact f.nt (aP (e.symm.trans e')▸c))
 exact⟨λl u q=>(by obtain⟨_,o',h1,h2⟩:=G.low l u;exact h2 (aP (e.symm.trans (q▸h1))▸c)),λm=>key (.cI m),λm=>key (.frame m)⟩
theorem Step.keeps(x:Step fd ρ σ.us s ρ' U' s')(G:Good cx n fd A ρ σ loc s):fh ρ σ.us s.heap ρ' U' s'.heap:=
 ⟨x.us,λa o e c=>by obtain⟨f,m,q⟩:=G.rE e c;exact x.keep a o e f m q⟩
end
theorem j7{M:Model}{A:Around}{E:Value->Shared->Prop}{s:Shared}{vs:List Value}{m:Sem Value}{Q:Value->Shared->Prop}(h:cW M A m Q E s):cW M A (operate vs m) Q E s:=λΓ p i d=>by
 rw[Sem.wp_operate];exact h Γ p i d
noncomputable abbrev P(α:Type):=Loc->MH->(α->Loc->MH->Prop)->(Addr->Loc->MH->Prop)->Prop
noncomputable abbrev P.ret{α:Type}(a:α):P α:=λloc σ Q _=>Q a loc σ
noncomputable abbrev P.bind{α β:Type}(m:P α)(f:α->P β):P β:=λloc σ Q X=>m loc σ (λa loc' σ'=>f a loc' σ' Q X) X
noncomputable abbrev Pre:=(LA->Addr)->(LA->Prop)->Heap->Prop
noncomputable abbrev cg(α β:Type):=(LA->Addr)->(LA->Prop)->Heap->α->β->Prop
noncomputable def bM(p:Pre):Prop:=∀ρ U h ρ' U' h',fh ρ U h ρ' U' h'->p ρ U h->p ρ' U' h'
inductive JK(ρ:LA->Addr)(U:LA->Prop)(h g:Heap)(fr:Option Addr)(e:Addr)(vs:Array Value):Prop where
 |no (h1:vs[1]?=some .none)
 |tb (T:Addr)(oT:Obj)(ts:Array Value)(fl:Value)(h1:vs[1]?=some (.ref T))(ne:T≠e)(hg:g.get? T=none)(hu:∀l,U l->ρ l≠T)(ho:h.get? T=some oT)(hd:oT.data= .fields ts)(h3:ts[3]?=some fl)(hf:fl= .none∨∃l,fr=some l/\fl=rawInt l)
inductive ExcAt(ρ:LA->Addr)(U:LA->Prop)(h:Heap)(g:Heap)(fr:Option Addr)(e C:Addr):Prop where
 |mk (oe:Obj)(vs:Array Value)(a0:Value)(he:h.get? e=some oe)(hc:oe.cls= .ref C)(hd:oe.data= .fields vs)(h0:vs[0]?=some a0)(hg:g.get? e=none)(hu:∀l,U l->ρ l≠e)(tr:JK ρ U h g fr e vs)
theorem ExcAt.le{ρ:LA->Addr}{U:LA->Prop}{h g g':Heap}{fr:Option Addr}{e C:Addr}(hl:∀a o,g'.get? a=some o->∃o',g.get? a=some o')(x:ExcAt ρ U h g fr e C):ExcAt ρ U h g' fr e C:=by
 have k : ∀ {a},g.get? a=none->g'.get? a=none:=λ{a} q=>by
  cases z : g'.get? a with
  |none=>rfl
  |some o=>refine cN (hl a o z) λo' z'=> ?_;replace z':=q▸z';cases z'
 induction x with
 |mk _ _ _ a b c c0 d f i=>exact .mk _ _ _ a b c c0 (k d) f (by
  induction i with
  |no h1=>exact .no h1
  |tb _ _ _ _ h1 ne hg hu ho hd h3 hf=>exact .tb _ _ _ _ h1 ne (k hg) hu ho hd h3 hf)
theorem ExcAt.any{ρ:LA->Addr}{U:LA->Prop}{h g:Heap}{fr:Option Addr}{e C:Addr}(x:ExcAt ρ U h g none e C):ExcAt ρ U h g fr e C:=by
 induction x with
 |mk _ _ _ a b c c0 d f i=>exact .mk _ _ _ a b c c0 d f (by
  induction i with
  |no h1=>exact .no h1
  |tb _ _ _ _ h1 ne hg hu ho hd h3 hf=>exact .tb _ _ _ _ h1 ne hg hu ho hd h3 (hf.imp_right λzz=>(by refine aT zz λ_ z _=> ?_;exact nomatch z)))
inductive Out(cx:Cx)(n:Nat)(fd:Fd)(A:Around)(ρ:LA->Addr)(σ:MH)(s:Shared){α β:Type}(R:cg α β)(Q:α->Loc->MH->Prop)(b:β)(s':Shared):Prop
 |mk (a:α)(ρ':LA->Addr)(σ':MH)(loc':Loc)(S:Step fd ρ σ.us s ρ' σ'.us s')(G:Good cx n fd A ρ' σ' loc' s')(r:R ρ' σ'.us s'.heap a b)(q:Q a loc' σ')
inductive ey(cx:Cx)(n:Nat)(fd:Fd)(A:Around)(ρ:LA->Addr)(σ:MH)(s:Shared)(X:Addr->Loc->MH->Prop)(ev:Value)(s':Shared):Prop
 |mk (e C:Addr)(ρ':LA->Addr)(σ':MH)(loc':Loc)(he:ev= .ref e)(S:Step fd ρ σ.us s ρ' σ'.us s')(G:Good cx n fd A ρ' σ' loc' s')(x:ExcAt ρ' σ'.us s'.heap s.heap fd.env.frame e C)(q:X C loc' σ')
noncomputable def aM(cx:Cx)(n:Nat)(fd:Fd)(p:Pre){α β:Type}(R:cg α β)(t:Sem β)(m:P α):Prop:=
 ∀A ρ σ loc s Q X,Good cx n fd A ρ σ loc s->p ρ σ.us s.heap->m loc σ Q X->cW cx.M A t (Out cx n fd A ρ σ s R Q) (ey cx n fd A ρ σ s X) s
noncomputable def nS(cx:Cx)(n:Nat)(fd:Fd)(p:Pre){α β:Type}(R:cg α β)(t:Sem β)(m:P α):Prop:=
 ∀A ρ σ loc s Q X,Good cx n fd A ρ σ loc s->p ρ σ.us s.heap->m loc σ Q X->wpAny cx.M A t (Out cx n fd A ρ σ s R Q) (ey cx n fd A ρ σ s X) s
theorem nS.n{cx:Cx}{n:Nat}{fd:Fd}{p:Pre}{α β:Type}{R:cg α β}{t:Sem β}{m:P α}(h:nS cx n fd p R t m):aM cx n fd p R t m:=λA ρ σ loc s Q X G hp hm=> .of (h A ρ σ loc s Q X G hp hm)
noncomputable abbrev Pre.tt : Pre:=λ_ _ _=>True
noncomputable abbrev Pre.and(p q:Pre):Pre:=λρ U h=>p ρ U h/\q ρ U h
noncomputable abbrev eO(cx:Cx)(n:Nat)(fd:Fd){α β:Type}(R:cg α β)(t:Sem β)(m:P α):Prop:=aM cx n fd .tt R t m
noncomputable abbrev bO(cx:Cx)(n:Nat)(fd:Fd)(e:Expr)(m:P MV):Prop:=eO cx n fd VR (eval e fd.env) m
noncomputable abbrev cg.unit : cg Unit Unit:=λ_ _ _ _ _=>True
section
variable {cx:Cx}{n:Nat}{fd:Fd}{A:Around}{ρ ρ':LA->Addr}{σ σ':MH}{loc loc':Loc}{s s':Shared}{α β γ δ:Type}{R:cg α β}{R':cg γ δ}{p q:Pre}{Q:α->Loc->MH->Prop}{X:Addr->Loc->MH->Prop}
theorem Out.pre(x:Step fd ρ σ.us s ρ' σ'.us s'){b:β}{s'':Shared}(y:Out cx n fd A ρ' σ' s' R Q b s''):Out cx n fd A ρ σ s R Q b s'':=by
 obtain⟨a,r,σ₂,l,h1,h2,h3,h4⟩:=y
 exact⟨a,r,σ₂,l,x.trans h1,h2,h3,h4⟩
theorem ey.pre(x:Step fd ρ σ.us s ρ' σ'.us s'){b:Value}{s'':Shared}(y:ey cx n fd A ρ' σ' s' X b s''):ey cx n fd A ρ σ s X b s'':=by
 obtain⟨e,C,r,σ₂,l,h0,h1,h2,h3,h4⟩:=y
 exact⟨e,C,r,σ₂,l,h0,x.trans h1,h2,h3.le x.ex,h4⟩
theorem Out.now(G:Good cx n fd A ρ σ loc s){a:α}{b:β}(r:R ρ σ.us s.heap a b)(h:Q a loc σ):Out cx n fd A ρ σ s R Q b s:=⟨a,ρ,σ,loc, .refl,G,r,h⟩
theorem aM.bind{t:Sem β}{f:β->Sem δ}{m:P α}{g:α->P γ}(h1:aM cx n fd p R t m)(h2:∀a b,aM cx n fd (λρ U h=>R ρ U h a b) R' (f b) (g a)) :
  aM cx n fd p R' (t >>= f) (m.bind g):=by
 intro A ρ σ loc s Q X G hp hm
 refine ai (aD (h1 A ρ σ loc s _ X G hp hm) (λb s' h=> ?_) λe s' h=>h)
 obtain⟨a,ρ',σ',loc',S,G',r,h⟩:=h
 exact aD (h2 a b A ρ' σ' loc' s' Q X G' r h) (λ_ _ y=>y.pre S) λ_ _ y=>y.pre S
theorem aM.frame{t:Sem β}{m:P α}(hq:bM q)(h:aM cx n fd p R t m):aM cx n fd (λρ U h=>p ρ U h/\q ρ U h) (λρ U h a b=>R ρ U h a b/\q ρ U h) t m:=by
 intro A ρ σ loc s Q X G hp hm
 refine aD (h A ρ σ loc s Q X G hp.1 hm) (λb s' y=> ?_) λe s' y=>y
 obtain⟨a,ρ',σ',loc',S,G',r,h⟩:=y
 exact⟨a,ρ',σ',loc',S,G',⟨r,hq _ _ _ _ _ _ (S.keeps G) hp.2⟩,h⟩
theorem aM.weak{t:Sem β}{m:P α}(hq:∀ρ U h,q ρ U h->p ρ U h)(h:aM cx n fd p R t m):aM cx n fd q R t m:=
 λA ρ σ loc s Q X G hp hm=>h A ρ σ loc s Q X G (hq _ _ _ hp) hm
theorem aM.holding{vs:List Value}{t:Sem β}{m:P α}(h:aM cx n fd p R t m):aM cx n fd p R (holding vs t) m:=
 λA ρ σ loc s Q X G hp hm=>aJ (h A ρ σ loc s Q X G hp hm)
theorem aM.standAt{pos:Pos}{t:Unit->Sem β}{m:P α}(h:aM cx n fd p R (t ()) m):aM cx n fd p R (standAt pos >>= t) m:=
 λA ρ σ loc s Q X G hp hm=>ai (bB (h A ρ σ loc s Q X G hp hm))
theorem aM.pure{a:α}{b:β}(r:∀ρ U h,p ρ U h->R ρ U h a b):aM cx n fd p R (pure b) (P.ret a):=
 λ_ _ _ _ _ _ _ G hp hm=>ax (Out.now G (r _ _ _ hp) hm)
theorem bM.vr{mv:MV}{v:Value}:bM λρ U h=>VR ρ U h mv v:=λ_ _ _ _ _ _ k x=>x.mono k
theorem bM.and(hp:bM p)(hq:bM q):bM λρ U h=>p ρ U h/\q ρ U h:=λ_ _ _ _ _ _ k x=>⟨hp _ _ _ _ _ _ k x.1,hq _ _ _ _ _ _ k x.2⟩
theorem bM.tt : bM .tt:=λ_ _ _ _ _ _ _ _=>trivial
end
section
variable {cx:Cx}{n:Nat}{fd:Fd}{A:Around}{ρ ρ':LA->Addr}{σ:MH}{loc:Loc}{s:Shared}{l:LA}{a:Addr}
theorem get?_push_back{h:Heap}{a:Addr}{o x:Obj}(lt:a < h.objs.size)(e:(h.push o).get? a=some x):h.get? a=some x:=by
 refine dw (Heap.get?_some_iff.mp e) λe1 e2=> ?_
 refine Heap.get?_some_iff.mpr ⟨?_,e2⟩
 obtain⟨ob,li⟩:=h
 simp only[Heap.push,Array.getElem?_push,if_neg (show a≠ob.size from bw lt)] at e1
 exact e1
theorem iH{a b:Nat}(h:a<=b)(e:b < a):False:=iw.mpr h e
theorem Good.tok(G:Good cx n fd A ρ σ loc s)(t:Nat):Good cx n fd A ρ σ loc { s with toks:=t }:=⟨G.obj,G.inj,G.low,G.top,G.loc,G.foot,G.st,G.ak,G.gens⟩
theorem Good.move(G:Good cx n fd A ρ σ loc s){h':Heap}{t:Nat}{g:LA->Option MO}{loc':Loc}(hO:∀l o,g l=some o->σ.us l/\mu cx.prog cx.w ρ σ.us h' (ρ l) o)(hN:∀l,σ.us l->∃o,h'.get? (ρ l)=some o/\¬IsTup o)
  (h0:∀b o,cx.h0.get? b=some o->h'.get? b=some o)(hL:ib ρ σ.us h' fd.env fd.names loc')(hS:∀ {a k},Spot fd a k->At cx.h0.objs.size ρ σ.us s.heap a k->∀o,s.heap.get? a=some o->yt k o->∃o',h'.get? a=some o'/\yt k o') :
  Good cx n fd A ρ ⟨g,σ.us⟩ loc' { s with heap:=h',toks:=t }:=
 ⟨hO,G.inj,λl u=>⟨(G.low l u).1,hN l u⟩,h0,hL,λsp=>have p:=G.foot sp;⟨p.z,p.u,let ⟨o,e,f⟩:=p.e;hS sp p o e f⟩,G.st,G.ak,G.gens⟩
theorem Step.tok{U:LA->Prop}(t:Nat):Step fd ρ U s ρ U { s with toks:=t }:=
 ⟨⟨s.heap,t,rfl⟩,λ_ o e=>⟨o,e⟩,λ_ u=>⟨u,rfl⟩,λ_ u n=>absurd u n,λ_ _ e _ _ _=>e,λ_ o e _ _ _=>⟨o.slots,e⟩⟩
theorem ib.mono{U U':LA->Prop}{ρ':LA->Addr}{h h':Heap}{env:Env}{names:List Str}(k:fh ρ U h ρ' U' h')
  (hl:∀m,h.Ns env.locals m->h'.Ns env.locals m)(hc:∀c∈env.cells,∀o,h.get? c.2=some o->h'.get? c.2=some o)
  (x:ib ρ U h env names loc):ib ρ' U' h' env names loc:=by
 obtain⟨m,ns,q⟩:=x
 refine⟨m,hl m ns,λi y mv a b=> ?_⟩
 refine⟨λz=> ?_,λz=> ?_⟩
 ·refine aT (((q i y mv a b).1) z) λv f g=> ?_;exact⟨v,f,g.mono k⟩
 ·refine eT (((q i y mv a b).2) z) λc v f zo3_ g3=> ?_;refine aT zo3_ λoc g1 g2=> ?_
  exact⟨c,v,f,⟨oc,hc _ (mem_of_lookup f) _ g1,g2⟩,g3.mono k⟩
structure jH(L:Addr)(h h':Heap):Prop where
 keep : ∀a o,a≠L->h.get? a=some o->h'.get? a=some o
 ns : ∀m,h.Ns L m->h'.Ns L m
theorem jH.ex{L:Addr}{h h':Heap}(g:jH L h h')(hL:∃m,h.Ns L m)(a:Addr)(o:Obj)(e:h.get? a=some o):∃o',h'.get? a=some o':=by
 by_cases q : a=L
 ·refine cN hL λm ns=> ?_
  refine iR (g.ns m ns) λo' _ _ z _=> ?_
  exact⟨o',q▸z⟩
 ·exact⟨o,g.keep a o q e⟩
theorem jH.refl{L:Addr}{h:Heap}:jH L h h:=⟨λ_ _ _ e=>e,λ_ x=>x⟩
theorem jH.push{L:Addr}{h:Heap}(o:Obj):jH L h (h.push o):=
 ⟨λ_ _ _ e=>aI _ e,λ_ z=>z.push o⟩
theorem Good.locals(G:Good cx n fd A ρ σ loc s):∃m,s.heap.Ns fd.env.locals m:=(by obtain⟨m,ns,_⟩:=G.loc;exact⟨m,ns⟩)
theorem Good.oQ(G:Good cx n fd A ρ σ loc s):cx.h0.objs.size<=s.heap.objs.size:=by
 obtain⟨a,_,_,o,e,_⟩:=G.cI _ G.di
 exact ad a (aL (aS e))
theorem ib.ns{U:LA->Prop}{h:Heap}{env:Env}{names:List Str}(x:ib ρ U h env names loc):∃m,h.Ns env.locals m:=(by obtain⟨m,ns,_⟩:=x;exact⟨m,ns⟩)
theorem Good.kept(G:Good cx n fd A ρ σ loc s){h':Heap}{t:Nat}(D:Addr->Prop)(hk:∀a o,¬D a->s.heap.get? a=some o->h'.get? a=some o)(hT:∀a o,s.heap.get? a=some o->IsTup o->¬D a)(hN:∀l,σ.us l->¬D (ρ l))
  (h0:∀b o,cx.h0.get? b=some o->¬D b)(hL:∀m,s.heap.Ns fd.env.locals m->h'.Ns fd.env.locals m)(hC:∀c∈fd.env.cells,¬D c.2)(hS:∀ {a k},Spot fd a k->D a->∀o,s.heap.get? a=some o->yt k o->∃o',h'.get? a=some o'/\yt k o') :
  Good cx n fd A ρ σ loc { s with heap:=h',toks:=t }:=
 have k : fh ρ σ.us s.heap ρ σ.us h':=⟨λ_ u=>⟨u,rfl⟩,λa o e c=>hk a o (hT a o e c) e⟩
 G.move (λl x e=>have z:=G.obj l x e;⟨z.1,z.2.mono k λ_=>hk _ _ (hN l z.1)⟩) (λl u=>let ⟨_,o,e,f⟩:=G.low l u;⟨o,hk _ _ (hN l u) e,f⟩) (λb o e=>hk b o (h0 b o e) (G.top b o e))
  (G.loc.mono k hL λc hc o e=>hk _ o (hC c hc) e) λ{a _} sp _ o e f=>(Classical.em (D a)).elim (λd=>hS sp d o e f) λd=>⟨o,hk a o d e,f⟩
theorem yt.ns{k:Kd}{h':Heap}{L:Addr}{m:Str->Option Value}(ns:h'.Ns L m)(hk:k= .any):∃o',h'.get? L=some o'/\yt k o':=by
 refine sd ns λo es ep e d _=> ?_
 exact⟨o,e,hk▸ca d⟩
theorem Good.only(G:Good cx n fd A ρ σ loc s){k:Kd}(sp:Spot fd fd.env.locals k):k= .any:=by
 generalize e : fd.env.locals=a at sp
 induction sp with
 |cI=>rfl
 |cell h=>exact (G.iu _ h e.symm).elim
 |frame h=>exact (G.st.mo _ G.di (e▸h)).elim
theorem Good.grow(G:Good cx n fd A ρ σ loc s){h':Heap}(g:jH fd.env.locals s.heap h')(t:Nat):Good cx n fd A ρ σ loc { s with heap:=h',toks:=t }:=
 have p:=G.foot (.cI G.di)
 have ⟨_,ns⟩:=G.locals
 G.kept (·=fd.env.locals) (λa o d=>g.keep a o d) (λa o e c q=>(G.rE e c).2.1 (q▸G.di)) p.u (λb o e q=>iH p.z (q▸aS e)) g.ns G.iu
  λsp d _ _ _=>d▸yt.ns (g.ns _ ns) (G.only (d▸sp))
theorem Step.grow(hm:fd.env.locals∈fd.cI)(hL:∃m,s.heap.Ns fd.env.locals m){U:LA->Prop}{h':Heap}(g:jH fd.env.locals s.heap h')(t:Nat):Step fd ρ U s ρ U { s with heap:=h',toks:=t }:=
 ⟨⟨_,t,rfl⟩,g.ex hL,λ_ u=>⟨u,rfl⟩,λ_ u n=>absurd u n,λa o e _ m _=>g.keep a o (λq=>m (q▸hm)) e,λa x e _ m _=>⟨x.slots,g.keep a x (λq=>m (q▸hm)) e⟩⟩
noncomputable def MH.set(σ:MH)(l:LA)(o:MO):MH:=⟨λx=>if x=l then some o else σ.get x,σ.us⟩
noncomputable def MH.new(σ:MH)(l:LA)(o:MO):MH:=⟨λx=>if x=l then some o else σ.get x,λx=>x=l∨σ.us x⟩
theorem Good.upd(G:Good cx n fd A ρ σ loc s){l:LA}(hl:σ.us l){o':MO}{x':Obj}{h':Heap}{t:Nat}(hsz:h'.objs.size=s.heap.objs.size)(hother:∀a,a≠ρ l->h'.get? a=s.heap.get? a)
  (hx:h'.get? (ρ l)=some x')(hnt:¬IsTup x')(hrel:fh ρ σ.us s.heap ρ σ.us h'->mu cx.prog cx.w ρ σ.us h' (ρ l) o') :
  Good cx n fd A ρ (σ.set l o') loc { s with heap:=h',toks:=t }/\Step fd ρ σ.us s ρ (σ.set l o').us { s with heap:=h',toks:=t }:=by
 have nf : ∀a,(∀x,σ.us x->ρ x≠a)->h'.get? a=s.heap.get? a:=λa f=>hother a λq=>f l hl q.symm
 have k : fh ρ σ.us s.heap ρ σ.us h':=⟨λ_ u=>⟨u,rfl⟩,λa o e c=>(nf a (G.rE e c).1).trans e⟩
 refine⟨G.move (λx o e=> ?_) (λx u=> ?_) (λb x e=>(hother b λq=> ?_).trans (G.top b x e)) (G.loc.mono k (λm z=> ?_) λc hc x e=>(nf _ (G.foot (.cell hc)).u).trans e) λ_ p o e f=>⟨o,(nf _ p.u).trans e,f⟩,
  ⟨_,t,rfl⟩,λa o e=> ?_,λ_ u=>⟨u,rfl⟩,λ_ u z=>absurd u z,λa o e f _ _=>(nf a f).trans e,λa o e f _ _=>⟨o.slots,(nf a f).trans e⟩⟩
 ·by_cases q : x=l
  ·cases (if_pos q).symm.trans e
   exact⟨q▸hl,q▸hrel k⟩
  ·have z:=G.obj x o ((if_neg q).symm.trans e)
   exact⟨z.1,z.2.mono k λ_=>(hother _ λy=>q (G.inj x l z.1 hl y)).trans⟩
 ·by_cases q : ρ x=ρ l
  ·exact⟨x',q▸hx,hnt⟩
  ·exact let ⟨_,o,h2,h3⟩:=G.low x u;⟨o,(hother _ q).trans h2,h3⟩
 ·exact iH (G.low l hl).1 (q▸aS e)
 ·refine iR z λo es ep e r=> ?_
  exact⟨o,es,ep,(nf _ (G.foot (.cI G.di)).u).trans e,r⟩
 ·by_cases q : a=ρ l
  ·exact⟨x',q▸hx⟩
  ·exact⟨o,(hother a q).trans e⟩
structure oE(ρ:LA->Addr)(l:LA)(a:Addr)(ρ':LA->Addr):Prop where
 here : ρ' l=a
 old : ∀y,y≠l->ρ' y=ρ y
theorem Ac(ρ:LA->Addr)(l:LA)(a:Addr):∃ρ',oE ρ l a ρ':=⟨λy=>if y=l then a else ρ y,if_pos rfl,λ_ h=>if_neg h⟩
theorem oE.us(N:oE ρ l a ρ')(hl:¬σ.us l){x:LA}(u:σ.us x):ρ' x=ρ x:=N.old x λq=>hl (q▸u)
theorem oE.keep(N:oE ρ l a ρ')(hl:¬σ.us l){o:MO}{h:Heap}:fh ρ σ.us h ρ' (σ.new l o).us h:=⟨λ_ u=>⟨.inr u,N.us hl u⟩,λ_ _ e _=>e⟩
theorem oE.ref(N:oE ρ l a ρ'){o:MO}{h:Heap}:VR ρ' (σ.new l o).us h (.ref l) (.ref a):=N.here▸ .ref (.inl rfl)
theorem oE.un(N:oE ρ l a ρ')(hl:¬σ.us l){o:MO}{b:Addr}(nb:b≠a)(f:∀x,σ.us x->ρ x≠b)(x:LA)(u:(σ.new l o).us x):ρ' x≠b:=λq=>by
 refine Or.elim u (λu=> ?_) λu=> ?_
 ·exact nb (q.symm.trans (u▸N.here))
 ·exact f x u ((N.us hl u).symm.trans q)
theorem Good.name(G:Good cx n fd A ρ σ loc s)(hl:¬σ.us l)(N:oE ρ l a ρ'){o':MO}{x:Obj}(hx:s.heap.get? a=some x)(hnt:¬IsTup x)(h0:cx.h0.objs.size<=a)
  (hf:∀l,σ.us l->ρ l≠a)(hm:∀ {k},¬Spot fd a k)
  (hrel:fh ρ σ.us s.heap ρ' (σ.new l o').us s.heap->mu cx.prog cx.w ρ' (σ.new l o').us s.heap a o'):Good cx n fd A ρ' (σ.new l o') loc s:=by
 have k:=N.keep hl (o:=o') (h:=s.heap)
 refine⟨λy ob e=> ?_,λx y u v q=> ?_,λx u=> ?_,G.top,G.loc.mono k (λ_ z=>z) (λ_ _ _ e=>e),λsp=>have p:=G.foot sp;⟨p.z,N.un hl (λq=>hm (q▸sp)) p.u,p.e⟩,G.st,G.ak,G.gens⟩
 ·by_cases q : y=l
  ·cases (if_pos q).symm.trans e
   cases q
   exact⟨.inl rfl,N.here.symm▸hrel k⟩
  ·have z:=G.obj y ob ((if_neg q).symm.trans e)
   exact⟨.inr z.1,N.old y q▸z.2.mono k λ_ hz=>hz⟩
 ·refine Or.elim u (λu=> ?_) λu=> ?_<;>refine Or.elim v (λv=> ?_) λv=> ?_
  ·exact u.trans v.symm
  ·exact absurd ((N.us hl v).symm.trans (q.symm.trans (u▸N.here))) (hf y v)
  ·exact absurd ((N.us hl u).symm.trans (q.trans (v▸N.here))) (hf x u)
  ·exact G.inj x y u v ((N.us hl u).symm.trans (q.trans (N.us hl v)))
 ·rcases u with u | u
  ·rw[u,N.here];exact⟨h0,_,hx,hnt⟩
  ·rw[N.us hl u];exact G.low x u
theorem Step.named{l:LA}{o:MO}{a:Addr}{s₀:Shared}{ρ₀ ρ₁:LA->Addr}{U:LA->Prop}(S:Step fd ρ₀ U s₀ ρ σ.us s)(hl:¬σ.us l)(N:oE ρ l a ρ₁)(hn:s₀.heap.get? a=none):Step fd ρ₀ U s₀ ρ₁ (σ.new l o).us s:=by
 refine⟨S.rest,S.ex,λx u=>⟨.inr (S.us x u).1,(N.us hl (S.us x u).1).trans (S.us x u).2⟩,λx u nu=> ?_,S.keep,S.gc⟩
 refine Or.elim u (λu=> ?_) λu=> ?_
 ·refine ae u▸ ?_;refine (ah _ N.here).trans ?_;exact hn
 ·refine (ah _ (N.us hl u)).trans ?_;exact S.fresh x u nu
theorem Good.alloc(G:Good cx n fd A ρ σ loc s)(hl:¬σ.us l)(N:oE ρ l a ρ'){o':MO}{x:Obj}{h':Heap}(t:Nat)(g:jH fd.env.locals s.heap h')(ha:s.heap.objs.size<=a)
  (hx:h'.get? a=some x)(hnt:¬IsTup x)(hrel:fh ρ σ.us s.heap ρ' (σ.new l o').us h'->mu cx.prog cx.w ρ' (σ.new l o').us h' a o') :
  Good cx n fd A ρ' (σ.new l o') loc { s with heap:=h',toks:=t }/\Step fd ρ σ.us s ρ' (σ.new l o').us { s with heap:=h',toks:=t }:=by
 have S:=Step.grow (ρ:=ρ) (U:=σ.us) G.di G.locals g t
 have out : ∀ {b},(∃o,s.heap.get? b=some o)->b≠a:=λzz q=>(by refine cN zz λo e=> ?_;exact iH ha (q▸aS e))
 refine⟨(G.grow g t).name hl N hx hnt (ad G.oQ ha) (λy u=>out (let ⟨_,o,e,_⟩:=G.low y u;⟨o,e⟩)) (λsp=>let ⟨o,e,_⟩:=(G.foot sp).e;out ⟨o,e⟩ rfl) (λk=>hrel ((S.keeps G).trans k)),
  S.rest,S.ex,λx u=>⟨.inr u,N.us hl u⟩,λy u z=> ?_,S.keep,S.gc⟩
 refine Or.elim u (λu=> ?_) λu=> ?_
 ·refine ae u▸ ?_;refine (ah _ N.here).trans ?_
  cases q : s.heap.get? a with
  |none=>rfl
  |some o=>exact (out ⟨o,q⟩ rfl).elim
 ·exact absurd u z
theorem Good.push(G:Good cx n fd A ρ σ loc s)(o:Obj)(t:Nat):Good cx n fd A ρ σ loc { s with heap:=s.heap.push o,toks:=t }:=G.grow (.push o) t
end
noncomputable abbrev cg.bool : cg Bool Bool:=λ_ _ _ a b=>a=b
section
variable {cx:Cx}{n:Nat}{fd:Fd}{p q:Pre}{A:Around}{ρ:LA->Addr}{σ:MH}{loc:Loc}{s:Shared}{Q:MV->Loc->MH->Prop}{E:Value->Shared->Prop}
noncomputable abbrev P.aa(i:Nat):P MV:=λloc σ Q _=>match loc[i]? with
 |some (some v)=>Q v loc σ
 |_=>False
theorem B3{x:Str}{pos:Pos}{i:Nat}(hi:fd.names[i]?=some x)(hk:fd.env.scope.kind= .function)
  (hl:fd.env.kindOf x=some .local∨fd.env.kindOf x=some .cell∨fd.env.kindOf x=some .free)(hd:(x==("__debug__" : Str))=false) (hd2:(x==("__classdict__" : Str))=false) :
  bO cx n fd (.Name x pos) (P.aa i):=by
 intro A ρ σ loc s Q X G _ hm
 apply cW.of
 simp only[P.aa] at hm
 split at hm
 ·rename_i mv e
  obtain⟨m,ns,lr⟩:=G.loc
  refine dw (lr i x mv hi e) λq1 q2=> ?_
  refine wpAny_Name ?_ hd
  rcases hl with hl | hl | hl
  ·refine aT (q1 hl) λv e1 r=> ?_
   exact wpAny_loadName_local hk hl ns e1 (Out.now G r hm)
  ·obtain⟨c,v,e1,e2,r⟩:=q2 (.inl hl)
   exact wpAny_loadName_cell hk hl e1 e2 (Out.now G r hm)
  ·obtain⟨c,v,e1,e2,r⟩:=q2 (.inr hl)
   exact wpAny_loadName_free hk hl e1 e2 (Out.now G r hm) hd2
 ·exact hm.elim
noncomputable def VC(mv:MV)(v:Value):Prop:=∀ρ U h,VR ρ U h mv v
theorem sJ{A:Around}{ρ:LA->Addr}{σ:MH}{loc:Loc}{s:Shared}(G:Good cx n fd A ρ σ loc s){x:Str}{pos:Pos}{v:Value}{Q:Value->Shared->Prop}{E:Value->Shared->Prop}
  (hk:fd.env.scope.kind= .function)(hx:fd.env.kindOf x=some .globalImplicit)(hg:fd.env.globals=mainGlobals)(hd:(x==("__debug__" : Str))=false)
  (e:nsIn cx.K mainGlobals x=some (some v))(h:Q v s):wpAny cx.M A (eval (.Name x pos) fd.env) Q E s:=
 Name_function_global hk hx (loadGlobal_global (env:=fd.env) (by refine ae hg▸ ?_;exact cx.g.keeps G.top) (mg_of cx.X cx.g e) h) hd
theorem xE{A:Around}{ρ:LA->Addr}{σ:MH}{loc:Loc}{s:Shared}(G:Good cx n fd A ρ σ loc s){x:Str}{pos:Pos}{v:Value}{Q:Value->Shared->Prop}{E:Value->Shared->Prop}
  (hk:fd.env.scope.kind= .function)(hx:fd.env.kindOf x=some .globalImplicit)(hg:fd.env.globals=mainGlobals)(hb:fd.env.builtins=builtinsNs)(hd:(x==("__debug__" : Str))=false)
  (e:nsIn cx.K mainGlobals x=some none)(hv:bootBuiltins x=some v)(hn:x ≠ "__name__") (h:Q v s):wpAny cx.M A (eval (.Name x pos) fd.env) Q E s:=
 Name_function_global hk hx (loadGlobal_builtin (env:=fd.env) (by rw[hg];exact cx.g.keeps G.top) (mg_none_of cx.X cx.g e) (by rw[hb];exact cx.b.keeps G.top) ((cx.bt x hn).trans hv) h) hd
theorem CP{x:Str}{pos:Pos}{v:Value}{mv:MV}(hc:VC mv v)(hk:fd.env.scope.kind= .function)(hx:fd.env.kindOf x=some .globalImplicit)(hg:fd.env.globals=mainGlobals)
  (hd:(x==("__debug__" : Str))=false) (e:nsIn cx.K mainGlobals x=some (some v)):bO cx n fd (.Name x pos) (P.ret mv):=
 λ_ _ _ _ _ _ _ G _ hm=> .of<|sJ G hk hx hg hd e (Out.now G (hc _ _ _) hm)
noncomputable def kE : Const->Option MV
 | .none=>some .none
 | .bool b=>some (.bool b)
 | .int i=>some (.int i)
 | .bytes b=>some (.bytes b)
 |_=>none
theorem Ai{c:Const}{k:Nat}{pos:Pos}{mv:MV}(h:kE c=some mv):bO cx n fd (.Constant c k pos) (P.ret mv):=by
 intro A ρ σ loc s Q X G _ hm
 apply cW.of
 show wpAny _ _ (constValue fd.env c) _ _ _
 cases c<;>simp only[kE,Option.some.injEq,reduceCtorEq] at h<;>subst h
 ·exact ao (Out.now G .none hm)
 ·exact ao (Out.now G .bool hm)
 ·exact wpAny_mkInt (Out.pre (Step.tok _) (Out.now (G.tok _) .int hm))
 ·exact λ_ _ _=>Out.pre (Step.tok _) (Out.now (G.tok _) .bytes hm)
theorem yu{x:String}{k:Nat}{pos:Pos}:bO cx n fd (.Constant (.str (Str.ofString x)) k pos) (P.ret (.str x)):=
 λ_ _ _ _ _ _ _ G _ hm=> .of<|wpAny_mkText (Out.pre (Step.tok _) (Out.now (G.tok _) .str hm))
noncomputable abbrev P.truth(a:MV):P Bool:=λloc σ Q _=>match a with
 | .none=>Q false loc σ
 | .bool b=>Q b loc σ
 | .int i=>Q (i != 0) loc σ
 | .bytes b=>b.length<=100000/\Q (!b.isEmpty) loc σ
 |_=>False
theorem sK{a:MV}{v:Value}:nS cx n fd (λρ U h=>VR ρ U h a v) cg.bool (truthy v) (P.truth a):=by
 intro A ρ σ loc s Q X G hp hm
 cases a<;>simp only[P.truth] at hm
 ·rw[hp.none_inv];exact ao (a:=false) (Out.now G rfl hm)
 ·rw[hp.bool_inv];exact ao (Out.now G rfl hm)
 ·obtain⟨t,e⟩:=hp.int_inv;rw[e];exact PySem.P.truthy_int (Out.now G rfl hm)
 ·obtain⟨t,e⟩:=hp.d7
  rw[e]
  refine truthy_bytes (by rw[d9];exact ad hm.1 (by decide)) ?_
  refine Out.pre (Step.tok _) (Out.now (G.tok _) ?_ hm.2)
  rename_i b
  cases b<;>simp[cg.bool]
  exact bi_ine.mp rfl
theorem fP{a:MV}{v:Value}:aM cx n fd (λρ U h=>VR ρ U h a v) cg.bool (truthy v) (P.truth a):=sK.n
inductive jT(loc:Loc)(σ:MH)(Q:MV->Loc->MH->Prop):Operator->MV->MV->Prop where
 |add {x y} (h:Q (.int (x+y)) loc σ):jT loc σ Q .Add (.int x) (.int y)
 |sub {x y} (h:Q (.int (x - y)) loc σ):jT loc σ Q .Sub (.int x) (.int y)
 |mul {x y} (a:x.natAbs < 2^32/\y.natAbs < 2^32)(h:Q (.int (x * y)) loc σ):jT loc σ Q .Mult (.int x) (.int y)
 |fdiv {x y} (a:y≠0/\x.natAbs < 2^60/\y.natAbs < 2^60)(h:Q (.int (x.fdiv y)) loc σ):jT loc σ Q .FloorDiv (.int x) (.int y)
 |mod {x y} (a:y≠0)(h:Q (.int (x.fmod y)) loc σ):jT loc σ Q .Mod (.int x) (.int y)
 |shl {x y} (a:0<=y/\y<=1000/\x.natAbs < 2^64)(h:Q (.int (x * 2^y.toNat)) loc σ):jT loc σ Q .LShift (.int x) (.int y)
 |shr {x y} (a:0<=y)(h:Q (.int (x.fdiv (2^y.toNat))) loc σ):jT loc σ Q .RShift (.int x) (.int y)
 |band {x y} (h:Q (.int (Builtin.bitAnd x y)) loc σ):jT loc σ Q .BitAnd (.int x) (.int y)
 |bor {x y} (h:Q (.int (Builtin.bitOr x y)) loc σ):jT loc σ Q .BitOr (.int x) (.int y)
 |pow (h:Q (.int (10^12)) loc σ):jT loc σ Q .Pow (.int 10) (.int 12)
 |Ed {x y} (a:x.length+y.length<=100000)(h:Q (.bytes (x++y)) loc σ):jT loc σ Q .Add (.bytes x) (.bytes y)
 |GA {x y} (a:0<=y/\y<=1000/\x.length<=16/\x≠[])(h:Q (.bytes (List.replicate y.toNat x).flatten) loc σ):jT loc σ Q .Mult (.bytes x) (.int y)
 |K4 {k l vs ws r} (e:σ.get k=some (.list vs))(f:σ.get l=some (.list ws))(a:vs.length+ws.length<=100000)(n:¬σ.us r)(h:Q (.ref r) loc (σ.new r (.list (vs++ws)))):jT loc σ Q .Add (.ref k) (.ref l)
 |mulL {k y vs r} (e:σ.get k=some (.list vs))(a:0<=y/\y<=1000/\vs.length<=64/\vs≠[])(n:¬σ.us r)(h:Q (.ref r) loc (σ.new r (.list (List.replicate y.toNat vs).flatten))):jT loc σ Q .Mult (.ref k) (.int y)
noncomputable abbrev P.bin(op:Operator)(a b:MV):P MV:=λloc σ Q _=>jT loc σ Q op a b
noncomputable abbrev E0 : Heap:=⟨#[],{}⟩
theorem By(a:Addr):E0.get? a=none:=by unfold Heap.get?;simp
noncomputable def qK(h:Heap)(L:Addr):List (Addr×Obj):=(List.range h.objs.size).filterMap λa=>if a=L then none else (h.get? a).map λo=>(a,o)
theorem lP{h:Heap}{L a:Addr}{o:Obj}:(a,o)∈qK h L↔h.get? a=some o/\a≠L:=by
 unfold qK
 refine (cS).trans ?_
 constructor
 ·rintro ⟨b,_,e⟩
  by_cases q : b=L
  ·simp[q] at e
  ·rw[if_neg q] at e
   refine aT (be.mp e) λo' e1 e2=> ?_
   cases e2;exact⟨e1,q⟩
 ·rintro ⟨e,q⟩
  exact⟨a,List.mem_range.mpr (aS e),by refine ((if_neg q)).trans ?_;exact ah _ e⟩
theorem CI{h:Heap}{L:Addr}{m:Str->Option Value}(ns:h.Ns L m):Fr E0 L h m:=⟨ns,λb o e=>(by cases e),bC _⟩
theorem uE{h:Heap}{L:Addr}:News E0 L h (qK h L):=λ_ hp=>⟨(lP.mp hp).1,(lP.mp hp).2,By _⟩
theorem FT{h:Heap}{a:Addr}{m m':Str->Option Value}(x:h.Ns a m)(y:h.Ns a m'):m=m':=by
 refine Fb x λo es ep e d _ f=> ?_
 refine Fb y λo' es' ep' e' d' _ f'=> ?_
 replace e':=e▸e';cases e'
 replace d':=d▸d';cases d'
 funext z;refine (f z)▸ ?_;exact (f' z)
theorem xR{h h':Heap}{L:Addr}{m:Str->Option Value}{pre:List (Addr×Obj)}(ns:h.Ns L m)(F:Fr E0 L h' m)(N:News E0 L h' (pre++qK h L)):jH L h h':=
 ⟨λ_ _ q e=>(N _ (bx _ (lP.mpr ⟨e,q⟩))).1,λ_ z=>FT ns z▸F.ns⟩
theorem pT{h h':Heap}{L:Addr}{m:Str->Option Value}{o:Obj}(ns:h.Ns L m)(F:Fr E0 L h' m)(N:News E0 L h' ((h.objs.size,o)::qK h L)):jH L h h'/\h'.get? h.objs.size=some o:=
 ⟨xR (pre:=[(h.objs.size,o)]) ns F N,(N _ (.head _)).1⟩
theorem cP{xs:Array Value}{ep:Nat}:¬IsTup { cls:= .type "list",data:= .seq xs ep }:=j9 (by intro h;injection h with h;revert h;decide)
theorem Out.alloc(G:Good cx n fd A ρ σ loc s){r:LA}(hr:¬σ.us r){o:MO}{x:Obj}{h':Heap}(t:Nat)(g:jH fd.env.locals s.heap h'){a:Addr}(ha:s.heap.objs.size<=a)(hx:h'.get? a=some x)(hnt:¬IsTup x)
  (hrel:∀ρ',fh ρ σ.us s.heap ρ' (σ.new r o).us h'->mu cx.prog cx.w ρ' (σ.new r o).us h' a o)(hq:Q (.ref r) loc (σ.new r o)):Out cx n fd A ρ σ s VR Q (.ref a) { s with heap:=h',toks:=t }:=by
 refine cN (Ac ρ r a) λρ' N=> ?_
 exact⟨_,_,_,_,(G.alloc hr N t g ha hx hnt (hrel ρ')).2,(G.alloc hr N t g ha hx hnt (hrel ρ')).1,N.ref,hq⟩
theorem Out.iT(G:Good cx n fd A ρ σ loc s){r:LA}(hr:¬σ.us r){vs:List MV}{xs:Array Value}{ep:Nat}{h':Heap}(t:Nat)
  (g:jH fd.env.locals s.heap h'){a:Addr}(ha:s.heap.objs.size<=a)(hx:h'.get? a=some { cls:= .type "list",data:= .seq xs ep }) (hv:cR ρ σ.us s.heap vs xs.toList)
  (hq:Q (.ref r) loc (σ.new r (.list vs))):Out cx n fd A ρ σ s VR Q (.ref a) { s with heap:=h',toks:=t }:=Out.alloc (o:= .list vs) G hr t g ha hx cP (λ_ k=>⟨xs,ep,hx,hv.mono k⟩) hq
theorem cR.flat{ρ:LA->Addr}{U:LA->Prop}{h:Heap}{vs:List MV}{ys:List Value}(x:cR ρ U h vs ys):∀k : Nat,cR ρ U h (List.replicate k vs).flatten (List.replicate k ys).flatten
 |0=>by simpa using cR.nil
 |k+1=>by exact x.append (x.flat k)
theorem sO{α:Type}(items:Array α):∀ (k:Nat)(acc:Array α),((List.replicate k items).foldl (λa b=>a++b) acc).toList=acc.toList++(List.replicate k items.toList).flatten
 |0,acc=>by simp
 |k+1,acc=>by
  rw[List.replicate_succ,List.foldl_cons,sO items k,List.replicate_succ];rw[Array.toList_append];exact (aH ..)
theorem Kr{x y:Int}(hx:x.natAbs < 2^32)(hy:y.natAbs < 2^32):IntMulOk x y:=by
 mul_fits
theorem Good.list(G:Good cx n fd A ρ σ loc s){l:LA}{vs:List MV}(e:σ.get l=some (.list vs)):∃xs ep,s.heap.get? (ρ l)=some { cls:= .type "list",data:= .seq xs ep }/\cR ρ σ.us s.heap vs xs.toList:=(G.obj _ _ e).2
theorem CU(G:Good cx n fd A ρ σ loc s){k l r:LA}{vs ws:List MV}(e1:σ.get k=some (.list vs))(e2:σ.get l=some (.list ws))(hz:vs.length+ws.length<=100000)(hr:¬σ.us r)(hq:Q (.ref r) loc (σ.new r (.list (vs++ws)))) :
  wpAny cx.M A (binaryOp .Add (.ref (ρ k)) (.ref (ρ l))) (Out cx n fd A ρ σ s VR Q) E s:=by
 refine cN G.locals λmL ns=> ?_
 refine eA (G.list e1) λxs ep o1 r1=> ?_
 refine eA (G.list e2) λys eq o2 r2=> ?_
 refine add_lists (vs:=xs.toList) (ws:=ys.toList) (CI ns) uE ⟨_,o1,rfl,ep,rfl⟩ ⟨_,o2,rfl,eq,rfl⟩ (λh' F' N'=> ?_) (by refine ae aU▸ ?_;exact ad (bF (aw r1.len) (aw r2.len)) (ad (by assumption) (by decide)))
 exact Out.iT G hr _ (pT ns F' N').1 (aG _) (pT ns F' N').2 (r1.append r2) hq
theorem Dv{a b:Nat}(h:a<=64)(g:b<=1000):a * b<=2^24:=ad (Nat.mul_le_mul h g) (by decide)
theorem BR(G:Good cx n fd A ρ σ loc s){k r:LA}{y:Int}{t:Tok}{vs:List MV}(e1:σ.get k=some (.list vs))(hz:0<=y/\y<=1000/\vs.length<=64/\vs≠[])(hr:¬σ.us r)(hq:Q (.ref r) loc (σ.new r (.list (List.replicate y.toNat vs).flatten))) :
  wpAny cx.M A (binaryOp .Mult (.ref (ρ k)) (.int y t)) (Out cx n fd A ρ σ s VR Q) E s:=by
 refine cN G.locals λmL ns=> ?_
 refine eA (G.list e1) λxs ep o1 r1=> ?_
 have ne : xs.isEmpty=false:=by
  refine Array.isEmpty_eq_false_iff.mpr ?_
  exact λz=>hz.2.2.2 (List.eq_nil_of_length_eq_zero (r1.len.symm.trans (by refine ae z▸ ?_;rfl)))
 refine mul_list (CI ns) uE o1 (bp (by decide) hz.1) (cU hz.2.1 (by decide)) (Dv (ad (aw r1.len) hz.2.2.1) (ad (Int.toNat_le.mpr hz.2.1) (by decide))) (λh' F' N'=> ?_)
 refine Out.iT G hr _ (pT ns F' N').1 (aG _) (pT ns F' N').2 ?_ hq
 rw[ne]
 show cR _ _ _ _ (Array.toList (List.foldl _ _ _))
 rw[sO]
 exact r1.flat y.toNat
theorem J0{x:Int}(h:x.natAbs < 2^60):x.natAbs.log2 < 60∨x.natAbs=0:=by
 by_cases q : x.natAbs=0
 ·exact .inr q
 ·exact .inl ((Nat.log2_lt q).mpr h)
theorem EP{op:Operator}{a b:MV}{va vb:Value}:nS cx n fd (λρ U h=>VR ρ U h a va/\VR ρ U h b vb) VR (binaryOp op va vb) (P.bin op a b):=by
 intro A ρ σ loc s Q X G hp hm
 obtain⟨ha,hb⟩:=hp
 have tk : ∀ {i:Int},Q (.int i) loc σ->Out cx n fd A ρ σ s VR Q (.int i s.toks) { s with toks:=s.toks+1 }:=λh=>Out.pre (Step.tok _) (Out.now (G.tok _) .int h)
 have tb : ∀ {i:List UInt8}{t k:Nat},Q (.bytes i) loc σ->Out cx n fd A ρ σ s VR Q (.bytes i.toArray t) { s with toks:=k }:=λh=>Out.pre (Step.tok _) (Out.now (G.tok _) .bytes h)
 have al:=λ{k l r vs ws}=>CU (E:=ey cx n fd A ρ σ s X) (Q:=Q) G (k:=k) (l:=l) (r:=r) (vs:=vs) (ws:=ws)
 have ml:=λ{k r y t vs}=>BR (E:=ey cx n fd A ρ σ s X) (Q:=Q) G (k:=k) (r:=r) (y:=y) (t:=t) (vs:=vs)
 generalize Out cx n fd A ρ σ s VR Q=Q' at tk tb al ml ⊢
 generalize ey cx n fd A ρ σ s X=E' at al ml ⊢
 induction hm with
 |add h=>apply VR.fK ha hb;exact λ_ _=>add_int (tk h)
 |sub h=>apply VR.fK ha hb;exact λ_ _=>sub_int (tk h)
 |mul a h=>apply VR.fK ha hb;exact λ_ _=>mul_int (tk h) (Kr a.1 a.2)
 |fdiv a h=>apply VR.fK ha hb;exact λ_ _=>floordiv_int a.1 (tk h) (.inl (PyProof.noPylong_of_log2 (by
   refine Or.elim (J0 a.2.2) (λq=> ?_) λq=> ?_
   ·exact aC q (by decide)
   ·rw[q];decide)))
 |mod a h=>apply VR.fK ha hb;exact λ_ _=>mod_int' a (tk h)
 |shl a h=>apply VR.fK ha hb;exact λ_ _=>lshift_int_small a.1 (bp a.2.1 (by decide)) a.2.2 (tk h)
 |shr a h=>apply VR.fK ha hb;exact λ_ _=>rshift_int a (tk h)
 |band h=>apply VR.fK ha hb;exact λ_ _=>and_int (tk h)
 |bor h=>apply VR.fK ha hb;exact λ_ _=>or_int (tk h)
 |pow h=>apply VR.fK ha hb;exact λ_ _=>pow_int_small (by decide) (by decide) (by decide) (tk h)
 |Ed a h=>apply ha.dg;intro _;apply hb.dg;exact λ_=>bytes_add_K (by simp only[d9];exact ad a (by decide)) rfl λt' k=>tb h
 |GA a h=>apply ha.dg;intro _;apply hb.eH;exact λ_=>bytes_mul_any a.2.2.2 (bp (by decide) a.1) (bp a.2.1 (by decide)) a.2.2.1 λt' k=>tb h
 |K4 e f a n h=>apply ha.eB;intro _;apply hb.eB;exact λ_=>al e f a n h
 |mulL e a n h=>apply ha.eB;intro _;apply hb.eH;exact λ_=>ml e a n h
theorem FQ{op:Operator}{a b:MV}{va vb:Value}:aM cx n fd (λρ U h=>VR ρ U h a va/\VR ρ U h b vb) VR (binaryOp op va vb) (P.bin op a b):=EP.n
end
end Internal
namespace Internal
open PySem PySem.W PyProof.Rows PySem.Calls Builtin PySem.EqNone
noncomputable def MV.fe : MV->MV->Option Bool
 | .int a, .int b=>some (a==b)
 | .bytes a, .bytes b=>some (a==b)
 | .str a, .str b=>some (Str.ofString a==Str.ofString b)
 | .none, .none=>some true
 | .none, .bytes _=>some false
 | .bytes _, .none=>some false
 |_,_=>Option.none
theorem uO{P:MV->MV->Bool->Prop}{a b:MV}{k:Bool}(e:a.fe b=some k)(hi:∀x y,P (.int x) (.int y) (x==y))(hb:∀x y,P (.bytes x) (.bytes y) (x==y))(hs:∀x y,P (.str x) (.str y) (Str.ofString x==Str.ofString y))
  (hn:P .none .none true)(h1:∀y,P .none (.bytes y) false)(h2:∀x,P (.bytes x) .none false):P a b k:=by
 cases a with
 |int x=>cases b<;>first | exact aP e▸hi _ _ | cases e
 |bytes x=>cases b<;>first | exact aP e▸hb _ _ | exact aP e▸h2 _ | cases e
 |str x=>cases b<;>first | exact aP e▸hs _ _ | cases e
 |none=>cases b<;>first | exact aP e▸hn | exact aP e▸h1 _ | cases e
 |_=>exact nomatch b<;>cases e
section
variable {cx:Cx}{n:Nat}{fd:Fd}{prog:Program}{w:World}{A:Around}{E:Value->Shared->Prop}{s:Shared}{ρ:LA->Addr}{U:LA->Prop}{Q:Value->Shared->Prop}
theorem m9(b:Array UInt8)(t:Tok):Gives (Builtin.«NoneType.__eq__» ⟨[.none, .bytes b t],[]⟩) (.val (Value.notImplemented)):=
 .of_wp λM A E s Q h=>by obtain⟨hp,g,d,tk,os⟩:=s;wp_walk;exact⟨_,rfl,h⟩
theorem Da : isSubtype (.type "NoneType") (.type "bytes")=pure false:=by rw[cA];kernel_rfl
theorem Ip : isSubtype (.type "bytes") (.type "NoneType")=pure false:=by rw[cA];kernel_rfl
theorem nD(b:Array UInt8)(t:Tok):Gives (Builtin.«bytes.__eq__» ⟨[.bytes b t, .none],[]⟩) (.val (Value.notImplemented)):=
 .of_wp λM A E s Q h=>by
  obtain⟨hp,g,d,tk,os⟩:=s
  show wpAny M A (isInstance .none (.type "bytes") >>= λr=>if (!r)=true then (rule (toString "bytes." ++ toString "__eq__" ++ toString ".declined") >>= λ_=>ret .notImplemented)
   else (Bytes.payload (.bytes b t) >>= λx=>Bytes.payload .none >>= λy=>ret (.bool (Bytes.holds "__eq__" (Bytes.order x.toList y.toList))))) _ E _
  refine af (bG (by exact Da) ?_)
  exact af (wpAny_rule (ao ⟨_,rfl,h⟩))
theorem rN{b:Array UInt8}{t:Tok}(h:Q (.bool false) s):wpAny (model prog w) A (compareOp .Eq (.bytes b t) .none) Q E s:=by
 exact wpAny_richCompare_eq_decline (k:=false) (λs'=>typeIs_bytes s' b t) (λ_=>rfl) (by decide) Da FB.slot_bytes_eq F.slot_NoneType_eq_refl rfl
  (call_gives FB.slot_bytes_eq (typeIs_bytes s b t) FB.entry_bytes_eq (FB.args_bytes_eq_2 _ _) (nD b t)
   ⟨rfl,call_gives F.slot_NoneType_eq_refl rfl F.entry_NoneType_eq (F.args_NoneType_eq_2 _ _) (m9 b t) ⟨rfl,h⟩⟩)
theorem rP{b:Array UInt8}{t:Tok}(h:Q (.bool false) s):wpAny (model prog w) A (compareOp .Eq .none (.bytes b t)) Q E s:=by
 exact wpAny_richCompare_eq_decline (k:=false) (λ_=>rfl) (λs'=>typeIs_bytes s' b t) (by decide) Ip F.slot_NoneType_eq FB.slot_bytes_eq rfl
  (call_gives F.slot_NoneType_eq rfl F.entry_NoneType_eq (F.args_NoneType_eq_2 _ _) (m9 b t)
   ⟨rfl,call_gives FB.slot_bytes_eq (typeIs_bytes s b t) FB.entry_bytes_eq (FB.args_bytes_eq_2 _ _) (nD b t) ⟨rfl,h⟩⟩)
theorem yn{a b:MV}{va vb:Value}{k:Bool}(ha:VR ρ U s.heap a va)(hb:VR ρ U s.heap b vb)(e:a.fe b=some k)(h:Q (.bool k) s):wpAny (model prog w) A (compareOp .Eq va vb) Q E s:=by
 revert ha hb h
 refine uO (P:=λa b k=>VR ρ U s.heap a va->VR ρ U s.heap b vb->Q (.bool k) s->wpAny (model prog w) A (compareOp .Eq va vb) Q E s) e (λx y ha hb=> ?_) (λx y ha hb=> ?_) (λx y ha hb=> ?_) (λha hb=> ?_) (λy ha hb=> ?_) (λx ha hb=> ?_)
 ·apply ha.eH;intro t;apply hb.eH;intro u;exact eq_int
 ·apply ha.dg;intro t;apply hb.dg;intro u;exact eq_bytes
 ·apply ha.A7;intro t;apply hb.A7;intro u;exact eq_str
 ·cases ha.none_inv;cases hb.none_inv;exact eq_none_none
 ·cases ha.none_inv;apply hb.dg;intro u;exact rP
 ·cases hb.none_inv;apply ha.dg;intro u;exact rN
theorem mS{a b:MV}{v:Value}{k:Bool}{h:Heap}(ha:VR ρ U h a v)(hb:VR ρ U h b v)(e:a.fe b=some k):k=true:=by
 revert ha hb
 refine uO (P:=λa b k=>VR ρ U h a v->VR ρ U h b v->k=true) e (λx y ha hb=> ?_) (λx y ha hb=> ?_) (λx y ha hb=> ?_) (λ_ _=>rfl) (λy ha hb=> ?_) (λx ha hb=> ?_)
 ·refine cN ha.int_inv λt zr1_=> ?_;subst zr1_;obtain⟨u,e⟩:=hb.int_inv;cases e;exact beq_self_eq_true _
 ·refine cN ha.d7 λt zr1_=> ?_;subst zr1_;obtain⟨u,e⟩:=hb.d7;cases e;exact beq_self_eq_true _
 ·refine cN ha.str_inv λt zr1_=> ?_;subst zr1_;obtain⟨u,e⟩:=hb.str_inv;exact (Value.str.inj e).1▸beq_self_eq_true _
 ·cases ha.none_inv;obtain⟨u,e⟩:=hb.d7;cases e
 ·cases hb.none_inv;obtain⟨u,e⟩:=ha.d7;cases e
theorem kB{va vb:Value}{Q:Bool->Shared->Prop}{k:Bool}(hs:va=vb->k=true)(hnf:∀x t,va≠ .float x t)(h:Q k s)(hc:∀Q : Value->Shared->Prop,Q (.bool k) s->wpAny (model prog w) A (compareOp .Eq va vb) Q E s) :
  wpAny (model prog w) A (eqBool va vb) Q E s:=by
 refine bl ?_
 by_cases q : va=vb
 ·have:=hs q;subst this
  refine ae (if_pos (by exact eI.mpr q))▸ ?_
  exact af (wpAny_rule (ao h))
 ·rw[if_neg (by simp[q])]
  have : wpAny (model prog w) A (richCompare .Eq va vb >>= truthOfDropped) Q E s:=by
   refine af ?_
   refine hc _ ?_
   exact ao h
  clear h hc hs q
  cases va with
  |float x t=>exact absurd rfl (hnf _ _)
  |_=>exact this
theorem VR.wP{a:MV}{va:Value}{h:Heap}(ha:VR ρ U h a va):∀x t,va≠ .float x t:=by
 intro x t
 cases a
 ·refine ae ha.none_inv▸ ?_;simp
 ·rw[ha.bool_inv];simp
 ·refine cN ha.int_inv λt zr1_=> ?_;subst zr1_;simp
 ·refine cN ha.str_inv λt zr1_=> ?_;subst zr1_;simp
 ·refine cN ha.d7 λt zr1_=> ?_;subst zr1_;simp
 ·refine wY ha.dN λt _ _ _ zr4_ _=> ?_;subst zr4_;simp
 ·rw[ha.bU.1];simp
theorem wu{a b:MV}{va vb:Value}{k:Bool}{Q:Bool->Shared->Prop}(ha:VR ρ U s.heap a va)(hb:VR ρ U s.heap b vb)(e:a.fe b=some k)(h:Q k s):wpAny (model prog w) A (eqBool va vb) Q E s:=
 kB (λq=>mS ha (q▸hb) e) ha.wP h λ_ hq=>yn ha hb e hq
end
end Internal
namespace Internal
open PySem PySem.W PyProof.Rows PySem.Calls Builtin PySem.EqNone PySem.SeqAt
noncomputable def xJ : Value->Value->Bool
 | .int a _, .int b _=>a==b
 | .bytes a _, .bytes b _=>a.toList==b.toList
 | .str a _, .str b _=>a==b
 | .none, .none=>true
 |_,_=>false
section
variable {prog:Program}{w:World}{A:Around}{E:Value->Shared->Prop}{s:Shared}{ρ:LA->Addr}{U:LA->Prop}
theorem xn{a b:MV}{va vb:Value}{k:Bool}{h:Heap}(ha:VR ρ U h a va)(hb:VR ρ U h b vb)(e:a.fe b=some k):xJ va vb=k:=by
 revert ha hb
 refine uO (P:=λa b k=>VR ρ U h a va->VR ρ U h b vb->xJ va vb=k) e (λx y ha hb=> ?_) (λx y ha hb=> ?_) (λx y ha hb=> ?_) (λha hb=> ?_) (λy ha hb=> ?_) (λx ha hb=> ?_)
 ·apply ha.eH;intro t;apply hb.eH;intro u;rfl
 ·apply ha.dg;intro t;apply hb.dg;intro u;rfl
 ·apply ha.A7;intro t;apply hb.A7;intro u;rfl
 ·cases ha.none_inv;cases hb.none_inv;rfl
 ·cases ha.none_inv;apply hb.dg;intro u;rfl
 ·cases hb.none_inv;apply ha.dg;intro u;rfl
theorem GI{a b:MV}{va vb:Value}{k:Bool}(ha:VR ρ U s.heap a va)(hb:VR ρ U s.heap b vb)(e:a.fe b=some k):EqAt A s va vb k:=
 λ_ _ _ _ hq=>wu ha hb e hq
theorem e8{vs:List MV}{xs:Array Value}{h:Heap}(r:cR ρ U h vs xs.toList){j:Nat}(hj:j < xs.size):∃v,vs[j]?=some v/\VR ρ U h v xs[j]:=by
 have hj' : j < vs.length:=by refine r.len▸ ?_;simpa using hj
 refine aT (r.get (i:=j) (v:=vs[j]) (by exact ay hj')) λy e q=> ?_
 refine⟨vs[j],by exact ay hj', ?_⟩
 replace e:=c9▸e
 have:=Array.getElem?_eq_some_iff.mp e
 obtain⟨_,rfl⟩:=this
 exact q
noncomputable def pair(eqf:MV->MV->Option Bool)(vs ws:List MV)(j:Nat):Bool:=match vs[j]?,ws[j]? with
 |some a,some b=>(eqf a b).getD false
 |_,_=>false
noncomputable def ga(eqf:MV->MV->Option Bool):List MV->List MV->Bool
 |x::xs,y::ys=>(eqf x y).isSome&&ga eqf xs ys
 |_,_=>true
theorem qy{eqf:MV->MV->Option Bool}:∀ {vs ws:List MV},ga eqf vs ws=true->∀ (j:Nat){a b:MV},vs[j]?=some a->ws[j]?=some b->eqf a b=some (pair eqf vs ws j)
 | [],_,_,_,_,_,e,_=>by simp at e
 |_::_,[],_,_,_,_,_,e=>by simp at e
 |x::xs,y::ys,h,0,a,b,e1,e2=>by
  simp only[List.getElem?_cons_zero,Option.some.injEq] at e1 e2
  subst e1 e2
  simp only[ga,Bool.and_eq_true] at h
  obtain⟨k,hk⟩:=cb.mp h.1
  simp[pair,hk]
 |x::xs,y::ys,h,j+1,a,b,e1,e2=>by
  simp only[List.getElem?_cons_succ] at e1 e2
  simp only[ga,Bool.and_eq_true] at h
  have:=qy h.2 j e1 e2
  simpa [pair] using this
noncomputable def ph(eqf:MV->MV->Option Bool):List MV->List MV->Bool
 | [],[]=>true
 |x::xs,y::ys=>(eqf x y).getD false&&ph eqf xs ys
 |_,_=>false
theorem q9(p:Nat->Bool)(n:Nat):(List.range (n+1)).all p=(p 0&&(List.range n).all λj=>p (j+1)):=by
 rw[List.range_succ_eq_map];exact ah _ List.all_map
theorem nF(eqf:MV->MV->Option Bool):∀vs ws : List MV,((List.range (min vs.length ws.length)).all (pair eqf vs ws)&&vs.length==ws.length)=ph eqf vs ws
 | [],[]=>by exact Bool.and_self ((List.range (Min.min [].length [].length)).all (pair eqf [] []))
 | [],_::_=>by rfl
 |_::_,[]=>by exact ae ((λ{a b}=>Bool.eq_and_self.mpr) (congrFun rfl))
 |x::xs,y::ys=>by
  refine ae cy▸ ?_;rw[cy,Nat.succ_min_succ,q9,ph];refine (nF eqf xs ys)▸ ?_
  refine ae (show pair eqf (x::xs) (y::ys) 0=(eqf x y).getD false by exact Bool.le_antisymm (λa=>a) λa=>a)▸ae (show (λj=>pair eqf (x::xs) (y::ys) (j+1))=pair eqf xs ys by funext j;rfl)▸ ?_;refine (Bool.and_assoc ..).trans ?_
  simp
theorem ut{a:Addr}{o:Obj}{xs:Array Value}{ep:Nat}(e:s.heap.get? a=some o)(c:o.cls= .type "tuple") (d:o.data= .seq xs ep):s.heap.IsTuple a xs:=⟨o,e,c,ep,d⟩
noncomputable def MV.ia : MV->MV->Option Bool
 | .tup xs, .tup ys=>if ga MV.fe xs ys then some (ph MV.fe xs ys) else Option.none
 | .tup _, .none=>some false
 | .none, .tup _=>some false
 |a,b=>a.fe b
theorem vD{P:MV->MV->Bool->Prop}{a b:MV}{k:Bool}(e:a.ia b=some k)(hf:a.fe b=some k->P a b k)(ht:∀x y,ga MV.fe x y=true->P (.tup x) (.tup y) (ph MV.fe x y))(h1:∀x,P (.tup x) .none false)(h2:∀y,P .none (.tup y) false):P a b k:=by
 cases a with
 |tup x=>cases b with
  |tup y=>
   have e : (if ga MV.fe x y then some (ph MV.fe x y) else Option.none)=some k:=e
   cases q : ga MV.fe x y with
   |true=>rw[q] at e;exact aP e▸ht x y q
   |false=>(replace e:=q▸e);cases e
  |none=>exact aP e▸h1 x
  |_=>exact hf e
 |none=>cases b with
  |tup y=>exact aP e▸h2 y
  |_=>exact hf e
 |_=>exact hf e
theorem Iq{xs ys:List MV}{va vb:Value}(hu:A.units < cLine)(ha:VR ρ U s.heap (.tup xs) va)(hb:VR ρ U s.heap (.tup ys) vb)(ht:ga MV.fe xs ys=true):RcAt A s va vb (ph MV.fe xs ys):=by
 refine qw ha.dN λa o X ep zr4_ e1 c1 d1 r1=> ?_;subst zr4_
 refine qw hb.dN λb o2 Y ep2 zr4_ e2 c2 d2 r2=> ?_;subst zr4_
 have:=RcAt.tuples (A:=A) (e:=pair MV.fe xs ys) (ut e1 c1 d1) (ut e2 c2 d2) hu λj h1 h2=>by
  refine aT (e8 r1 h1) λx p1 q1=> ?_
  refine aT (e8 r2 h2) λy p2 q2=> ?_
  exact GI q1 q2 (qy ht j p1 p2)
 rw[(show X.size=xs.length by simpa using r1.len),(show Y.size=ys.length by simpa using r2.len),nF] at this
 exact this
theorem wN{xs:List MV}{va:Value}(hu:A.units < cLine)(ha:VR ρ U s.heap (.tup xs) va):RcAt A s va .none false:=by
 refine qw ha.dN λa o X ep zr4_ e1 c1 d1 r1=> ?_;subst zr4_
 exact RcAt.tuple_none (ut e1 c1 d1) hu
theorem v7{xs:List MV}{va:Value}(hu:A.units < cLine)(ha:VR ρ U s.heap (.tup xs) va):RcAt A s .none va false:=by
 refine qw ha.dN λa o X ep zr4_ e1 c1 d1 r1=> ?_;subst zr4_
 exact RcAt.none_tuple (ut e1 c1 d1) hu
theorem KI{a b:MV}{va vb:Value}{k:Bool}(ha:VR ρ U s.heap a va)(hb:VR ρ U s.heap b vb)(e:a.fe b=some k):RcAt A s va vb k:=
 λ_ _ _ _ hq=>yn ha hb e hq
theorem CH{a b:MV}{va vb:Value}{k:Bool}(hu:A.units < cLine)(ha:VR ρ U s.heap a va)(hb:VR ρ U s.heap b vb)(e:a.ia b=some k):RcAt A s va vb k:=by
 revert ha hb
 refine vD (P:=λa b k=>VR ρ U s.heap a va->VR ρ U s.heap b vb->RcAt A s va vb k) e (λe ha hb=>KI ha hb e) (λx y ht ha hb=>Iq hu ha hb ht) (λx ha hb=> ?_) λy ha hb=> ?_
 ·cases hb.none_inv;exact wN hu ha
 ·cases ha.none_inv;exact v7 hu hb
end
section
variable {prog:Program}{w:World}{A:Around}{E:Value->Shared->Prop}{s:Shared}{ρ:LA->Addr}{U:LA->Prop}
theorem vT{h:Heap}:∀ {xs ys:List MV}{vs:List Value},cR ρ U h xs vs->cR ρ U h ys vs->ga MV.fe xs ys=true->ph MV.fe xs ys=true
 | [],ys,vs,ha,hb,_=>by
  have:=ha.nil_inv;subst this
  cases ys with
  |nil=>rfl
  |cons y ys=>refine eA hb.cons_inv λ_ _ q _=> ?_;cases q
 |x::xs,ys,vs,ha,hb,ht=>by
  refine eT ha.cons_inv λv vs' q a1 a2=> ?_
  subst q
  cases ys with
  |nil=>have:=hb.nil_inv;cases this
  |cons y ys=>
   refine eT hb.cons_inv λv' vs'' q b1 b2=> ?_
   cases q
   simp only[ga,Bool.and_eq_true] at ht
   obtain⟨k,hk⟩:=cb.mp ht.1
   have:=mS a1 b1 hk
   subst this
   simp only[ph,hk,Option.getD_some,Bool.true_and]
   exact vT a2 b2 ht.2
theorem C7{a b:MV}{v:Value}{k:Bool}{h:Heap}(ha:VR ρ U h a v)(hb:VR ρ U h b v)(e:a.ia b=some k):k=true:=by
 revert ha hb
 refine vD (P:=λa b k=>VR ρ U h a v->VR ρ U h b v->k=true) e (λe ha hb=>mS ha hb e) (λx y ht ha hb=> ?_) (λx ha hb=> ?_) λy ha hb=> ?_
 ·refine qw ha.dN λx o X ep zr4_ e1 _ d1 r1=> ?_;subst zr4_
  refine qw hb.dN λy o2 Y ep2 q e2 _ d2 r2=> ?_
  cases q
  cases e1.symm.trans e2
  cases d1.symm.trans d2
  exact vT r1 r2 ht
 ·cases hb.none_inv;obtain⟨_,_,_,_,q,_⟩:=ha.dN;cases q
 ·cases ha.none_inv;obtain⟨_,_,_,_,q,_⟩:=hb.dN;cases q
theorem Ih{a b:MV}{va vb:Value}{k:Bool}(hu:A.units < cLine)(ha:VR ρ U s.heap a va)(hb:VR ρ U s.heap b vb)(e:a.ia b=some k):EqAt A s va vb k:=
 λprog w E _ hq=>kB (λq=>C7 ha (q▸hb) e) ha.wP hq λ_ h=>CH hu ha hb e prog w E _ h
theorem uw{l b:Addr}{X Y:Array Value}{vs ws:List MV}(hu:A.units+1 < cLine)(hl:s.heap.IsList l X)(hb:s.heap.IsList b Y)(r1:cR ρ U s.heap vs X.toList)(r2:cR ρ U s.heap ws Y.toList)
  (ht:ga MV.ia vs ws=true):RcAt A s (.ref l) (.ref b) (ph MV.ia vs ws)/\RcNeAt A s (.ref l) (.ref b) (!ph MV.ia vs ws):=by
 have l1 : X.size=vs.length:=by simpa using r1.len
 have l2 : Y.size=ws.length:=by simpa using r2.len
 by_cases q : X.size=Y.size
 ·have he : ∀j (h1:j < X.size)(h2:j < Y.size),EqAt A.in1 s X[j] Y[j] (pair MV.ia vs ws j):=λj h1 h2=>by
   refine aT (e8 r1 h1) λx p1 q1=> ?_
   refine aT (e8 r2 h2) λy p2 q2=> ?_
   exact Ih (by simpa using hu) q1 q2 (qy ht j p1 p2)
  have z : (List.range X.size).all (pair MV.ia vs ws)=ph MV.ia vs ws:=by
   rw[<-nF];refine l1▸ ?_;rw[<-l2,<-q];refine ae (Nat.min_self ..)▸ ?_;simp
  exact⟨z▸RcAt.lists hl hb q (az (Nat.le_add_right_of_le (aG _)) hu) he,z▸RcNeAt.lists hl hb q (az (Nat.le_add_right_of_le (aG _)) hu) he⟩
 ·have z : ph MV.ia vs ws=false:=by rw[<-nF];refine l1▸ ?_;refine l2▸ ?_;simp[q]
  refine ae z▸ ?_
  exact⟨RcAt.lists_lengths hl hb (by simpa using q) (az (Nat.le_add_right_of_le (aG _)) hu),RcNeAt.lists_lengths hl hb (by simpa using q) (az (Nat.le_add_right_of_le (aG _)) hu)⟩
theorem nW{vs:List MV}{X:Array Value}{x:MV}{vx:Value}(r:cR ρ U s.heap vs X.toList)(hx:VR ρ U s.heap x vx)(ht:vs.all (λv=>(v.fe x).isSome)=true) :
  X.any (λy=>xJ y vx)=vs.any (λv=>(v.fe x).getD false)/\∀y∈X,EqAt A s y vx (xJ y vx):=by
 have aux : ∀ {ys:List Value},cR ρ U s.heap vs ys->ys.any (λy=>xJ y vx)=vs.any (λv=>(v.fe x).getD false)/\∀y∈ys,EqAt A s y vx (xJ y vx):=by
  clear r
  induction vs with
  |nil=>intro ys r;refine ae r.nil_inv▸ ?_;exact⟨rfl,λ_ h=>absurd h List.not_mem_nil⟩
  |cons v vs ih=>
   intro ys r
   refine eT r.cons_inv λy ys' zr2_ a b=> ?_;subst zr2_
   have ht:=an.mp (List.all_cons.symm.trans ht)
   refine cN (cb.mp ht.1) λk hk=> ?_
   refine⟨by refine (List.any_cons).trans ?_;rw[List.any_cons];refine (ah _ (ih ht.2 b).1).trans ?_;rw[(xn a hx hk),hk];rfl,λz hz=> ?_⟩
   rcases aK.mp hz with rfl | hz
   ·refine ae (xn a hx hk)▸ ?_;exact GI a hx hk
   ·exact (ih ht.2 b).2 z hz
 exact⟨Array.any_toList.symm.trans (aux r).1,λy hy=>(aux r).2 y (Array.mem_toList_iff.mpr hy)⟩
end
section
variable {cx:Cx}{n:Nat}{fd:Fd}
noncomputable def M5 : MV->Bool
 | .none=>true
 |_=>false
theorem VR.isN{ρ:LA->Addr}{U:LA->Prop}{h:Heap}{a:MV}{v:Value}(r:VR ρ U h a v):(v== .none)=Internal.M5 a:=by
 cases a with
 |none=>(refine ae r.none_inv▸ ?_);rfl
 |bool=>(refine ae r.bool_inv▸ ?_);rfl
 |int=>refine cN r.int_inv λ_ e=> ?_;refine ae e▸ ?_;rfl
 |str=>refine cN r.str_inv λ_ e=> ?_;rw[e];rfl
 |bytes=>refine cN r.d7 λ_ e=> ?_;rw[e];rfl
 |tup=>refine wY r.dN λ_ _ _ _ e _=> ?_;refine ae e▸ ?_;rfl
 |ref=>(refine ae r.bU.1▸ ?_);rfl
inductive JT(σ:MH):MV->MV->Bool->Prop where
 |none {a}:JT σ a .none (Internal.M5 a)
 |ref {l m C d} (e:σ.get l=some (.inst C d))(u:σ.us m):JT σ (.ref l) (.ref m) (decide (l=m))
inductive iB(loc:Loc)(σ:MH)(Q:MV->Loc->MH->Prop):CmpOp->MV->MV->Prop where
 |lt {x y} (h:Q (.bool (decide (x < y))) loc σ):iB loc σ Q .Lt (.int x) (.int y)
 |le {x y} (h:Q (.bool (decide (x<=y))) loc σ):iB loc σ Q .LtE (.int x) (.int y)
 |gt {x y} (h:Q (.bool (decide (x > y))) loc σ):iB loc σ Q .Gt (.int x) (.int y)
 |ge {x y} (h:Q (.bool (decide (x≥y))) loc σ):iB loc σ Q .GtE (.int x) (.int y)
 |ne {x y} (h:Q (.bool (x != y)) loc σ):iB loc σ Q .NotEq (.int x) (.int y)
 |Ly {x y} (h:Q (.bool (!(x==y))) loc σ):iB loc σ Q .NotEq (.bool x) (.bool y)
 |is {x y k} (e:JT σ x y k)(h:Q (.bool k) loc σ):iB loc σ Q .Is x y
 |vn {x y k} (e:JT σ x y k)(h:Q (.bool (!k)) loc σ):iB loc σ Q .IsNot x y
 |K0 {k l vs ws} (e:σ.get k=some (.list vs))(f:σ.get l=some (.list ws))(t:ga MV.ia vs ws=true)(h:Q (.bool (ph MV.ia vs ws)) loc σ):iB loc σ Q .Eq (.ref k) (.ref l)
 |M0 {k l o vs ws} (e:σ.get k=some (.fz o vs))(f:σ.get l=some (.list ws))(t:ga MV.ia vs ws=true)(h:Q (.bool (ph MV.ia vs ws)) loc σ):iB loc σ Q .Eq (.ref k) (.ref l)
 |Jy {k l vs ws} (e:σ.get k=some (.list vs))(f:σ.get l=some (.list ws))(t:ga MV.ia vs ws=true)(h:Q (.bool (!ph MV.ia vs ws)) loc σ):iB loc σ Q .NotEq (.ref k) (.ref l)
 |eq {x y k} (e:x.ia y=some k)(h:Q (.bool k) loc σ):iB loc σ Q .Eq x y
 |MZ {x l vs} (e:σ.get l=some (.list vs))(t:vs.all (λv=>(v.fe x).isSome)=true)(h:Q (.bool (vs.any λv=>(v.fe x).getD false)) loc σ):iB loc σ Q .In x (.ref l)
 |Nc {x l vs} (e:σ.get l=some (.list vs))(t:vs.all (λv=>(v.fe x).isSome)=true)(h:Q (.bool (!vs.any λv=>(v.fe x).getD false)) loc σ):iB loc σ Q .NotIn x (.ref l)
 |inD {k l es} (e:σ.get l=some (.bS es))(h:Q (.bool (es.lookup k).isSome) loc σ):iB loc σ Q .In (.int k) (.ref l)
 |Nf {x vs} (t:vs.all (λv=>(v.fe x).isSome)=true)(h:Q (.bool (vs.any λv=>(v.fe x).getD false)) loc σ):iB loc σ Q .In x (.tup vs)
 |Ln {x vs} (t:vs.all (λv=>(v.fe x).isSome)=true)(h:Q (.bool (!vs.any λv=>(v.fe x).getD false)) loc σ):iB loc σ Q .NotIn x (.tup vs)
noncomputable abbrev P.cmp(op:CmpOp)(a b:MV):P MV:=λloc σ Q _=>iB loc σ Q op a b
end
theorem oX : ∀ {a b:List Char},a.map Char.toNat=b.map Char.toNat->a=b
 | [],[],_=>rfl
 | [],_::_,h=>by simp at h
 |_::_,[],h=>by simp at h
 |x::xs,y::ys,h=>by
  simp only[List.map_cons,List.cons.injEq] at h
  exact ae (oX h.2)▸ae (Char.toNat_inj.mp h.1)▸rfl
theorem gx{a b:String}(h:Str.ofString a=Str.ofString b):a=b:=by
 rw[Str.ofString_eq_toList,Str.ofString_eq_toList] at h
 have:=oX (a:=a.toList) (b:=b.toList) (by simpa using h)
 exact String.ext_iff.mpr (by simpa using this)
section
variable {ρ:LA->Addr}{U:LA->Prop}{h:Heap}{κ K:Type} [BEq κ] [LawfulBEq κ] [DecidableEq K] {enc:κ->K}
omit [BEq κ] [LawfulBEq κ] in
theorem tU{a k:K}{y:Value}{ys:List (K×Value)}:valueAt ((a,y)::ys) k=if a=k then some y else valueAt ys k:=by
 unfold valueAt
 refine (ah _ List.find?_cons).trans ?_
 by_cases q : a=k
 ·rw[if_pos q,aZ q];rfl
 ·rw[if_neg q,bz q]
theorem iy.lookup(inj:∀a b,enc a=enc b->a=b){es:List (κ×MV)}{kvs:List (K×Value)}(x:iy ρ U h enc es kvs)(k:κ):xH ρ U h (es.lookup k) (valueAt kvs (enc k)):=by
 induction x with
 |nil=>exact .no
 |@cons k' v y es ys a b ih=>
  rw[List.lookup_cons,tU]
  cases q : k==k' with
  |true=>rw[if_pos (ah enc (eI.mp q).symm)];exact .so a
  |false=>rw[if_neg λz=>ne_of_beq_false q (inj _ _ z).symm];exact ih
omit [BEq κ] [LawfulBEq κ] [DecidableEq K] in
theorem iy.len{es:List (κ×MV)}{kvs:List (K×Value)}(x:iy ρ U h enc es kvs):kvs.length=es.length:=by
 induction x with
 |nil=>rfl
 |cons _ _ ih=>exact ah Nat.succ ih
end
section
variable {cx:Cx}{n:Nat}{fd:Fd}
theorem sT{A:Around}{ρ:LA->Addr}{σ:MH}{loc:Loc}{s:Shared}{E:Value->Shared->Prop}(G:Good cx n fd A ρ σ loc s){a b:MV}{va vb:Value}(ha:VR ρ σ.us s.heap a va)(hb:VR ρ σ.us s.heap b vb){k:Bool}(e:JT σ a b k)
  {Q:Bool->Shared->Prop}(h:Q k s):wpAny cx.M A (isSame va vb) Q E s:=by
 induction e with
 |none=>(refine ae hb.none_inv▸ ?_);exact bG (PySem.isSame_none va) (ha.isN▸h)
 |@ref l m C d e u=>
  refine dw ha.bU λea ul=> ?_
  refine ae ea▸ae hb.bU.1▸ ?_
  by_cases q : l=m
  ·subst q;exact wpAny_isSame_ref_self (aZ (p:=l=l) rfl▸h)
  ·obtain⟨_,o2,e2,_⟩:=G.low m u
   exact wpAny_isSame_ref_other (λz=>q (G.inj _ _ ul u z)) (G.obj _ _ e).2.1 e2 (λz=>nomatch z) (bz q▸h)
theorem eE{A:Around}{ρ:LA->Addr}{σ:MH}{loc:Loc}{s:Shared}(G:Good cx n fd A ρ σ loc s){l:LA}(hl:σ.us l):(ρ l==sysModules)=false:=by
 refine beq_eq_false_iff_ne.mpr λq=> ?_
 exact iH ((G.low l hl).1) (q▸(az (by decide +kernel) cx.g.lt))
theorem Good.isList{A:Around}{ρ:LA->Addr}{σ:MH}{loc:Loc}{s:Shared}(G:Good cx n fd A ρ σ loc s){l:LA}{vs:List MV}(e:σ.get l=some (.list vs)):∃X,s.heap.IsList (ρ l) X/\cR ρ σ.us s.heap vs X.toList:=by
 refine eA (G.list e) λX ep o r=> ?_;exact⟨X,⟨_,o,rfl,ep,rfl⟩,r⟩
theorem Good.Jg{A:Around}{ρ:LA->Addr}{σ:MH}{loc:Loc}{s:Shared}(G:Good cx n fd A ρ σ loc s){l:LA}{o:Obj}{vs:List MV}(e:σ.get l=some (.fz o vs)):∃X,s.heap.IsList (ρ l) X/\cR ρ σ.us s.heap vs X.toList:=by
 obtain⟨o1,X,ep,rfl,r⟩:=(G.obj _ _ e).2;exact⟨X,⟨_,o1,rfl,ep,rfl⟩,r⟩
theorem VR.isTup{ρ:LA->Addr}{U:LA->Prop}{h:Heap}{vs:List MV}{v:Value}(x:VR ρ U h (.tup vs) v):∃a X,v= .ref a/\h.IsTuple a X/\cR ρ U h vs X.toList:=by
 refine qw x.dN λa o X ep zr4_ e c d r=> ?_;subst zr4_;exact⟨a,X,rfl,⟨o,e,c,ep,d⟩,r⟩
theorem Good.inD{A:Around}{ρ:LA->Addr}{σ:MH}{loc:Loc}{s:Shared}(G:Good cx n fd A ρ σ loc s){l:LA}{es:List (Int×MV)}(e:σ.get l=some (.bS es)):∃kvs,s.heap.DictOf (intKind cx.prog cx.w) (ρ l) kvs/\∀k,(valueAt kvs k).isSome=(es.lookup k).isSome:=by
 refine aT ((G.obj _ _ e).2) λkvs d r=> ?_
 exact⟨kvs,d,λk=>(r.lookup (λ_ _ z=>z) k).same⟩
theorem F3{op:CmpOp}{a b:MV}{va vb:Value}:nS cx n fd (λρ U h=>VR ρ U h a va/\VR ρ U h b vb) VR (compareOp op va vb) (P.cmp op a b):=by
 intro A ρ σ loc s Q X G hp hm
 obtain⟨ha,hb⟩:=hp
 have hu : A.units+1 < cLine:=az (bF (a9 ..) (by decide:1<=100)) G.ak.un
 have tk : ∀ {k:Bool},Q (.bool k) loc σ->Out cx n fd A ρ σ s VR Q (.bool k) s:=λh=>Out.now G .bool h
 have tt : ∀ {k:Bool},Q (.bool k) loc σ->Out cx n fd A ρ σ s VR Q (.bool k) { s with toks:=s.toks+1 }:=λh=>Out.pre (Step.tok _) (Out.now (G.tok _) .bool h)
 generalize Out cx n fd A ρ σ s VR Q=Q' at tk tt ⊢
 generalize ey cx n fd A ρ σ s X=E' at ⊢
 induction hm with
 |lt h=>apply VR.fK ha hb;exact λ_ _=>lt_int (tk h)
 |le h=>apply VR.fK ha hb;exact λ_ _=>le_int (tk h)
 |gt h=>apply VR.fK ha hb;exact λ_ _=>gt_int (tk h)
 |ge h=>apply VR.fK ha hb;exact λ_ _=>ge_int (tk h)
 |ne h=>apply VR.fK ha hb;exact λ_ _=>ne_int (tk h)
 |Ly h=>refine ae ha.bool_inv▸ae hb.bool_inv▸ ?_;exact RcNeAt.bool_bool _ _ cx.prog cx.w _ _ (tk h)
 |is e h=>exact af (sT G ha hb e (ao (tk h)))
 |vn e h=>exact af (sT G ha hb e (ao (tk h)))
 |K0 e f t h=>
  obtain⟨X,i,r⟩:=G.isList e
  obtain⟨Y,j,q⟩:=G.isList f
  refine ae ha.bU.1▸ae hb.bU.1▸ ?_
  exact (uw hu i j r q t).1 cx.prog cx.w _ _ (tk h)
 |M0 e f t h=>
  refine aT (G.Jg e) λX i r=> ?_
  obtain⟨Y,j,q⟩:=G.isList f
  refine ae ha.bU.1▸ae hb.bU.1▸ ?_
  exact (uw hu i j r q t).1 cx.prog cx.w _ _ (tk h)
 |Jy e f t h=>
  obtain⟨X,i,r⟩:=G.isList e
  obtain⟨Y,j,q⟩:=G.isList f
  refine ae ha.bU.1▸ae hb.bU.1▸ ?_
  exact (uw hu i j r q t).2 cx.prog cx.w _ _ (tk h)
 |eq e h=>exact CH (by exact wR hu) ha hb e cx.prog cx.w _ _ (tk h)
 |MZ e t h=>
  obtain⟨X,i,r⟩:=G.isList e
  have z:=nW (A:=A.in1) r ha t
  refine ae hb.bU.1▸ ?_
  exact in_listAt (λy=>xJ y va) i z.2 (z.1▸tk h)
 |Nc e t h=>
  obtain⟨X,i,r⟩:=G.isList e
  have z:=nW (A:=A.in1) r ha t
  refine ae hb.bU.1▸ ?_
  exact notIn_listAt (λy=>xJ y va) i z.2 (z.1▸tk h)
 |inD e h=>
  refine aT (G.inD e) λkvs d r=> ?_
  apply ha.eH;intro t;apply hb.eB;intro u
  exact wpAny_in_of (knd:=intKind cx.prog cx.w) (beq_self_eq_true _) (eE G u) d.mapOf (tt (r _▸h))
 |Nf t h=>
  obtain⟨c,X,rfl,i,r⟩:=hb.isTup
  have z:=nW (A:=A.in1) r ha t
  exact in_tupleAt (λy=>xJ y va) i z.2 (z.1▸tk h)
 |Ln t h=>
  obtain⟨c,X,rfl,i,r⟩:=hb.isTup
  have z:=nW (A:=A.in1) r ha t
  exact notIn_tupleAt (λy=>xJ y va) i z.2 (z.1▸tk h)
theorem kG{op:CmpOp}{a b:MV}{va vb:Value}:aM cx n fd (λρ U h=>VR ρ U h a va/\VR ρ U h b vb) VR (compareOp op va vb) (P.cmp op a b):=F3.n
end
end Internal
namespace Internal
open PySem PySem.W PyProof.Rows PySem.Calls
noncomputable abbrev P.cond{α:Type}(t:P Bool)(a b:P α):P α:=λloc σ Q X=>t loc σ (λc loc' σ'=>bif c then a loc' σ' Q X else b loc' σ' Q X) X
section
variable {cx:Cx}{n:Nat}{fd:Fd}
noncomputable abbrev gz(cx:Cx)(n:Nat)(fd:Fd)(e:Expr)(m:P Bool):Prop:=eO cx n fd cg.bool (isTrue e fd.env (eval e fd.env)) m
theorem eD{M:Model}{A:Around}{E:Value->Shared->Prop}{s:Shared}{vs keep:List Value}{Q:Unit->Shared->Prop}(h:Q () s):cW M A (release vs keep) Q E s:= .of (wpAny_release h)
theorem aM.tt{α β:Type}{R:cg α β}{p:Pre}{t:Sem β}{m:P α}(h:eO cx n fd R t m):aM cx n fd p R t m:=h.weak λ_ _ _ _=>trivial
theorem aM.gU{e:Expr}{m:P MV}{p:Pre}(hp:bM p)(h:bO cx n fd e m):aM cx n fd p (λρ U h a b=>VR ρ U h a b/\p ρ U h) (eval e fd.env) m:=
 (aM.frame hp h).weak λ_ _ _ q=>⟨trivial,q⟩
theorem aM.operate{p:Pre}{R:cg MV Value}{ops:List Value}{t:Sem Value}{m:P MV}(h:aM cx n fd p R t m):aM cx n fd p R (operate ops t) m:=
 λA ρ σ loc s Q X G hp hm=>j7 (h A ρ σ loc s Q X G hp hm)
theorem AR{l r:Expr}{op:Operator}{pos:Pos}{m1 m2:P MV}(h1:bO cx n fd l m1)(h2:bO cx n fd r m2) :
  bO cx n fd (.BinOp l op r pos) (m1.bind λa=>m2.bind λb=>P.bin op a b):=by
 refine aM.bind h1 λa va=> ?_
 refine aM.bind (aM.holding (aM.gU bM.vr h2)) λb vb=> ?_
 refine aM.standAt (aM.operate (FQ.weak λρ U h q=> ?_))
 exact⟨q.2,q.1⟩
theorem uD{l r:Expr}{op:CmpOp}{pos:Pos}{m1 m2:P MV}(h1:bO cx n fd l m1)(h2:bO cx n fd r m2)(hb:lastMarks [op] [r]=false) :
  bO cx n fd (.Compare l [op] [r] pos) (m1.bind λa=>m2.bind λb=>P.cmp op a b):=by
 have e : eval (.Compare l [op] [r] pos) fd.env=(eval l fd.env >>= λa=>holding [a] (eval r fd.env) >>= λb=>standAt pos >>= λ_=>operate [a,b] (compareOp op a b)):=by
  show (eval l fd.env >>= λa=>compareChain pos a [op] (markedEach [op] [r] [eval r fd.env]))=_
  refine ae (markedEach_of_false _ _ _ hb)▸ ?_;rfl
 show eO cx n fd VR _ _
 refine ae e▸ ?_
 refine aM.bind h1 λa va=> ?_
 refine aM.bind (aM.holding (aM.gU bM.vr h2)) λb vb=> ?_
 exact aM.standAt (aM.operate (kG.weak λρ U h q=>⟨q.2,q.1⟩))
theorem si{l r:Expr}{op:CmpOp}{pos:Pos}{m1 m2:P MV}(h1:bO cx n fd l m1)(h2:bO cx n fd r m2)(hb:lastMarks [op] [r]=false) :
  gz cx n fd (.Compare l [op] [r] pos) (m1.bind λa=>m2.bind λb=>(P.cmp op a b).bind P.truth):=by
 have e : isTrue (.Compare l [op] [r] pos) fd.env (eval (.Compare l [op] [r] pos) fd.env)=(eval l fd.env >>= λa=>holding [a] (eval r fd.env) >>= λb=>standAt pos >>= λ_=>operate [a,b] (compareOp op a b) >>= λc=>holding [c] (truthy c)):=by
  show (eval l fd.env >>= λa=>testChain pos a [op] (markedEach [op] [r] [eval r fd.env]))=_
  refine ae (markedEach_of_false _ _ _ hb)▸ ?_;rfl
 show eO cx n fd cg.bool _ _
 refine ae e▸ ?_
 refine aM.bind h1 λa va=> ?_
 refine aM.bind (aM.holding (aM.gU bM.vr h2)) λb vb=> ?_
 refine aM.standAt (aM.bind (aM.operate (kG.weak λρ U h q=>⟨q.2,q.1⟩)) λc vc=>aM.holding fP)
theorem rI{l r1 r2:Expr}{o1 o2:CmpOp}{pos:Pos}{m1 m2 m3:P MV}(h1:bO cx n fd l m1)(h2:bO cx n fd r1 m2)(h3:bO cx n fd r2 m3)(hb:lastMarks [o1,o2] [r1,r2]=false) :
  gz cx n fd (.Compare l [o1,o2] [r1,r2] pos) (m1.bind λa=>m2.bind λb=>P.cond ((P.cmp o1 a b).bind P.truth) (m3.bind λc=>(P.cmp o2 b c).bind P.truth) (P.ret false)):=by
 have e : isTrue (.Compare l [o1,o2] [r1,r2] pos) fd.env (eval (.Compare l [o1,o2] [r1,r2] pos) fd.env)=(eval l fd.env >>= λa=>holding [a] (eval r1 fd.env) >>= λb=>standAt pos >>= λ_=>
   holding [a,b] (compareOp o1 a b) >>= λc=>release [a,b] [c] >>= λ_=>holding [c,b] (truthy c) >>= λt=>if t then
    (holding [b] (eval r2 fd.env) >>= λd=>standAt pos >>= λ_=>operate [b,d] (compareOp o2 b d) >>= λc=>holding [c] (truthy c)) else pure false):=by
  show (eval l fd.env >>= λa=>testChain pos a [o1,o2] (markedEach [o1,o2] [r1,r2] [eval r1 fd.env,eval r2 fd.env]))=_
  refine ae (markedEach_of_false _ _ _ hb)▸ ?_;rfl
 show eO cx n fd cg.bool _ _
 rw[e]
 refine aM.bind h1 λa va=> ?_
 refine aM.bind (aM.holding (aM.gU bM.vr h2)) λb vb=> ?_
 refine aM.standAt ?_
 have hc : aM cx n fd (λρ U h=>(VR ρ U h b vb/\VR ρ U h a va)) (λρ U h x y=>VR ρ U h x y/\VR ρ U h b vb) (compareOp o1 va vb) (P.cmp o1 a b):=
  (aM.frame (q:=λρ U h=>VR ρ U h b vb) bM.vr (kG (op:=o1) (a:=a) (b:=b) (va:=va) (vb:=vb))).weak λ_ _ _ q=>⟨⟨q.2,q.1⟩,q.1⟩
 intro A ρ σ loc s Q X G hp hm
 refine ai (aJ (aD (hc A ρ σ loc s _ X G hp hm) (λvc s1 h=> ?_) λ_ _ y=>y))
 obtain⟨c,ρ1,σ1,l1,S1,G1,⟨rc,rb⟩,hq⟩:=h
 refine ai (eD (ai (aJ ?_)))
 refine aD ((aM.frame (q:=λρ U h=>VR ρ U h b vb) bM.vr (fP (cx:=cx) (n:=n) (fd:=fd) (a:=c) (v:=vc))) A ρ1 σ1 l1 s1 _ X G1 ⟨rc,rb⟩ hq) (λt s2 h=> ?_) λ_ _ y=>y.pre S1
 obtain⟨t',ρ2,σ2,l2,S2,G2,⟨e2,rb2⟩,hq2⟩:=h
 cases e2
 cases t with
 |false=>exact ax ((Out.now G2 rfl hq2).pre (S1.trans S2))
 |true=>
  have hrest : aM cx n fd (λρ U h=>VR ρ U h b vb) cg.bool (holding [vb] (eval r2 fd.env) >>= λd=>standAt pos >>= λ_=>operate [vb,d] (compareOp o2 vb d) >>= λc=>holding [c] (truthy c)) (m3.bind λc=>(P.cmp o2 b c).bind P.truth):=by
   refine aM.bind (aM.holding (aM.gU bM.vr h3)) λd vd=> ?_
   exact aM.standAt (aM.bind (aM.operate (kG.weak λρ U h q=>⟨q.2,q.1⟩)) λc vc=>aM.holding fP)
  exact aD (hrest A ρ2 σ2 l2 s2 Q X G2 rb2 hq2) (λ_ _ y=>y.pre (S1.trans S2)) λ_ _ y=>y.pre (S1.trans S2)
theorem aM.cond{α β:Type}{R:cg α β}{p:Pre}(hp:bM p){t:Sem Bool}{f g:Sem β}{mt:P Bool}{a b:P α}(ht:aM cx n fd p cg.bool t mt)(hf:aM cx n fd p R f a)(hg:aM cx n fd p R g b) :
  aM cx n fd p R (t >>= λc=>if c=true then f else g) (P.cond mt a b):=by
 intro A ρ σ loc s Q X G q hm
 refine ai (aD ((aM.frame hp ht) A ρ σ loc s _ X G ⟨q,q⟩ hm) (λt s1 h=> ?_) λ_ _ y=>y)
 obtain⟨t',ρ1,σ1,l1,S1,G1,⟨e,q1⟩,hq⟩:=h
 cases e
 cases t with
 |true=>exact aD (hf A ρ1 σ1 l1 s1 Q X G1 q1 hq) (λ_ _ y=>y.pre S1) λ_ _ y=>y.pre S1
 |false=>exact aD (hg A ρ1 σ1 l1 s1 Q X G1 q1 hq) (λ_ _ y=>y.pre S1) λ_ _ y=>y.pre S1
theorem Ae{t a b:Expr}{pos:Pos}{mt:P Bool}{ma mb:P MV}(ht:gz cx n fd t mt)(ha:bO cx n fd a ma)(hb:bO cx n fd b mb):bO cx n fd (.IfExp t a b pos) (P.cond mt ma mb):=by
 exact aM.cond bM.tt ht ha hb
noncomputable abbrev P.not(m:P Bool):P Bool:=λloc σ Q X=>m loc σ (λb loc' σ'=>Q (!b) loc' σ') X
theorem Dg{x:Expr}{pos:Pos}{m:P Bool}(h:gz cx n fd x m):gz cx n fd (.UnaryOp .Not x pos) (P.not m):=by
 exact aM.bind h λa b=>aM.pure λ_ _ _ e=>by exact ah _ e
theorem Gx{x:Expr}{pos:Pos}{m:P MV}(h:bO cx n fd x m):bO cx n fd (.UnaryOp .Not x pos) ((m.bind P.truth).bind λb=>P.ret (.bool (!b))):=by
 show eO cx n fd VR (eval x fd.env >>= λv=>standAt pos >>= λ_=>holding [v] (unaryOp .Not v)) (m.bind λa=>(P.truth a).bind λb=>P.ret (.bool (!b)))
 refine aM.bind h λa v=>aM.standAt (aM.holding ?_)
 intro A ρ σ loc s Q X G hp hm
 refine .of<|not_of (wpAny_mono (sK (cx:=cx) (n:=n) (fd:=fd) A ρ σ loc s _ X G hp hm) (λb s1 h=> ?_) λ_ _ y=>y)
 obtain⟨c,ρ1,σ1,l1,S1,G1,e,hq⟩:=h
 subst e
 exact⟨_,ρ1,σ1,l1,S1,G1, .bool,hq⟩
theorem xc{e:Expr}{m:P MV}(he:isTrue e fd.env (eval e fd.env)=(eval e fd.env >>= λv=>standAt e.pos >>= λ_=>holding [v] (truthy v)))(h:bO cx n fd e m):gz cx n fd e (m.bind P.truth):=by
 show eO cx n fd cg.bool _ _
 refine ae he▸ ?_
 exact aM.bind h λa v=>aM.standAt (aM.holding fP)
theorem uF{pos:Pos}:gz cx n fd (.BoolOp .And [] pos) (P.ret true):=λ_ _ _ _ _ _ _ G _ hm=> .of<|isTrue_and_nil (Out.now G rfl hm)
theorem vR{pos:Pos}:gz cx n fd (.BoolOp .Or [] pos) (P.ret false):=λ_ _ _ _ _ _ _ G _ hm=> .of<|isTrue_or_nil (Out.now G rfl hm)
theorem qD{x:Expr}{rest:List Expr}{pos:Pos}{m m':P Bool}(h:gz cx n fd x m)(h':gz cx n fd (.BoolOp .And rest pos) m'):gz cx n fd (.BoolOp .And (x::rest) pos) (P.cond m m' (P.ret false)):=by
 have e : isTrue (.BoolOp .And (x::rest) pos) fd.env (eval (.BoolOp .And (x::rest) pos) fd.env)=(isTrue x fd.env (eval x fd.env) >>= λc=>if c=true then allTrue .And rest fd.env else pure false):=by
  show (do match BoolOp.And,<-isTrue x fd.env (eval x fd.env) with
   | .And,false=>pure false
   | .Or,true=>pure true
   |_,_=>allTrue .And rest fd.env)=_
  congr 1;funext c;cases c<;>rfl
 show eO cx n fd cg.bool _ _
 refine ae e▸ ?_
 exact aM.cond bM.tt h h' (aM.pure λ_ _ _ _=>rfl)
theorem ur{x:Expr}{rest:List Expr}{pos:Pos}{m m':P Bool}(h:gz cx n fd x m)(h':gz cx n fd (.BoolOp .Or rest pos) m'):gz cx n fd (.BoolOp .Or (x::rest) pos) (P.cond m (P.ret true) m'):=by
 have e : isTrue (.BoolOp .Or (x::rest) pos) fd.env (eval (.BoolOp .Or (x::rest) pos) fd.env)=(isTrue x fd.env (eval x fd.env) >>= λc=>if c=true then pure true else allTrue .Or rest fd.env):=by
  show (do match BoolOp.Or,<-isTrue x fd.env (eval x fd.env) with
   | .And,false=>pure false
   | .Or,true=>pure true
   |_,_=>allTrue .Or rest fd.env)=_
  congr 1;funext c;cases c<;>rfl
 show eO cx n fd cg.bool _ _
 refine ae e▸ ?_
 exact aM.cond bM.tt h (aM.pure λ_ _ _ _=>rfl) h'
theorem pn{x:Expr}{op:BoolOp}{pos:Pos}{m:P MV}(h:bO cx n fd x m):bO cx n fd (.BoolOp op [x] pos) m:=h
theorem yp{x y:Expr}{rest:List Expr}{pos:Pos}{m m':P MV}(h:bO cx n fd x m)(h':bO cx n fd (.BoolOp .And (y::rest) pos) m') :
  bO cx n fd (.BoolOp .And (x::y::rest) pos) (m.bind λa=>P.cond (P.truth a) m' (P.ret a)):=by
 have e : eval (.BoolOp .And (x::y::rest) pos) fd.env=(eval x fd.env >>= λv=>standAt pos >>= λ_=>holding [v] (truthy v) >>= λc=>if c=true then eval (.BoolOp .And (y::rest) pos) fd.env else pure v):=by
  show (do
   let v<-eval x fd.env
   standAt pos
   let c<-holding [v] (truthy v)
   match BoolOp.And,c with
   | .And,false | .Or,true=>pure v
   |_,_=>boolOp pos .And (eval y fd.env::evalEach rest fd.env))=_
  congr 1;funext v;congr 1;funext _;congr 1;funext c;cases c<;>rfl
 show eO cx n fd VR _ _
 refine ae e▸ ?_
 refine aM.bind h λa v=>aM.standAt (aM.cond bM.vr (aM.holding fP) h'.tt (aM.pure λ_ _ _ q=>q))
theorem B5{x y:Expr}{rest:List Expr}{pos:Pos}{m m':P MV}(h:bO cx n fd x m)(h':bO cx n fd (.BoolOp .Or (y::rest) pos) m') :
  bO cx n fd (.BoolOp .Or (x::y::rest) pos) (m.bind λa=>P.cond (P.truth a) (P.ret a) m'):=by
 have e : eval (.BoolOp .Or (x::y::rest) pos) fd.env=(eval x fd.env >>= λv=>standAt pos >>= λ_=>holding [v] (truthy v) >>= λc=>if c=true then pure v else eval (.BoolOp .Or (y::rest) pos) fd.env):=by
  show (do
   let v<-eval x fd.env
   standAt pos
   let c<-holding [v] (truthy v)
   match BoolOp.Or,c with
   | .And,false | .Or,true=>pure v
   |_,_=>boolOp pos .Or (eval y fd.env::evalEach rest fd.env))=_
  congr 1;funext v;congr 1;funext _;congr 1;funext c;cases c<;>rfl
 show eO cx n fd VR _ _
 refine ae e▸ ?_
 refine aM.bind h λa v=>aM.standAt (aM.cond bM.vr (aM.holding fP) (aM.pure λ_ _ _ q=>q) h'.tt)
end
end Internal
namespace Internal
open PySem PySem.W PyProof.Rows PySem.Calls Builtin Builtin.ObjectAttr
theorem mY{h:Heap}{a:Addr}{m:Str->Option Value}{o:Obj}(n:h.Ns a m)(e:h.get? a=some o)(x:Str):lookIn x o=some (m x):=by
 refine Fb n λo' es ep e' d k f=> ?_
 replace e':=e▸e';cases e'
 unfold lookIn
 refine ae d▸ ?_
 dsimp only
 have hf:=f x
 unfold nsFind findBy at hf
 rw[<-Array.find?_toList] at hf
 cases q : es.toList.find? (·.key.isStr x) with
 |some en=>rw[q] at hf;rw[<-hf];rfl
 |none=>
  rw[q] at hf
  have : es.toList.any (·.refKey)=false:=by
   refine List.any_eq_false.mpr ?_
   intro en he
   refine fv (k en (by simpa using he)) λnm t z=> ?_
   simp[DictEntry.refKey,z]
  dsimp only
  refine ae this▸hf▸ ?_;rfl
noncomputable def gq(K:Frag)(C:Addr)(x:String):Bool:=
 plainGet K C (Str.ofString x)&&hasDictIn K C&&findIn K (.ref C) (Str.ofString x)==some none&&findIn K (.ref C) "__setattr__" == some (some (.builtin "object.__setattr__"))&&plainOver K C&&takerIn K C (Str.ofString x)==some none
structure Do(K:Frag)(C:Addr)(x:String):Prop where
 pg : plainGet K C (Str.ofString x)=true
 hd : hasDictIn K C=true
 fi : findIn K (.ref C) (Str.ofString x)=some none
 sa : findIn K (.ref C) "__setattr__" = some (some (.builtin "object.__setattr__"))
 po : plainOver K C=true
 ta : takerIn K C (Str.ofString x)=some none
theorem sN{K:Frag}{C:Addr}{x:String}(h:gq K C x=true):Do K C x:=by
 unfold gq at h
 simp only[Bool.and_eq_true,eI] at h
 refine dw h λzo0_ f=> ?_;refine dw zo0_ λzo0_ e=> ?_;obtain⟨⟨⟨a,b⟩,c⟩,d⟩:=zo0_
 exact⟨a,b,c,d,e,f⟩
theorem VR.handed{ρ:LA->Addr}{U:LA->Prop}{h:Heap}{mv:MV}{v:Value}(r:VR ρ U h mv v):handedIn v=true:=by
 cases mv
 ·refine (ah _ r.none_inv).trans ?_;rfl
 ·rw[r.bool_inv];rfl
 ·refine cN r.int_inv λt zr1_=> ?_;subst zr1_;rfl
 ·refine cN r.str_inv λt zr1_=> ?_;subst zr1_;rfl
 ·refine cN r.d7 λt zr1_=> ?_;subst zr1_;rfl
 ·refine wY r.dN λt _ _ _ zr4_ _=> ?_;subst zr4_;rfl
 ·rw[r.bU.1];rfl
theorem Ei.got{ρ:LA->Addr}{U:LA->Prop}{h:Heap}{fs:List (String×MV)}{m:Str->Option Value}(r:Ei ρ U h fs m){x:String}{mv:MV}(e:fs.lookup x=some mv):∃v,m (Str.ofString x)=some v/\VR ρ U h mv v:=
 (e▸r.1 x).got
section
variable {cx:Cx}{n:Nat}{fd:Fd}{A:Around}{ρ:LA->Addr}{σ:MH}{loc:Loc}{s:Shared}
structure KF(ρ:LA->Addr)(U:LA->Prop)(h:Heap)(l d:LA)(C:Addr)(fs:List (String×MV))(m:Str->Option Value)(od:Obj):Prop where
 ns : h.Ns1 (ρ d) m
 ho : h.get? (ρ d)=some od
 r : Ei ρ U h fs m
 I : InstAt h (ρ l) (instObj C (ρ d)) C (some od)
theorem Good.D4(G:Good cx n fd A ρ σ loc s){l d:LA}{C:Addr}{fs:List (String×MV)}(e1:σ.get l=some (.inst C d))(e2:σ.get d=some (.ns fs)):∃m od,KF ρ σ.us s.heap l d C fs m od:=by
 refine aT ((G.obj _ _ e2).2) λm ns r=> ?_
 refine iR (_root_.id ns) λo es ep ho _=> ?_
 exact⟨m,o,ns,ho,r,(G.obj _ _ e1).2.1,rfl,rfl,ho⟩
inductive G9(okA:Addr->String->Bool)(x:String)(loc:Loc)(σ:MH)(Q:MV->Loc->MH->Prop):MV->Prop where
 |mk {l C d fs v} (e:σ.get l=some (.inst C d))(f:σ.get d=some (.ns fs))(a:okA C x=true)(g:fs.lookup x=some v)(h:Q v loc σ):G9 okA x loc σ Q (.ref l)
noncomputable abbrev P.am(okA:Addr->String->Bool)(x:String)(v:MV):P MV:=λloc σ Q _=>G9 okA x loc σ Q v
theorem o6{okA:Addr->String->Bool}(hA:∀C x,okA C x=true->gq cx.K C x=true){x:String}{a:MV}{v:Value}{b:Bool}:aM cx n fd (λρ U h=>VR ρ U h a v) VR (getAttr v (Str.ofString x) b) (P.am okA x a):=by
 intro A ρ σ loc s Q X G hp hm
 induction hm with
 |mk e f a g h=>
  refine fv (G.D4 e f) λm od i=> ?_
  refine aT (i.r.got g) λw e4 rv=> ?_
  have K:=sN (hA _ _ a)
  refine ae hp.bU.1▸ ?_
  exact .of (get_value (cx.X.keeps G.top) i.I (plainGet_of K.pg).1 (findObj_own (v:=w) K.hd K.fi rfl ((mY i.ns.ns i.ho _).trans (ah some e4))) rv.handed (Out.pre (Step.tok _) (Out.now (G.tok _) rv h)))
theorem sm{okA:Addr->String->Bool}(hA:∀C x,okA C x=true->gq cx.K C x=true){e:Expr}{x:String}{pos:Pos}{m:P MV}(h:bO cx n fd e m)(hb:attributeBase e (Str.ofString x) fd.env (eval e fd.env)=eval e fd.env) :
  bO cx n fd (.Attribute e (Str.ofString x) pos) (m.bind (P.am okA x)):=by
 have q : eval (.Attribute e (Str.ofString x) pos) fd.env=(eval e fd.env >>= λo=>standAt pos.atName >>= λ_=>holding [o] (getAttr o (Str.ofString x) true) >>= λr=>letTemporaryGo e o r >>= λ_=>pure r):=by
  show (attributeBase e (Str.ofString x) fd.env (eval e fd.env) >>= _)=_
  rw[hb]
 show eO cx n fd VR _ _
 refine ae q▸ ?_
 refine aM.bind h λa v=>aM.standAt ?_
 intro A ρ σ loc s Q X G hp hm
 refine ai (aJ (aD (o6 hA A ρ σ loc s Q X G hp hm) (λr s1 h=> ?_) λ_ _ y=>y))
 exact ai (.of (wpAny_letTemporaryGo (ax h)))
noncomputable def gM(x:String)(v:MV):List (String×MV)->List (String×MV)
 | []=>[(x,v)]
 | (y,w)::r=>if y=x then (y,v)::r else (y,w)::gM x v r
theorem oW(x:String)(v:MV)(y:String):∀fs : List (String×MV),(gM x v fs).lookup y=if y=x then some v else fs.lookup y
 | []=>by
  skip
  refine (List.lookup_cons).trans ?_
  by_cases q : y=x
  ·simp[q]
  ·have : (y==x)=false:=by simpa using q
   simp[q,this]
 | (z,w)::r=>by
  dsimp only[gM]
  by_cases q : z=x
  ·refine (ah _ (if_pos q)).trans ?_
   subst q
   refine (List.lookup_cons).trans ?_;rw[List.lookup_cons]
   by_cases p : y=z
   ·simp[p]
   ·have : (y==z)=false:=by simpa using p
    simp[p,this]
  ·refine (ah _ (if_neg q)).trans ?_;refine (List.lookup_cons).trans ?_;rw[List.lookup_cons,(oW x v y r)]
   by_cases p : y=z
   ·subst p;simp[q]
   ·have : (y==z)=false:=by simpa using p
    rw[this]
theorem wv(x:String)(v:MV):∀fs : List (String×MV),Str.ofString x∈(gM x v fs).map λp=>Str.ofString p.1
 | []=>by exact List.mem_of_mem_head? rfl
 | (y,w)::r=>by
  dsimp only[gM]
  by_cases q : y=x
  ·rw[if_pos q];simp[q]
  ·rw[if_neg q];exact aB _ (wv x v r)
theorem sM(x:String)(v:MV){p:String×MV}:∀ {fs:List (String×MV)},p∈fs->Str.ofString p.1∈(gM x v fs).map λp=>Str.ofString p.1
 | (y,w)::r,h=>by
  dsimp only[gM]
  by_cases q : y=x
  ·rw[if_pos q]
   rcases aK.mp h with rfl | h
   ·simp
   ·exact aB _ (cq.mpr ⟨p,h,rfl⟩)
  ·rw[if_neg q]
   rcases aK.mp h with rfl | h
   ·simp
   ·exact aB _ (sM x v h)
inductive qs(okA:Addr->String->Bool)(x:String)(w:MV)(loc:Loc)(σ:MH)(Q:Unit->Loc->MH->Prop):MV->Prop where
 |mk {l C d fs} (e:σ.get l=some (.inst C d))(f:σ.get d=some (.ns fs))(a:okA C x=true)(n:fs.length<=100)(h:Q () loc (σ.set d (.ns (gM x w fs)))):qs okA x w loc σ Q (.ref l)
noncomputable abbrev P.setattr(okA:Addr->String->Bool)(x:String)(v w:MV):P Unit:=λloc σ Q _=>qs okA x w loc σ Q v
theorem Ei.fset{ρ:LA->Addr}{U:LA->Prop}{h:Heap}{fs:List (String×MV)}{m:Str->Option Value}(r:Ei ρ U h fs m){x:String}{b:MV}{w:Value}(hw:VR ρ U h b w):Ei ρ U h (gM x b fs) (λy=>if y=Str.ofString x then some w else m y):=by
 refine⟨λy=> ?_,λy hy=> ?_⟩
 ·show xH _ _ _ _ (if Str.ofString y=Str.ofString x then some w else m (Str.ofString y))
  rw[oW]
  by_cases q : y=x
  ·rw[if_pos q,if_pos (ah _ q)];exact .so hw
  ·rw[if_neg q,if_neg λz=>q (gx z)];exact r.1 y
 ·rcases aK.mp (r.2.cons (Str.ofString x) w y hy) with q | q
  ·exact q▸wv x b fs
  ·obtain⟨p,hp,rfl⟩:=cq.mp q
   exact sM x b hp
theorem t5{prog:Program}{w':World}{A:Around}{E:Value->Shared->Prop}{Q:Unit->Shared->Prop}{s:Shared}{K:Frag}{C l d:Addr}{x:String}{w:Value}{od:Obj}{m:Str->Option Value}{fs:List (String×MV)}
  (XK:K.In s.heap)(k:Do K C x)(I:InstAt s.heap l (instObj C d) C (some od))(ns:s.heap.Ns1 d m)(wi:Within m (fs.map λp=>Str.ofString p.1))(hl:fs.length<=100)
  (h:∀h' o',h'.Ns1 d (λy=>if y=Str.ofString x then some w else m y)->h'.objs.size=s.heap.objs.size->(∀a,a≠d->h'.get? a=s.heap.get? a)->h'.get? d=some o'->¬IsTup o'->Q () { s with heap:=h',toks:=s.toks+1+1 }) :
  wpAny (model prog w') A (setAttr (.ref l) (Str.ofString x) w) Q E s:=by
 refine dG λhn=> ?_
 refine aT (any_some k.hd) λcd hc hd'=> ?_
 refine hn (set_plain XK I k.sa (osa_open (s:={ s with toks:=s.toks+1 }) XK I k.po k.ta λb'=> ?_))
 refine af (ao (af (af (wpAny_loadPart I.1 (af ((looks_clsIn (M:=model prog w') (h:=({ s with toks:=s.toks+1 }:Shared).heap) XK hc).here ?_))))))
 refine ae hd'▸ ?_
 refine ao (a:=some d) (af (ao (af ?_)))
 refine wpAny_nsSet1 ns λh' ns' sb=> ?_
 refine dG λhn=> ?_
 refine sd (ns'.count (wi.cons (Str.ofString x) _)) λo' es' ep' ho' hd2 hsz=> ?_
 refine hn (af (wpAny_lookBehind (s:={ s with heap:=h',toks:=s.toks+1+1 }) ho' (by refine (ah _ hd2).trans ?_;exact pastItsLine_dict (ad hsz (by rw[aU,cy,aq];exact ad (bD hl _) (by decide)))) (ao ?_)))
 exact h h' o' ns' sb.1 sb.2 ho' (ca hd2)
theorem oU{okA:Addr->String->Bool}(hA:∀C x,okA C x=true->gq cx.K C x=true){x:String}{a b:MV}{v w:Value}:aM cx n fd (λρ U h=>VR ρ U h a v/\VR ρ U h b w) cg.unit (setAttr v (Str.ofString x) w) (P.setattr okA x a b):=by
 intro A ρ σ loc s Q X G hp hm
 induction hm with
 |mk e f a nl h=>
  refine fv (G.D4 e f) λm od i=> ?_
  refine ae hp.1.bU.1▸ ?_
  refine .of (t5 (cx.X.keeps G.top) (sN (hA _ _ a)) i.I i.ns i.r.2 nl λh' o' ns' h1 h2 h3 h4=> ?_)
  have z:=G.upd (o':= .ns (gM x b _)) (t:=s.toks+1+1) (G.obj _ _ f).1 h1 h2 h3 h4 λk=>⟨_,ns',(i.r.mono k).fset (hp.2.mono k)⟩
  exact⟨(),_,_,_,z.2,z.1,trivial,h⟩
end
end Internal
namespace Internal
open PySem PySem.W PyProof.Rows PySem.Calls Builtin
noncomputable abbrev kn(b:List UInt8):Obj:={ cls:= .type "bytearray",data:= .bytearray b.toArray 0 }
noncomputable abbrev dZ(h:Heap)(a:Addr)(b:List UInt8):Prop:=h.get? a=some (kn b)
theorem gN{b:List UInt8}:¬Internal.IsTup (kn b):=j9 (by intro h;injection h with h;revert h;decide)
theorem fV : Slot "bytearray" "__getitem__" "bytearray.__getitem__" :=
 .of (owner := "bytearray") (n := "__getitem__") (by rfl) (by decide +kernel) (by decide +kernel) (by decide +kernel)
  (by first | exact .inl (by decide +kernel) | exact .inr (by decide +kernel)) (by exact (cA ..))
theorem mG : entryFor table "bytearray.__getitem__" = some Builtin.«bytearray.__getitem__»:=entryFor_of_tree (by kernel_rfl)
theorem oY(a b:Value):argsOk "bytearray.__getitem__" ⟨[a,b],[]⟩:=by kernel_rfl
theorem hG : Slot "bytearray" "__setitem__" "bytearray.__setitem__" :=
 .of (owner := "bytearray") (n := "__setitem__") (by rfl) (by decide +kernel) (by decide +kernel) (by decide +kernel)
  (by first | exact .inl (by decide +kernel) | exact .inr (by decide +kernel)) (by exact (cA ..))
theorem nI : entryFor table "bytearray.__setitem__" = some Builtin.«bytearray.__setitem__»:=entryFor_of_tree (by kernel_rfl)
theorem oZ(a b c:Value):argsOk "bytearray.__setitem__" ⟨[a,b,c],[]⟩:=by kernel_rfl
section
variable {M:Model}{A:Around}{E:Value->Shared->Prop}{s:Shared}{a:Addr}{b:List UInt8}
theorem cu(e:dZ s.heap a b):s.TypeIs (.ref a) "bytearray" := ⟨_,e,rfl⟩
theorem dF(e:dZ s.heap a b){Q:Array UInt8->Shared->Prop}(h:Q b.toArray s):wpAny M A (Bytes.payload (.ref a)) Q E s:=by
 refine af (af (wpAny_load e ?_))
 exact ao (ao h)
theorem eQ(e:dZ s.heap a b){f:Array UInt8->Array UInt8}{c:List UInt8}(hf:f b.toArray=c.toArray)(hz:c.length<=sizeLine){Q:Unit->Shared->Prop}
  (h:∀h',h'.objs.size=s.heap.objs.size->(∀x,x≠a->h'.get? x=s.heap.get? x)->dZ h' a c->Q () { s with heap:=h' }):wpAny M A (Bytes.write (.ref a) f) Q E s:=by
 unfold Bytes.write
 refine af (wpAny_load e ?_)
 have e2 : (s.heap.update a (Obj.mapBytearray f)).get? a=some (kn c):=by
  have:=dJ (Obj.mapBytearray f) e rfl
  refine (this).trans ?_
  show some ({ cls:= .type "bytearray",data:= .bytearray (f b.toArray) 0 }:Obj)=_
  exact ae hf▸rfl
 refine af (wpAny_update e ?_)
 refine wpAny_lookBehind (s:={ s with heap:=s.heap.update a (Obj.mapBytearray f) }) e2 ?_ (h _ (by exact Heap.size_after_update s.heap a (Obj.mapBytearray f)) (λx n=>Heap.get?_update_other _ _ (Ne.symm n)) e2)
 show (if c.toArray.size > sizeLine then _ else _)=_
 exact (if_neg (by simp;exact fits_len_of_eq rfl hz))
theorem sub_int{i:Int}{t:Tok}(hr:Bytes.fitsIndex i=true){Q:Option Int->Shared->Prop}(h:Q (some i) s):wpAny M A (Bytes.subscript? (.int i t)) Q E s:=by
 dsimp only[Bytes.subscript?]
 refine af (bN (typeIs_int s i t) F.slot_int_index.lookup ?_)
 show wpAny M A (if (!Bytes.fitsIndex i)=true then _ else pure (some i)) _ E s
 refine ae hr▸ ?_
 exact ao h
theorem fits_of{i:Int}{n:Nat}(h0:0<=i)(h1:i < n)(hn:n<=1000000):Bytes.fitsIndex i=true:=by
 unfold Bytes.fitsIndex
 simp only[Bool.and_eq_true,decide_eq_true_eq]
 exact⟨bp (by decide) h0,aN h1 (bp (aW.mpr hn) (by decide))⟩
theorem kH{i:Int}{n:Nat}(h0:0<=i)(h1:i < n):seqIndex? i n=some i.toNat:=by
 dsimp only[seqIndex?]
 simp only[if_neg (cZ.mpr h0),h0,h1,decide_true,Bool.and_self,if_true]
 try simp
end
noncomputable def cut{α:Type}(xs:List α)(lo hi:Option Int):List α:=(xs.drop (lo.elim 0 (clipAt xs.length))).take (hi.elim xs.length (clipAt xs.length) - lo.elim 0 (clipAt xs.length))
theorem y6{α:Type}(xs:List α)(lo hi:Option Int):(cut xs lo hi).length<=xs.length:=by
 exact ad (List.length_take_le' _ _) (by rw[List.length_drop];exact Nat.sub_le _ _)
section
variable {prog:Program}{w:World}{A:Around}{E:Value->Shared->Prop}{s:Shared}{a:Addr}{b:List UInt8}
theorem HN{i:Int}{t:Tok}(e:dZ s.heap a b)(h0:0<=i)(h1:i < b.length)(hz:b.length<=1000000){Q:Value->Shared->Prop}(h:Q (.int (b.getD i.toNat 0).toNat s.toks) { s with toks:=s.toks+1 }) :
  wpAny (model prog w) A (getItem (.ref a) (.int i t)) Q E s:=by
 refine wpAny_getItem_slot (cu e) (by decide) fV (wpAny_call_entry fV (cu e) mG ?_ (oY _ _))
 show wpAny _ _ (Bytes.subscript? (.int i t) >>= λr=>_) _ E s
 refine af (sub_int (fits_of h0 h1 hz) ?_)
 refine af (dF e ?_)
 have hl : i.toNat < b.length:=by exact (Int.toNat_lt h0).mpr h1
 have e2 : (seqIndex? i b.toArray.size).bind (b.toArray[·]?)=some (b.getD i.toNat 0):=by
  rw[show b.toArray.size=b.length from by exact d9,kH h0 h1]
  simp[List.getD,ay hl]
 refine ae e2▸ ?_
 exact af (wpAny_mkInt (ao ⟨_,rfl,h⟩))
theorem kj{x:Addr}{l u:Value}{lo hi:Option Int}(hl:IsPart l lo)(hu:IsPart u hi)(hs:s.heap.IsSliceOf x l u .none){M:Model}{Q:Value×Value×Value->Shared->Prop}
  (h:Q (rawPart lo,rawPart hi,rawPart none) s):wpAny M A (Bytes.sliceParts (.ref x)) Q E s:=by
 obtain⟨o,ho,hc,hd⟩:=hs
 refine af (wpAny_field (x:= .none) ho hd rfl ?_)
 kby_none
 refine wpAny_ite (KBy.ite_no ((aE)) ?_)
 refine af (wpAny_field (x:=l) ho hd rfl ?_)
 cases hl<;>cases hu<;>(first
  | (kby_none;refine af (wpAny_field (x:= .none) ho hd rfl ?_);kby_none)
  | (kby_none;refine af (wpAny_field (x:= .int _ _) ho hd rfl ?_);kby_int)
  | (kby_int;refine af (wpAny_field (x:= .none) ho hd rfl ?_);kby_none)
  | (kby_int;refine af (wpAny_field (x:= .int _ _) ho hd rfl ?_);kby_int))<;>exact ao h
theorem sL{x:Addr}{l u:Value}(hs:s.heap.IsSliceOf x l u .none){M:Model}{Q:Option Int->Shared->Prop}(h:Q none s):wpAny M A (Bytes.subscript? (.ref x)) Q E s:=by
 refine pH hs λo ho hc hd=> ?_
 exact af (bN (⟨o,ho,hc⟩) slice_no_index (ao h))
theorem tc{lo hi:Option Int}{k:Nat}{M:Model}{Q:Int×Int×Int->Shared->Prop}(h:Q (((lo.elim 0 (clipAt k):Nat):Int),((hi.elim k (clipAt k):Nat):Int),1) s) :
  wpAny M A (sliceIndices (rawPart lo) (rawPart hi) (rawPart none) k) Q E s:=
 bG ((sliceIndices_raw lo hi none k (λe=>nomatch e)).trans (ah pure (sliceBounds_plain lo hi k))) h
theorem w5(b:List UInt8)(lo hi:Option Int):Bytes.sliced b.toArray ((lo.elim 0 (clipAt b.toArray.size):Nat):Int) ((hi.elim b.toArray.size (clipAt b.toArray.size):Nat):Int) 1=(cut b lo hi).toArray:=by
 delta Bytes.sliced cut
 rw[sliceRange_one];exact ah _ (pick_run ..)
theorem CX{x:Addr}{l u:Value}{lo hi:Option Int}(e:dZ s.heap a b)(hl:IsPart l lo)(hu:IsPart u hi)(hs:s.heap.IsSliceOf x l u .none)(hz:b.length<=1000000){Q:Value->Shared->Prop}
  (h:Q (.ref s.heap.objs.size) { s with heap:=s.heap.push (kn (cut b lo hi)) }):wpAny (model prog w) A (getItem (.ref a) (.ref x)) Q E s:=by
 have hT : s.TypeIs (.ref x) "slice" := (by refine pH hs λo ho hc _=> ?_;exact⟨o,ho,hc⟩)
 refine wpAny_getItem_slot (cu e) (by decide) fV (wpAny_call_entry fV (cu e) mG ?_ (oY _ _))
 show wpAny _ _ (Bytes.subscript? (.ref x) >>= λr=>_) _ E s
 refine af (sL hs ?_)
 refine af (wpAny_typeOf hT ?_)
 refine af (kj hl hu hs ?_)
 refine af (dF e ?_)
 refine af (tc ?_)
 dsimp only
 refine ae (w5 ..)▸ ?_
 refine af (wpAny_newObj_type (ao ⟨_,rfl,h⟩) ?_)
 show (cut b lo hi).toArray.size<=sizeLine
 refine ae d9▸ae aU▸ ?_
 have:=y6 b lo hi
 exact ad (ad this hz) (by decide)
end
theorem Out.zy{cx:Cx}{n:Nat}{fd:Fd}{A:Around}{ρ:LA->Addr}{σ:MH}{loc:Loc}{s:Shared}{Q:MV->Loc->MH->Prop}(G:Good cx n fd A ρ σ loc s){vs:List MV}{xs:Array Value}{ep:Nat}{h':Heap}(t:Nat)
  (g:jH fd.env.locals s.heap h'){a:Addr}{o:Obj}(hx:h'.get? a=some o)(hc:o.cls= .type "tuple") (hd:o.data= .seq xs ep)(hv:cR ρ σ.us s.heap vs xs.toList)
  (hq:Q (.tup vs) loc σ):Out cx n fd A ρ σ s VR Q (.ref a) { s with heap:=h',toks:=t }:=by
 have S : Step fd ρ σ.us s ρ σ.us { s with heap:=h',toks:=t }:=Step.grow G.di G.locals g t
 exact⟨_,_,_,_,S,G.grow g t, .tup hx hc hd (hv.mono (S.keeps G)),hq⟩
theorem Out.vj{cx:Cx}{n:Nat}{fd:Fd}{A:Around}{ρ:LA->Addr}{σ:MH}{loc:Loc}{s:Shared}{Q:MV->Loc->MH->Prop}(G:Good cx n fd A ρ σ loc s){r:LA}(hr:¬σ.us r){b:List UInt8}{h':Heap}(t:Nat)
  (g:jH fd.env.locals s.heap h'){a:Addr}(ha:s.heap.objs.size<=a)(hx:dZ h' a b)(hq:Q (.ref r) loc (σ.new r (.bW b))):Out cx n fd A ρ σ s VR Q (.ref a) { s with heap:=h',toks:=t }:=Out.alloc (o:= .bW b) G hr t g ha hx gN (λ_ _=>hx) hq
inductive lB(loc:Loc)(σ:MH)(Q:MV->Loc->MH->Prop):MV->MV->Prop where
 |oct {b} {k:Int}(a:0<=k/\k < b.length/\b.length<=100000)(h:Q (.int (b.getD k.toNat 0).toNat) loc σ):lB loc σ Q (.bytes b) (.int k)
 |tup {vs} {k:Int} {v} (a:0<=k/\k < vs.length/\vs.length<=100000)(e:vs[k.toNat]?=some v)(h:Q v loc σ):lB loc σ Q (.tup vs) (.int k)
 |list {l} {k:Int} {vs v} (f:σ.get l=some (.list vs))(a:0<=k/\k < vs.length/\vs.length<=100000)(e:vs[k.toNat]?=some v)(h:Q v loc σ):lB loc σ Q (.ref l) (.int k)
 |ba {l} {k:Int} {b} (f:σ.get l=some (.bW b))(a:0<=k/\k < b.length/\b.length<=100000)(h:Q (.int (b.getD k.toNat 0).toNat) loc σ):lB loc σ Q (.ref l) (.int k)
 |dI {l k es v} (f:σ.get l=some (.bS es))(e:es.lookup k=some v)(h:Q v loc σ):lB loc σ Q (.ref l) (.int k)
 |dS {l x es v} (f:σ.get l=some (.dD es))(e:es.lookup x=some v)(h:Q v loc σ):lB loc σ Q (.ref l) (.str x)
noncomputable abbrev P.item(a i:MV):P MV:=λloc σ Q _=>lB loc σ Q a i
section
variable {cx:Cx}{n:Nat}{fd:Fd}
theorem iy.got{ρ:LA->Addr}{U:LA->Prop}{h:Heap}{κ K:Type} [BEq κ] [LawfulBEq κ] [DecidableEq K] {enc:κ->K}(inj:∀a b,enc a=enc b->a=b){es:List (κ×MV)}{kvs:List (K×Value)}(r:iy ρ U h enc es kvs){k:κ}{v:MV}(e:es.lookup k=some v) :
  ∃y,valueAt kvs (enc k)=some y/\VR ρ U h v y:=(e▸r.lookup inj k).got
theorem CC{a i:MV}{va vi:Value}:nS cx n fd (λρ U h=>VR ρ U h a va/\VR ρ U h i vi) VR (getItem va vi) (P.item a i):=by
 intro A ρ σ loc s Q X G hp hm
 obtain⟨ha,hi⟩:=hp
 have tk : ∀ {j:Int},Q (.int j) loc σ->Out cx n fd A ρ σ s VR Q (.int j s.toks) { s with toks:=s.toks+1 }:=λh=>Out.pre (Step.tok _) (Out.now (G.tok _) .int h)
 have td : ∀ {j:MV} {y},Q j loc σ->VR ρ σ.us s.heap j y->Out cx n fd A ρ σ s VR Q y { s with toks:=s.toks+1 }:=λh r=>Out.pre (Step.tok _) (Out.now (G.tok _) r h)
 have nw : ∀ {j:MV} {y},Q j loc σ->VR ρ σ.us s.heap j y->Out cx n fd A ρ σ s VR Q y s:=λh r=>Out.now G r h
 generalize Out cx n fd A ρ σ s VR Q=Q' at tk td nw ⊢
 generalize ey cx n fd A ρ σ s X=E'
 induction hm with
 |oct a h=>apply ha.dg;intro _;apply hi.eH;exact λ_=>getItem_bytes (ad a.2.2 (by decide)) a.1 a.2.1 (tk h)
 |tup a e h=>
  refine eT ha.isTup λc xs zr2_ j r=> ?_;subst zr2_
  refine aT (r.get e) λy e3 ry=> ?_
  have l1:=r.len
  rw[bu] at l1
  apply hi.eH
  exact λ_=>getItem_tuple j (bp (by decide) a.1) (aN a.2.1 (bp (aW.mpr a.2.2) (by decide))) (l1▸kH a.1 a.2.1) (c9.symm.trans e3) (nw h ry)
 |list f a e h=>
  refine aT (G.isList f) λxs j r=> ?_
  obtain⟨y,e3,ry⟩:=r.get e
  refine ae ha.bU.1▸ ?_;apply hi.eH
  exact λ_=>wpAny_getItem_list j a.1 (aN a.2.1 (bp (aW.mpr a.2.2) (by decide))) (c9.symm.trans e3) (nw h ry)
 |ba f a h=>
  refine ae ha.bU.1▸ ?_;apply hi.eH
  exact λ_=>HN (G.obj _ _ f).2 a.1 a.2.1 (ad a.2.2 (by decide)) (tk h)
 |dI f e h=>
  obtain⟨kvs,d,r⟩:=(G.obj _ _ f).2
  obtain⟨y,e3,ry⟩:=r.got (λ_ _ z=>z) e
  rw[ha.bU.1];apply hi.eH
  exact λ_=>wpAny_getItem_of (knd:=intKind cx.prog cx.w) (beq_self_eq_true _) d.mapOf e3 (td h ry)
 |dS f e h=>
  obtain⟨kvs,d,r⟩:=(G.obj _ _ f).2
  obtain⟨y,e3,ry⟩:=r.got (λ_ _ z=>gx z) e
  rw[ha.bU.1];apply hi.A7
  exact λ_=>wpAny_getItem_of (knd:=strKind cx.prog cx.w) (beq_self_eq_true _) d.mapOf e3 (td h ry)
noncomputable abbrev cg.slice : cg (Option Int×Option Int) Value:=λ_ _ h b v=>∃x l u,v= .ref x/\IsPart l b.1/\IsPart u b.2/\h.IsSliceOf x l u .none
inductive n8(lo hi:Option Int)(loc:Loc)(σ:MH)(Q:MV->Loc->MH->Prop):MV->Prop where
 |oct {b} (a:b.length<=100000)(h:Q (.bytes (cut b lo hi)) loc σ):n8 lo hi loc σ Q (.bytes b)
 |tup {vs} (p:lo=some 1)(q:hi=none)(a:1<=vs.length/\vs.length<=100000)(h:Q (.tup (vs.drop 1)) loc σ):n8 lo hi loc σ Q (.tup vs)
 |list {l vs r} (f:σ.get l=some (.list vs))(a:vs.length<=100000)(n:¬σ.us r)(h:Q (.ref r) loc (σ.new r (.list (cut vs lo hi)))):n8 lo hi loc σ Q (.ref l)
 |fz {l o vs r} (f:σ.get l=some (.fz o vs))(a:vs.length<=100000)(n:¬σ.us r)(h:Q (.ref r) loc (σ.new r (.list (cut vs lo hi)))):n8 lo hi loc σ Q (.ref l)
 |ba {l b r} (f:σ.get l=some (.bW b))(a:b.length<=100000)(n:¬σ.us r)(h:Q (.ref r) loc (σ.new r (.bW (cut b lo hi)))):n8 lo hi loc σ Q (.ref l)
noncomputable abbrev P.slice(a:MV)(lo hi:Option Int):P MV:=λloc σ Q _=>n8 lo hi loc σ Q a
theorem cR.cut{ρ:LA->Addr}{U:LA->Prop}{h:Heap}{vs:List MV}{ys:List Value}(lo hi:Option Int)(r:cR ρ U h vs ys):cR ρ U h (Internal.cut vs lo hi) (Internal.cut ys lo hi):=by
 unfold Internal.cut
 refine ae r.len▸ ?_
 exact (r.drop _).take _
theorem slice_list{A:Around}{ρ:LA->Addr}{σ:MH}{loc:Loc}{s:Shared}{Q:MV->Loc->MH->Prop}{E:Value->Shared->Prop}(G:Good cx n fd A ρ σ loc s){l:LA}{vs:List MV}{r:LA}{X:Array Value}{lo hi:Option Int}{x:Addr}{a b:Value}(hl:IsPart a lo)(hu:IsPart b hi)
  (hs:s.heap.IsSliceOf x a b .none)(i:s.heap.IsList (ρ l) X)(q:cR ρ σ.us s.heap vs X.toList)(hz:vs.length<=100000)(hr:¬σ.us r)(hq:Q (.ref r) loc (σ.new r (.list (Internal.cut vs lo hi)))) :
  wpAny cx.M A (getItem (.ref (ρ l)) (.ref x)) (Out cx n fd A ρ σ s VR Q) E s:=by
 have l1:=q.len
 rw[bu] at l1
 refine wpAny_getItem_list_slice i hs hl hu .none (λe=>nomatch e) ?_ (by refine ae aU▸ ?_;exact ad (ad (aw l1) hz) (by decide))
 refine Out.iT G hr s.toks (.push _) (aG _) (aQ _ rfl) ?_ hq
 rw[slicePick_plain]
 have:=q.cut lo hi
 dsimp only[Internal.cut] at this ⊢
 simpa using this
theorem AV{a:MV}{lo hi:Option Int}{va vi:Value}:nS cx n fd (λρ U h=>cg.slice ρ U h (lo,hi) vi/\VR ρ U h a va) VR (getItem va vi) (P.slice a lo hi):=by
 intro A ρ σ loc s Q X G hp hm
 obtain⟨⟨x,l,u,rfl,hl,hu,hs⟩,ha⟩:=hp
 induction hm with
 |@oct b a h=>
  apply ha.dg;intro t
  refine getItem_meets (typeIs_bytes _ _ _) (by decide) FB.slot_bytes_getitem FB.entry_bytes_getitem (FB.args_bytes_getitem_2 _ _) (KBc.meets_slice2 b.toArray t _ hl hu) ⟨hs, ?_,λt' k=> ?_⟩
  ·refine ad (KBc.size_picked_le _ _ _) ?_
   refine ae d9▸ae aU▸ ?_;exact ad a (by decide)
  ·have e : KBy.picked b.toArray lo hi=(cut b lo hi).toArray:=by
    refine (KBc.picked_eq ..).trans ?_;unfold cut;simp
   refine ae e▸ ?_
   exact Out.pre (Step.tok _) (Out.now (G.tok _) .bytes h)
 |tup p q a h=>
  subst p q
  refine eT ha.isTup λc xs zr2_ j r=> ?_;subst zr2_
  have l1:=r.len
  rw[bu] at l1
  cases hu
  cases hl with
  |int _ t=>
  refine getItem_tuple_from (a:=1) j hs (by decide) (ad a.1 (ad (aw l1.symm) (aG _))) ?_ (by refine ae aU▸ ?_;exact ad (ad (aw l1) a.2) (by decide))
  exact Out.zy G s.toks (.push _) (aQ _ rfl) rfl rfl (by simpa using r.drop 1) h
 |list f a n h=>obtain⟨X,i,q⟩:=G.isList f;refine ae ha.bU.1▸ ?_;exact slice_list G hl hu hs i q a n h
 |fz f a n h=>refine aT (G.Jg f) λX i q=> ?_;refine ae ha.bU.1▸ ?_;exact slice_list G hl hu hs i q a n h
 |ba f a n h=>
  refine ae ha.bU.1▸ ?_
  exact CX (G.obj _ _ f).2 hl hu hs (ad a (by decide)) (Out.vj G n s.toks (.push _) (aG _) (aQ _ rfl) h)
end
noncomputable def gW{κ:Type} [DecidableEq κ] (es:List (κ×MV))(k:κ)(v:MV):List (κ×MV):=if es.any (λe=>e.1=k) then es.map (λe=>if e.1=k then (e.1,v) else e) else es++[(k,v)]
noncomputable def C1{κ:Type} [DecidableEq κ] (es:List (κ×MV))(k:κ):List (κ×MV):=es.filter λe=>decide (e.1≠k)
section
variable {ρ:LA->Addr}{U:LA->Prop}{h:Heap}{κ K:Type}{enc:κ->K}
theorem iy.any [DecidableEq κ] [DecidableEq K] (inj:∀a b,enc a=enc b->a=b)(k:κ){es:List (κ×MV)}{ys:List (K×Value)}(x:iy ρ U h enc es ys):(ys.any λkv=>decide (kv.1=enc k))=es.any λe=>decide (e.1=k):=by
 induction x with
 |nil=>rfl
 |@cons k' _ _ _ _ _ _ ih=>(refine (List.any_cons).trans ?_;rw[List.any_cons];refine (ah _ ih).trans ?_;rw[decide_eq_decide.mpr (show enc k'=enc k↔k'=k from ⟨inj _ _,ah enc⟩)])
theorem iy.map [DecidableEq κ] [DecidableEq K] (inj:∀a b,enc a=enc b->a=b)(k:κ){w:MV}{z:Value}(hz:VR ρ U h w z){es:List (κ×MV)}{ys:List (K×Value)}(x:iy ρ U h enc es ys) :
  iy ρ U h enc (es.map λe=>if e.1=k then (e.1,w) else e) (ys.map λkv=>if kv.1=enc k then (kv.1,z) else kv):=by
 induction x with
 |nil=>exact .nil
 |@cons k' v y es ys a b ih=>
  show iy _ _ _ _ ((if k'=k then (k',w) else (k',v))::_) ((if enc k'=enc k then (enc k',z) else (enc k',y))::_)
  by_cases q : k'=k
  ·rw[if_pos q,if_pos (ah enc q)];exact .cons hz ih
  ·rw[if_neg q,if_neg λz=>q (inj _ _ z)];exact .cons a ih
theorem iy.app{k:κ}{w:MV}{z:Value}(hz:VR ρ U h w z){es:List (κ×MV)}{ys:List (K×Value)}(x:iy ρ U h enc es ys):iy ρ U h enc (es++[(k,w)]) (ys++[(enc k,z)]):=by
 induction x with
 |nil=>exact .cons hz .nil
 |cons a _ ih=>exact .cons a ih
theorem iy.stored [DecidableEq κ] [DecidableEq K] (inj:∀a b,enc a=enc b->a=b)(k:κ){w:MV}{z:Value}(hz:VR ρ U h w z){es:List (κ×MV)}{ys:List (K×Value)}(x:iy ρ U h enc es ys):iy ρ U h enc (gW es k w) (PySem.stored ys (enc k) z):=by
 delta gW PySem.stored
 rw[x.any inj k]
 split
 ·exact x.map inj k hz
 ·exact x.app hz
theorem iy.del [DecidableEq κ] [DecidableEq K] (inj:∀a b,enc a=enc b->a=b)(k:κ){es:List (κ×MV)}{ys:List (K×Value)}(x:iy ρ U h enc es ys):iy ρ U h enc (C1 es k) (PySem.without ys (enc k)):=by
 delta C1 PySem.without
 induction x with
 |nil=>exact .nil
 |@cons k' v y es ys a b ih=>
  refine ae List.filter_cons▸ ?_;rw[List.filter_cons]
  by_cases q : k'=k
  ·rw[if_neg (by simpa using q),if_neg (by simpa using ah enc q)];exact ih
  ·rw[if_pos (by simpa using q),if_pos (by simpa using λz=>q (inj _ _ z))];exact .cons a ih
end
theorem cR.erase{ρ:LA->Addr}{U:LA->Prop}{h:Heap}:∀ {vs:List MV}{ys:List Value}(k:Nat),cR ρ U h vs ys->cR ρ U h (vs.eraseIdx k) (ys.eraseIdx k)
 | [],_,_,x=>by refine ae x.nil_inv▸ ?_;exact cR.nil
 |_::_,_,0,x=>by refine eT x.cons_inv λy ys' q _ r=> ?_;subst q;simpa using r
 |_::_,_,k+1,x=>by refine eT x.cons_inv λy ys' q b r=> ?_;subst q;simpa using cR.cons b (r.erase k)
theorem yI{M:Model}{A:Around}{E:Value->Shared->Prop}{s:Shared}{i:Int}{t:Tok}(h0:0<=i)(h1:i < 256){Q:UInt8->Shared->Prop}(h:Q i.toNat.toUInt8 s):wpAny M A (Bytes.byteValue (.int i t)) Q E s:=by
 dsimp only[Bytes.byteValue]
 refine af (ao (a:=i) ?_)
 have : ¬(((decide (i < 0))||decide (i≥256))=true):=by simp;exact And.symm ⟨h1,h0⟩
 refine ae (if_neg this)▸ ?_
 exact ao h
section
variable {prog:Program}{w:World}{A:Around}{E:Value->Shared->Prop}{s:Shared}{a:Addr}{b:List UInt8}
theorem nc{o i v:Value}{T id:String}{Q:Unit->Shared->Prop}{M:Model}(hT:s.TypeIs o T)(hn:seqItemTypes.contains T=false)(aa:Slot T "__setitem__" id)
  (hc:wpAny M A (call (.builtin id) [o,i,v]) (λ_ s'=>Q () s') E s):wpAny M A (setItem o i v) Q E s:=by
 refine bl ?_
 refine af (wpAny_sequenceKey hT hn ?_)
 exact af (wpAny_callSpecial?_slot hT aa (wpAny_mono hc (λv s' h'=>ao h') λ_ _ e=>e))
theorem Hl{i x:Int}{t u:Tok}(e:dZ s.heap a b)(h0:0<=i)(h1:i < b.length)(hz:b.length<=100000)(x0:0<=x)(x1:x < 256){Q:Unit->Shared->Prop}
  (h:∀h',h'.objs.size=s.heap.objs.size->(∀y,y≠a->h'.get? y=s.heap.get? y)->dZ h' a (b.set i.toNat x.toNat.toUInt8)->Q () { s with heap:=h' }) :
  wpAny (model prog w) A (setItem (.ref a) (.int i t) (.int x u)) Q E s:=by
 refine nc (cu e) (by decide) hG (wpAny_call_entry hG (cu e) nI ?_ (oZ _ _ _))
 refine af (sub_int (fits_of h0 h1 (ad hz (by decide))) ?_)
 refine af (yI x0 x1 ?_)
 refine af (dF e ?_)
 refine ae (by exact kH h0 h1)▸ ?_
 refine af (eQ e (c:=b.set i.toNat x.toNat.toUInt8) (List.setIfInBounds_toArray b i.toNat x.toNat.toUInt8) (by rw[aU,cL];exact ad hz (by decide)) λh' hs ho hb=> ?_)
 exact ao ⟨_,rfl,h h' hs ho hb⟩
end
theorem qv{κ:Type} [DecidableEq κ] (k:κ):∀ {es:List (κ×MV)},(es.lookup k).isSome=es.any λe=>decide (e.1=k)
 | []=>rfl
 | (k',v)::es=>by
  refine (ah _ List.lookup_cons).trans ?_;rw[List.any_cons];refine (qv k)▸ ?_
  by_cases q : k=k'
  ·subst q;simp
  ·have : (k==k')=false:=by simpa using q
   simp[this,Ne.symm q]
inductive iO(v:MV)(loc:Loc)(σ:MH)(Q:Unit->Loc->MH->Prop):MV->MV->Prop where
 |list {l} {k:Int} {vs} (f:σ.get l=some (.list vs))(a:0<=k/\k < vs.length/\vs.length<=100000)(h:Q () loc (σ.set l (.list (vs.set k.toNat v)))):iO v loc σ Q (.ref l) (.int k)
 |ba {l} {k x:Int} {b} (f:σ.get l=some (.bW b))(e:v= .int x)(a:0<=k/\k < b.length/\b.length<=100000/\0<=x/\x < 256)(h:Q () loc (σ.set l (.bW (b.set k.toNat x.toNat.toUInt8)))):iO v loc σ Q (.ref l) (.int k)
 |dI {l} {k:Int} {es} (f:σ.get l=some (.bS es))(a:es.length<=100000)(h:Q () loc (σ.set l (.bS (gW es k v)))):iO v loc σ Q (.ref l) (.int k)
 |dS {l x es} (f:σ.get l=some (.dD es))(a:es.length<=100000)(h:Q () loc (σ.set l (.dD (gW es x v)))):iO v loc σ Q (.ref l) (.str x)
noncomputable abbrev P.vk(a i v:MV):P Unit:=λloc σ Q _=>iO v loc σ Q a i
inductive qZ(loc:Loc)(σ:MH)(Q:Unit->Loc->MH->Prop):MV->MV->Prop where
 |list {l} {k:Int} {vs} (f:σ.get l=some (.list vs))(a:0<=k/\k < vs.length/\vs.length<=100000)(h:Q () loc (σ.set l (.list (vs.eraseIdx k.toNat)))):qZ loc σ Q (.ref l) (.int k)
 |dI {l} {k:Int} {es} (f:σ.get l=some (.bS es))(a:es.length<=100000/\es.any (λe=>e.1=k)=true)(h:Q () loc (σ.set l (.bS (C1 es k)))):qZ loc σ Q (.ref l) (.int k)
noncomputable abbrev P.vo(a i:MV):P Unit:=λloc σ Q _=>qZ loc σ Q a i
section
variable {cx:Cx}{n:Nat}{fd:Fd}
theorem Out.set{A:Around}{ρ:LA->Addr}{σ:MH}{loc:Loc}{s:Shared}{Q:Unit->Loc->MH->Prop}(G:Good cx n fd A ρ σ loc s){l:LA}(hl:σ.us l){o':MO}{x':Obj}{h':Heap}(t:Nat)(hsz:h'.objs.size=s.heap.objs.size)
  (hother:∀a,a≠ρ l->h'.get? a=s.heap.get? a)(hx:h'.get? (ρ l)=some x')(hnt:¬Internal.IsTup x')(hrel:fh ρ σ.us s.heap ρ σ.us h'->mu cx.prog cx.w ρ σ.us h' (ρ l) o')(hq:Q () loc (σ.set l o')) :
  Out cx n fd A ρ σ s cg.unit Q () { s with heap:=h',toks:=t }:=by
 refine dw (G.upd hl (t:=t) hsz hother hx hnt hrel) λG' S'=> ?_
 exact⟨(),_,_,_,S',G',trivial,hq⟩
theorem qe{h:Heap}{a:Addr}{K:Type} [DecidableEq K] {knd:PySem.KeyKind cx.prog cx.w K}{kvs:List (K×Value)}(x:h.DictOf knd a kvs):∃o,h.get? a=some o/\¬Internal.IsTup o:=by
 refine Fb x λo es ep e c d _=> ?_
 exact⟨o,e,ca d⟩
theorem Es{l:Addr}{items:Array Value}{ep:Nat}{k:Int}{t:Tok}{v:Value}{prog:Program}{w:World}{A:Around}{E:Value->Shared->Prop}{s:Shared}{Q:Unit->Shared->Prop}(e:s.heap.get? l=some { cls:= .type "list",data:= .seq items ep })
  (h0:0<=k)(h1:k < items.size)(hz:items.size<=100000)
  (hQ:∀h',h'.PlainList l (items.setIfInBounds k.toNat v)->Heap.SameBut l s.heap h'->Q () { s with heap:=h' }):wpAny (model prog w) A (setItem (.ref l) (.int k t) v) Q E s:=by
 refine nc (show s.heap.IsList l items from ⟨_,e,rfl,ep,rfl⟩).typeIs (by decide) slot_list_setitem (wpAny_call_entry slot_list_setitem (show s.heap.IsList l items from ⟨_,e,rfl,ep,rfl⟩).typeIs entry_list_setitem ?_ (args_list_setitem _ _ _))
 show wpAny _ _ (Builtin.List.listSubscript? (.int k t) >>= _) _ _ s
 refine af (wpAny_listSubscript_int (fitsIndex_of h0 (aN h1 (bp (aW.mpr hz) (by decide)))) ?_)
 obtain⟨j,rfl⟩:=Int.eq_ofNat_of_zero_le h0
 have hj : j < items.size:=by exact aX.mp h1
 refine af (af (wpAny_seqItemAt e rfl (ao ?_)))
 refine ae (Array.getElem?_eq_getElem hj)▸ ?_
 have hfin : (s.heap.update l (Obj.mapSeq (·.setIfInBounds j v))).PlainList l (items.setIfInBounds j v):=by
  exact⟨if (items.setIfInBounds j v).size==items.size then ep else ep+1,dJ (Obj.mapSeq (·.setIfInBounds j v)) e rfl⟩
 refine af (wpAny_setSeqItemAt e rfl ?_)
 exact ao ⟨.none,rfl,hQ _ hfin (Heap.SameBut.update ..)⟩
theorem qg{k:Nat}(h:k<=100000):k<=sizeLine:=by rw[aU];exact ad h (by decide)
theorem Out.Jd{A:Around}{ρ:LA->Addr}{σ:MH}{loc:Loc}{s:Shared}{Q:Unit->Loc->MH->Prop}(G:Good cx n fd A ρ σ loc s){l:LA}(hl:σ.us l){o':MO}{h':Heap}(t:Nat){K:Type} [DecidableEq K] {knd:PySem.KeyKind cx.prog cx.w K}{kvs:List (K×Value)}(d:h'.DictOf knd (ρ l) kvs)
  (sb:Heap.SameBut (ρ l) s.heap h')(hrel:fh ρ σ.us s.heap ρ σ.us h'->mu cx.prog cx.w ρ σ.us h' (ρ l) o')(hq:Q () loc (σ.set l o')):Out cx n fd A ρ σ s cg.unit Q () { s with heap:=h',toks:=t }:=by
 refine aT (qe d) λo' e' nt=> ?_
 exact Out.set G hl t sb.1 sb.2 e' nt hrel hq
theorem wh{a i v:MV}{va vi vv:Value}:nS cx n fd (λρ U h=>VR ρ U h a va/\VR ρ U h i vi/\VR ρ U h v vv) cg.unit (setItem va vi vv) (P.vk a i v):=by
 intro A ρ σ loc s Q X G hp hm
 obtain⟨ha,hi,hv⟩:=hp
 generalize ey cx n fd A ρ σ s X=E'
 induction hm with
 |list f a h=>
  refine eA (G.list f) λxs ep o1 r1=> ?_
  have l1:=r1.len
  rw[bu] at l1
  apply ha.eB;intro ua;apply hi.eH;intro u
  refine Es o1 a.1 (aN a.2.1 (aW.mpr (ad (aw l1.symm) (aG _)))) (ad (ad (aw l1) a.2.2) (by decide)) λh' ⟨ep',hl⟩ sb=> ?_
  exact Out.set (o':= .list _) G ua s.toks sb.1 sb.2 hl cP (λkp=>⟨_,ep',hl,Array.toList_setIfInBounds.symm▸(r1.set _ hv).mono kp⟩) h
 |ba f e a h=>
  subst e
  apply ha.eB;intro ua;apply hi.eH;intro u;apply hv.eH;intro w
  exact Hl (G.obj _ _ f).2 a.1 a.2.1 a.2.2.1 a.2.2.2.1 a.2.2.2.2 λh' hs ho hb=>Out.set (o':= .bW _) G ua s.toks hs ho hb gN (λ_=>hb) h
 |dI f a h=>
  obtain⟨kvs,d,r⟩:=(G.obj _ _ f).2
  apply ha.eB;intro ua;apply hi.eH;intro u
  exact wpAny_setItem_pairs (knd:=intKind cx.prog cx.w) (beq_self_eq_true _) d (λh' d' sb=>Out.Jd (o':= .bS _) G ua _ d' sb (λkp=>⟨_,d',(r.mono kp).stored (λ_ _ z=>z) _ (hv.mono kp)⟩) h) (r.len▸qg a)
 |dS f a h=>
  obtain⟨kvs,d,r⟩:=(G.obj _ _ f).2
  apply ha.eB;intro ua;apply hi.A7;intro u
  exact wpAny_setItem_pairs (knd:=PySem.strKind cx.prog cx.w) (beq_self_eq_true _) d (λh' d' sb=>Out.Jd (o':= .dD _) G ua _ d' sb (λkp=>⟨_,d',(r.mono kp).stored (λ_ _ z=>gx z) _ (hv.mono kp)⟩) h) (r.len▸qg a)
theorem vH{a i:MV}{va vi:Value}:nS cx n fd (λρ U h=>VR ρ U h a va/\VR ρ U h i vi) cg.unit (delItem va vi) (P.vo a i):=by
 intro A ρ σ loc s Q X G hp hm
 obtain⟨ha,hi⟩:=hp
 generalize ey cx n fd A ρ σ s X=E'
 induction hm with
 |list f a h=>
  refine eA (G.list f) λxs ep o1 r1=> ?_
  have l1:=r1.len
  rw[bu] at l1
  apply ha.eB;intro ua;apply hi.eH;intro u
  refine wpAny_delItem_plain ⟨ep,o1⟩ (by simp[Builtin.List.listFitsIndex];exact⟨bp (by decide) a.1,aN a.2.1 (bp (aW.mpr a.2.2) (by decide))⟩) (l1▸kH a.1 a.2.1) (λh' ⟨ep',hl⟩ sb=> ?_) (l1▸qg a.2.2)
  exact Out.set (o':= .list _) G ua s.toks sb.1 sb.2 hl cP (λkp=>⟨_,ep',hl,by simpa using (r1.erase _).mono kp⟩) h
 |dI f a h=>
  obtain⟨kvs,d,r⟩:=(G.obj _ _ f).2
  apply ha.eB;intro ua;apply hi.eH;intro u
  refine bl (af (wpAny_sequenceKey d.typeIs (by decide) ?_))
  refine af (wpAny_callSpecial?_slot (name:=Str.ofString "__delitem__") d.typeIs PySem.F.slot_dict_delitem
   (call_meetsIn PySem.F.slot_dict_delitem d.typeIs PySem.F.entry_dict_delitem (PySem.F.args_dict_delitem_2 _ _) (meets_dict_delitem_pairs (intKind cx.prog cx.w) _ (beq_self_eq_true _)) ⟨kvs,d,r.len▸qg a.1, ?_,λh' d' sb=> ?_⟩))
  ·exact (r.lookup (λ_ _ z=>z) _).same.trans ((qv _).trans a.2)
  ·exact ao (Out.Jd (o':= .bS _) G ua _ d' sb (λkp=>⟨_,d',(r.mono kp).del (λ_ _ z=>z) _⟩) h)
end
end Internal
namespace Internal
open PySem PySem.W PyProof.Rows PySem.Calls
section
variable {cx:Cx}{n n1 n2:Nat}{fd fc:Fd}{A A':Around}{ρ ρ':LA->Addr}{σ σ':MH}{loc loc':Loc}{s s₁ s₂:Shared}
theorem yt.slots{k:Kd}{o:Obj}{sl:Array (Option Value)}(f:yt k o):yt k { o with slots:=sl }:=match k,f with
 | .any,f=>f
 | .cell,f=>f
 | .dict,f=>f
theorem Good.own(G:Good cx n fd A ρ σ loc s){a:Addr}(ha:a∈fd.cI):∃o,s.heap.get? a=some o:=(by obtain⟨_,_,_,o,e,_⟩:=G.cI a ha;exact⟨o,e⟩)
theorem Good.jk(G:Good cx n fd A ρ σ loc s){a:Addr}(h:a∈fd.gB.filterMap (·.frame)):a=fd.env.locals∨a∈fd.oR:=by
 rcases G.Ll with k | ⟨k,kf,_⟩
 ·rw[k] at h;exact .inr h
 ·rw[k,List.filterMap_cons,kf] at h
  rcases aK.mp h with q | q
  ·exact .inl q
  ·exact .inr q
theorem Good.back(G:Good cx n1 fd A ρ σ loc s)(hrest:∃h' tk,s₁={ s with heap:=h',toks:=tk })(hk:∀a o,s.heap.get? a=some o->s₁.heap.get? a=some o)
  (S:Step fc ρ σ.us s₁ ρ' σ'.us s₂)(G':Good cx n2 fc A' ρ' σ' loc' s₂)(ho:fc.outer=fd.gB)(hm:∀a∈fc.cI,s.heap.get? a=none) :
  Good cx n1 fd A ρ' σ' loc s₂/\Step fd ρ σ.us s ρ' σ'.us s₂:=by
 have nm : ∀a o,s.heap.get? a=some o->a∉fc.cI:=λa o e m=>by replace e:=(hm a m)▸e;exact nomatch e
 have keep : ∀a o,s.heap.get? a=some o->(∀l,σ.us l->ρ l≠a)->a∉fd.oR->a≠fd.env.locals->s₂.heap.get? a=some o:=λa o e f m1 m2=>
  S.keep a o (hk a o e) f (nm a o e) (λq=>by rw[(show fc.oR=fd.gB.filterMap (·.frame) by show fc.outer.filterMap _=_;exact ah _ ho)] at q;exact (G.jk q).elim m2 m1)
 have gc : ∀a o,s.heap.get? a=some o->(∀l,σ.us l->ρ l≠a)->∃sl,s₂.heap.get? a=some { o with slots:=sl }:=λa o e f=>by
  by_cases q : a∈fc.oR
  ·exact S.gc a o (hk a o e) f (nm a o e) q
  ·exact⟨o.slots,S.keep a o (hk a o e) f (nm a o e) q⟩
 have ST : Step fd ρ σ.us s ρ' σ'.us s₂:=by
  refine⟨?_,λa o e=>S.ex a o (hk a o e),S.us,λl u z=> ?_,λa o e f m1 m2=>keep a o e f m2 λq=>m1 (q▸G.di),λa o e f m1 m2=>gc a o e f⟩
  ·refine fv hrest λh1 t1 zr2_=> ?_;subst zr2_
   refine fv S.rest λh2 t2 zr2_=> ?_;subst zr2_
   exact⟨h2,t2,rfl⟩
  ·cases q : s.heap.get? (ρ' l) with
   |none=>rfl
   |some o=>have:=S.fresh l u z;replace this:=(hk _ _ q)▸this;cases this
 have fo : ∀a o,s.heap.get? a=some o->(∀l,σ.us l->ρ l≠a)->∀l,σ'.us l->ρ' l≠a:=λa o e f l u q=>by
  by_cases z : σ.us l
  ·exact f l z ((S.us l z).2.symm.trans q)
  ·subst q;exact nomatch (ST.fresh l u z).symm.trans e
 refine⟨⟨G'.obj,G'.inj,G'.low,G'.top,G.loc.mono (ST.keeps G) (λm ns=> ?_) (λc hc o e=> ?_),λsp=>have p:=G.foot sp;⟨p.z,let ⟨o,e,_⟩:=p.e;fo _ o e p.u,let ⟨o,e,f⟩:=p.e;(by refine cN (gc _ o e p.u) λ_ e'=> ?_;exact⟨_,e',f.slots⟩)⟩,G.st,G.ak, ?_⟩,ST⟩
 ·refine iR ns λo es ep e r=> ?_
  refine cN (gc _ _ e (G.foot (.cI G.di)).u) λsl e'=> ?_
  exact⟨_,es,ep,e',r⟩
 ·exact keep _ _ e (G.foot (.cell hc)).u (G.st.co c hc) (G.iu c hc)
 ·obtain⟨h1,t1,rfl⟩:=hrest
  refine fv S.rest λh2 t2 zr2_=> ?_;subst zr2_
  exact G.gens
theorem Good.Jw(G:Good cx n fd A ρ σ loc s)(a:Addr)(ha:a∈fd.gB.filterMap (·.frame)):∃o es ep,s.heap.get? a=some o/\o.data= .dict es ep:=by
 refine Or.elim (G.jk ha) (λq=> ?_) λq=> ?_
 ·exact (by refine JO G.locals λ_ o es ep e d _=> ?_;exact⟨o,es,ep,q▸e,d⟩)
 ·exact (by obtain⟨o,e,es,ep,d⟩:=(G.foot (.frame q)).e;exact⟨o,es,ep,e,d⟩)
theorem Good.Jz(G:Good cx n fd A ρ σ loc s)(a:Addr)(ha:a∈fd.gB.filterMap (·.frame)):cx.h0.objs.size<=a/\∀l,σ.us l->ρ l≠a:=by
 refine Or.elim (G.jk ha) (λq=> ?_) λq=> ?_
 ·have p:=G.foot (.cI G.di);exact q▸⟨p.z,p.u⟩
 ·have p:=G.foot (.frame q);exact⟨p.z,p.u⟩
theorem Good.frames(G:Good cx n fd A ρ σ loc s)(kS:fd.env.frame=some fd.env.locals)(hkd:fd.env.scope.kind≠ .module){base:Heap}(hb:∀a∈fd.gB.filterMap (·.frame),base.get? a=none)
  (Eo:fd.gB=fd.env::fd.outer):s.heap.FunFrames base (fd.env::fd.outer):=by
 refine cN G.locals λmL nsL=> ?_
 refine sd (_root_.id nsL) λoL es ep eL dL restL=> ?_
 rw[Eo,List.filterMap_cons] at hb;replace hb:=kS▸hb
 refine⟨hkd,⟨_,oL,kS,hb _ (.head _),eL,λvs z=>by replace z:=dL▸z;cases z⟩, ?_⟩
 have key : ∀l : List Env,(∀e∈l,e∈fd.outer)->s.heap.FunFrames base l:=by
  intro l
  induction l with
  |nil=>exact λ_=>trivial
  |cons e l ih=>
   intro hl
   obtain⟨a1,L,o,es,ep,a2,a3,a4,a5,a6⟩:=G.MW e (hl e (.head _))
   exact⟨a1,⟨L,o,a2,hb L (.tail _ (cS.mpr ⟨e,hl e (.head _),a2⟩)),a5,λvs z=>by replace z:=a6▸z;cases z⟩,ih λx hx=>hl x (.tail _ hx)⟩
 exact key _ λ_ h=>h
noncomputable abbrev bare(h:Heap)(fd:Fd)(e:Addr)(T:List Addr):Heap:=hideAll h (fd.gB.filterMap (·.frame)++e::T)
theorem Good.Eb(G:Good cx n fd A ρ σ loc s)(htop:∀b o,cx.h0.get? b=some o->s₁.heap.get? b=some o){U:LA->Prop}{ρ₁:LA->Addr}(S:Step fd ρ₁ U s₁ ρ σ.us s)
  (hold:∀a,a∈fd.cI∨(∃c∈fd.env.cells,c.2=a)->∃o,s₁.heap.get? a=some o){e C:Addr}{oe:Obj}{vs:Array Value}(he:s.heap.get? e=some oe)(hd:oe.data= .fields vs)
  (hg:s₁.heap.get? e=none)(hu:∀l,σ.us l->ρ l≠e){T:List Addr}(hT:∀a∈T,(∀l,σ.us l->ρ l≠a)/\s₁.heap.get? a=none/\∃o vs,s.heap.get? a=some o/\o.data= .fields vs)
  {h':Heap}(l1:(bare s.heap fd e T).StaysIn h')(l4:∀b o,s.heap.get? b=some o->(∀vs,o.data≠ .fields vs)->∃sl,h'.get? b=some { o with slots:=sl }) :
  Good cx n fd A ρ σ loc { s with heap:=h' }/\Step fd ρ₁ U s₁ ρ σ.us { s with heap:=h' }/\
  (∀ {a0 fl:Value}{fr:Option Addr},h'.TracedAtW (bare s.heap fd e T) e (.ref C) a0 fl->(fl= .none∨∃l,fr=some l/\fl=rawInt l)->ExcAt ρ σ.us h' s₁.heap fr e C):=by
 have hk : ∀a o,a∉fd.gB.filterMap (·.frame)++e::T->s.heap.get? a=some o->h'.get? a=some o:=λa o d z=>l1 a o (hideAll_get _ z d)
 have nofield : ∀a o,s.heap.get? a=some o->(∀vs,o.data≠ .fields vs)->a∉e::T:=λa o z nf m=>by
  refine Or.elim (aK.mp m) (λq=> ?_) λq=> ?_
  ·exact nf vs (aP (he.symm.trans (q▸z))▸hd)
  ·exact (by obtain⟨_,_,o',vs',z',d'⟩:=hT a q;exact nf vs' (aP (z'.symm.trans z)▸d'))
 have old : ∀a o,s₁.heap.get? a=some o->a∉e::T:=λa o z m=>by
  refine Or.elim (aK.mp m) (λq=> ?_) λq=> ?_
  ·cases q;exact nomatch hg.symm.trans z
  ·exact nomatch (hT a q).2.1.symm.trans z
 have dictF : ∀a∈fd.gB.filterMap (·.frame),∀o,s.heap.get? a=some o->∃es ep,o.data= .dict es ep:=λa m o z=>
  let ⟨_,es,ep,z',d'⟩:=G.Jw a m;⟨es,ep,aP (z'.symm.trans z)▸d'⟩
 have gc : ∀a o,s.heap.get? a=some o->a∉e::T->∃sl,h'.get? a=some { o with slots:=sl }:=λa o z m=>by
  by_cases q : a∈fd.gB.filterMap (·.frame)
  ·exact l4 a o z λvs y=>let ⟨_,_,d⟩:=dictF a q o z;nomatch d.symm.trans y
  ·exact⟨o.slots,hk a o (λx=>(bI.mp x).elim q m) z⟩
 have named : ∀l,σ.us l->ρ l∉fd.gB.filterMap (·.frame)++e::T:=λl u q=>by
  refine Or.elim (bI.mp q) (λq=> ?_) λq=> ?_
  ·exact (G.Jz _ q).2 l u rfl
  ·refine Or.elim (aK.mp q) (λq=> ?_) λq=> ?_
   ·exact hu l u q
   ·exact (hT _ q).1 l u rfl
 have D2 : ∀ {a k},Spot fd a k->∀o,s.heap.get? a=some o->yt k o->a∉e::T:=λsp o z f=>by
  induction sp with
  |cI h=>exact (by obtain⟨o',z'⟩:=hold _ (.inl h);exact old _ o' z')
  |cell h=>exact (by obtain⟨o',z'⟩:=hold _ (.inr ⟨_,h,rfl⟩);exact old _ o' z')
  |frame h=>exact nofield _ o z λvs y=>(by refine fv f λ_ _ d=> ?_;exact nomatch d.symm.trans y)
 refine⟨G.kept (·∈fd.gB.filterMap (·.frame)++e::T) hk (λa o z c m=> ?_) named (λb o z m=> ?_) (λm ns=> ?_) (λc hc m=> ?_) (λsp _ o z f=>(by refine cN (gc _ o z (D2 sp o z f)) λ_ z'=> ?_;exact⟨_,z',f.slots⟩)),
  ⟨?_,λa o z=> ?_,S.us,S.fresh,λa o z f m1 m2=> ?_,λa o z f m1 m2=> ?_⟩,λ{a0 fl fr} l3 hfl=> ?_⟩
 ·obtain⟨c1,xs,ep,c2⟩:=c
  refine Or.elim (bI.mp m) (λq=> ?_) λq=> ?_
  ·exact let ⟨_,_,d⟩:=dictF a q o z;nomatch d.symm.trans c2
  ·exact nofield a o z (λvs y=>nomatch c2.symm.trans y) q
 ·refine Or.elim (bI.mp m) (λq=> ?_) λq=> ?_
  ·exact iH (G.Jz _ q).1 (aS z)
  ·exact old b o (htop b o z) q
 ·refine sd ns λo es ep z d r=> ?_
  refine cN (gc _ o z (nofield _ o z λvs y=>nomatch d.symm.trans y)) λsl z'=> ?_
  exact⟨_,es,ep,z',d,r⟩
 ·refine Or.elim (bI.mp m) (λq=> ?_) λq=> ?_
  ·exact (G.jk q).elim (G.iu c hc) (G.st.co c hc)
  ·exact (by refine cN (hold _ (.inr ⟨_,hc,rfl⟩)) λo' z'=> ?_;exact old _ o' z' q)
 ·refine fv S.rest λh1 t1 zr2_=> ?_;subst zr2_
  exact⟨h',t1,rfl⟩
 ·exact let ⟨o',z'⟩:=S.ex a o z;(by obtain⟨_,z''⟩:=gc a o' z' (old a o z);exact⟨_,z''⟩)
 ·exact hk a o (λm=>(bI.mp m).elim (λq=>(G.jk q).elim (λq=>m1 (q▸G.di)) m2) (old a o z)) (S.keep a o z f m1 m2)
 ·refine cN (S.gc a o z f m1 m2) λsl z'=> ?_
  exact (by obtain⟨sl2,z2⟩:=gc a _ z' (old a o z);exact⟨sl2,z2⟩)
 ·obtain⟨oe',vs',T',oT',ts',b1,⟨b2,b0⟩,b3,b4,b5,b6,b7,b8,b9⟩:=l3
  have bare : ∀o,s.heap.get? T'=some o->T'∈fd.gB.filterMap (·.frame)++e::T:=λo z=>dG λq=>nomatch b5.symm.trans (hideAll_get _ z q)
  refine⟨oe',vs',a0,b1,b2,b3,b0,hg,hu, .tb T' oT' ts' fl b4 b6 ?_ (λl u q=> ?_) b7 b8 b9 hfl⟩
  ·cases z : s₁.heap.get? T' with
   |none=>rfl
   |some o=>
    exfalso
    refine cN (S.ex T' o z) λo' z'=> ?_
    refine Or.elim (bI.mp (bare o' z')) (λq=> ?_) λq=> ?_
    ·refine cN (gc T' o' z' (old T' o z)) λsl z3=> ?_
     refine fv (dictF T' q o' z') λ_ _ d=> ?_
     cases b7.symm.trans z3
     exact nomatch d.symm.trans b8
    ·exact old T' o z q
  ·exact (by obtain⟨_,o,z,_⟩:=G.low l u;exact named l u (q▸bare o (q▸z)))
theorem Good.note(G:Good cx n fd A ρ σ loc s)(htop:∀b o,cx.h0.get? b=some o->s₁.heap.get? b=some o){U:LA->Prop}{ρ₁:LA->Addr}(S:Step fd ρ₁ U s₁ ρ σ.us s){e C:Addr}(x:ExcAt ρ σ.us s.heap s₁.heap fd.env.frame e C)
  (hold:∀a,a∈fd.cI∨(∃c∈fd.env.cells,c.2=a)->∃o,s₁.heap.get? a=some o)(Eo:fd.gB=fd.env::fd.outer)(kS:fd.env.frame=some fd.env.locals)(hkd:fd.env.scope.kind≠ .module){Q:Unit->Shared->Prop}{E:Value->Shared->Prop}{M:Model}
  (h:∀s',Good cx n fd A ρ σ loc s'->Step fd ρ₁ U s₁ ρ σ.us s'->ExcAt ρ σ.us s'.heap s₁.heap fd.env.frame e C->
   (∃oe vs T oT ts,s'.heap.get? e=some oe/\oe.data= .fields vs/\vs[1]?=some (.ref T)/\T≠e/\s'.heap.get? T=some oT/\oT.data= .fields ts/\ts[3]?=some (rawInt fd.env.locals))->Q () s'):wpAny M A (noteFrame (.ref e) fd.env) Q E s:=by
 obtain⟨oe,vs,a0,he,hcls,hd,h0,hg,hu,hT⟩:=_root_.id x
 have frA : A.frames=some (fd.env::fd.outer):=Eo▸G.ak.fr
 have fin : ∀ (T:List Addr),(∀a∈T,(∀l,σ.us l->ρ l≠a)/\s₁.heap.get? a=none/\∃o vs,s.heap.get? a=some o/\o.data= .fields vs)->
   ∀h',Heap.NotedW (bare s.heap fd e T) (fd.env::fd.outer) e (.ref C) a0 (rawInt fd.env.locals) s.heap h'->Q () { s with heap:=h' }:=by
  intro T hT h' ⟨l1,l2,l3,l4⟩
  refine ie (G.Eb (C:=C) htop S hold he hd hg hu hT l1 l4) λG' S' X'=> ?_
  refine h _ G' S' (X' l3 (.inr ⟨_,kS,rfl⟩)) ?_
  obtain⟨oe',vs',T',oT',ts',b1,⟨b2,b0⟩,b3,b4,b5,b6,b7,b8,b9⟩:=l3
  exact⟨oe',vs',T',oT',ts',b1,b3,b4,b6,b7,b8,b9⟩
 rcases hT with h1 | ⟨T,oT,ts,fl,h1,hTe,hTg,hTu,hTo,hTd,h3,hfl⟩
 ·unfold noteFrame
  refine ae kS▸ ?_
  refine af (wpAny_field he hd h1 ?_)
  refine wpAny_entryW (base:=bare s.heap fd e []) frA (G.frames kS hkd (λa ha=>hideAll_none _ (bJ _ ha)) Eo) kS he (λb o z=>of_hideAll _ z) (hideAll_none _ (bx _ (.head _))) hd (Array.getElem?_eq_some_iff.mp h1).1 h0 ?_
  refine ae hcls▸ ?_
  exact fin [] (λ_ h=>nomatch h)
 ·have hTs : ∀a∈[T],(∀l,σ.us l->ρ l≠a)/\s₁.heap.get? a=none/\∃o vs,s.heap.get? a=some o/\o.data= .fields vs:=λa ha=>by
   cases av.mp ha
   exact⟨hTu,hTg,oT,ts,hTo,hTd⟩
  rcases hfl with rfl | ⟨l,hl,rfl⟩
  ·exact wpAny_noteFrame_onW (base:=bare s.heap fd e [T]) frA (G.frames kS hkd (λa ha=>hideAll_none _ (bJ _ ha)) Eo) kS
    ⟨oe,vs,T,oT,ts,he,⟨hcls,h0⟩,hd,h1,hideAll_none _ (bx _ (.tail _ (.head _))),hTe,hTo,hTd,h3⟩ (λb o z=>of_hideAll _ z) (hideAll_none _ (bx _ (.head _))) (fin [T] hTs)
  ·replace hl:=kS▸hl;cases hl
   refine wpAny_noteFrame_againW (base:=E0) kS ⟨oe,vs,T,oT,ts,he,⟨rfl,h0⟩,hd,h1,By _,hTe,hTo,hTd,h3⟩ ?_
   exact h s G S x ⟨oe,vs,T,oT,ts,he,hd,h1,hTe,hTo,hTd,h3⟩
theorem Good.vp(G:Good cx n fd A ρ σ loc s)(htop:∀b o,cx.h0.get? b=some o->s₁.heap.get? b=some o){U:LA->Prop}{ρ₁:LA->Addr}(S:Step fd ρ₁ U s₁ ρ σ.us s){e C:Addr}{fr:Option Addr}(x:ExcAt ρ σ.us s.heap s₁.heap fr e C)
  (hold:∀a,a∈fd.cI∨(∃c∈fd.env.cells,c.2=a)->∃o,s₁.heap.get? a=some o)(f:Option Addr){Q:Unit->Shared->Prop}{E:Value->Shared->Prop}{M:Model}
  (h:∀s',Good cx n fd A ρ σ loc s'->Step fd ρ₁ U s₁ ρ σ.us s'->ExcAt ρ σ.us s'.heap s₁.heap f e C->Q () s'):wpAny M A' (setFlight (.ref e) f) Q E s:=by
 obtain⟨oe,vs,a0,he,hcls,hd,h0,hg,hu,hT⟩:=_root_.id x
 rcases hT with h1 | ⟨T,oT,ts,fl,h1,hTe,hTg,hTu,hTo,hTd,h3,hfl⟩
 ·refine af (wpAny_field he hd h1 ?_)
  exact ao (h s G S ⟨oe,vs,a0,he,hcls,hd,h0,hg,hu, .no h1⟩)
 ·refine af (wpAny_field he hd h1 ?_)
  have hsz3 : 3 < ts.size:=(Array.getElem?_eq_some_iff.mp h3).1
  have hTs : ∀a∈[T],(∀l,σ.us l->ρ l≠a)/\s₁.heap.get? a=none/\∃o vs,s.heap.get? a=some o/\o.data= .fields vs:=λa ha=>by
   cases av.mp ha
   exact⟨hTu,hTg,oT,ts,hTo,hTd⟩
  have other : ∀b,b≠T->(s.heap.update T (Obj.mapFields (·.setIfInBounds 3 (f.elim Value.none λf=>rawInt f)))).get? b=s.heap.get? b:=λb hb=>Heap.get?_update_other _ _ (Ne.symm hb)
  refine wpAny_setField hTo hTd hsz3 ?_
  obtain⟨G',S',X'⟩:=G.Eb (C:=C) (T:=[T]) (h':=s.heap.update T (Obj.mapFields (·.setIfInBounds 3 (f.elim Value.none λf=>rawInt f)))) htop S hold he hd hg hu hTs (λb o z=>(other b λq=>by
    rw[q] at z;replace z:=(hideAll_none _ (bx _ (.tail _ (.head _))))▸z;cases z).trans (of_hideAll _ z)) (λb o z nf=>⟨o.slots,(other b λq=>by rw[q] at z;replace z:=hTo▸z;cases z;exact nf ts hTd).trans z⟩)
  refine h _ G' S' (X' (a0:=a0) (fl:=f.elim Value.none λf=>rawInt f) ⟨oe,vs,T,_,_,(other e (Ne.symm hTe)).trans he,⟨hcls,h0⟩,hd,h1,hideAll_none _ (bx _ (.tail _ (.head _))),hTe,
   dJ _ hTo (Obj.isFreed_of_fields (Obj.data_mapFields hTd _)),Obj.data_mapFields hTd _,by exact Array.getElem?_setIfInBounds_self_of_lt hsz3⟩ ?_)
  cases f with
  |none=>exact .inl rfl
  |some l=>exact .inr ⟨l,rfl,rfl⟩
theorem Good.left(G:Good cx n fd A ρ σ loc s)(htop:∀b o,cx.h0.get? b=some o->s₁.heap.get? b=some o){U:LA->Prop}{ρ₁:LA->Addr}(S:Step fd ρ₁ U s₁ ρ σ.us s){e C:Addr}(x:ExcAt ρ σ.us s.heap s₁.heap fd.env.frame e C)
  (hold:∀a,a∈fd.cI∨(∃c∈fd.env.cells,c.2=a)->∃o,s₁.heap.get? a=some o)(Eo:fd.gB=fd.env::fd.outer)(kS:fd.env.frame=some fd.env.locals)(hkd:fd.env.scope.kind≠ .module){Q:Unit->Shared->Prop}{E:Value->Shared->Prop}{M:Model}
  (h:∀s',Good cx n fd A ρ σ loc s'->Step fd ρ₁ U s₁ ρ σ.us s'->ExcAt ρ σ.us s'.heap s₁.heap none e C->Q () s'):wpAny M A (leaving fd.env (.ref e)) Q E s:=by
 refine af (G.note htop S x hold Eo kS hkd λs' G' S' x' _=> ?_)
 exact G'.vp htop S' x' hold none h
end
set_option genCtorIdx true in
inductive MF where
 |next | brk | cont
 |ret (v:MV)
inductive wF(ρ:LA->Addr)(U:LA->Prop)(h:Heap):MF->Flow->Prop where
 |next : wF ρ U h .next .next
 |brk : wF ρ U h .brk .brk
 |cont : wF ρ U h .cont .cont
 |ret {v x} (r:VR ρ U h v x):wF ρ U h (.ret v) (.ret x)
noncomputable abbrev cg.mA : cg MF Flow:=wF
noncomputable abbrev jG(cx:Cx)(n:Nat)(fd:Fd)(ss:List Stmt)(m:P MF):Prop:=eO cx n fd cg.mA (execs ss fd.env) m
noncomputable abbrev PH(α:Type):=MH->(α->MH->Prop)->(Addr->MH->Prop)->Prop
noncomputable abbrev P.MR{α:Type}(m:PH α):P α:=λloc σ Q X=>m σ (λv σ'=>Q v loc σ') (λC σ'=>X C loc σ')
noncomputable def JJ(cx:Cx)(n:Nat)(fd:Fd)(A:Around)(ρ:LA->Addr)(σ:MH)(s:Shared)(loc:Loc)(Q:MV->MH->Prop)(X:Addr->MH->Prop)(r:Result)(s':Shared):Prop:=match r with
 | .ok (.ret v)=>Out cx n fd A ρ σ s VR (λv l σ'=>l=loc/\Q v σ') v s'
 | .ok _=>False
 | .error e=>ey cx n fd A ρ σ s (λC l σ'=>l=loc/\X C σ') e s'
noncomputable def kD(cx:Cx)(n:Nat)(f:Value)(args:List MV)(m:PH MV):Prop:=
 ∀fd A ρ σ loc s vs Q X,Good cx n fd A ρ σ loc s->cR ρ σ.us s.heap args vs->m σ Q X->codeN cx.M A (.call f ⟨vs,[]⟩) (JJ cx n fd A ρ σ s loc Q X) s
theorem gD : ∀ (ns:List (Str×NameKind))(L L':Nat)(a a':List (Str×Addr)),a.map (·.1)=a'.map (·.1)->(cellsFrom L ns a).map (·.1)=(cellsFrom L' ns a').map (·.1)
 | [],_,_,_,_,h=>h
 | (x,k)::r,L,L',a,a',h=>by
  dsimp only[cellsFrom]
  split
  ·exact gD r _ _ _ _ (by rw[List.map_cons];exact ah _ h)
  ·exact gD r _ _ _ _ h
theorem lookup_mem{x:Str}:∀ {cs:List (Str×Addr)},x∈cs.map (·.1)->(cs.lookup x).isSome=true
 | (y,c)::r,h=>by
  refine (ah _ List.lookup_cons).trans ?_
  by_cases q : x==y
  ·refine ae q▸ ?_;rfl
  ·have q' : (x==y)=false:=by simpa using q
   refine ae q'▸ ?_
   rcases aK.mp h with z | z
   ·exact absurd (eI.mpr z) q
   ·exact lookup_mem z
theorem tf{x:Str}{c:Addr}:∀ {cs:List (Str×Addr)},(cs.map (·.1)).Nodup->(x,c)∈cs->cs.lookup x=some c
 | (y,d)::r,nd,h=>by
  replace nd:=List.nodup_cons.mp nd
  refine (List.lookup_cons).trans ?_
  refine Or.elim (aK.mp h) (λz=> ?_) λz=> ?_
  ·cases z;simp
  ·have : x≠y:=λq=>nd.1 (q▸cq.mpr ⟨_,z,rfl⟩)
   refine ae (show (x==y)=false by simpa using this)▸ ?_;exact tf nd.2 z
structure tR where
 addr : Addr
 fn : FuncData
 body : List Stmt
 names : List Str
 arity : Nat
 dv : List Value
 dm : List MV
structure rW(cx:Cx)(d:tR):Prop where
 obj : ∃o,cx.h0.get? d.addr=some o/\o.data= .func d.fn
 code : cx.h0.CodeRec d.fn.code d.fn.qualname
 co : d.fn.scope.isCoroutine=false
 gen : d.fn.scope.isGenerator=false
 body : d.fn.body= .stmts d.body
 kind : d.fn.scope.kind= .function
 Nh : d.fn.closure=[]
 gl : d.fn.globals=mainGlobals
 bi : d.fn.builtins=builtinsNs
 nd : (d.names.take d.arity).Nodup
 ar : d.arity<=d.names.length
 par : ∀x∈d.names.take d.arity,d.fn.scope.names.lookup x=some .local∨(d.fn.scope.names.lookup x=some .cell/\x∈(cellsFrom 0 d.fn.scope.names []).map (·.1))
 cn : ((cellsFrom 0 d.fn.scope.names []).map (·.1)).Nodup
 dl : d.dm.length=d.dv.length
 dr : ∀ρ U h,cR ρ U h d.dm d.dv
 bind : ∀ (s:Shared)(vals:List Value),(∀b o,cx.h0.get? b=some o->s.heap.get? b=some o)->vals.length<=d.arity->d.arity<=vals.length+d.dv.length->
  BindsTo s d.fn ⟨vals,[]⟩ ((d.names.take d.arity).zip (vals++d.dv.drop (d.dv.length - (d.arity - vals.length))))
noncomputable abbrev Fd.call(fd:Fd)(d:tR)(L:Addr):Fd:=
 { env:=callEnvC d.fn L d.addr,names:=d.names,cI:=L::(callEnvC d.fn L d.addr).cells.map (·.2),outer:=fd.gB,gB:=callEnvC d.fn L d.addr::fd.gB }
theorem sQ(k:Str->Option NameKind)(x:Str):∀ (b:List (Str×Value))(m:Str->Option Value),x∉b.map (·.1)->bindL k b m x=m x
 | [],_,_=>rfl
 | (y,v)::r,m,h=>by
  rw[List.map_cons,aK] at h;replace h:=not_or.mp h
  refine ((sQ k x r _ h.2)).trans ?_
  split
  ·simp[h.1]
  ·rfl
theorem sU(k:Str->Option NameKind)(x:Str):∀ (b:List (Str×Value))(m:Str->Option Value),x∉b.map (·.1)->bindC k b m x=m x
 | [],_,_=>rfl
 | (y,v)::r,m,h=>by
  rw[List.map_cons,aK] at h;replace h:=not_or.mp h
  refine ((sU k x r _ h.2)).trans ?_
  split
  ·rfl
  ·simp[h.1]
theorem yP(k:Str->Option NameKind):∀ (b:List (Str×Value))(m c:Str->Option Value)(i:Nat)(x:Str)(v:Value),(b.map (·.1)).Nodup->b[i]?=some (x,v)->
  (k x=some .local->bindL k b m x=some v)/\(k x≠some .local->bindC k b c x=some v)
 | [],_,_,_,_,_,_,h=>by simp at h
 | (y,w)::r,m,c,0,x,v,nd,h=>by
  simp only[List.getElem?_cons_zero,Option.some.injEq,Prod.mk.injEq] at h
  obtain⟨rfl,rfl⟩:=h
  rw[List.map_cons,List.nodup_cons] at nd
  refine⟨λq=> ?_,λq=> ?_⟩
  ·rw[bindL];refine ((sQ k y r _ nd.1)).trans ?_;rw[if_pos q];simp
  ·rw[bindC];refine ((sU k y r _ nd.1)).trans ?_;rw[if_neg q];simp
 | (y,w)::r,m,c,i+1,x,v,nd,h=>by
  simp only[List.getElem?_cons_succ] at h
  rw[List.map_cons,List.nodup_cons] at nd
  refine dw (yP k r (if k y=some .local then λz=>if z=y then some w else m z else m) (if k y=some .local then c else λz=>if z=y then some w else c z) i x v nd.2 h) λh1 h2=> ?_
  exact⟨λq=>by exact h1 q,λq=>by exact h2 q⟩
noncomputable def uW(d:tR)(args:List MV):Loc:=(args++d.dm.drop (d.dm.length - (d.arity - args.length))).map some++List.replicate (d.names.length - d.arity) none
section
variable {cx:Cx}{n:Nat}{fd:Fd}{A:Around}{ρ ρ':LA->Addr}{σ σ':MH}{loc:Loc}{s s₁:Shared}{d:tR}
theorem sP{as:List MV}{k i:Nat}{mv:MV}(h:(as.map some++List.replicate k none)[i]?=some (some mv)):as[i]?=some mv:=by
 rw[List.getElem?_append] at h
 split at h
 ·rw[bc] at h
  exact (by refine aT (be.mp h) λ_ h1 h2=> ?_;exact h1.trans h2)
 ·replace h:=List.getElem?_replicate▸h
  split at h<;>exact nomatch h
theorem AG{names:List Str}{ar k:Nat}{E:Env}{U:LA->Prop}{h:Heap}{as:List MV}{xs:List Value}(nd:(names.take ar).Nodup)(hle:ar<=names.length)(all:cR ρ U h as xs)(al:as.length=ar)
  (ns:h.Ns E.locals (bindL E.kindOf ((names.take ar).zip xs) λ_=>none))(hp:∀x∈names.take ar,E.kindOf x=some .local∨∃c,E.cells.lookup x=some c)
  (hc:∀x c,E.cells.lookup x=some c->h.IsCell c (bindC E.kindOf ((names.take ar).zip xs) (λ_=>none) x)):ib ρ U h E names (as.map some++List.replicate k none):=by
 refine⟨_,ns,λi x mv hx hl=> ?_⟩
 refine aT (all.get (sP hl)) λv hv1 hv2=> ?_
 have hx' : (names.take ar)[i]?=some x:=by refine (List.getElem?_take).trans ?_;refine ((if_pos (al▸(bh.mp (sP hl)).1))).trans ?_;exact hx
 obtain⟨b1,b2⟩:=yP E.kindOf _ (λ_=>none) (λ_=>none) i x v (by rw[List.map_fst_zip (by refine ae bK▸ae all.len▸ae al▸ ?_;exact Nat.min_le_left _ _)];exact nd) (List.getElem?_zip_eq_some.mpr ⟨hx',hv1⟩)
 refine⟨λq=>⟨v,b1 q,hv2⟩,λq=> ?_⟩
 have q' : E.kindOf x≠some .local:=by refine Or.elim q (λq=> ?_) λq=> ?_<;>rw[q]<;>decide
 refine cN ((hp x (au hx')).resolve_left q') λc e=> ?_
 exact⟨c,v,e,b2 q'▸hc x c e,hv2⟩
structure qR(cx:Cx)(n:Nat)(gB:List Env)(A:Around)(ρ:LA->Addr)(σ:MH)(s:Shared):Prop where
 obj : ∀l o,σ.get l=some o->σ.us l/\mu cx.prog cx.w ρ σ.us s.heap (ρ l) o
 inj : ∀l l',σ.us l->σ.us l'->ρ l=ρ l'->l=l'
 low : ∀l,σ.us l->cx.h0.objs.size<=ρ l/\∃o,s.heap.get? (ρ l)=some o/\¬IsTup o
 top : ∀b o,cx.h0.get? b=some o->s.heap.get? b=some o
 sz : cx.h0.objs.size<=s.heap.objs.size
 fr : ∀a∈gB.filterMap (·.frame),At cx.h0.objs.size ρ σ.us s.heap a .dict
 km : ∀e∈gB,e.scope.kind≠ .module/\∃L,e.frame=some L
 ak : LR n A gB
 gens : s.gens=#[]
theorem Good.base(G:Good cx n fd A ρ σ loc s):qR cx n fd.gB A ρ σ s:=
 ⟨G.obj,G.inj,G.low,G.top,G.oQ,λa m=>⟨(G.Jz a m).1,(G.Jz a m).2,(by refine iR (G.Jw a m) λo es ep e d=> ?_;exact⟨o,e,es,ep,d⟩)⟩,λe he=>by
  rcases G.Ll with q | ⟨q,qf,qk⟩
  ·exact G.st.km e (q▸he)
  ·refine Or.elim (aK.mp (q▸he)) (λz=> ?_) λz=> ?_
   ·exact z▸⟨qk,_,qf⟩
   ·exact G.st.km e z,G.ak,G.gens⟩
variable {gB:List Env}
theorem qR.Jj(G:qR cx (n+1) gB A ρ σ s){E:Env}{names:List Str}{loc':Loc}(hf:E.frame=some E.locals)(hk:E.scope.kind≠ .module)(hL:s.heap.objs.size<=E.locals)(ap:E.cells.Pairwise λx y=>x.2≠y.2)(ab:∀c∈E.cells,E.locals < c.2)
  (keep:∀a o,s.heap.get? a=some o->s₁.heap.get? a=some o)(lr:ib ρ σ.us s₁.heap E names loc')(hc:∀c∈E.cells,∃o,s₁.heap.get? c.2=some o/\∃v,o.data= .cell v)(hg:s₁.gens=#[]) :
  Good cx n { env:=E,names,cI:=E.locals::E.cells.map (·.2),outer:=gB,gB:=E::gB } (A.deeper E) ρ σ loc' s₁:=by
 have new : ∀a,s.heap.objs.size<=a->cx.h0.objs.size<=a/\(∀l,σ.us l->ρ l≠a)/\a∉gB.filterMap (·.frame):=λa h=>
  ⟨ad G.sz h,λl u q=>let ⟨_,o,e,_⟩:=G.low l u;iH h (q▸aS e),λq=>(by refine aT ((G.fr a q).e) λo e _=> ?_;exact iH h (aS e))⟩
 have cz : ∀c∈E.cells,s.heap.objs.size<=c.2:=λc m=>ad hL (aL (ab c m))
 have cI : ∀a∈E.locals::E.cells.map (·.2),s.heap.objs.size<=a/\∃o,s₁.heap.get? a=some o/\¬IsTup o:=λa m=>by
  refine Or.elim (aK.mp m) (λq=> ?_) λq=> ?_
  ·exact q▸⟨hL,(by refine JO lr.ns λ_ o _ _ e d _=> ?_;exact⟨o,e,ca d⟩)⟩
  ·exact let ⟨c,m,e⟩:=cq.mp q;e▸⟨cz c m,(by obtain⟨o,z,_,d⟩:=hc c m;exact⟨o,z,jb d⟩)⟩
 refine⟨λl o e=>have z:=G.obj l o e;⟨z.1,z.2.mono (⟨λ_ u=>⟨u,rfl⟩,λa o e _=>keep a o e⟩) (keep _)⟩,G.inj,λl u=>let ⟨a,o,b,c⟩:=G.low l u;⟨a,o,keep _ _ b,c⟩,λb o e=>keep b o (G.top b o e),lr,λsp=> ?_,
  ⟨.head _,ap,λc m=>Nat.ne_of_gt (ab c m),λa m=>(new a (cI a m).1).2.2,λc m=>(new _ (cz c m)).2.2,G.km, .inr ⟨rfl,hf,hk⟩⟩, ?_,hg⟩
 ·induction sp with
  |cI h=>have z:=cI _ h;have y:=new _ z.1;exact⟨y.1,y.2.1,z.2⟩
  |cell h=>have y:=new _ (cz _ h);exact⟨y.1,y.2.1,hc _ h⟩
  |frame h=>exact have p:=G.fr _ h;⟨p.z,p.u,(by refine aT p.e λo e d=> ?_;exact⟨o,keep _ o e,d⟩)⟩
 ·have ak:=G.ak
  refine⟨ak.hh, ?_, ?_, ?_⟩
  ·exact KS ak.dep (bb (aj rfl) _)
  ·exact Ks ak.un (bb (aj rfl) _)
  ·show A.frames.map _=_;refine (ah _ ak.fr).trans ?_;rfl
theorem qR.enter(G:qR cx (n+1) gB A ρ σ s)(F:rW cx d){args:List MV}{vals:List Value}(hv:cR ρ σ.us s.heap args vals)(h1:args.length<=d.arity)(h2:d.arity<=args.length+d.dm.length)
  (I:InCallC s (callEnvC d.fn s.heap.objs.size d.addr).locals (bindL (callEnvC d.fn s.heap.objs.size d.addr).kindOf ((d.names.take d.arity).zip (vals++d.dv.drop (d.dv.length - (d.arity - vals.length)))) λ_=>none) (callEnvC d.fn s.heap.objs.size d.addr).cells
    (bindC (callEnvC d.fn s.heap.objs.size d.addr).kindOf ((d.names.take d.arity).zip (vals++d.dv.drop (d.dv.length - (d.arity - vals.length)))) λ_=>none) s₁) :
  Good cx n ⟨callEnvC d.fn s.heap.objs.size d.addr,d.names,s.heap.objs.size::(callEnvC d.fn s.heap.objs.size d.addr).cells.map (·.2),gB,callEnvC d.fn s.heap.objs.size d.addr::gB⟩ (A.deeper (callEnvC d.fn s.heap.objs.size d.addr)) ρ σ (uW d args) s₁:=by
 have k : fh ρ σ.us s.heap ρ σ.us s₁.heap:=⟨λ_ u=>⟨u,rfl⟩,λa o e _=>I.toInCall.keep a o e⟩
 have fst : (callEnvC d.fn s.heap.objs.size d.addr).cells.map (·.1)=(cellsFrom 0 d.fn.scope.names []).map (·.1):=gD _ _ _ [] [] rfl
 have hp : ∀x∈d.names.take d.arity,(callEnvC d.fn s.heap.objs.size d.addr).kindOf x=some .local∨∃c,(callEnvC d.fn s.heap.objs.size d.addr).cells.lookup x=some c:=λx m=>
  (F.par x m).imp_right λz=>cb.mp (lookup_mem (fst▸z.2))
 have hg : s₁.gens=#[]:=(by refine fv I.toInCall.same λ_ _ e=> ?_;exact e▸G.gens)
 refine G.Jj rfl (by refine ae (show (callEnvC d.fn s.heap.objs.size d.addr).scope=d.fn.scope from rfl)▸ae F.kind▸ ?_;decide) (aG _) I.apart (λc m=>I.above c.1 c.2 m) I.toInCall.keep ?_ (λc m=>(by refine aT (I.cell c.1 c.2 (tf (fst▸F.cn) m)) λo e dd=> ?_;exact⟨o,e,_,dd⟩)) hg
 generalize callEnvC d.fn s.heap.objs.size d.addr=E at *
 have vl : vals.length=args.length:=hv.len
 have ds : (d.dm.drop (d.dm.length - (d.arity - args.length))).length=d.arity - args.length:=List.length_drop.trans (Nat.sub_sub_self (Nat.sub_le_iff_le_add'.mpr h2))
 refine AG F.nd F.ar (cR.append (hv.mono k) (by refine ae vl▸ae F.dl▸ ?_;exact (F.dr _ _ _).drop _)) (by refine (aA).trans ?_;refine (ah _ ds).trans ?_;exact Nat.add_sub_of_le h1) I.toInCall.ns hp I.cell
noncomputable abbrev f0 : MF->MV
 | .ret v=>v
 |_=> .none
noncomputable abbrev PH.fn(d:tR)(args:List MV)(m:P MF):PH MV:=λσ Q X=>(args.length<=d.arity/\d.arity<=args.length+d.dm.length)/\m (uW d args) σ (λf _ σ'=>Q (f0 f) σ') (λC _ σ'=>X C σ')
theorem qA{body:List Stmt}{env:Env}{prog:Program}{w:World}{R:Result->Shared->Prop}
  (h:cW (model prog w) (A.deeper env) (execs body env) (λf s'=>R (.ok (.ret (match f with | .ret v=>v | _=> .none))) s')
   (λe s'=>cW (model prog w) (A.deeper env) (leaving env e) (λ_ s''=>R (.error e) s'') (λe' s''=>R (.error e') s'') s') s) :
  codeN (model prog w) A (.func body env) R s:=by
 refine bP (λ_ _ _ _=>rfl) ?_
 show cW _ (A.deeper env) (do point;match<-(execs body env).onRaise (leaving env) with | .ret v=>ret v | _=>ret .none) _ _ s
 refine ai (.of (wpAny_point (ai (dx (aD h (λf s' h'=> ?_) λ_ _ h'=>h')))))
 cases f<;>exact ax h'
noncomputable abbrev tR.bound(d:tR)(vals:List Value):List (Str×Value):=(d.names.take d.arity).zip (vals++d.dv.drop (d.dv.length - (d.arity - vals.length)))
noncomputable abbrev tR.env(d:tR)(L:Addr):Env:=callEnvC d.fn L d.addr
theorem oa(F:rW cx d){vals:List Value}(top:∀b o,cx.h0.get? b=some o->s.heap.get? b=some o)(hdep:A.depth < recursionLimit)(h1:vals.length<=d.arity)(h2:d.arity<=vals.length+d.dv.length){Q:Fin->Shared->Prop}{E:Value->Shared->Prop}
  (h:∀s₁,InCallC s (d.env s.heap.objs.size).locals (bindL (d.env s.heap.objs.size).kindOf (d.bound vals) λ_=>none) (d.env s.heap.objs.size).cells (bindC (d.env s.heap.objs.size).kindOf (d.bound vals) λ_=>none) s₁->Q (.again (.func d.body (d.env s.heap.objs.size))) s₁) :
  wpAny cx.M A (callAny (.ref d.addr) ⟨vals,[]⟩) Q E s:=by
 refine aT F.obj λo ho hd=> ?_
 refine FA F.code λc oc vs tq hc hoc hdc hq=> ?_
 refine af (wpAny_load (top _ _ ho) ?_)
 simp only[hd,callFunction,F.co,F.gen,F.body,hc,F.Nh,F.gl,F.bi]
 refine af (m:=field (.ref c) 1) (wpAny_field (top _ _ hoc) hdc hq (af (ao (af (F.bind s vals top h1 h2 _ _ _ _ ?_)))))
 refine af (wpAny_newFunctionEnv_cells F.kind (λx hx=> ?_) λenv he s₁ I=> ?_)
 ·exact (F.par x.1 (List.of_mem_zip hx).1).imp_right λz=>⟨z.1,lookup_mem (by rw[gD _ _ 0 [] [] rfl];exact z.2)⟩
 have he : env=d.env s.heap.objs.size:=by refine (he).trans ?_;delta tR.env callEnvC;exact ae F.gl▸ae F.bi▸ae hc▸rfl
 subst he
 exact af (wpAny_enterFrame ((by refine aT cx.nl λmc q1 q2=> ?_;exact⟨mc,q1.keeps λb o z=>I.toInCall.keep b o (top b o z),q2⟩)) hdep (ao (h s₁ I)))
theorem Gi{args:List MV}{m:P MF}(F:rW cx d)(hb:∀fd L,jG cx n (Fd.call fd d L) d.body m):kD cx (n+1) (.ref d.addr) args (PH.fn d args m):=by
 intro fd A ρ σ loc s vals Q X G hv hm
 have zo0_:=hm.1;have h1:=zo0_.1;have h2:=zo0_.2
 refine bP (λ_ _ _ _=>rfl) (.of (oa F G.top (by have:=G.ak.dep;show A.depth < _;exact az (Nat.le_add_right_of_le (Nat.le_add_right_of_le (aG _))) this) (hv.len▸h1) (by refine ae hv.len▸F.dl▸ ?_;exact h2) λs₁ I=>And.intro rfl ?_))
 have G1:=G.base.enter F hv h1 h2 I
 have I0:=I.toInCall
 have hmine : ∀a∈(Fd.call fd d s.heap.objs.size).cI,s.heap.get? a=none:=λa m=>by
  cases q : s.heap.get? a with
  |none=>rfl
  |some o=>
   rcases aK.mp m with z | z
   ·exact (iH (aw z.symm) (aS q)).elim
   ·exact (by refine aT (cq.mp z) λc hc e=> ?_;exact (iH (aL (I.above c.1 c.2 hc)) (e▸aS q)).elim)
 refine qA (aD (hb fd s.heap.objs.size _ ρ σ _ s₁ _ _ G1 trivial hm.2) (λf s₂ y=> ?_) λe s₂ y=> ?_)
 ·obtain⟨mf,ρ',σ',l',S,G2,r,hq⟩:=y
  refine dw (G.back I0.same I0.keep S G2 rfl hmine) λG3 S3=> ?_
  refine⟨f0 mf,ρ',σ',loc,S3,G3, ?_,rfl,hq⟩
  induction r with
  |ret r=>exact r
  |_=>exact .none
 ·obtain⟨e',C,ρ',σ',l',rfl,S,G2,x,hx⟩:=y
  refine .of (G2.left G1.top S x (λa h=> ?_) rfl rfl (by refine ae (show (Fd.call fd d s.heap.objs.size).env.scope=d.fn.scope from rfl)▸ae F.kind▸ ?_;decide) λs₃ G3 S3 x3=> ?_)
  ·rcases h with h | ⟨c,h,rfl⟩
   ·exact G1.own h
   ·exact (by refine aT ((G1.foot (.cell h)).e) λo e _=> ?_;exact⟨o,e⟩)
  ·refine dw (G.back I0.same I0.keep S3 G3 rfl hmine) λG4 S4=> ?_
   exact⟨e',C,ρ',σ',loc,rfl,S4,G4,(x3.any).le λa o z=>⟨o,I0.keep a o z⟩,rfl,hx⟩
end
end Internal
namespace Internal
open PySem PySem.W PyProof.Rows PySem.Calls Builtin Builtin.ObjectAttr Builtin.Getset_descriptor
section
variable {prog:Program}{w:World}{A:Around}{C:Addr}{R:Result->Shared->Prop}{s:Shared}
theorem eV{id:String}{args:Args}{b:Builtin}(ok:ic (.builtin id args))(hq:(Code.builtin id args).quiet=true)(hb:entryFor table id=some b)
  (h:wpAny (model prog w) A.in1 (checkBuiltinCall id args) (λ_ s₁=>cW (model prog w) (A.under (.builtin id args)) (b args)
   (λfin s'=>match fin with | .done f=>R (.ok f) s' | .again c'=>c'.quiet=true/\codeN (model prog w) A c' R s') (λe s'=>R (.error e) s') s₁)
   (λe s'=>R (.error e) s') s):codeN (model prog w) A (.call (.builtin id) args) R s:=by
 refine bP (λ_ _ _ _=>rfl) ?_
 refine ai (.of (wpAny_mono h (λ_ s₁ h₁=>ax (And.intro hq (bP ok ?_))) λ_ _ h'=>h'))
 show cW _ _ (match entryFor table id with | some b=>b args | none=>unsupported ((withoutEnding? id "#data").getD id)) _ _ s₁
 refine ae hb▸ ?_;exact h₁
theorem IX{rest:List Value}{init:Value}(Y:Makes (model prog w) s.heap C)(hi:Looks (model prog w) s.heap (typeLookup (.ref C) "__init__") (some init))
  (hb:∀self,Looks (model prog w) s.heap (bindSpecial init self) (init,[self]))(hne:(some init != some (Value.builtin "object.__init__"))=true)
  (hq:codeN (model prog w) (A.under (.builtin "type.__call__" ⟨.ref C::rest,[]⟩)) (.call init ⟨.ref (s.heap.objs.size+1)::rest,[]⟩) (InitBack (s.heap.objs.size+1) R) { s with heap:=(s.heap.push emptyDict).push (instObj C s.heap.objs.size) }) :
  codeN (model prog w) A (.call (.ref C) ⟨rest,[]⟩) R s:=by
 have Y':=Y
 obtain⟨⟨oc,od,cd,sl,hC,e1,e2,e4⟩,made,base,self,top,call,typ⟩:=Y
 refine bP (λ_ _ _ _=>rfl) ?_
 show cW _ _ (callAny (.ref C) _) _ _ _
 refine ai (.of (wpAny_load hC ?_))
 skip
 refine ai (.of (call.here ?_))
 dsimp only
 refine ai (ax (ai (ax ?_)))
 refine ax (a:=Fin.again (.call (.builtin "type.__call__") ⟨.ref C::rest,[]⟩)) (And.intro rfl ?_)
 refine eV (λ_ v _ _=>Fa (x:=Builtin.Bytes.sameRef _ v)) (Code.quiet_builtin _ (by decide +kernel)) entry_typeCall (check_slot tc_kind tc_split typ (tc_args _ _ _) ?_)
 unfold Builtin.«type.__call__»
 dsimp only
 refine ai (.of ((show Looks (model prog w) s.heap (mroOf (.ref C)) cd.mro from ((Looks.ld (part:=none) hC).andThen .now).andThen .now).here ?_))
 refine ae e4▸ ?_
 refine ai (.of (made.here ?_))
 refine ai (ax ?_)
 refine ai (aJ (.of (wpAny_call ?_)))
 obtain⟨hh,g,d,t,os⟩:=s
 refine new_K Y' hi (.inl hne) ?_
 have k : ∀b o,hh.get? b=some o->((hh.push emptyDict).push (instObj C hh.objs.size)).get? b=some o:=λb o e=>aI _ (aI _ e)
 have t1 : Looks (model prog w) ((hh.push emptyDict).push (instObj C hh.objs.size)) (typeOf (.ref (hh.objs.size+1))) (.ref C):=(Looks.ld (by heap_get)).andThen .now
 have inst : Looks (model prog w) ((hh.push emptyDict).push (instObj C hh.objs.size)) (isInstance (.ref (hh.objs.size+1)) (.ref C)) true:=t1.andThen (self.keeps k)
 refine ai (.of (inst.at ?_))
 refine ai (aJ ?_)
 dsimp only[callSpecial?,specialOf]
 refine ai (ai (.of (t1.at ?_)))
 refine .of ((hi.keeps k).at ?_)
 refine aJ (ai (.of (((hb (.ref (hh.objs.size+1))).keeps k).at ?_)))
 refine ai (iF ?_)
 refine eW hq λr s' z=> ?_
 rcases r with e | (v | _ | _ | _)<;>first | exact z | exact z.elim | skip
 obtain⟨rfl,z⟩:=z
 exact ax (ax z)
end
noncomputable abbrev PH.new(C:Addr)(init:MV->PH MV):PH MV:=λσ Q X=>∃l d,(¬σ.us l/\¬σ.us d/\l≠d)/\
 init (.ref l) ((σ.new d (.ns [])).new l (.inst C d)) (λv σ'=>(match v with | .none=>Q (.ref l) σ' | _=>False)) X
structure GS(cx:Cx)(C init:Addr):Prop where
 makes : makesIn cx.K C=true
 MB : findIn cx.K (.ref C) "__init__" = some (some (.ref init))
 fn : typeIn cx.K (.ref init)=some (.type "function")
section
variable {cx:Cx}{n:Nat}{fd:Fd}{A:Around}{ρ ρ':LA->Addr}{σ σ':MH}{loc:Loc}{s s₁:Shared}
theorem Good.lower{A':Around}(G:Good cx (n+1) fd A ρ σ loc s)(h1:A'.handled=A.handled)(h2:A'.depth<=A.depth+4)(h3:A'.units<=A.units+40)(h4:A'.frames=A.frames):Good cx n fd A' ρ σ loc s:=
 ⟨G.obj,G.inj,G.low,G.top,G.loc,G.foot,G.st,⟨h1.trans G.ak.hh,KS G.ak.dep h2,Ks G.ak.un h3,h4.trans G.ak.fr⟩,G.gens⟩
theorem Good.raise{A':Around}{n':Nat}(G:Good cx n fd A ρ σ loc s)(k:LR n' A' fd.gB):Good cx n' fd A' ρ σ loc s:=
 ⟨G.obj,G.inj,G.low,G.top,G.loc,G.foot,G.st,k,G.gens⟩
theorem tZ{C d:Addr}:¬IsTup (instObj C d):=j9 (by intro h;cases h)
theorem nQ{h:Heap}{a:Addr}(e:h.get? a=some emptyDict):h.Ns1 a λ_=>none:=
 ⟨_,_,_,e,rfl,λen he=>by simp at he,List.Pairwise.nil,λ_=>rfl⟩
theorem DB{C init:Addr}{args:List MV}{m:MV->PH MV}(K:GS cx C init)(hi:∀l,kD cx n (.ref init) (.ref l::args) (m (.ref l))):kD cx (n+1) (.ref C) args (PH.new C m):=by
 intro fd A ρ σ loc s vals Q X G hv hm
 refine eA hm λl d zo2_ hm=> ?_;refine ie zo2_ λhl hd hne=> ?_
 have XK : cx.K.In s.heap:=cx.X.keeps G.top
 refine IX (makes_of XK K.makes) (looks_findIn XK K.MB) (λself=>bind_fn XK self K.fn) rfl ?_
 refine cN (Ac ρ d s.heap.objs.size) λρ1 N1=> ?_
 refine dw (G.alloc hd N1 (o':= .ns []) s.toks (.push emptyDict) (aG _) (aQ _ rfl) (ca rfl) λk=>⟨_,nQ (aQ _ rfl),λx=> .no,λy hy=>absurd rfl hy⟩) λG1 S1=> ?_
 have e2:=aQ (s.heap.push emptyDict) (o:=instObj C s.heap.objs.size) rfl
 replace e2:=(Heap.size_push ..)▸e2
 obtain⟨ρ2,N2⟩:=Ac ρ1 l (s.heap.objs.size+1)
 obtain⟨G2,S2⟩:=G1.alloc (λq=>q.elim hne hl) N2 (o':= .inst C d) s.toks (.push (instObj C s.heap.objs.size)) (by rw[Heap.size_push];exact aG _) e2 tZ λk=>
  ⟨e2.trans (ah (λx=>some (instObj C x)) ((N2.old d (Ne.symm hne)).trans N1.here).symm), .inr (.inl rfl)⟩
 have G3:=G2.lower (A':=A.under (.builtin "type.__call__" ⟨.ref C::vals,[]⟩)) rfl (by show A.depth+Code.weight _<=_;refine ae (show Code.weight (.builtin "type.__call__" ⟨.ref C::vals,[]⟩)=1 by kernel_rfl)▸ ?_;exact bb (by decide) _) (by show A.units+Code.cUnits _<=_;refine ae (show Code.cUnits (.builtin "type.__call__" ⟨.ref C::vals,[]⟩)=1 by kernel_rfl)▸ ?_;exact bb (by decide) _) (by
  show pushEnvs (Code.envs (.builtin "type.__call__" ⟨.ref C::vals,[]⟩)) A.frames=A.frames
  rfl)
 have S12:=S1.trans S2
 refine eW (hi l fd _ _ _ loc _ _ _ X G3 (cR.cons (v:= .ref l) (N2.ref (σ:=σ.new d (.ns [])) (o:= .inst C d) (h:=(s.heap.push emptyDict).push (instObj C s.heap.objs.size))) (hv.mono (S12.keeps G))) hm) λr s' y=> ?_
 rcases r with e | (_ | _ | _ | v)
 ·obtain⟨e',C',ρ',σ',l',rfl,S,G4,x,rfl,hx⟩:=y
  exact⟨e',C',ρ',σ',_,rfl,S12.trans S,G4.raise G.ak,x.le S12.ex,rfl,hx⟩
 ·exact y.elim
 ·exact y.elim
 ·exact y.elim
 ·obtain⟨a,ρ',σ',l',S,G4,r,rfl,hq⟩:=y
  cases a<;>first | exact hq.elim | skip
  refine⟨r.none_inv, .ref l,ρ',σ',_,S12.trans S,G4.raise G.ak, ?_,rfl,hq⟩
  exact ((S.us l (.inl rfl)).2.trans N2.here)▸VR.ref (S.us l (.inl rfl)).1
end
end Internal
namespace Internal
open PySem PySem.W PyProof.Rows PySem.Calls
section
variable {cx:Cx}{n:Nat}{fd:Fd}
noncomputable abbrev kt(cx:Cx)(n:Nat)(fd:Fd)(pos:Pos)(es:List Expr)(m:P (List MV)):Prop:=eO cx n fd cR (spliced (backTo pos (starEach es fd.env))) m
noncomputable def cj(e:Expr):Bool:=e.ctorIdx != 22
theorem fA{e:Expr}{rest:List Expr}{env:Env}(h:cj e=true):starEach (e::rest) env=(false,eval e env)::starEach rest env:=by
 cases e<;>first | rfl | cases h
theorem oK{pos:Pos}:kt cx n fd pos [] (P.ret []):=aM.pure λ_ _ _ _=> .nil
theorem lY{pos:Pos}{e:Expr}{es:List Expr}{m:P MV}{ms:P (List MV)}(hp:cj e=true)(h:bO cx n fd e m)(hs:kt cx n fd pos es ms) :
  kt cx n fd pos (e::es) (m.bind λa=>ms.bind λas=>P.ret (a::as)):=by
 have q : spliced (backTo pos (starEach (e::es) fd.env))=(eval e fd.env >>= λv=>pure [v] >>= λhere=>holding here (spliced (backTo pos (starEach es fd.env))) >>= λr=>pure (here++r)):=by
  rw[fA hp];rfl
 show eO cx n fd cR _ _
 refine ae q▸ ?_
 refine aM.bind h λa v=> ?_
 show aM cx n fd _ cR (holding [v] (spliced (backTo pos (starEach es fd.env))) >>= λr=>pure ([v]++r)) _
 refine aM.bind (aM.holding (aM.frame (bM.vr (mv:=a) (v:=v)) hs |>.weak λ_ _ _ q=>⟨trivial,q⟩)) λas vs=> ?_
 exact aM.pure λ_ _ _ q=> .cons q.2 q.1
theorem fB(pos:Pos):∀ {es:List Expr}{env:Env},es.all cj=true->(backTo pos (starEach es env)).any (·.1)=false/\(backTo pos (starEach es env)).length=es.length
 | [],_,_=>⟨rfl,rfl⟩
 |e::es,env,h=>by
  replace h:=(Bool.and_eq_true ..).mp h
  refine dw (fB pos (es:=es) (env:=env) h.2) λa b=> ?_
  refine ae (fA h.1)▸ ?_
  refine⟨?_, ?_⟩
  ·show (false||(backTo pos (starEach es env)).any (·.1))=false;refine (a).trans ?_;rfl
  ·show (backTo pos (starEach es env)).length+1=_;refine (ah _ b).trans ?_;rfl
noncomputable abbrev cQ(cx:Cx)(n:Nat)(fd:Fd)(f:Value)(c:List MV->P MV):Prop:=∀as vs,aM cx n fd (λρ U h=>cR ρ U h as vs) VR (call f vs) (c as)
theorem cQ.of{f:Value}{c:List MV->PH MV}(h:∀as,kD cx n f as (c as)):cQ cx n fd f λas=>P.MR (c as):=by
 intro as vs A ρ σ loc s Q X G hv hm
 refine iF (eW (h as fd A ρ σ loc s vs _ _ G hv hm) λr s' y=> ?_)
 rcases r with e | (_ | _ | _ | v)
 ·obtain⟨e',C,ρ',σ',l',rfl,S,G',x,rfl,q⟩:=y
  exact⟨e',C,ρ',σ',_,rfl,S,G',x,q⟩
 ·exact y.elim
 ·exact y.elim
 ·exact y.elim
 ·obtain⟨a,ρ',σ',l',S,G',r,rfl,q⟩:=y
  exact⟨a,ρ',σ',_,S,G',r,q⟩
theorem Dw{α:Type}{M:Model}{A:Around}{E:Value->Shared->Prop}{s:Shared}{vs:List Value}{m:Sem α}{Q:α->Shared->Prop}(h:cW M A m Q E s):cW M A (m.keep vs) Q E s:=
 λΓ p i d=>by rw[Sem.wp_keep];exact h Γ p i d
theorem jj{M:Model}{A:Around}{E:Value->Shared->Prop}{s:Shared}{f:Value}{args:List (Bool×Sem Value)}{Q:Args->Shared->Prop}(ha:args.any (·.1)=false)
  (h:cW M A (spliced args) (λvs s'=>Q ⟨vs,[]⟩ s') E s):cW M A (evalArgs f true args []) Q E s:=by
 cases args with
 |nil=>
  exact ai (aD h (λvs s' h'=>ai (ax (aJ (ai (ax (ai (ax (ax h')))))))) λ_ _ x=>x)
 |cons x r=>
  obtain⟨b,t⟩:=x
  have : b=false:=by rw[List.any_cons,Bool.or_eq_false_iff] at ha;exact ha.1
  subst this
  exact ai (aD h (λvs s' h'=>ai (ax (aJ (ai (ax (ai (ax (ax h')))))))) λ_ _ x=>x)
theorem mI{pos:Pos}{f:Value}{kp:Keeper}{fs:List MV}{first:List Value}{es:List Expr}{ms:P (List MV)}{c:List MV->P MV}(hk:Looks cx.M cx.h0 (keeperOf f) kp)(hkp:kp= .frame∨kp= .machine)(hes:es.all cj=true)
  (h:kt cx n fd pos es ms)(hc:cQ cx n fd f c):aM cx n fd (λρ U h=>cR ρ U h fs first) VR (callWith pos f first (backTo pos (starEach es fd.env)) []) (ms.bind λas=>c (fs++as)):=by
 refine dw (fB pos (es:=es) (env:=fd.env) hes) λh1 h2=> ?_
 intro A ρ σ loc s Q X G hv hm
 unfold callWith
 refine ai (aJ ?_)
 refine jj h1 (aD (h A ρ σ loc s _ X G trivial hm) (λvs s1 y=> ?_) λ_ _ y=>y)
 obtain⟨as,ρ1,σ1,l1,S1,G1,r1,hq⟩:=y
 refine ai (bB ?_)
 have tail : ∀ {t:Sem Value},cW cx.M A t (Out cx n fd A ρ1 σ1 s1 VR Q) (ey cx n fd A ρ1 σ1 s1 X) s1->cW cx.M A (t >>= λr=>holding [r] point >>= λ_=>pure r) (Out cx n fd A ρ σ s VR Q) (ey cx n fd A ρ σ s X) s1:=
  λht=>ai (aD ht (λr s₂ hr=>ai (aJ (.of (wpAny_point (ax (hr.pre S1)))))) λ_ _ y=>y.pre S1)
 have main:=hc (fs++as) (first++vs) A ρ1 σ1 l1 s1 Q X G1 ((hv.mono (S1.keeps G)).append r1) hq
 rw[h1,List.any_nil,Bool.or_false]
 refine ai (.of (hk A _ _ s1 (λb o e=>G1.top b o e) ?_))
 rcases hkp with rfl | rfl
 ·dsimp only
  split
  ·exact tail main
  ·exact tail (by exact Dw main)
 ·exact tail main
end
noncomputable abbrev jW(cx:Cx)(f:Value):Prop:=∃k,(k=Keeper.frame∨k=Keeper.machine)/\Looks cx.M cx.h0 (keeperOf f) k
theorem fy{cx:Cx}(id:String):jW cx (.builtin id):=⟨.machine, .inr rfl,Looks.of_pure rfl⟩
theorem AU{cx:Cx}(id:String):jW cx (.type id):=⟨.machine, .inr rfl,Looks.of_pure rfl⟩
noncomputable def GT(K:Frag)(C:Addr)(x:String)(f:Addr):Bool:=plainGet K C (Str.ofString x)&&findIn K (.ref C) (Str.ofString x)==some (some (.ref f))&&isFn K (.ref f)&&keepIn K (.ref f)
structure Tb where
 aO : Addr->String->Option Addr
 am : Addr->String->Bool
structure Hk(cx:Cx)(T:Tb):Prop where
 aO : ∀C x f,T.aO C x=some f->GT cx.K C x f=true
 am : ∀C x,T.am C x=true->gq cx.K C x=true
theorem jO : Slot "bytearray" "append" "bytearray.append" :=
 .of (owner := "bytearray") (n := "append") (by rfl) (by decide +kernel) (by decide +kernel) (by decide +kernel)
  (by first | exact .inl (by decide +kernel) | exact .inr (by decide +kernel)) (by exact (cA ..))
theorem qY : typeOf (.builtin "bytearray.append")=pure (.type "method_descriptor"):=by show builtinType _=_;rw[builtinType_eq_fast];kernel_rfl
theorem gL : Slot "bytearray" "extend" "bytearray.extend" :=
 .of (owner := "bytearray") (n := "extend") (by rfl) (by decide +kernel) (by decide +kernel) (by decide +kernel)
  (by first | exact .inl (by decide +kernel) | exact .inr (by decide +kernel)) (by exact (cA ..))
theorem qF : typeOf (.builtin "bytearray.extend")=pure (.type "method_descriptor"):=by show builtinType _=_;rw[builtinType_eq_fast];kernel_rfl
theorem BL : PlainAttrs "bytearray" :=
 ⟨⟨"bytearray.__getattribute__",by rfl,by decide +kernel⟩,by rfl⟩
noncomputable def nM(x:String):Option String:=if x = "append" then some "list.append" else if x = "remove" then some "list.remove" else if x = "index" then some "list.index" else if x = "count" then some "list.count" else none
noncomputable def tB(x:String):Option String:=if x = "append" then some "bytearray.append" else if x = "extend" then some "bytearray.extend" else none
inductive qh(T:Tb)(x:String)(loc:Loc)(σ:MH)(Q:Value->Loc->MH->Prop):MV->Prop where
 |inst {l C d fs f} (e:σ.get l=some (.inst C d))(g:σ.get d=some (.ns fs))(n:fs.lookup x=none)(m:T.aO C x=some f)(h:Q (.ref f) loc σ):qh T x loc σ Q (.ref l)
 |list {l vs id} (e:σ.get l=some (.list vs))(m:nM x=some id)(h:Q (.builtin id) loc σ):qh T x loc σ Q (.ref l)
 |ba {l b id} (e:σ.get l=some (.bW b))(m:tB x=some id)(h:Q (.builtin id) loc σ):qh T x loc σ Q (.ref l)
 |dI {l es} (e:σ.get l=some (.bS es))(m:x = "get") (h:Q (.builtin "dict.get") loc σ):qh T x loc σ Q (.ref l)
 |dB {l es} (e:σ.get l=some (.iS es))(m:x = "get") (h:Q (.builtin "dict.get") loc σ):qh T x loc σ Q (.ref l)
noncomputable abbrev P.method(T:Tb)(a:MV)(x:String):P Value:=λloc σ Q _=>qh T x loc σ Q a
theorem s9{x id:String}(m:nM x=some id):Slot "list" (Str.ofString x) id/\typeOf (.builtin id)=pure (.type "method_descriptor"):=by
 unfold nM at m
 by_cases q : x = "append"
 ·replace m:=(if_pos q)▸m;cases m;exact q▸⟨PySem.F.slot_list_append,PySem.F.type_list_append⟩
 replace m:=(if_neg q)▸m
 by_cases q : x = "remove"
 ·replace m:=(if_pos q)▸m;cases m;exact q▸⟨PySem.F.slot_list_remove,PySem.F.type_list_remove⟩
 replace m:=(if_neg q)▸m
 by_cases q : x = "index"
 ·replace m:=(if_pos q)▸m;cases m;exact q▸⟨PySem.F.slot_list_index,PySem.F.type_list_index⟩
 replace m:=(if_neg q)▸m
 by_cases q : x = "count"
 ·replace m:=(if_pos q)▸m;cases m;exact q▸⟨PySem.F.slot_list_count,PySem.F.type_list_count⟩
 replace m:=(if_neg q)▸m;cases m
theorem yY{x id:String}(m:tB x=some id):Slot "bytearray" (Str.ofString x) id/\typeOf (.builtin id)=pure (.type "method_descriptor"):=by
 unfold tB at m
 by_cases q : x = "append"
 ·replace m:=(if_pos q)▸m;cases m;exact q▸⟨jO,qY⟩
 replace m:=(if_neg q)▸m
 by_cases q : x = "extend"
 ·replace m:=(if_pos q)▸m;cases m;exact q▸⟨gL,qF⟩
 replace m:=(if_neg q)▸m;cases m
theorem yi{h:Heap}{a:Addr}{o:Obj}(e:h.get? a=some o)(d:o.dict=none):∀b,Value.ref a= .ref b->∃o,h.get? b=some o/\o.dict=none:=λb q=>by cases q;exact⟨o,e,d⟩
section
variable {cx:Cx}{n:Nat}{fd:Fd}{T:Tb}
noncomputable abbrev cg.aO(cx:Cx)(a:MV):cg Value (Value×List Value):=λρ U h f r=>r.1=f/\jW cx f/\cR ρ U h [a] r.2
theorem rG(TO:Hk cx T){a:MV}{va:Value}{x:String}{pl:Sem Bool}:nS cx n fd (λρ U h=>VR ρ U h a va) (cg.aO cx a) (getMethod va (Str.ofString x) pl) (P.method T a x):=by
 intro A ρ σ loc s Q X G hp hm
 have fin : ∀ {f:Value},jW cx f->Q f loc σ->Out cx n fd A ρ σ s (cg.aO cx a) Q (f,[va]) s:=λk q=>Out.now G ⟨rfl,k, .cons hp .nil⟩ q
 have hr : ∀ {l},a= .ref l->va= .ref (ρ l):=λq=>(q▸hp : VR _ _ _ (.ref _) _).bU.1
 generalize Out cx n fd A ρ σ s (cg.aO cx a) Q=Q' at fin ⊢
 generalize ey cx n fd A ρ σ s X=E'
 clear hp
 induction hm with
 |inst e g nx m h=>
  have mb:=an.mp (TO.aO _ _ _ m)
  have mb2:=an.mp (an.mp mb.1).1
  refine fv (G.D4 e g) λmm od i=> ?_
  have rx:=i.r.1 x
  rw[nx] at rx
  rw[hr rfl] at fin ⊢
  exact method_fn (cx.X.keeps G.top) i.I (plainGet_of mb2.1).1 (plainGet_of mb2.1).2 (eq_of_beq mb2.2) (eI.mp (an.mp mb.1).2) ((ah (Option.map _) ((mY i.ns.ns i.ho _).trans (ah some rx.nil))).trans rfl) (fin (looks_keep mb.2 cx.X) h)
 |list e m h=>
  refine eA (G.list e) λxs ep o1 _=> ?_
  rw[hr rfl] at fin ⊢
  exact getMethod_builtin ⟨_,o1,rfl⟩ PySem.F.plainAttrs_list (s9 m).1 (s9 m).2 (yi o1 rfl) (fin (fy _) h)
 |ba e m h=>
  rw[hr rfl] at fin ⊢
  exact getMethod_builtin (cu ((G.obj _ _ e).2)) BL (yY m).1 (yY m).2 (yi ((G.obj _ _ e).2) rfl) (fin (fy _) h)
 |dI e m h=>
  obtain⟨kvs,d,_⟩:=(G.obj _ _ e).2
  rw[hr rfl] at fin ⊢
  exact m▸getMethod_builtin d.typeIs PySem.F.plainAttrs_dict PySem.F.slot_dict_get PySem.F.type_dict_get d.mapOf.noDict (fin (fy _) h)
 |dB e m h=>
  obtain⟨kvs,d,_⟩:=(G.obj _ _ e).2
  rw[hr rfl] at fin ⊢
  exact m▸getMethod_builtin d.typeIs PySem.F.plainAttrs_dict PySem.F.slot_dict_get PySem.F.type_dict_get d.mapOf.noDict (fin (fy _) h)
noncomputable abbrev fk(cx:Cx)(n:Nat)(fd:Fd)(e:Expr)(f:Value):Prop:=∀A ρ σ loc s (Q E:Value->Shared->Prop),Good cx n fd A ρ σ loc s->Q f s->wpAny cx.M A (eval e fd.env) Q E s
theorem u7{x:Str}{np pos:Pos}{f:Value}{args:List Expr}{ms:P (List MV)}{c:List MV->P MV}(hn:fk cx n fd (.Name x np) f)(hk:jW cx f)(hes:args.all cj=true)(h:kt cx n fd pos args ms)(hc:cQ cx n fd f c) :
  bO cx n fd (.Call (.Name x np) args [] pos) (ms.bind c):=by
 intro A ρ σ loc s Q X G _ hm
 refine aT hk λk hk1 hk2=> ?_
 refine ai (.of (hn A ρ σ loc s _ _ G ?_))
 exact mI (fs:=[]) hk2 hk1 hes h hc A ρ σ loc s Q X G .nil hm
theorem uH(TO:Hk cx T){o:Expr}{x:String}{apos pos:Pos}{args:List Expr}{m:P MV}{ms:P (List MV)}{c:Value->List MV->P MV}(ho:bO cx n fd o m)(hb:attributeBase o (Str.ofString x) fd.env (eval o fd.env)=eval o fd.env)
  (hline:(apos.endLine==pos.line)=true)(hlen:args.length < 30)(hes:args.all cj=true)(h:∀p,kt cx n fd p args ms)(hc:∀f,cQ cx n fd f (c f)) :
  bO cx n fd (.Call (.Attribute o (Str.ofString x) apos) args [] pos) (m.bind λa=>(P.method T a x).bind λf=>ms.bind λas=>c f (a::as)):=by
 have hf : methodCallForm (args.length+([]:List Keyword).length) (backTo pos (starEach args fd.env)) (backToKw pos (keywordEach [] fd.env))=true:=by
  refine dw (fB pos (es:=args) (env:=fd.env) hes) λh1 h2=> ?_
  unfold methodCallForm
  have : (backTo pos (starEach args fd.env)).all (!·.1)=true:=by
   refine (List.all_eq_not_any_not).trans ?_
   simp only[Bool.not_not]
   refine (ah _ h1).trans ?_;rfl
  refine ae this▸ ?_
  show (true&&true&&decide (args.length+0+0 < 30))=true
  simp[hlen]
 have q : eval (.Call (.Attribute o (Str.ofString x) apos) args [] pos) fd.env=(eval o fd.env >>= λov=>standAt apos.atName >>= λ_=>
   methodCall o (Str.ofString x) apos pos fd.env ov (args.length+([]:List Keyword).length) (backTo pos (starEach args fd.env)) (backToKw pos (keywordEach [] fd.env))):=by
  show (attributeBase o (Str.ofString x) fd.env (eval o fd.env) >>= _)=_
  rw[hb]
 show eO cx n fd VR _ _
 rw[q]
 refine aM.bind ho λa va=>aM.standAt ?_
 dsimp only[methodCall]
 refine ae hf▸ ?_
 unfold methodCallPos
 simp only[Bool.not_true,Bool.false_or,hline,if_true]
 intro A ρ σ loc s Q X G hv hm
 refine ai (aJ (aD ((rG TO (a:=a) (va:=va) (x:=x)).n A ρ σ loc s _ X G hv hm) (λr s1 y=> ?_) λ_ _ y=>y))
 obtain⟨f,ρ1,σ1,l1,S1,G1,⟨r1,⟨k,hk1,hk2⟩,r3⟩,hq⟩:=y
 subst r1
 refine ai (ax ?_)
 exact aD (mI (fs:=[a]) hk2 hk1 hes (h pos) (hc _) A ρ1 σ1 l1 s1 Q X G1 r3 hq) (λ_ _ y=>y.pre S1) λ_ _ y=>y.pre S1
end
inductive It where
 |lst (l:LA)(i:Nat)
 |jK (x left step:Int)
 |nT (l:LA)(i:Nat)
 |rev (l:LA)(k:Nat)
 |rF (b:List UInt8)(i:Nat)
noncomputable def kK(ρ:LA->Addr)(h:Heap):It->Value->List Addr->Prop
 | .lst l i,v,as=>∃a,v= .ref a/\as=[a]/\h.IsListIter a (ρ l) i
 | .jK x left step,v,as=>∃a,v= .ref a/\as=[a]/\IsRangeIter h a x left step
 | .nT l i,v,as=>∃e a old,v= .ref e/\as=[e,a]/\e≠a/\IsEnum h e a (i:Nat) old/\h.IsListIter a (ρ l) i
 | .rev l k,v,as=>∃a,v= .ref a/\as=[a]/\h.IsRevIter a (ρ l) ((k:Int) - 1)
 | .rF b i,v,as=>∃a t,v= .ref a/\as=[a]/\KBw.IsBytesIter h a b.toArray t i
inductive Nx(σ:MH):It->Option (MV×It)->Prop where
 |lst {l i vs v} (e:σ.get l=some (.list vs))(g:vs[i]?=some v):Nx σ (.lst l i) (some (v, .lst l (i+1)))
 |La {l i vs} (e:σ.get l=some (.list vs))(g:vs[i]?=none):Nx σ (.lst l i) none
 |jK {x left step} (p:0 < left):Nx σ (.jK x left step) (some (.int x, .jK (x+step) (left - 1) step))
 |K2 {x left step} (p:¬0 < left):Nx σ (.jK x left step) none
 |nT {l i vs v} (e:σ.get l=some (.list vs))(g:vs[i]?=some v):Nx σ (.nT l i) (some (.tup [.int i,v], .nT l (i+1)))
 |K1 {l i vs} (e:σ.get l=some (.list vs))(g:vs[i]?=none):Nx σ (.nT l i) none
 |rev {l k vs v} (e:σ.get l=some (.list vs))(g:vs[k]?=some v):Nx σ (.rev l (k+1)) (some (v, .rev l k))
 |KY {l}:Nx σ (.rev l 0) none
 |rF {b i c} (g:b[i]?=some c):Nx σ (.rF b i) (some (.int c.toNat, .rF b (i+1)))
 |Lh {b i} (g:b[i]?=none):Nx σ (.rF b i) none
inductive GF(σ:MH)(it:It)(A:Prop)(B:MV->It->Prop):Prop
 |stop (h:Nx σ it none)(k:A)
 |turn {v it'} (h:Nx σ it (some (v,it')))(k:B v it')
noncomputable def c5(e:Expr):Bool:=e.ctorIdx==25
noncomputable def It.dT : It->Bool
 | .nT ..=>true
 |_=>false
section
variable {cx:Cx}{n:Nat}{fd:Fd}{A:Around}{ρ ρ':LA->Addr}{σ σ':MH}{loc:Loc}{s₀ s s':Shared}{U:LA->Prop}{ρ₀:LA->Addr}
structure gX(cx:Cx)(fd:Fd)(s₀:Shared)(ρ:LA->Addr)(U:LA->Prop)(s:Shared)(a:Addr):Prop where
 new : s₀.heap.get? a=none
 un : ∀l,U l->ρ l≠a
 cI : a∉fd.cI
 out : a∉fd.oR
 cell : ∀c∈fd.env.cells,c.2≠a
 top : ∀o,cx.h0.get? a≠some o
 ex : ∃o,s.heap.get? a=some o/\¬IsTup o
theorem gX.step(G:Good cx n fd A ρ σ loc s){a:Addr}(w:gX cx fd s₀ ρ σ.us s a)(S:Step fd ρ σ.us s ρ' σ'.us s'):gX cx fd s₀ ρ' σ'.us s' a/\∀o,s.heap.get? a=some o->s'.heap.get? a=some o:=by
 refine aT w.ex λo e nt=> ?_
 refine⟨⟨w.new,λl u q=> ?_,w.cI,w.out,w.cell,w.top,o,(λo e=>S.keep a o e w.un w.cI w.out) o e,nt⟩,(λo e=>S.keep a o e w.un w.cI w.out)⟩
 by_cases z : σ.us l
 ·rw[(S.us l z).2] at q;exact w.un l z q
 ·have:=S.fresh l u z;rw[q] at this;replace this:=e▸this;cases this
theorem gX.D2{a:Addr}{k:Kd}(w:gX cx fd s₀ ρ U s a)(sp:Spot fd a k):False:=by
 induction sp with
 |cI h=>exact w.cI h
 |cell h=>exact w.cell _ h rfl
 |frame h=>exact w.out h
theorem Good.gg(G:Good cx n fd A ρ σ loc s)(S:Step fd ρ₀ U s₀ ρ σ.us s){as:List Addr}(w:∀a∈as,gX cx fd s₀ ρ σ.us s a){h':Heap}(t:Nat)(hk:∀b o,b∉as->s.heap.get? b=some o->h'.get? b=some o) :
  Good cx n fd A ρ σ loc { s with heap:=h',toks:=t }/\Step fd ρ₀ U s₀ ρ σ.us { s with heap:=h',toks:=t }:=by
 have nw : ∀a o,s₀.heap.get? a=some o->a∉as:=λa o e m=>nomatch (w a m).new.symm.trans e
 refine⟨G.kept (·∈as) hk (λa o e c m=>(by refine aT ((w a m).ex) λ_ e' nt=> ?_;exact nt (aP (e'.symm.trans e)▸c))) (λl u m=>(w _ m).un l u rfl) (λb o e m=>(w b m).top o e)
  (λm ns=>(by refine iR ns λo es ep e r=> ?_;exact⟨o,es,ep,hk _ _ (λq=>(w _ q).cI G.di) e,r⟩)) (λc hc m=>(w _ m).cell c hc rfl) (λsp m=>((w _ m).D2 sp).elim),
  ⟨?_,λa o e=>(by obtain⟨o',e'⟩:=S.ex a o e;exact⟨o',hk _ _ (nw a o e) e'⟩),S.us,S.fresh,λa o e f m1 m2=>hk _ _ (nw a o e) (S.keep a o e f m1 m2),λa o e f m1 m2=>(by refine cN (S.gc a o e f m1 m2) λsl e'=> ?_;exact⟨sl,hk _ _ (nw a o e) e'⟩)⟩⟩
 refine fv S.rest λh1 t1 zr2_=> ?_;subst zr2_
 exact⟨h',t,rfl⟩
theorem Gh{e:Expr}(h:c5 e=true):∃a b c,e= .Tuple a b c:=by
 cases e<;>first | exact⟨_,_,_,rfl⟩ | exact absurd h aE
theorem wg{target:Expr}{a:Addr}{o:Obj}{T:String}{fs:Array Value}{v:Value}{M:Model}{E:Value->Shared->Prop}{Q:Unit->Shared->Prop}(ho:s.heap.get? a=some o)(hc:o.cls= .type T)(hd:o.data= .fields fs)
  (hT:(["enumerate", "zip", "dict_itemiterator", "dict_reverseitemiterator", "odict_iterator", "itertools.zip_longest", "itertools.pairwise"].contains T)=false) (h:Q () s):wpAny M A (letOwnedTupleGo target (.ref a) v) Q E s:=by
 have h : wpAny M A (pure ()) Q E s:=ao h
 have key : ∀ {b:Addr}{k:Sem Unit},wpAny M A (load a >>= λo=>match o.cls,o.data with
   | .type n, .fields vs=>if (["enumerate", "zip", "dict_itemiterator", "dict_reverseitemiterator", "odict_iterator", "itertools.zip_longest", "itertools.pairwise"].contains n&&vs[0]?==some (rawInt b))=true then k else pure ()
   |_,_=>pure ()) Q E s:=λ{b k}=>af (wpAny_load ho (by
  rw[hc,hd]
  show wpAny M A (if (_&&_)=true then k else pure ()) Q E s
  rw[hT]
  exact h))
 cases target<;>first
  |exact h
  | (cases v<;>first | exact h | exact key)
theorem gX.set{a:Addr}{h':Heap}{t:Nat}(w:gX cx fd s₀ ρ σ.us s a)(e:∃o,h'.get? a=some o/\¬IsTup o):gX cx fd s₀ ρ σ.us { s with heap:=h',toks:=t } a:=⟨w.new,w.un,w.cI,w.out,w.cell,w.top,e⟩
theorem dQ{o:Obj}{vs:Array Value}(h:o.data= .fields vs):¬IsTup o:=λx=>by obtain⟨_,xs,ep,e⟩:=x;replace e:=h▸e;cases e
structure After(cx:Cx)(n:Nat)(fd:Fd)(A:Around)(ρ₀:LA->Addr)(U:LA->Prop)(s₀:Shared)(ρ:LA->Addr)(σ:MH)(loc:Loc)(s:Shared)(as:List Addr)(s':Shared):Prop where
 G : Good cx n fd A ρ σ loc s'
 S : Step fd ρ₀ U s₀ ρ σ.us s'
 keep : ∀b o,b∉as->s.heap.get? b=some o->s'.heap.get? b=some o
inductive EA(cx:Cx)(fd:Fd)(s₀:Shared)(ρ:LA->Addr)(U:LA->Prop)(s':Shared)(v:Value)(as:List Addr):Option (MV×It)->Option Value->Prop
 |stop : EA cx fd s₀ ρ U s' v as none none
 |item {mv it x} (r:VR ρ U s'.heap mv x)(I:kK ρ s'.heap it v as)(w:∀a∈as,gX cx fd s₀ ρ U s' a):EA cx fd s₀ ρ U s' v as (some (mv,it)) (some x)
theorem EA.Hc{v:Value}{as:List Addr}{mv:MV}{it:It}{r:Option Value}{P:Option Value->Prop}(h:EA cx fd s₀ ρ U s' v as (some (mv,it)) r)(k:∀x,VR ρ U s'.heap mv x->kK ρ s'.heap it v as->(∀a∈as,gX cx fd s₀ ρ U s' a)->P (some x)):P r:=by
 cases h with
 |item r I w=>exact k _ r I w
theorem FD{a:Addr}{h':Heap}(sb:Heap.SameBut a s.heap h'):∀b o,b∉[a]->s.heap.get? b=some o->h'.get? b=some o:=λb o m e=>(sb.2 b (λq=>m (q▸ .head _))).trans e
theorem ko{as:List Addr}{h':Heap}(w:∀a∈as,gX cx fd s₀ ρ σ.us s a)(hk:∀b o,b∉as->s.heap.get? b=some o->h'.get? b=some o):fh ρ σ.us s.heap ρ σ.us h':=
 ⟨λ_ u=>⟨u,rfl⟩,λb o e c=>hk b o (λq=>by refine aT ((w b q).ex) λo' e' nt=> ?_;cases e.symm.trans e';exact nt c) e⟩
theorem next_item{a:Addr}{v y:Value}{mv:MV}{it':It}{target:Expr}{h':Heap}{tk:Nat}{o:Obj}{T:String}{fs:Array Value}(G:Good cx n fd A ρ σ loc s)(S:Step fd ρ₀ U s₀ ρ σ.us s)(w:∀b∈[a],gX cx fd s₀ ρ σ.us s b){K:Option Value->Shared->Prop}{E:Value->Shared->Prop}
  (h:∀r' s',After cx n fd A ρ₀ U s₀ ρ σ loc s [a] s'->EA cx fd s₀ ρ σ.us s' v [a] (some (mv,it')) r'->K r' s')
  (sb:Heap.SameBut a s.heap h')(ho:h'.get? a=some o)(hc:o.cls= .type T)(hd:o.data= .fields fs)(hT:(["enumerate", "zip", "dict_itemiterator", "dict_reverseitemiterator", "odict_iterator", "itertools.zip_longest", "itertools.pairwise"].contains T)=false)
  (hv:fh ρ σ.us s.heap ρ σ.us h'->VR ρ σ.us h' mv y)(hI:kK ρ h' it' v [a]):wpAny cx.M A (letOwnedTupleGo target (.ref a) y) (λ_ s₂=>K (some y) s₂) E { s with heap:=h',toks:=tk }:=by
 exact wg (s:={ s with heap:=h',toks:=tk }) ho hc hd hT (h _ _ ⟨(G.gg S w tk (FD sb)).1,(G.gg S w tk (FD sb)).2,FD sb⟩ (.item (hv (ko w (FD sb))) hI λb hb=>av.mp hb▸(w a (.head _)).set ⟨o,ho,dQ hd⟩))
theorem iE{as:List Addr}{v:Value}{h':Heap}(G:Good cx n fd A ρ σ loc s)(S:Step fd ρ₀ U s₀ ρ σ.us s)(w:∀b∈as,gX cx fd s₀ ρ σ.us s b){K:Option Value->Shared->Prop}
  (h:∀r' s',After cx n fd A ρ₀ U s₀ ρ σ loc s as s'->EA cx fd s₀ ρ σ.us s' v as none r'->K r' s'){a:Addr}(ha:a∈as)(sb:Heap.ExtBut a s.heap h'):K none { s with heap:=h' }:=by
 have k : ∀b o,b∉as->s.heap.get? b=some o->h'.get? b=some o:=λb o m e=>sb b o (λq=>m (q▸ha)) e
 exact h none _ ⟨(G.gg S w s.toks k).1,(G.gg S w s.toks k).2,k⟩ .stop
theorem cR.none{h:Heap}{vs:List MV}{xs:Array Value}{i:Nat}(r:cR ρ U h vs xs.toList)(e:vs[i]?= .none):xs[i]?= .none:=by
 have l:=r.len
 rw[bu] at l
 exact Array.getElem?_eq_none_iff.mpr (l▸List.getElem?_eq_none_iff.mp e)
theorem wK{it:It}{v:Value}{as:List Addr}{target:Expr}(G:Good cx n fd A ρ σ loc s)(S:Step fd ρ₀ U s₀ ρ σ.us s)(I:kK ρ s.heap it v as)(w:∀a∈as,gX cx fd s₀ ρ σ.us s a)
  {r:Option (MV×It)}(hx:Nx σ it r)(ht:it.dT=true->c5 target=true){K:Option Value->Shared->Prop}{E:Value->Shared->Prop}
  (h:∀r' s',After cx n fd A ρ₀ U s₀ ρ σ loc s as s'->EA cx fd s₀ ρ σ.us s' v as r r'->K r' s') :
  wpAny cx.M A (pyNext v) (λr' s₁=>match r' with
   |none=>K none s₁
   |some x=>wpAny cx.M A (letOwnedTupleGo target v x) (λ_ s₂=>K (some x) s₂) E s₁) E s:=by
 have hh:=G.ak.hh
 induction hx with
 |lst e g=>
  obtain⟨a,rfl,rfl,hI⟩:=I
  obtain⟨xs,i,r⟩:=G.isList e
  obtain⟨y,e3,ry⟩:=r.get g
  refine wpAny_pyNext_list_item hI i (c9.symm.trans e3) λh' hI' sb=> ?_
  have ⟨o,ho,hc,hd⟩:=hI'
  exact next_item G S w h sb ho hc hd (by decide) (λk=>ry.mono k) ⟨a,rfl,rfl,hI'⟩
 |La e g=>
  obtain⟨a,rfl,rfl,hI⟩:=I
  refine aT (G.isList e) λxs i r=> ?_
  exact wpAny_pyNext_list_end hh hI i (r.none g) λh' sb=>iE G S w h (.head _) sb
 |jK p=>
  obtain⟨a,rfl,rfl,hI⟩:=I
  exact wpAny_pyNext_range_item hI p λh' hI' sb=>next_item G S w h sb hI' rfl rfl (by decide) (λ_=> .int) ⟨a,rfl,rfl,hI'⟩
 |K2 p=>
  obtain⟨a,rfl,rfl,hI⟩:=I
  exact wpAny_pyNext_range_end hh hI (by exact cZ.mp p) λh' sb=>iE G S w h (.head _) sb
 |nT f g=>
  refine KN I λe a old zr3_ zr4_ hne hE hI=> ?_;subst zr3_;subst zr4_
  refine aT (G.isList f) λxs il r=> ?_
  refine aT (r.get g) λy e3 ry=> ?_
  refine wpAny_pyNext_enum_item hE hI il (c9.symm.trans e3) hne λh1 hEo hI1 hT1 hz1 hk1=> ?_
  refine LZ (Gh (ht rfl)) λ_ _ _ zr3_=> ?_;subst zr3_
  ·refine wpAny_letOwnedTupleGo_enum hEo λh2 hE2 sb2=> ?_
   have hk : ∀b o,b∉[e,a]->s.heap.get? b=some o->h2.get? b=some o:=λb o m z=>
    (sb2.2 b λq=>m (q▸ .head _)).trans (hk1 b o (λq=>m (q▸ .head _)) (λq=>m (q▸ .tail _ (.head _))) z)
   have ⟨oi,hoi,hci,hdi⟩:=hI1
   have hoi:=(sb2.2 a (Ne.symm hne)).trans hoi
   refine h _ _ ⟨(G.gg S w (s.toks+1) hk).1,(G.gg S w (s.toks+1) hk).2,hk⟩ (.item (.tup ((sb2.2 _ (Nat.ne_of_gt (aS hE))).trans hT1) rfl rfl (.cons .int (.cons (ry.mono (ko w hk)) .nil))) ⟨e,a,y,rfl,rfl,hne,hE2,⟨oi,hoi,hci,hdi⟩⟩ λb hb=> ?_)
   refine Or.elim (aK.mp hb) (λq=> ?_) λq=> ?_
   ·exact q▸(w e (.head _)).set ⟨_,hE2,dQ rfl⟩
   ·exact av.mp q▸(w a (.tail _ (.head _))).set ⟨oi,hoi,dQ hdi⟩
 |K1 f g=>
  refine KN I λe a old zr3_ zr4_ hne hE hI=> ?_;subst zr3_;subst zr4_
  refine aT (G.isList f) λxs i r=> ?_
  exact wpAny_pyNext_enum_end hh hE hI i (r.none g) λh' sb=>iE G S w h (.tail _ (.head _)) sb
 |@rev l k vs mv e g=>
  obtain⟨a,rfl,rfl,hI⟩:=I
  obtain⟨xs,i,r⟩:=G.isList e
  refine aT (r.get g) λy e3 ry=> ?_
  have hI0 : s.heap.IsRevIter a (ρ l) (k:Int):=(show ((k+1 : Nat):Int) - 1=(k:Int) by exact Int.sub_eq_iff_eq_add.mpr rfl)▸hI
  refine wpAny_pyNext_rev_item hI0 i (c9.symm.trans e3) λh' hI' sb=> ?_
  have ⟨o,ho,hc,hd⟩:=hI'
  exact next_item G S w h sb ho hc hd (by decide) (λk=>ry.mono k) ⟨a,rfl,rfl,hI'⟩
 |KY=>
  refine pH I λa zr1_ zr2_ hI=> ?_;subst zr1_;subst zr2_
  exact wpAny_pyNext_rev_end hh hI λh' sb=>iE G S w h (.head _) sb
 |rF g=>
  refine eT I λa t zr2_ zr3_ hI=> ?_;subst zr2_;subst zr3_
  refine KBw.next_item hI (by simpa using g) λh' hI' sb=> ?_
  have ⟨o,ho,hc,hd⟩:=hI'
  exact next_item G S w h sb ho hc hd (by decide) (λ_=> .int) ⟨a,t,rfl,rfl,hI'⟩
 |Lh g=>
  refine eT I λa t zr2_ zr3_ hI=> ?_;subst zr2_;subst zr3_
  exact KBw.next_end hh hI (by simpa using g) λh' sb=>iE G S w h (.head _) sb
end
noncomputable def xV(e:Expr):Bool:=e.ctorIdx==7
theorem uU{e:Expr}{env:Env}{x:Value}(h:xV e=false):foldedSetIterable e env x=pure x:=by
 cases e<;>first | rfl | cases h
theorem mZ{M:Model}{A:Around}{E K:Value->Shared->Prop}{s:Shared}{pos:Pos}{f:Value}{first:List Value}{args:List (Bool×Sem Value)}(hk:keeperOf f=pure .machine)(h1:args.any (·.1)=false)
  (h:cW M A (spliced args) (λvs s1=>cW M A (call f (first++vs)) K E s1) E s):cW M A (callWith pos f first args []) K E s:=by
 unfold callWith
 refine ai (aJ (jj h1 (aD h (λvs s1 y=> ?_) λ_ _ y=>y)))
 refine ai (bB ?_)
 rw[h1,List.any_nil]
 rw[hk]
 refine ai (ax ?_)
 exact ai (aD y (λr s₂ hr=>ai (aJ (.of (wpAny_point (ax hr))))) λ_ _ y=>y)
theorem tQ{ρ:LA->Addr}{U:LA->Prop}{h:Heap}{a:MV}{vs:List Value}(r:cR ρ U h [a] vs):∃y,vs=[y]/\VR ρ U h a y:=by
 refine eT r.cons_inv λy ys zr2_ r1 r2=> ?_;subst zr2_
 cases r2.nil_inv
 exact⟨y,rfl,r1⟩
theorem yJ{ρ:LA->Addr}{U:LA->Prop}{h:Heap}{a b:MV}{vs:List Value}(r:cR ρ U h [a,b] vs):∃y z,vs=[y,z]/\VR ρ U h a y/\VR ρ U h b z:=by
 refine eT r.cons_inv λy ys zr2_ r1 r2=> ?_;subst zr2_
 refine aT (tQ r2) λz zr1_ r3=> ?_;subst zr1_
 exact⟨y,z,rfl,r1,r3⟩
theorem AA{ρ:LA->Addr}{U:LA->Prop}{h:Heap}{a b c:MV}{vs:List Value}(r:cR ρ U h [a,b,c] vs):∃x y z,vs=[x,y,z]/\VR ρ U h a x/\VR ρ U h b y/\VR ρ U h c z:=by
 refine eT r.cons_inv λy ys zr2_ r1 r2=> ?_;subst zr2_
 refine eT (yJ r2) λz w zr2_ r3 r4=> ?_;subst zr2_
 exact⟨y,z,w,rfl,r1,r3,r4⟩
theorem cR.Jq{ρ:LA->Addr}{U:LA->Prop}{h:Heap}{a:MV}{vs:List Value}{P:List Value->Prop}(r:cR ρ U h [a] vs)(k:∀y,VR ρ U h a y->P [y]):P vs:=by
 refine aT (tQ r) λy zr1_ q=> ?_;subst zr1_;exact k y q
theorem cR.Ep{ρ:LA->Addr}{U:LA->Prop}{h:Heap}{a b:MV}{vs:List Value}{P:List Value->Prop}(r:cR ρ U h [a,b] vs)(k:∀y z,VR ρ U h a y->VR ρ U h b z->P [y,z]):P vs:=by
 refine eT (yJ r) λy z zr2_ q q'=> ?_;subst zr2_;exact k y z q q'
theorem cR.MA{ρ:LA->Addr}{U:LA->Prop}{h:Heap}{a b c:MV}{vs:List Value}{P:List Value->Prop}(r:cR ρ U h [a,b,c] vs)(k:∀x y z,VR ρ U h a x->VR ρ U h b y->VR ρ U h c z->P [x,y,z]):P vs:=by
 refine iR (AA r) λx y z zr3_ q=> ?_;subst zr3_;exact k x y z q.1 q.2.1 q.2.2
theorem cR.eB{ρ:LA->Addr}{U:LA->Prop}{h:Heap}{l:LA}{vs:List Value}{P:List Value->Prop}(r:cR ρ U h [.ref l] vs)(k:U l->P [.ref (ρ l)]):P vs:=by
 refine aT (tQ r) λy zr1_ q=> ?_;subst zr1_;refine dw q.bU λzr0_ u=> ?_;subst zr0_;exact k u
inductive oG(cx:Cx)(n:Nat)(fd:Fd)(A:Around)(ρ:LA->Addr)(σ:MH)(s:Shared)(Q:It->Loc->MH->Prop)(v:Value)(s':Shared):Prop
 |mk (it:It)(as:List Addr)(ρ':LA->Addr)(σ':MH)(loc':Loc)(S:Step fd ρ σ.us s ρ' σ'.us s')(G:Good cx n fd A ρ' σ' loc' s')(I:kK ρ' s'.heap it v as)(W:∀a∈as,gX cx fd s ρ' σ'.us s' a)(q:Q it loc' σ')
noncomputable def qP(cx:Cx)(n:Nat)(fd:Fd)(e:Expr)(m:P It):Prop:=∀A ρ σ loc s Q X,Good cx n fd A ρ σ loc s->m loc σ Q X->
 cW cx.M A (eval e fd.env) (λx s1=>cW cx.M A (foldedSetIterable e fd.env x) (λx' s2=>cW cx.M A (pyIter x') (oG cx n fd A ρ σ s Q) (ey cx n fd A ρ σ s X) s2) (ey cx n fd A ρ σ s X) s1) (ey cx n fd A ρ σ s X) s
section
variable {cx:Cx}{n:Nat}{fd:Fd}{A:Around}{ρ ρ':LA->Addr}{σ σ':MH}{loc loc':Loc}{s s₀ s':Shared}{U:LA->Prop}{ρ₀:LA->Addr}
theorem gX.fresh(G:Good cx n fd A ρ σ loc s){a:Addr}(ha:s.heap.objs.size<=a){s₂:Shared}(S:Step fd ρ₀ U s₀ ρ σ.us s)(e:∃o,s₂.heap.get? a=some o/\¬IsTup o):gX cx fd s₀ ρ σ.us s₂ a:=by
 have out : ∀b,(∃o,s.heap.get? b=some o)->b≠a:=λb zz q=>(by refine cN zz λo e=> ?_;exact iH ha (q▸aS e))
 refine⟨?_,λl u=>out _ ((by obtain⟨_,o,e,_⟩:=G.low l u;exact⟨o,e⟩)),λm=>out a (G.own m) rfl,λm=> ?_,λc hc=>out _ ((by refine eA ((G.tv c hc).1) λo _ e _=> ?_;exact⟨o,e⟩)),λo q=>out a ⟨o,G.top a o q⟩ rfl,e⟩
 ·cases q : s₀.heap.get? a with
  |none=>rfl
  |some o=>refine cN (S.ex a o q) λo' e'=> ?_;exact (out a ⟨o',e'⟩ rfl).elim
 ·refine aT (cS.mp m) λev h1 h2=> ?_
  obtain⟨a1,L,o,es,ep,a2,a3,a4,a5,a6⟩:=G.MW ev h1
  replace h2:=a2▸h2;cases h2;exact out a ⟨o,a5⟩ rfl
theorem oG.pre{v:Value}{s'':Shared}{Q:It->Loc->MH->Prop}(S:Step fd ρ₀ U s₀ ρ σ.us s){σ₀:MH}(hU:U=σ₀.us)(o:oG cx n fd A ρ σ s Q v s''):oG cx n fd A ρ₀ σ₀ s₀ Q v s'':=by
 subst hU
 induction o with
 |mk it as ρ' σ' loc' S' G I W q=>
  exact⟨it,as,ρ',σ',loc',S.trans S',G,I,λa m=>have w:=W a m;⟨Option.eq_none_iff_forall_ne_some.mpr λo e=>((by refine cN (S.ex a o e) λ_ z=> ?_;exact nomatch w.new.symm.trans z)),w.un,w.cI,w.out,w.cell,w.top,w.ex⟩,q⟩
theorem oG.one{Q:It->Loc->MH->Prop}{it:It}{o:Obj}{vs:Array Value}{tk:Nat}(S:Step fd ρ₀ U s₀ ρ σ.us s){σ₀:MH}(hU:U=σ₀.us)(G:Good cx n fd A ρ σ loc s)(hd:o.data= .fields vs)(hf:o.isFreed=false)
  (I:(s.heap.push o).get? s.heap.objs.size=some o->kK ρ (s.heap.push o) it (.ref s.heap.objs.size) [s.heap.objs.size])(q:Q it loc σ):oG cx n fd A ρ₀ σ₀ s₀ Q (.ref s.heap.objs.size) { s with heap:=s.heap.push o,toks:=tk }:=by
 subst hU
 have e:=aQ s.heap hf
 exact⟨it,[_],ρ,σ,loc,S.trans (Step.grow G.di G.locals (.push _) tk),G.push _ tk,I e,λa ha=>av.mp ha▸gX.fresh G (aG _) S ⟨_,e,dQ hd⟩,q⟩
inductive B1(loc:Loc)(σ:MH)(Q:It->Loc->MH->Prop):MV->Prop where
 |rF {b} (h:Q (.rF b 0) loc σ):B1 loc σ Q (.bytes b)
 |lst {l vs} (e:σ.get l=some (.list vs))(h:Q (.lst l 0) loc σ):B1 loc σ Q (.ref l)
noncomputable abbrev P.D3(a:MV):P It:=λloc σ Q _=>B1 loc σ Q a
theorem Ah{e:Expr}{m:P MV}(he:xV e=false)(h:bO cx n fd e m):qP cx n fd e (m.bind P.D3):=by
 intro A ρ σ loc s Q X G hm
 refine aD (h A ρ σ loc s _ X G trivial hm) (λx s1 y=> ?_) λ_ _ y=>y
 obtain⟨a,ρ1,σ1,l1,S1,G1,r,hq⟩:=y
 refine ae (uU he)▸ ?_
 refine ax (.of ?_)
 generalize ey cx n fd A ρ σ s X=X'
 induction hq with
 |rF h=>
  apply r.dg;intro t
  exact KBw.pyIter_bytes (oG.one (it:= .rF _ 0) S1 rfl G1 rfl rfl (λe1=>⟨_,t,rfl,rfl,⟨_,e1,rfl,rfl⟩⟩) h)
 |lst e h=>
  apply r.eB;intro u
  exact (by refine aT (G1.isList e) λxs i _=> ?_;exact wpAny_pyIter_list i (oG.one (it:= .lst _ 0) S1 rfl G1 rfl rfl (λe2=>⟨_,rfl,rfl,⟨_,e2,rfl,rfl⟩⟩) h))
theorem on{x:Str}{np pos:Pos}{args:List Expr}{ms:P (List MV)}{f:Value}{g:List MV->P It}(hn:fk cx n fd (.Name x np) f)(hk:keeperOf f=pure .machine)(hes:args.all cj=true)(h:kt cx n fd pos args ms)
  (H:∀A ρ σ loc s as vs Q X E,Good cx n fd A ρ σ loc s->cR ρ σ.us s.heap as vs->g as loc σ Q X->wpAny cx.M A (call f vs) (λx s1=>wpAny cx.M A (pyIter x) (oG cx n fd A ρ σ s Q) E s1) E s):qP cx n fd (.Call (.Name x np) args [] pos) (ms.bind g):=by
 intro A ρ σ loc s Q X G hm
 refine ai (.of (hn A ρ σ loc s _ _ G ?_))
 refine mZ hk (fB pos (es:=args) (env:=fd.env) hes).1 (aD (h A ρ σ loc s _ X G trivial hm) (λvs s1 y=> ?_) λ_ _ y=>y)
 obtain⟨as,ρ1,σ1,l1,S1,G1,r,hq⟩:=y
 refine .of (wpAny_mono (H A ρ1 σ1 l1 s1 as vs Q X _ G1 r hq) (λx s2 y=> ?_) λ_ _ z=>z)
 exact ax (.of (wpAny_mono y (λ_ _ z=>z.pre S1 rfl) λ_ _ z=>z))
inductive uQ(loc:Loc)(σ:MH)(Q:It->Loc->MH->Prop):List MV->Prop where
 |one {b:Int} (p : -(2^60)<=b/\b < 2^60) (h:Q (.jK 0 (if 0 < b then b - 0 else 0) 1) loc σ):uQ loc σ Q [.int b]
 |two {a b:Int} (p : -(2^60)<=a/\a < 2^60/\ -(2^60)<=b/\b < 2^60) (h:Q (.jK a (if a < b then b - a else 0) 1) loc σ):uQ loc σ Q [.int a, .int b]
 |three {a b c:Int} (p : -(2^60)<=a/\a < 2^60/\ -(2^60)<=b/\b < 2^60/\0 < c/\c < 2^60) (h:Q (.jK a (if a < b then (b - a - 1) / c+1 else 0) c) loc σ):uQ loc σ Q [.int a, .int b, .int c]
noncomputable abbrev P.zw(as:List MV):P It:=λloc σ Q _=>uQ loc σ Q as
theorem fits{i:Int} (h : -(2^62)<=i/\i < 2^62):Builtin.Range.rangeFitsLong i=true:=an.mpr ⟨aZ (bp (by decide) h.1),aZ (aN h.2 (by decide))⟩
theorem HZ{i:Int} (h : -(2^60)<=i/\i < 2^60):Builtin.Range.rangeFitsLong i=true:=fits (⟨bp (by decide) h.1,aN h.2 (by decide)⟩)
theorem Gc{a b c:Int}(h:a < b)(hc:0 < c):0<=(b - a - 1) / c/\(b - a - 1) / c<=b - a - 1:=⟨Int.ediv_nonneg (Int.sub_nonneg_of_le (Int.sub_pos_of_lt h)) (by exact Int.le_of_lt hc),Int.ediv_le_self _ (Int.sub_nonneg_of_le (Int.sub_pos_of_lt h))⟩
theorem oo{a b c:Int} (ha : -(2^60)<=a/\a < 2^60) (hb : -(2^60)<=b/\b < 2^60) (hc:0 < c/\c < 2^60):Builtin.Range.small a b c=true:=by
 have d : -(2^62)<=Builtin.Range.rangeSize a b c/\Builtin.Range.rangeSize a b c < 2^62:=by
  rw[show Builtin.Range.rangeSize a b c=if a < b then (b - a - 1) / c+1 else 0 from if_pos hc.1]
  by_cases h : a < b
  ·rw[if_pos h]
   have:=Gc h hc.1
   generalize (b - a - 1) / c=z at this ⊢
   lia
  ·rw[if_neg h];decide
 exact an.mpr ⟨an.mpr ⟨an.mpr ⟨an.mpr ⟨HZ ha,HZ hb⟩,HZ ⟨by exact Int.le_of_lt (cU (by decide) hc.1),hc.2⟩⟩,fits d⟩,dp.mpr (.inr ((if_pos hc.1).trans (fits (by lia))))⟩
theorem wS{x:Str}{np pos:Pos}{args:List Expr}{ms:P (List MV)}(hn:fk cx n fd (.Name x np) (.type "range")) (hes:args.all cj=true)(h:kt cx n fd pos args ms):qP cx n fd (.Call (.Name x np) args [] pos) (ms.bind P.zw):=by
 refine on hn rfl hes h λA ρ σ loc s as vs Q X E G r hm=> ?_
 have fin : ∀ {a b c:Int}{t u v:Tok}{tk:Nat}{it:It},Builtin.Range.small a b c=true->it= .jK a (Builtin.Range.rangeSize a b c) c->Q it loc σ->
   wpAny cx.M A (pyIter (.ref s.heap.objs.size)) (oG cx n fd A ρ σ s Q) E { s with heap:=s.heap.push { cls:= .type "range",data:= .fields #[.int a t, .int b u, .int c v] },toks:=tk }:=by
  intro a b c t u v tk it hs hit hq
  subst hit
  exact wpAny_pyIter_range (IsRange.new _ a b c t u v) hs (oG.one (it:= .jK a _ c) (Step.grow G.di G.locals (.push _) tk) rfl (G.push _ tk) rfl rfl (λe=>⟨_,rfl,rfl,e⟩) hq)
 generalize oG cx n fd A ρ σ s Q=Q' at fin ⊢
 induction hm with
 |one p h=>
  apply r.Jq;intro y r;apply r.eH;intro t
  exact call_range_1 (fin (oo (by decide) p (by decide)) (by rw[rangeSize_one]) h)
 |two p h=>
  apply r.Ep;intro y z r1 r2;apply VR.fK r1 r2;intro t u
  exact call_range_2 (fin (oo ⟨p.1,p.2.1⟩ p.2.2 (by decide)) (by rw[rangeSize_one]) h)
 |@three a b c p h=>
  apply r.MA;intro y z w r1 r2 r3;apply VR.fK r1 r2;intro t u;apply r3.eH;intro v
  have pc:=p.2.2.2.2
  exact call_range_3 (Int.ne_of_gt pc.1) (fin (oo ⟨p.1,p.2.1⟩ ⟨p.2.2.1,p.2.2.2.1⟩ pc) (by rw[show Builtin.Range.rangeSize a b c=if a < b then (b - a - 1) / c+1 else 0 from if_pos pc.1]) h)
   (.inl (PyProof.noPylong_of_log2 (aC ((Nat.log2_lt (by (omega))).mpr (show c.natAbs < 2^60 by (omega))) (by decide))))
inductive pZ(f:LA->List MV->It)(loc:Loc)(σ:MH)(Q:It->Loc->MH->Prop):List MV->Prop where
 |mk {l vs} (e:σ.get l=some (.list vs))(p:vs.length<=100000)(h:Q (f l vs) loc σ):pZ f loc σ Q [.ref l]
noncomputable abbrev P.vm(f:LA->List MV->It)(a:MV):P It:=λloc σ Q _=>pZ f loc σ Q [a]
theorem zR{x:Str}{np pos:Pos}{e:Expr}{m:P MV}(hn:fk cx n fd (.Name x np) (.type "enumerate")) (hp:cj e=true)(h:bO cx n fd e m) :
  qP cx n fd (.Call (.Name x np) [e] [] pos) (m.bind (P.vm λl _=> .nT l 0)):=by
 refine on (g:=λas loc σ Q _=>pZ (λl _=> .nT l 0) loc σ Q as) hn rfl (by refine (List.all_cons).trans ?_;refine ae hp▸ ?_;rfl) (lY hp h oK) λA ρ σ loc s as vs Q X E G r hm=> ?_
 induction hm with
 |@mk l vs e p h=>
  apply r.eB;intro u
  refine eA ((G.obj _ _ e).2) λxs ep o1 _=> ?_
  refine call_enumerate_1 o1 λh' hE hI hz hk=>wpAny_pyIter_enum hE ?_
  refine⟨.nT l 0,[s.heap.objs.size+1,s.heap.objs.size],ρ,σ,loc,Step.grow G.di G.locals (⟨λa o _ e=>hk a o e,λm ns=>ns.keeps hk⟩) s.toks,G.grow (⟨λa o _ e=>hk a o e,λm ns=>ns.keeps hk⟩) s.toks,⟨_,_, .none,rfl,rfl,Nat.succ_ne_self _,hE,hI⟩,λa ha=> ?_,h⟩
  rcases aK.mp ha with q | q
  ·exact gX.fresh G (q▸cT _) .refl ⟨_,q▸hE,dQ rfl⟩
  ·exact (by refine pH hI λoi hoi _ hdi=> ?_;exact av.mp q▸gX.fresh G (aG _) .refl ⟨oi,hoi,dQ hdi⟩)
theorem BQ{x:Str}{np pos:Pos}{e:Expr}{m:P MV}(hn:fk cx n fd (.Name x np) (.type "reversed")) (hp:cj e=true)(h:bO cx n fd e m) :
  qP cx n fd (.Call (.Name x np) [e] [] pos) (m.bind (P.vm λl vs=> .rev l vs.length)):=by
 refine on (g:=λas loc σ Q _=>pZ (λl vs=> .rev l vs.length) loc σ Q as) hn rfl (by refine (List.all_cons).trans ?_;exact ae hp▸rfl) (lY hp h oK) λA ρ σ loc s as vs Q X E G r hm=> ?_
 induction hm with
 |@mk l vs e p h=>
  apply r.eB;intro u
  refine aT (G.isList e) λxs i r1=> ?_
  refine call_reversed_list i (wpAny_pyIter_revIter ⟨_,aQ s.heap rfl,rfl,rfl⟩ ?_)
  exact oG.one (it:= .rev l vs.length) (tk:=s.toks) .refl rfl G rfl rfl (λe2=>⟨_,rfl,rfl,⟨_,e2,rfl,(show (vs.length : Int)=xs.size from ah _ (r1.len.symm.trans bu))▸rfl⟩⟩) h
end
structure z6(fd:Fd):Prop where
 Eo : fd.gB=fd.env::fd.outer
 kS : fd.env.frame=some fd.env.locals
 hk : fd.env.scope.kind= .function
 cI : ∀c∈fd.env.cells,c.2∈fd.cI
 nd : fd.names.Nodup
 cn : (fd.env.cells.map (·.1)).Nodup
section
variable {cx:Cx}{n:Nat}{fd:Fd}{A:Around}{ρ ρ':LA->Addr}{σ σ':MH}{loc loc':Loc}{s s₀ s':Shared}
theorem Good.rD(G:Good cx n fd A ρ σ loc s){a:Addr}(ha:a∈fd.cI){h':Heap}(hk:∀b,b≠a->h'.get? b=s.heap.get? b)(hx:∃o,h'.get? a=some o/\¬IsTup o)(t:Nat)
  (hcell:∀c∈fd.env.cells,∃o v,h'.get? c.2=some o/\o.data= .cell v)(hl:fh ρ σ.us s.heap ρ σ.us h'->ib ρ σ.us h' fd.env fd.names loc') :
  Good cx n fd A ρ σ loc' { s with heap:=h',toks:=t }/\Step fd ρ σ.us s ρ σ.us { s with heap:=h',toks:=t }:=by
 have p:=G.foot (.cI ha)
 have kp : ∀b o,b≠a->s.heap.get? b=some o->h'.get? b=some o:=λb _ d=>(hk b d).trans
 refine⟨G.move (λl x e=>have z:=G.obj l x e;⟨z.1,z.2.mono ⟨λ_ u=>⟨u,rfl⟩,λb o e c=>kp b o (λq=>(G.rE e c).2.1 (q▸ha)) e⟩ λ_=>kp _ _ (p.u l z.1)⟩) (λl u=>(by obtain⟨_,o,e,f⟩:=G.low l u;exact⟨o,kp _ o (p.u l u) e,f⟩))
  (λb o e=>kp b o (λq=>iH p.z (q▸aS e)) (G.top b o e)) (hl ⟨λ_ u=>⟨u,rfl⟩,λb o e c=>kp b o (λq=>(G.rE e c).2.1 (q▸ha)) e⟩) (λsp _ o e f=> ?_),
  ⟨⟨h',t,rfl⟩,λb o e=> ?_,λ_ u=>⟨u,rfl⟩,λ_ u z=>absurd u z,λb o e f z1 _=>kp b o (λq=>z1 (q▸ha)) e,λb o e f z1 _=>⟨o.slots,kp b o (λq=>z1 (q▸ha)) e⟩⟩⟩
 ·induction sp with
  |@cI b h=>exact (Classical.em (b=a)).elim (λq=>q▸hx) λq=>⟨o,kp b o q e,f⟩
  |cell h=>exact (by refine eA (hcell _ h) λo v e d=> ?_;exact⟨o,e,v,d⟩)
  |@frame b h=>exact⟨o,kp b o (λq=>G.st.mo a ha (q▸h)) e,f⟩
 ·exact (Classical.em (b=a)).elim (λq=>q▸(by refine aT hx λo' e' _=> ?_;exact⟨o',e'⟩)) λq=>⟨o,kp b o q e⟩
noncomputable abbrev P.store(i:Nat)(v:MV):P Unit:=λloc σ Q _=>i < loc.length/\Q () (loc.set i (some v)) σ
theorem uI{loc:Loc}{i j:Nat}{v mv:MV}(h:(loc.set i (some v))[j]?=some (some mv)):(i=j/\mv=v)∨(i≠j/\loc[j]?=some (some mv)):=by
 replace h:=List.getElem?_set▸h
 split at h
 ·rename_i q
  split at h
  ·cases h;exact .inl ⟨q,rfl⟩
  ·cases h
 ·rename_i q;exact .inr ⟨q,h⟩
theorem zT(F:z6 fd){x:Str}{i:Nat}{a:MV}{v:Value}(hi:fd.names[i]?=some x)(hl:fd.env.kindOf x=some .local∨(fd.env.kindOf x=some .cell/\x∈fd.env.cells.map (·.1))) :
  nS cx n fd (λρ U h=>VR ρ U h a v) cg.unit (bindName fd.env x v) (P.store i a):=by
 intro A ρ σ loc s Q X G hv hm
 obtain⟨hi2,hq⟩:=hm
 obtain⟨m,ns,lr⟩:=G.loc
 have same : ∀ {j:Nat}{y:Str},fd.names[j]?=some y->(y=x↔j=i):=λ{j y} hj=>by
  constructor
  ·rintro rfl
   exact (List.getElem?_inj (bh.mp hj).1 F.nd).mp (hj.trans hi.symm)
  ·rintro rfl
   replace hi:=hj▸hi;cases hi;rfl
 refine wpAny_bindName ?_
 rcases hl with hl | ⟨hl,hc⟩
 ·refine wpAny_storeName_local hl ns (λh' ns' sb=> ?_) (by refine ae F.hk▸ ?_;rfl)
  refine sd (_root_.id ns') λo es ep e d _=> ?_
  have cells : ∀c∈fd.env.cells,∀o,s.heap.get? c.2=some o->h'.get? c.2=some o:=λc hc o z=>(sb.2 _ (G.iu c hc)).trans z
  obtain⟨G',S'⟩:=G.rD (loc':=loc.set i (some a)) G.di sb.2 ⟨o,e,ca d⟩ (s.toks+1) (λc hc=>by
   refine eA ((G.tv c hc).1) λo w z1 z2=> ?_
   exact⟨o,w,cells c hc o z1,z2⟩) λk=>⟨_,ns',λj y mv hj hg=>by
    rcases uI hg with ⟨q,rfl⟩ | ⟨q,hg⟩
    ·have : y=x:=(same hj).mpr q.symm
     subst this
     refine⟨λ_=>⟨v,by exact if_pos rfl,hv.mono k⟩,λz=> ?_⟩
     rw[hl] at z;refine Or.elim z (λz=> ?_) λz=> ?_<;>cases z
    ·have ne : y≠x:=λz=>q ((same hj).mp z).symm
     have q1:=(lr j y mv hj hg).1;have q2:=(lr j y mv hj hg).2
     refine⟨λz=> ?_,λz=> ?_⟩
     ·refine aT (q1 z) λw f g=> ?_
      exact⟨w,by refine ((if_neg ne)).trans ?_;exact f,g.mono k⟩
     ·refine eT (q2 z) λc w f zo3_ g3=> ?_;refine aT zo3_ λoc g1 g2=> ?_
      exact⟨c,w,f,⟨oc,cells _ (mem_of_lookup f) _ g1,g2⟩,g3.mono k⟩⟩
  exact⟨(),_,_,_,S',G',trivial,hq⟩
 ·obtain⟨c,hcl⟩:=cb.mp (lookup_mem hc)
  have hcm:=mem_of_lookup hcl
  refine eA ((G.tv _ hcm).1) λoc w0 z1 z2=> ?_
  refine wpAny_storeName_cell F.hk hl hcl ⟨oc,z1,z2⟩ λh' hc' sb=> ?_
  refine aT (_root_.id hc') λo e d=> ?_
  obtain⟨G',S'⟩:=G.rD (loc':=loc.set i (some a)) (F.cI _ hcm) sb.2 ⟨o,e,jb d⟩ s.toks (λc2 hc2=>by
   by_cases q : c2.2=c
   ·exact⟨o,_,q▸e,d⟩
   ·refine eA ((G.tv c2 hc2).1) λo2 w y1 y2=> ?_
    exact⟨o2,w,(sb.2 _ q).trans y1,y2⟩) λk=>⟨m,ns.sameBut sb (λq=>G.iu _ hcm q.symm),λj y mv hj hg=>by
    rcases uI hg with ⟨q,rfl⟩ | ⟨q,hg⟩
    ·have : y=x:=(same hj).mpr q.symm
     cases this
     exact⟨λz=>(by replace z:=hl▸z;exact nomatch z),λ_=>⟨c,v,hcl,hc',hv.mono k⟩⟩
    ·have ne : y≠x:=λz=>q ((same hj).mp z).symm
     refine⟨λz=> ?_,λz=> ?_⟩
     ·refine aT (((lr j y mv hj hg).1) z) λw f g=> ?_
      exact⟨w,f,g.mono k⟩
     ·refine eT (((lr j y mv hj hg).2) z) λc2 w f zo3_ g3=> ?_;refine aT zo3_ λoc2 g1 g2=> ?_
      refine⟨c2,w,f,⟨oc2,(sb.2 _ λq=>ne ?_).trans g1,g2⟩,g3.mono k⟩
      have:=mem_of_lookup f
      rw[q] at this
      exact name_of_addr G.st.D1 this hcm⟩
  exact⟨(),_,_,_,S',G',trivial,hq⟩
noncomputable abbrev ew(cx:Cx)(n:Nat)(fd:Fd)(t:Expr)(m:MV->P Unit):Prop:=∀a v,aM cx n fd (λρ U h=>VR ρ U h a v) cg.unit (assign t fd.env v) (m a)
theorem xC(F:z6 fd){x:Str}{pos:Pos}{i:Nat}(hi:fd.names[i]?=some x)(hl:fd.env.kindOf x=some .local∨(fd.env.kindOf x=some .cell/\x∈fd.env.cells.map (·.1))):ew cx n fd (.Name x pos) (P.store i):=by
 intro a v
 exact aM.standAt (zT F hi hl).n
theorem xt{okA:Addr->String->Bool}(hA:∀C x,okA C x=true->gq cx.K C x=true){o:Expr}{x:String}{pos:Pos}{m:P MV}(ho:bO cx n fd o m):ew cx n fd (.Attribute o (Str.ofString x) pos) (λa=>m.bind λb=>P.setattr okA x b a):=by
 intro a v
 refine aM.bind (aM.holding (aM.gU bM.vr ho)) λb ov=>aM.standAt ?_
 intro A ρ σ loc s Q X G hp hm
 refine ai (aJ (aD (oU hA A ρ σ loc s Q X G hp hm) (λr s1 h=> ?_) λ_ _ y=>y))
 exact eD h
theorem w2{o i:Expr}{pos:Pos}{m mi:P MV}(hs:∀a b c,i≠ .Slice a b none c)(ho:bO cx n fd o m)(hi:bO cx n fd i mi):ew cx n fd (.Subscript o i pos) (λa=>m.bind λb=>mi.bind λc=>P.vk b c a):=by
 intro a v
 have q : assign (.Subscript o i pos) fd.env v=(holding [v] (eval o fd.env) >>= λov=>holding [v,ov] (eval i fd.env) >>= λiv=>standAt pos >>= λ_=>holding [v,ov,iv] (setItem ov iv v) >>= λ_=>release [v,ov,iv] []):=by
  clear hi
  cases i<;>first | rfl | skip
  rename_i a b c d
  cases c with
  |none=>exact (hs a b d rfl).elim
  |some c=>rfl
 refine ae q▸ ?_
 refine aM.bind (aM.holding (aM.gU bM.vr ho)) λb ov=> ?_
 refine aM.bind (aM.holding (aM.gU (bM.and bM.vr bM.vr) hi)) λc iv=>aM.standAt ?_
 intro A ρ σ loc s Q X G hp hm
 refine ai (aJ (aD (wh.n A ρ σ loc s Q X G ⟨hp.2.1,hp.1,hp.2.2⟩ hm) (λr s1 h=> ?_) λ_ _ y=>y))
 exact eD h
noncomputable abbrev te(cx:Cx)(n:Nat)(fd:Fd)(ts:List Expr)(m:List MV->P Unit):Prop:=∀as vs,aM cx n fd (λρ U h=>cR ρ U h as vs) cg.unit (assignInOrder ((assignEach ts fd.env).map (·.2)) vs) (m as)
noncomputable abbrev P.fail{α:Type}:P α:=λ_ _ _ _=>False
theorem AC : te cx n fd [] (λas=>match as with | []=>P.ret () | _=>P.fail):=by
 intro as vs A ρ σ loc s Q X G hp hm
 cases as with
 |nil=>cases hp.nil_inv;exact ax (Out.now G trivial hm)
 |cons a as=>exact hm.elim
theorem fQ{t:Expr}{ts:List Expr}{env:Env}(h:cj t=true):assignEach (t::ts) env=(false,assign t env)::assignEach ts env:=by
 cases t<;>first | rfl | cases h
theorem xg{t:Expr}{ts:List Expr}{m:MV->P Unit}{ms:List MV->P Unit}(hp:cj t=true)(h:ew cx n fd t m)(hs:te cx n fd ts ms) :
  te cx n fd (t::ts) (λas=>match as with | a::r=>(m a).bind λ_=>ms r | []=>P.fail):=by
 intro as vs
 refine ae (fQ hp)▸ ?_
 cases as with
 |nil=>exact λ_ _ _ _ _ _ _ _ _ hm=>hm.elim
 |cons a as=>
  intro A ρ σ loc s Q X G hv hm
  refine eT hv.cons_inv λy ys zr2_ r1 r2=> ?_;subst zr2_
  refine ai (aJ (aD (h a y A ρ σ loc s _ X G r1 hm) (λu s1 z=> ?_) λ_ _ z=>z))
  obtain⟨_,ρ1,σ1,l1,S1,G1,_,hq⟩:=z
  exact aD (hs as ys A ρ1 σ1 l1 s1 Q X G1 (r2.mono (S1.keeps G)) hq) (λ_ _ z=>z.pre S1) λ_ _ z=>z.pre S1
theorem lF : ∀ {ts:List Expr}{env:Env},ts.all cj=true->(assignEach ts env).length=ts.length/\(assignEach ts env).findIdx? (·.1)=none
 | [],_,_=>⟨rfl,rfl⟩
 |t::ts,env,h=>by
  replace h:=(Bool.and_eq_true ..).mp h
  refine dw (lF (ts:=ts) (env:=env) h.2) λa b=> ?_
  refine ae (fQ h.1)▸ ?_
  refine⟨by exact ah _ a, ?_⟩
  refine (List.findIdx?_cons).trans ?_;exact ae b▸rfl
noncomputable abbrev P.zx(k:Nat)(ms:List MV->P Unit)(a:MV):P Unit:=λloc σ Q X=>match a with
 | .tup vs=>vs.length=k/\ms vs loc σ Q X
 |_=>False
theorem vO{ts:List Expr}{x1:Nat}{pos:Pos}{ms:List MV->P Unit}(hp:ts.all cj=true)(hs:te cx n fd ts ms):ew cx n fd (.Tuple ts x1 pos) (P.zx ts.length ms):=by
 intro a v A ρ σ loc s Q X G hv hm
 unfold P.zx at hm
 split at hm
 ·rename_i vs
  refine qw hv.dN λb o xs ep zr4_ e1 c1 d1 r1=> ?_;subst zr4_
  have hl:=hm.1;have hm:=hm.2
  refine ai (bB ?_)
  unfold unpack
  have l1:=r1.len
  rw[bu] at l1
  refine ae ((lF (env:=fd.env) hp).2)▸ae (show (assignEach ts fd.env).length=xs.size by rw[((lF (env:=fd.env) hp).1),l1,hl])▸ ?_
  refine ai (aJ (.of (wpAny_unpackItems_tuple G.ak.hh ⟨o,e1,c1,ep,d1⟩ λh' hx=> ?_)))
  have hk : ∀b o,s.heap.get? b=some o->h'.get? b=some o:=λb o e=>hx b o (bw (aS e)) e
  have gr : jH fd.env.locals s.heap h':=⟨λb o _ e=>hk b o e,λm ns=>ns.keeps hk⟩
  have S:=Step.grow (ρ:=ρ) (U:=σ.us) G.di G.locals gr s.toks
  exact aD (hs vs xs.toList A ρ σ loc _ Q X (G.grow gr s.toks) (r1.mono (S.keeps G)) hm) (λ_ _ z=>z.pre S) λ_ _ z=>z.pre S
 ·exact hm.elim
end
section
variable {cx:Cx}{n:Nat}{fd:Fd}{A:Around}{ρ ρ':LA->Addr}{σ σ':MH}{loc loc':Loc}{s s₀ s':Shared}{ρ₀:LA->Addr}{σ₀:MH}{loc₀:Loc}
theorem Good.holds(G:Good cx n fd A ρ σ loc s):∀a,a∈fd.cI∨(∃c∈fd.env.cells,c.2=a)->∃o,s.heap.get? a=some o:=λa h=>by
 rcases h with h | ⟨c,h,rfl⟩
 ·exact G.own h
 ·refine eA ((G.tv c h).1) λo _ e _=> ?_
  exact⟨o,e⟩
inductive y7(cx:Cx)(n:Nat)(fd:Fd)(A:Around)(ρ:LA->Addr)(σ:MH)(s:Shared)(X:Addr->Loc->MH->Prop)(ev:Value)(s':Shared):Prop
 |mk (e C:Addr)(ρ':LA->Addr)(σ':MH)(loc':Loc)(he:ev= .ref e)(S:Step fd ρ σ.us s ρ' σ'.us s')(G:Good cx n fd A ρ' σ' loc' s')(x:ExcAt ρ' σ'.us s'.heap s.heap fd.env.frame e C)(q:X C loc' σ')
  (t:∃oe vs T oT ts,s'.heap.get? e=some oe/\oe.data= .fields vs/\vs[1]?=some (.ref T)/\T≠e/\s'.heap.get? T=some oT/\oT.data= .fields ts/\ts[3]?=some (rawInt fd.env.locals))
theorem DO{α:Type}(F:z6 fd)(G₀:Good cx n fd A ρ₀ σ₀ loc₀ s₀){X:Addr->Loc->MH->Prop}{t:Sem α}{Q:α->Shared->Prop}(h:cW cx.M A t Q (ey cx n fd A ρ₀ σ₀ s₀ X) s) :
  cW cx.M A (t.onRaise λx=>do noteFrame x fd.env;theTreesLotGoes x) Q (y7 cx n fd A ρ₀ σ₀ s₀ X) s:=by
 refine dx (aD h (λ_ _ y=>y) λe s' y=> ?_)
 obtain⟨e',C,ρ',σ',l',rfl,S,G,x,hx⟩:=y
 refine ai (.of (G.note G₀.top S x G₀.holds F.Eo F.kS (by refine ae F.hk▸ ?_;decide) λs₂ G₂ S₂ x₂ nt=> ?_))
 exact .of (wpAny_theTreesLotGoes ⟨e',C,ρ',σ',l',rfl,S₂,G₂,x₂,hx,nt⟩)
theorem y5(F:z6 fd)(G₀:Good cx n fd A ρ₀ σ₀ loc₀ s₀){X:Addr->Loc->MH->Prop}{c:Code}{Q:Flow->Shared->Prop}
  (h:codeN cx.M A c (λr s'=>match r with | .ok f=>Q f s' | .error e=>y7 cx n fd A ρ₀ σ₀ s₀ X e s') s):cW cx.M A (runOwn c fd.env) Q (ey cx n fd A ρ₀ σ₀ s₀ X) s:=by
 refine dx (tC (eW h λr s' y=> ?_))
 cases r with
 |ok f=>exact y
 |error e=>
  obtain⟨e',C,ρ',σ',l',rfl,S,G,x,hx,oe,vs,T,oT,ts,b1,b2,b3,b4,b5,b6,b7⟩:=y
  refine ai (.of (wpAny_field b1 b2 b3 ?_))
  exact .of (G.vp G₀.top S x G₀.holds _ λs₂ G₂ S₂ x₂=>⟨e',C,ρ',σ',l',rfl,S₂,G₂,x₂,hx⟩)
noncomputable abbrev gf(cx:Cx)(n:Nat)(fd:Fd)(st:Stmt)(m:P MF):Prop:=eO cx n fd cg.mA (exec st fd.env) m
noncomputable abbrev P.seq(m m':P MF):P MF:=λloc σ Q X=>m loc σ (λf l s=>match f with | .next=>m' l s Q X | f=>Q f l s) X
theorem q7 : jG cx n fd [] (P.ret MF.next):=aM.pure λ_ _ _ _=> .next
theorem zC{st:Stmt}{ss:List Stmt}{m m':P MF}(h:gf cx n fd st m)(h':jG cx n fd ss m'):jG cx n fd (st::ss) (P.seq m m'):=by
 intro A ρ σ loc s Q X G _ hm
 refine ai (aD (h A ρ σ loc s _ X G trivial hm) (λf s1 y=> ?_) λ_ _ y=>y)
 obtain⟨mf,ρ1,σ1,l1,S1,G1,r,hq⟩:=y
 induction r with
 |next=>exact aD (h' A ρ1 σ1 l1 s1 Q X G1 trivial hq) (λ_ _ y=>y.pre S1) λ_ _ y=>y.pre S1
 |brk=>exact ax ⟨_,ρ1,σ1,l1,S1,G1,(by constructor),hq⟩
 |cont=>exact ax ⟨_,ρ1,σ1,l1,S1,G1,(by constructor),hq⟩
 |ret r=>exact ax ⟨_,ρ1,σ1,l1,S1,G1, .ret r,hq⟩
theorem AT{pos:Pos}:gf cx n fd (.Pass pos) (P.ret MF.next):=aM.standAt (t:=λ_=>pure Flow.next) (aM.pure λ_ _ _ _=> .next)
theorem xS{pos:Pos}:gf cx n fd (.Break pos) (P.ret MF.brk):=aM.standAt (t:=λ_=>pure Flow.brk) (aM.pure λ_ _ _ _=> .brk)
theorem uA{pos:Pos}:gf cx n fd (.Return none pos) (P.ret (MF.ret .none)):=aM.standAt (t:=λ_=>pure (Flow.ret .none)) (aM.pure λ_ _ _ _=> .ret .none)
theorem vM{e:Expr}{pos:Pos}{m:P MV}(h:bO cx n fd e m):gf cx n fd (.Return (some e) pos) (m.bind λv=>P.ret (MF.ret v)):=by
 show eO cx n fd cg.mA (standAt pos >>= λ_=>eval e fd.env >>= λx=>pure (.ret x)) _
 exact aM.standAt (aM.bind h λa v=>aM.pure λ_ _ _ q=> .ret q)
theorem Gp{t:Expr}{b e:List Stmt}{pos:Pos}{mt:P Bool}{mb me:P MF}(ht:gz cx n fd t mt)(hb:jG cx n fd b mb)(he:jG cx n fd e me):gf cx n fd (.If t b e pos) (P.cond mt mb me):=by
 exact aM.standAt (aM.cond bM.tt ht hb he)
noncomputable def P.rt(t:P Bool)(b els:P MF):Nat->P MF
 |0=>P.fail
 |N+1=>P.cond t (λloc σ Q X=>b loc σ (λf l s=>match f with
   | .next=>P.rt t b els N l s Q X
   | .cont=>P.rt t b els N l s Q X
   | .brk=>Q .next l s
   | .ret v=>Q (.ret v) l s) X) els
noncomputable abbrev P.while(t:P Bool)(b els:P MF):P MF:=λloc σ Q X=>∃N,P.rt t b els N loc σ Q X
theorem lV(F:z6 fd){test:Expr}{body orelse:List Stmt}{t:P Bool}{b els:P MF}(ht:gz cx n fd test t)(hb:jG cx n fd body b)(he:jG cx n fd orelse els)(G₀:Good cx n fd A ρ₀ σ₀ loc₀ s₀){Q:MF->Loc->MH->Prop}{X:Addr->Loc->MH->Prop} :
  ∀ (N:Nat)(ρ:LA->Addr)(σ:MH)(loc:Loc)(s:Shared),Good cx n fd A ρ σ loc s->Step fd ρ₀ σ₀.us s₀ ρ σ.us s->P.rt t b els N loc σ Q X->
  codeN cx.M A (.whileLoop test body orelse fd.env) (λr s'=>match r with | .ok f=>Out cx n fd A ρ₀ σ₀ s₀ cg.mA Q f s' | .error e=>y7 cx n fd A ρ₀ σ₀ s₀ X e s') s
 |0,_,_,_,_,_,_,hm=>hm.elim
 |N+1,ρ,σ,loc,s,G,S,hm=>by
  refine bP (λ_ _ _ _=>rfl) ?_
  refine DO F G₀ ?_
  dsimp only[whileTurn]
  refine ai (aD (ht A ρ σ loc s _ X G trivial hm) (λc s1 y=> ?_) λ_ _ y=>y.pre S)
  obtain⟨c',ρ1,σ1,l1,S1,G1,r,hq⟩:=y
  cases r
  cases c with
  |true=>
   refine ai (aD (hb A ρ1 σ1 l1 s1 _ X G1 trivial hq) (λf s2 y=> ?_) λ_ _ y=>y.pre (S.trans S1))
   obtain⟨mf,ρ2,σ2,l2,S2,G2,r,hq⟩:=y
   have S':=(S.trans S1).trans S2
   induction r with
   |next=>exact ax ⟨rfl,lV F ht hb he G₀ N ρ2 σ2 l2 s2 G2 S' hq⟩
   |brk=>exact ax ⟨_,ρ2,σ2,l2,S',G2,(by constructor),hq⟩
   |cont=>exact ax ⟨rfl,lV F ht hb he G₀ N ρ2 σ2 l2 s2 G2 S' hq⟩
   |ret r=>exact ax ⟨_,ρ2,σ2,l2,S',G2, .ret r,hq⟩
  |false=>
   refine ai (aD (he A ρ1 σ1 l1 s1 _ X G1 trivial hq) (λf s2 y=>ax (y.pre (S.trans S1))) λ_ _ y=>y.pre (S.trans S1))
theorem xN(F:z6 fd){test:Expr}{body orelse:List Stmt}{pos:Pos}{t:P Bool}{b els:P MF}(ht:gz cx n fd test t)(hb:jG cx n fd body b)(he:jG cx n fd orelse els) :
  gf cx n fd (.While test body orelse pos) (P.while t b els):=by
 intro A ρ σ loc s Q X G _ hm
 refine cN hm λN hm=> ?_
 exact ai (bB (y5 F G (lV F ht hb he G N ρ σ loc s G .refl hm)))
noncomputable def P.yc(tg:MV->P Unit)(b els:P MF):Nat->It->P MF
 |0,_=>P.fail
 |N+1,it=>λloc σ Q X=>GF σ it (els loc σ Q X) λv it'=>tg v loc σ (λ_ l1 σ1=>b l1 σ1 (λf l2 σ2=>match f with
   | .next=>P.yc tg b els N it' l2 σ2 Q X
   | .cont=>P.yc tg b els N it' l2 σ2 Q X
   | .brk=>Q .next l2 σ2
   | .ret v=>Q (.ret v) l2 σ2) X) X
noncomputable abbrev P.M1(tt:Bool)(m:P It)(tg:MV->P Unit)(b els:P MF):P MF:=m.bind λit loc σ Q X=>(it.dT=true->tt=true)/\∃N,P.yc tg b els N it loc σ Q X
noncomputable def It.use(U:LA->Prop):It->Prop
 | .lst l _=>U l
 | .nT l _=>U l
 | .rev l _=>U l
 |_=>True
theorem yO(G:Good cx n fd A ρ σ loc s){it it':It}{v:MV}(h:Nx σ it (some (v,it'))):it'.dT=it.dT/\it'.use σ.us:=by
 generalize e : some (v,it')=r at h
 cases h with
 |lst f=>cases e;exact⟨rfl,(G.obj _ _ f).1⟩
 |nT f=>cases e;exact⟨rfl,(G.obj _ _ f).1⟩
 |rev f=>cases e;exact⟨rfl,(G.obj _ _ f).1⟩
 |jK=>cases e;exact⟨rfl,trivial⟩
 |rF=>cases e;exact⟨rfl,trivial⟩
 |_=>exact nomatch e
theorem kK.step(G:Good cx n fd A ρ σ loc s){it:It}{v:Value}{as:List Addr}(I:kK ρ s.heap it v as)(hu:it.use σ.us)(W:∀a∈as,gX cx fd s₀ ρ σ.us s a)(S:Step fd ρ σ.us s ρ' σ'.us s') :
  kK ρ' s'.heap it v as/\∀a∈as,gX cx fd s₀ ρ' σ'.us s' a:=by
 refine⟨?_,λa ha=>((W a ha).step G S).1⟩
 have k : ∀a∈as,∀o,s.heap.get? a=some o->s'.heap.get? a=some o:=λa ha=>((W a ha).step G S).2
 cases it with
 |lst l i=>
  obtain⟨a,rfl,rfl,o,ho,hc,hd⟩:=I
  exact⟨a,rfl,rfl,o,k a (.head _) o ho,hc,by rw[(S.us l hu).2];exact hd⟩
 |jK x left step=>
  refine pH I λa zr1_ zr2_ hI=> ?_;subst zr1_;subst zr2_
  exact⟨a,rfl,rfl,k a (.head _) _ hI⟩
 |nT l i=>
  obtain⟨e,a,old,rfl,rfl,hne,hE,o,ho,hc,hd⟩:=I
  exact⟨e,a,old,rfl,rfl,hne,k e (.head _) _ hE,o,k a (.tail _ (.head _)) o ho,hc,by rw[(S.us l hu).2];exact hd⟩
 |rev l j=>
  obtain⟨a,rfl,rfl,o,ho,hc,hd⟩:=I
  exact⟨a,rfl,rfl,o,k a (.head _) o ho,hc,by rw[(S.us l hu).2];exact hd⟩
 |rF b i=>
  obtain⟨a,t,rfl,rfl,o,ho,hc,hd⟩:=I
  exact⟨a,t,rfl,rfl,o,k a (.head _) o ho,hc,hd⟩
structure yR(cx:Cx)(n:Nat)(fd:Fd)(A:Around)(ρ₀:LA->Addr)(σ₀:MH)(s₀:Shared)(v:Value)(as:List Addr)(target:Expr)(it:It)(ρ:LA->Addr)(σ:MH)(loc:Loc)(s:Shared):Prop where
 t : it.dT=true->c5 target=true
 G : Good cx n fd A ρ σ loc s
 S : Step fd ρ₀ σ₀.us s₀ ρ σ.us s
 I : kK ρ s.heap it v as
 W : ∀a∈as,gX cx fd s₀ ρ σ.us s a
noncomputable def uK(target:Expr)(body:List Stmt)(env:Env)(c:Code)(x:Value):Sem Fin:=do
 assign target env x
 match<-execs body env with
 | .next | .cont=>again c
 | .brk=>pure (.done .next)
 | .ret v=>pure (.done (.ret v))
theorem CN{target:Expr}{body:List Stmt}{tg:MV->P Unit}{b els:P MF}(ht:ew cx n fd target tg)(hb:jG cx n fd body b){Q:MF->Loc->MH->Prop}{X:Addr->Loc->MH->Prop}{v:Value}{as:List Addr}{N:Nat}{R:Fin->Shared->Prop}{c d:Code}{E:Value->Shared->Prop}
  (hE:∀e s',ey cx n fd A ρ₀ σ₀ s₀ X e s'->E e s')(hd:∀f s',Out cx n fd A ρ₀ σ₀ s₀ cg.mA Q f s'->R (.done f) s')
  (hn:∀it ρ σ loc s,yR cx n fd A ρ₀ σ₀ s₀ v as target it ρ σ loc s->P.yc tg b els N it loc σ Q X->R (.again c) s)
  (he:∀s',Good cx n fd A ρ σ loc s'->Step fd ρ₀ σ₀.us s₀ ρ σ.us s'->els loc σ Q X->R (.again d) s')
  {it:It}(C:yR cx n fd A ρ₀ σ₀ s₀ v as target it ρ σ loc s)(hm:P.yc tg b els (N+1) it loc σ Q X){pos:Pos} :
  cW cx.M A ((pyNext v).onRaise (λ_=>standAt pos) >>= λr=>match r with
    |none=>again d
    |some x=>letOwnedTupleGo target v x >>= λ_=>uK target body fd.env c x) R E s:=by
 have run : ∀ {r},Nx σ it r->(∀r' s',After cx n fd A ρ₀ σ₀.us s₀ ρ σ loc s as s'->EA cx fd s₀ ρ σ.us s' v as r r'->match r' with
    |none=>R (.again d) s'
    |some x=>cW cx.M A (uK target body fd.env c x) R E s')->cW cx.M A ((pyNext v).onRaise (λ_=>standAt pos) >>= λr=>match r with
    |none=>again d
    |some x=>letOwnedTupleGo target v x >>= λ_=>uK target body fd.env c x) R E s:=λhr h=>by
  refine ai (dx (aD (.of (wK (target:=target) C.G C.S C.I C.W hr C.t (E:=λ_ _=>False) h)) (λr' s1 y=> ?_) λ_ _ y=>y.elim))
  cases r' with
  |none=>exact ax y
  |some x=>exact ai (.of (wpAny_mono y (λ_ _ z=>z) λ_ _ z=>z.elim))
 induction hm with
 |stop hr hm=>
  refine run hr λr' s2 F nr=> ?_
  cases nr
  exact he _ F.G F.S hm
 |turn hr hm=>
  refine run hr λr' s2 F nr=> ?_
  apply nr.Hc
  intro x rv I2 W2
  have hu:=yO C.G hr
  refine ai (aD (ht _ x A ρ σ loc s2 _ X F.G rv hm) (λ_ s3 z=> ?_) λ_ _ z=>hE _ _ (z.pre F.S))
  obtain⟨_,ρ3,σ3,l3,S3,G3,_,hq⟩:=z
  refine ai (aD (hb A ρ3 σ3 l3 s3 _ X G3 trivial hq) (λf s4 z=> ?_) λ_ _ z=>hE _ _ (z.pre (F.S.trans S3)))
  obtain⟨mf,ρ4,σ4,l4,S4,G4,r,hq⟩:=z
  have S':=(F.S.trans S3).trans S4
  have C4 : yR cx n fd A ρ₀ σ₀ s₀ v as target _ ρ4 σ4 l4 s4:=⟨λq=>C.t (hu.1▸q),G4,S',(I2.step F.G hu.2 W2 (S3.trans S4)).1,(I2.step F.G hu.2 W2 (S3.trans S4)).2⟩
  induction r with
  |next=>exact ax (hn _ _ _ _ _ C4 hq)
  |brk=>exact ax (hd _ _ ⟨_,ρ4,σ4,l4,S',G4,(by constructor),hq⟩)
  |cont=>exact ax (hn _ _ _ _ _ C4 hq)
  |ret r=>exact ax (hd _ _ ⟨_,ρ4,σ4,l4,S',G4, .ret r,hq⟩)
theorem CS(F:z6 fd){target:Expr}{body orelse:List Stmt}{tg:MV->P Unit}{b els:P MF}(ht:ew cx n fd target tg)(hb:jG cx n fd body b)(he:jG cx n fd orelse els)(G₀:Good cx n fd A ρ₀ σ₀ loc₀ s₀){Q:MF->Loc->MH->Prop}{X:Addr->Loc->MH->Prop}{v:Value}{as:List Addr}(N:Nat) :
  ∀ (it:It)(ρ:LA->Addr)(σ:MH)(loc:Loc)(s:Shared),yR cx n fd A ρ₀ σ₀ s₀ v as target it ρ σ loc s->P.yc tg b els N it loc σ Q X->
  codeN cx.M A (.forLoop target v body orelse fd.env) (λr s'=>match r with | .ok f=>Out cx n fd A ρ₀ σ₀ s₀ cg.mA Q f s' | .error e=>y7 cx n fd A ρ₀ σ₀ s₀ X e s') s:=by
 induction N with
 |zero=>exact λ_ _ _ _ _ _ hm=>hm.elim
 |succ N ih=>
  intro it ρ σ loc s C hm
  refine bP (λ_ _ _ _=>rfl) ?_
  refine DO F G₀ ?_
  refine ai (bB (CN ht hb (λ_ _ o=>o) (λf s' o=>o) (λit ρ σ loc s C hm=>⟨rfl,ih it ρ σ loc s C hm⟩) (λs2 G2 S2 hm=>⟨rfl,bP (λ_ _ _ _=>rfl) ?_⟩) C hm))
  exact ai (DO F G₀ (aD (he A ρ σ loc s2 _ X G2 trivial hm) (λf s3 z=>ax (z.pre S2)) λ_ _ z=>z.pre S2))
theorem CL(F:z6 fd){target iter:Expr}{body orelse:List Stmt}{pos:Pos}{m:P It}{tg:MV->P Unit}{b els:P MF}(hi:qP cx n fd iter m)(ht:ew cx n fd target tg)(hb:jG cx n fd body b)(he:jG cx n fd orelse els)
  : gf cx n fd (.For target iter body orelse pos) (P.M1 (c5 target) m tg b els):=by
 intro A ρ σ loc s Q X G _ hm'
 refine ai (bB (ai (aD (hi A ρ σ loc s _ X G hm') (λx s1 y=> ?_) λ_ _ y=>y)))
 refine ai (aD y (λx' s2 y=> ?_) λ_ _ y=>y)
 refine ai (bB (ai (aJ (aD y (λit s3 y=> ?_) λ_ _ y=>y))))
 obtain⟨i,as,ρ1,σ1,l1,S1,G1,I1,W1,h1,N,hq⟩:=y
 exact y5 F G (CS F ht hb he G N i ρ1 σ1 l1 s3 ⟨h1,G1,S1,I1,W1⟩ hq)
end
noncomputable def kI(e:Expr):Bool:=e.ctorIdx==8||(e.ctorIdx==9||e.ctorIdx==10)
noncomputable def EC(env:Env):Expr->Bool
 | .Name id _=>env.kindOf id==some .local
 |_=>false
section
variable {cx:Cx}{n:Nat}{fd:Fd}{A:Around}{ρ ρ':LA->Addr}{σ σ':MH}{loc loc':Loc}{s s₀ s':Shared}
theorem jD{e:Expr}{t:Option Expr}{l:Nat}{env:Env}(h:kI e=false):swapsWith e t l env=pure false:=by
 cases e<;>first | rfl | cases h
theorem zD(F:z6 fd){e:Expr}{pos:Pos}{m:P MV}(hc:kI e=false)(h:bO cx n fd e m):gf cx n fd (.Expr e pos) (m.bind λ_=>P.ret MF.next):=by
 have q : exec (.Expr e pos) fd.env=(standAt pos >>= λ_=>eval e fd.env >>= λv=>dropValue e pos v):=by
  show (standAt pos >>= λ_=>if interactive fd.env=true then printExpr (eval e fd.env) else swapsWith e none pos.line fd.env >>= λb=>if b=true then _ else _)=_
  refine ae (show interactive fd.env=false by dsimp only[interactive];refine ae F.hk▸ ?_;rfl)▸ae (jD hc)▸ ?_;rfl
 show eO cx n fd cg.mA _ _
 refine ae q▸ ?_
 refine aM.standAt (aM.bind h λa v=> ?_)
 intro A ρ σ loc s Q X G _ hm
 exact .of (wpAny_dropValue (Out.now G .next hm))
theorem v5{ts vs:List Expr}{x y:Nat}{p q:Pos}{env:Env}(h:ts.all (EC env)=false):swappedStores [.Tuple ts x p] (.Tuple vs y q) env=pure none:=by
 have key : ∀line : Nat,((ts.filterMap λ
   | .Name id pos=>if env.kindOf id==some .local&&pos.line==line then some id else none
   |_=>none).length != ts.length)=true:=λline=>bne_iff_ne.mpr λz=>by
  refine aT (List.all_eq_false.mp h) λe he hn=> ?_
  have:=(List.filterMap_length_eq_length.mp z) e he
  split at this
  ·rename_i id pos
   cases hc : (env.kindOf id==some .local&&pos.line==line) with
   |true=>exact hn (an.mp hc).1
   |false=>(replace this:=hc▸this);cases this
  ·cases this
 by_cases c1 : (!(ts.length==2||ts.length==3)||vs.length != ts.length||env.blockKind != .function)=true
 ·exact if_pos c1
 refine (if_neg c1).trans ?_
 by_cases c2 : (vs.any λ | .Starred ..=>true | _=>false)=true
 ·exact if_pos c2
 exact (if_neg c2).trans (if_pos (dp.mpr (.inl (key _))))
theorem Av{ts:List Expr}{x:Nat}{p:Pos}{env:Env}{e:Expr}(h:ts.all (EC env)=false∨c5 e=false):swappedStores [.Tuple ts x p] e env=pure none:=by
 cases e<;>first | rfl | exact v5 (h.resolve_right nofun)
theorem fm{t e:Expr}{pos:Pos}{m:P MV}{mt:MV->P Unit}(hp:cj t=true)(hsw:swapsWith e (some t) pos.line fd.env=pure false)(hs:swappedStores [t] e fd.env=pure none)(h:bO cx n fd e m)(ht:ew cx n fd t mt) :
  gf cx n fd (.Assign [t] e pos) (m.bind λv=>(mt v).bind λ_=>P.ret MF.next):=by
 have q : exec (.Assign [t] e pos) fd.env=(standAt pos >>= λ_=>eval e fd.env >>= λv=>assign t fd.env v >>= λ_=>pure .next):=by
  show (standAt pos >>= λ_=>swapsWith e (some t) pos.line fd.env >>= λb=>if b=true then _ else (eval e fd.env >>= λv=>swappedStores [t] e fd.env >>= λsw=>assignStores fd.env v sw ((assignEach [t] fd.env).map (·.2))))=_
  refine ae hsw▸ae hs▸ae (fQ hp)▸ ?_;rfl
 show eO cx n fd cg.mA _ _
 refine ae q▸ ?_
 exact aM.standAt (aM.bind h λa v=>aM.bind (ht a v) λ_ _=>aM.pure λ_ _ _ _=> .next)
inductive IL(loc:Loc)(σ:MH)(Q:MV->Loc->MH->Prop):Operator->MV->MV->Prop where
 |add {i j} (h:Q (.int (i+j)) loc σ):IL loc σ Q .Add (.int i) (.int j)
 |sub {i j} (h:Q (.int (i - j)) loc σ):IL loc σ Q .Sub (.int i) (.int j)
noncomputable abbrev P.aug(okA:Addr->String->Bool)(x:String)(op:Operator)(o v:P MV):P MF:=o.bind λa=>(P.am okA x a).bind λold=>v.bind λb=>P.bind (λloc σ Q _=>IL loc σ Q op old b) λnew=>(P.setattr okA x a new).bind λ_=>P.ret MF.next
theorem CT{okA:Addr->String->Bool}(hA:∀C x,okA C x=true->gq cx.K C x=true){o value:Expr}{x:String}{tpos pos:Pos}{op:Operator}{mo mv:P MV}(ho:bO cx n fd o mo)(hv:bO cx n fd value mv) :
  gf cx n fd (.AugAssign (.Attribute o (Str.ofString x) tpos) op value pos) (P.aug okA x op mo mv):=by
 have q : exec (.AugAssign (.Attribute o (Str.ofString x) tpos) op value pos) fd.env=(standAt pos >>= λ_=>eval o fd.env >>= λov=>holding [ov] (standAt tpos.atName >>= λ_=>getAttr ov (Str.ofString x) true >>= λold=>
   holding [old] (eval value fd.env) >>= λv=>standAt pos >>= λ_=>operate [old,v] (inplaceOp op old v)) >>= λnew=>standAt tpos.atName >>= λ_=>holding [new,ov] (setAttr ov (Str.ofString x) new) >>= λ_=>release [new,ov] [] >>= λ_=>pure .next):=rfl
 show eO cx n fd cg.mA _ _
 refine aM.standAt (aM.bind ho λa va=> ?_)
 intro A ρ σ loc s Q X G ha hm
 refine ai (aJ (ai (bB (ai (aD (o6 hA A ρ σ loc s _ X G ha hm) (λold s1 y=> ?_) λ_ _ y=>y)))))
 obtain⟨mold,ρ1,σ1,l1,S1,G1,r1,hq⟩:=y
 refine ai (aJ (aD (hv A ρ1 σ1 l1 s1 _ X G1 trivial hq) (λv s2 y=> ?_) λ_ _ y=>y.pre S1))
 obtain⟨b,ρ2,σ2,l2,S2,G2,r2,hq⟩:=y
 refine ai (bB (j7 ?_))
 have S12:=S1.trans S2
 have ha2:=(ha.mono (S1.keeps G)).mono (S2.keeps G1)
 have fin : ∀ {i:Int}{t:Tok},(P.setattr okA x a (.int i)).bind (λ_=>P.ret MF.next) l2 σ2 Q X->cW cx.M A (standAt tpos.atName >>= λ_=>holding [Value.int i t,va] (setAttr va (Str.ofString x) (.int i t)) >>= λ_=>release [Value.int i t,va] [] >>= λ_=>pure .next) (Out cx n fd A ρ σ s cg.mA Q) (ey cx n fd A ρ σ s X) { s2 with toks:=s2.toks+1 }:=by
  intro i t hq
  have S3 : Step fd ρ σ.us s ρ2 σ2.us { s2 with toks:=s2.toks+1 }:=S12.trans (Step.tok _)
  refine ai (bB (ai (aJ (aD (oU hA A ρ2 σ2 l2 _ _ X (G2.tok (s2.toks+1)) ⟨ha2, .int⟩ hq) (λ_ s3 y=> ?_) λ_ _ y=>y.pre S3))))
  obtain⟨_,ρ4,σ4,l4,S4,G4,_,hq⟩:=y
  exact ai (eD (ax ⟨_,ρ4,σ4,l4,S3.trans S4,G4, .next,hq⟩))
 clear G ha hm hv ho S1 G1 S2 S12 ha2 q
 generalize Out cx n fd A ρ σ s cg.mA Q=Q',ey cx n fd A ρ σ s X=X' at fin ⊢
 induction hq with
 |add h=>
  apply r1.eH;intro t
  apply r2.eH;intro u
  exact .of (AutoIntOps.iadd_0 ((fin h)))
 |sub h=>
  apply r1.eH;intro t
  apply r2.eH;intro u
  exact .of (AutoIntOps.isub_0 ((fin h)))
theorem BM{o i:Expr}{p pos:Pos}{mo mi:P MV}(ho:bO cx n fd o mo)(hi:bO cx n fd i mi):gf cx n fd (.Delete [.Subscript o i p] pos) (mo.bind λa=>mi.bind λb=>(P.vo a b).bind λ_=>P.ret MF.next):=by
 show eO cx n fd cg.mA (standAt pos >>= λ_=>((eval o fd.env >>= λov=>holding [ov] (eval i fd.env) >>= λiv=>standAt p >>= λ_=>holding [ov,iv] (delItem ov iv) >>= λ_=>release [ov,iv] []) >>= λ_=>pure ()) >>= λ_=>pure .next) _
 intro A ρ σ loc s Q X G _ hm
 refine ai (bB (ai (ai (ai (aD (ho A ρ σ loc s _ X G trivial hm) (λov s1 y=> ?_) λ_ _ y=>y)))))
 obtain⟨a,ρ1,σ1,l1,S1,G1,r1,hq⟩:=y
 refine ai (aJ (aD (hi A ρ1 σ1 l1 s1 _ X G1 trivial hq) (λiv s2 y=> ?_) λ_ _ y=>y.pre S1))
 obtain⟨b,ρ2,σ2,l2,S2,G2,r2,hq⟩:=y
 refine ai (bB (ai (aJ (aD (vH.n A ρ2 σ2 l2 s2 _ X G2 ⟨r1.mono (S2.keeps G1),r2⟩ hq) (λ_ s3 y=> ?_) λ_ _ y=>y.pre (S1.trans S2)))))
 obtain⟨_,ρ3,σ3,l3,S3,G3,_,hq⟩:=y
 exact eD (ax (ax ⟨_,ρ3,σ3,l3,(S1.trans S2).trans S3,G3, .next,hq⟩))
end
inductive kL{α β:Type}(R:α->β->Prop):List α->List β->Prop
 |nil : kL R [] []
 |cons {a b as bs}:R a b->kL R as bs->kL R (a::as) (b::bs)
section
variable {cx:Cx}{n:Nat}{fd:Fd}{A:Around}{ρ ρ':LA->Addr}{σ σ':MH}{loc loc':Loc}{s s₀ s':Shared}
noncomputable abbrev P.vh(vs:List MV):P MV:=λloc σ Q _=>vs.length<=100000/\∃r,¬σ.us r/\Q (.ref r) loc (σ.new r (.list vs))
theorem v4{as:List MV}{vs:List Value}:nS cx n fd (λρ U h=>cR ρ U h as vs) VR (newList vs) (P.vh as):=by
 intro A ρ σ loc s Q X G hv hm
 obtain⟨hz,r,hr,hq⟩:=hm
 refine wpAny_newList ?_ (by rw[aU];exact ad (ad (aw hv.len) hz) (by decide))
 exact Out.iT G hr s.toks (.push _) (aG _) (aQ _ rfl) (by simpa using hv) hq
theorem xD{as:List MV}{vs:List Value}:nS cx n fd (λρ U h=>cR ρ U h as vs) VR (newTuple vs) (λloc σ Q _=>as.length<=100000/\Q (.tup as) loc σ):=by
 intro A ρ σ loc s Q X G hv hm
 refine wpAny_newTuple ?_ (by rw[aU];exact ad (ad (aw hv.len) hm.1) (by decide))
 exact Out.zy G s.toks (.push _) (aQ _ rfl) rfl rfl (by simpa using hv) hm.2
theorem BC{es:List Expr}{pos:Pos}{ms:P (List MV)}(h:kt cx n fd pos es ms):bO cx n fd (.List es pos) (ms.bind P.vh):=by
 exact aM.standAt (aM.bind h λas vs=>v4.n)
theorem Ab{es:List Expr}{x1:Nat}{pos:Pos}{ms:P (List MV)}(h:kt cx n fd pos es ms):bO cx n fd (.Tuple es x1 pos) (ms.bind λas loc σ Q _=>as.length<=100000/\Q (.tup as) loc σ):=by
 exact aM.standAt (aM.bind h λas vs=>xD.n)
theorem tz{h:Heap}{a:Addr}{K:Type} [DecidableEq K] {knd:PySem.KeyKind cx.prog cx.w K}(e:h.get? a=some emptyDict):h.DictOf knd a []:=by
 refine iR (Heap.DictOf.new (knd:=knd) h) λo es ep e' r=> ?_
 rw[aQ h rfl] at e'
 cases e'
 exact⟨_,es,ep,e,r⟩
noncomputable abbrev P.iU : P MV:=λloc σ Q _=>∃r o,(¬σ.us r/\(o= .bS []∨o= .dD []∨o= .iS []))/\Q (.ref r) loc (σ.new r o)
theorem zL{pos:Pos}:bO cx n fd (.Dict [] [] pos) P.iU:=by
 intro A ρ σ loc s Q X G _ hm
 refine eA hm λr o zo2_ hq=> ?_;obtain⟨hr,ho⟩:=zo2_
 refine .of (wpAny_Dict_empty ?_)
 have e:=aQ s.heap (o:=emptyDict) rfl
 have rel : ∀ {ρ':LA->Addr}{U:LA->Prop},mu cx.prog cx.w ρ' U (s.heap.push emptyDict) s.heap.objs.size o:=by
  intro ρ' U
  rcases ho with rfl | rfl | rfl
  ·exact⟨[],tz (cx:=cx) e,iy.nil⟩
  ·exact⟨[],tz (cx:=cx) e,iy.nil⟩
  ·exact⟨[],tz (cx:=cx) e,iy.nil⟩
 exact Out.alloc G hr s.toks (.push emptyDict) (aG _) e (ca rfl) (λ_ _=>rel) hq
noncomputable def yZ(ks:List String)(vs:List MV):List (String×MV):=(ks.zip vs).foldl (λacc e=>gW acc e.1 e.2) []
noncomputable abbrev cg.pairs(cx:Cx)(ks:List String):cg (List MV) (List (Value×Value)):=λρ U h as vs=>∃kvs,Carries (PySem.strKind cx.prog cx.w) vs kvs/\iy ρ U h Str.ofString (ks.zip as) kvs/\as.length=ks.length
noncomputable def BV(k:Option Expr)(x:String):Prop:=∃kk p,k=some (.Constant (.str (Str.ofString x)) kk p)
noncomputable def P.gT : List (P MV)->P (List MV)
 | []=>P.ret []
 |m::ms=>m.bind λa=>(P.gT ms).bind λas=>P.ret (a::as)
theorem iK{pos:Pos}{es:List Expr}{ms:List (P MV)}(h:es.all cj=true)(a:kL (bO cx n fd) es ms):kt cx n fd pos es (P.gT ms):=by
 induction a with
 |nil=>exact oK
 |cons h1 _ ih=>
  exact lY (an.mp (List.all_cons.symm.trans h)).1 h1 (ih (an.mp (List.all_cons.symm.trans h)).2)
theorem HG{pos:Pos}{k:String}{kk:Nat}{p:Pos}{e:Expr}{m:P MV}{ks:List String}{pairs:List (Sem Value×Sem Value)}{ms:P (List MV)}(h1:bO cx n fd e m)(sp:eO cx n fd (cg.pairs cx ks) (evalPairs pairs) ms) :
  eO cx n fd (cg.pairs cx (k::ks)) (evalPairs ((eval (.Constant (.str (Str.ofString k)) kk p) fd.env,do let x<-eval e fd.env;standAt pos;pure x)::pairs)) (m.bind λa=>ms.bind λas=>P.ret (a::as)):=by
 intro A ρ σ loc s Q X G _ hm
 refine ai (aD (yu A ρ σ loc s (λa l s'=>a= .str k/\l=loc/\s'=σ) X G trivial ⟨rfl,rfl,rfl⟩) (λkv s1 y=> ?_) λ_ _ y=>y)
 obtain⟨_,ρ1,σ1,l1,S1,G1,rk,rfl,rfl,rfl⟩:=y
 obtain⟨tk,rfl⟩:=rk.str_inv
 refine ai (aJ (ai (aD (h1 A ρ1 _ _ s1 _ X G1 trivial hm) (λv s2 y=> ?_) λ_ _ y=>y.pre S1)))
 obtain⟨a,ρ2,σ2,l2,S2,G2,rv,hq⟩:=y
 refine ai (bB (ax (ai (aJ (aD (sp A ρ2 σ2 l2 s2 _ X G2 trivial hq) (λvs s3 y=> ?_) λ_ _ y=>y.pre (S1.trans S2))))))
 obtain⟨as,ρ3,σ3,l3,S3,G3,⟨kvs,c1,c2,c3⟩,hq⟩:=y
 exact ax ⟨a::as,ρ3,σ3,l3,(S1.trans S2).trans S3,G3,⟨(Str.ofString k,v)::kvs,⟨beq_self_eq_true _,rfl,c1⟩, .cons (rv.mono (S3.keeps G2)) c2,ah Nat.succ c3⟩,hq⟩
theorem Gq{pos:Pos}{keys:List (Option Expr)}{ks:List String}(hk:kL BV keys ks):∀ {es:List Expr}{ms:List (P MV)},ks.length=es.length->kL (bO cx n fd) es ms->
  ∃pairs : List (Sem Value×Sem Value),(evalEachOpt keys fd.env).zip ((evalEach es fd.env).map λv=>do let x<-v;standAt pos;pure x)=pairs.map (λp=>(some p.1,p.2))/\pairs.length=ks.length/\eO cx n fd (cg.pairs cx ks) (evalPairs pairs) (P.gT ms):=by
 induction hk with
 |nil=>
  intro es ms hl h
  cases h with
  |nil=>exact⟨[],rfl,rfl,aM.pure λ_ _ _ _=>⟨[],trivial, .nil,rfl⟩⟩
  |cons=>exact nomatch hl
 |cons hk _ ih=>
  intro es ms hl h
  cases h with
  |nil=>exact nomatch hl
  |cons h1 h2=>
   refine fv hk λkk p zr2_=> ?_;subst zr2_
   refine pH (ih (bL hl) h2) λpairs e1 e2 sp=> ?_
   exact⟨(_,_)::pairs,ah (List.cons (some _,_)) e1,ah Nat.succ e2,HG (kk:=kk) (p:=p) h1 sp⟩
theorem iy.merged{ρ:LA->Addr}{U:LA->Prop}{h:Heap}{es:List (String×MV)}{kvs:List (Str×Value)}(x:iy ρ U h Str.ofString es kvs):∀ {acc:List (String×MV)}{bcc:List (Str×Value)},iy ρ U h Str.ofString acc bcc->
  iy ρ U h Str.ofString (es.foldl (λacc e=>gW acc e.1 e.2) acc) (PySem.merged bcc kvs):=by
 induction x with
 |nil=>exact _root_.id
 |cons a _ ih=>exact λy=>ih (y.stored (λ_ _ z=>gx z) _ a)
noncomputable abbrev P.dD(ks:List String)(as:List MV):P MV:=λloc σ Q _=>∃r,¬σ.us r/\Q (.ref r) loc (σ.new r (.dD (yZ ks as)))
theorem zV{keys:List (Option Expr)}{ks:List String}{es:List Expr}{pos:Pos}{ms:List (P MV)}(hk:kL BV keys ks)(hl:ks.length=es.length)(h0:0 < ks.length)(h15:ks.length<=15)(h:kL (bO cx n fd) es ms) :
  bO cx n fd (.Dict keys es pos) ((P.gT ms).bind (P.dD ks)):=by
 refine pH (Gq (pos:=pos) hk hl h) λpairs e1 e2 sp=> ?_
 intro A ρ σ loc s Q X G _ hm
 show cW _ _ (standAt pos >>= λ_=>dictDisplay ((evalEachOpt keys fd.env).zip ((evalEach es fd.env).map λv=>do let x<-v;standAt pos;pure x))) _ _ s
 have hp : pairs≠[]:=λq=>by replace e2:=q▸e2;simp at e2;(first | lia | omega)
 refine ae e1▸ae (dictDisplay_pairs pairs hp (az (ad (aw e2) h15) (by decide)))▸ ?_
 refine ai (bB ?_)
 dsimp only[subDict]
 refine ai (ai (.of (wpAny_alloc ?_)))
 refine ae (if_pos (le_of_eq_of_le e2 h15))▸ ?_
 have G1:=G.push emptyDict s.toks
 have e0:=aQ s.heap (o:=emptyDict) rfl
 have S1 : Step fd ρ σ.us s ρ σ.us { s with heap:=s.heap.push emptyDict }:=Step.grow G.di G.locals (.push _) s.toks
 have W1 : gX cx fd s ρ σ.us { s with heap:=s.heap.push emptyDict } s.heap.objs.size:=gX.fresh G (aG _) .refl ⟨_,e0,ca rfl⟩
 refine ai (aJ (ai (aD (sp A ρ σ loc _ _ X G1 trivial hm) (λvs s2 y=> ?_) λ_ _ y=>y.pre S1)))
 obtain⟨as,ρ2,σ2,l2,S2,G2,⟨kvs,c1,c2,c3⟩,r,hr,hq⟩:=y
 have W2:=(W1.step G1 S2).1;have k2:=(W1.step G1 S2).2
 have len : kvs.length<=15:=by
  rw[c2.len]
  have : (ks.zip as).length<=ks.length:=by rw[List.length_zip];exact Nat.min_le_left ks.length as.length
  exact ad this h15
 refine aJ (ai (.of (wpAny_storeAll (knd:=PySem.strKind cx.prog cx.w) vs kvs [] s2 _ c1 (tz (cx:=cx) (k2 _ e0)) (by refine ae aU▸ae List.length_nil▸ ?_;exact ad (bF (aG _) len) (by decide)) λh' hm' sb=> ?_)))
 have S12:=S1.trans S2
 refine dw (G2.gg (as:=[s.heap.objs.size]) (t:=s2.toks+vs.length) S12 (λa ha=>by cases av.mp ha;exact W2) (λb o nb e=>(sb.2 b λq=>nb (q▸ .head _)).trans e)) λG3 S3=> ?_
 refine aT (qe hm') λod hod ntd=> ?_
 have kp : fh ρ2 σ2.us s2.heap ρ2 σ2.us h':=⟨λ_ u=>⟨u,rfl⟩,λb o e c=>(sb.2 b λq=>by rw[q] at e;replace e:=(k2 _ e0)▸e;cases e;exact ca rfl c).trans e⟩
 obtain⟨ρ4,N⟩:=Ac ρ2 r s.heap.objs.size
 have G4:=G3.name hr N (o':= .dD (yZ ks as)) hod ntd G.oQ W2.un W2.D2 λk=>⟨_,hm',((c2.mono kp).mono k).merged iy.nil⟩
 exact ax (ax (ax ⟨.ref r,_,σ2.new r (.dD (yZ ks as)),l2,S3.named hr N W2.new,G4,N.ref,hq⟩))
end
theorem qo(slice:Expr)(o i:Value):∃ops,subscripted slice false o i=operate ops (getItem o i):=by
 cases slice with
 |Slice lo hi st p=>cases st<;>exact⟨_,rfl⟩
 |_=>exact⟨_,rfl⟩
section
variable {cx:Cx}{n:Nat}{fd:Fd}{A:Around}{ρ ρ':LA->Addr}{σ σ':MH}{loc loc':Loc}{s s₀ s':Shared}
inductive d6(σ:MH):MV->Prop where
 |oct {b}:d6 σ (.bytes b)
 |tup {vs}:d6 σ (.tup vs)
 |list {l vs} (e:σ.get l=some (.list vs)):d6 σ (.ref l)
 |fz {l o vs} (e:σ.get l=some (.fz o vs)):d6 σ (.ref l)
 |ba {l b} (e:σ.get l=some (.bW b)):d6 σ (.ref l)
 |dI {l es} (e:σ.get l=some (.bS es)):d6 σ (.ref l)
 |dS {l es} (e:σ.get l=some (.dD es)):d6 σ (.ref l)
structure M4(s:Shared)(v:Value)(T id:String):Prop where
 t : s.TypeIs v T
 l : typeLookup (.type T) (Str.ofString "__getitem__")=pure (some (.builtin id))
theorem Good.Ni(G:Good cx n fd A ρ σ loc s){a:MV}{v:Value}(hv:VR ρ σ.us s.heap a v)(hi:d6 σ a):∃T id,M4 s v T id:=by
 induction hi with
 |oct=>apply hv.dg;exact λ_=>⟨_,_,typeIs_bytes _ _ _,FB.slot_bytes_getitem.lookup⟩
 |tup=>refine FA hv.dN λb o xs ep zr4_ e1 c1 _=> ?_;subst zr4_;exact⟨_,_,⟨o,e1,c1⟩,slot_tuple_getitem.lookup⟩
 |list e=>obtain⟨X,i,_⟩:=G.isList e;rw[hv.bU.1];exact⟨_,_,i.typeIs,slot_list_getitem.lookup⟩
 |fz e=>refine aT (G.Jg e) λX i _=> ?_;rw[hv.bU.1];exact⟨_,_,i.typeIs,slot_list_getitem.lookup⟩
 |ba e=>(refine ae hv.bU.1▸ ?_);exact⟨_,_,cu (G.obj _ _ e).2,fV.lookup⟩
 |dI e=>obtain⟨kvs,d,_⟩:=(G.obj _ _ e).2;rw[hv.bU.1];exact⟨_,_,d.typeIs,PySem.F.slot_dict_getitem.lookup⟩
 |dS e=>obtain⟨kvs,d,_⟩:=(G.obj _ _ e).2;rw[hv.bU.1];exact⟨_,_,d.typeIs,PySem.F.slot_dict_getitem.lookup⟩
theorem M2(G:Good cx n fd A ρ σ loc s){a:MV}{v:Value}(hv:VR ρ σ.us s.heap a v)(hi:d6 σ a){M:Model}{Q:Bool->Shared->Prop}{E:Value->Shared->Prop}(h:Q false s):wpAny M A (getitemInPython v) Q E s:=by
 refine fv (G.Ni hv hi) λT id t=> ?_
 exact af (bN t.t t.l (ao h))
theorem CW{a i:MV}{Q:MV->Loc->MH->Prop}{X:Addr->Loc->MH->Prop}(h:P.item a i loc σ Q X):d6 σ a:=by
 induction h with
 |oct=>exact .oct
 |tup=>exact .tup
 |list f=>exact .list f
 |ba f=>exact .ba f
 |dI f=>exact .dI f
 |dS f=>exact .dS f
theorem Aa{a:MV}{lo hi:Option Int}{Q:MV->Loc->MH->Prop}{X:Addr->Loc->MH->Prop}(h:P.slice a lo hi loc σ Q X):d6 σ a:=by
 induction h with
 |oct=>exact .oct
 |tup=>exact .tup
 |list f=>exact .list f
 |fz f=>exact .fz f
 |ba f=>exact .ba f
theorem rl{p:Pre}{a:MV}{ov iv:Value}{slice o:Expr}{m:P MV}(hp:∀ {ρ U h},p ρ U h->VR ρ U h a ov)(hh:∀ {loc σ Q X},m loc σ Q X->d6 σ a)(hs:aM cx n fd p VR (getItem ov iv) m) :
  aM cx n fd p VR (getitemInPython ov >>= λb=>subscripted slice b ov iv >>= λr=>letTemporaryGo o ov r >>= λ_=>pure r) m:=by
 intro A ρ σ loc s Q X G q hm
 refine ai (.of (M2 G (hp q) (hh hm) ?_))
 refine cN (qo slice ov iv) λops e=> ?_
 refine ae e▸ ?_
 exact ai (j7 (aD (hs A ρ σ loc s Q X G q hm) (λr s3 y=>ai (.of (wpAny_letTemporaryGo (ax y)))) λ_ _ y=>y))
theorem aM.side{α β:Type}{R:cg α β}{p:Pre}(hp:bM p){t:Sem β}{m:P α}(h:eO cx n fd R t m):aM cx n fd p (λρ U h a b=>R ρ U h a b/\p ρ U h) t m:=(aM.frame hp h).weak λ_ _ _ q=>⟨trivial,q⟩
theorem sG{o i:Expr}{pos:Pos}{m mi:P MV}(ho:bO cx n fd o m)(hi:bO cx n fd i mi):bO cx n fd (.Subscript o i pos) (m.bind λa=>mi.bind λb=>P.item a b):=by
 exact aM.bind ho λa ov=>aM.bind (aM.holding (aM.side bM.vr hi)) λb iv=>aM.standAt (rl (·.2) CW (CC.n.weak λ_ _ _ q=>⟨q.2,q.1⟩))
inductive eY : MV->Option Int->Prop where
 |no : eY .none none
 |int (i:Int):eY (.int i) (some i)
theorem eY.part{a:MV}{i:Option Int}(b:eY a i){v:Value}{U:LA->Prop}{h:Heap}(r:VR ρ U h a v):IsPart v i:=by
 induction b with
 |no=>(refine ae r.none_inv▸ ?_);exact .none
 |int i=>apply r.eH;exact λ_=> .int _ _
noncomputable abbrev sy(cx:Cx)(n:Nat)(fd:Fd)(e:Option Expr)(m:P MV):Prop:=eO cx n fd VR (valueOrNone (evalOpt e fd.env)) m
theorem AB : sy cx n fd none (P.ret .none):=aM.pure λ_ _ _ _=> .none
theorem zJ{e:Expr}{m:P MV}(h:bO cx n fd e m):sy cx n fd (some e) m:=h
noncomputable abbrev P.bnd(ml mh:P MV):P (Option Int×Option Int):=ml.bind λa=>mh.bind λb=>λloc σ Q _=>∃i j,eY a i/\eY b j/\Q (i,j) loc σ
noncomputable abbrev P.bounds{α:Type}(ml mh:P MV)(f:Option Int->Option Int->P α):P α:=(P.bnd ml mh).bind λp=>f p.1 p.2
theorem AO{a b:MV}{lv uv:Value}:aM cx n fd (λρ U h=>VR ρ U h b uv/\VR ρ U h a lv) cg.slice (holding [lv,uv] (pure .none) >>= λst=>newFields "slice" [lv,uv,st]) (λloc σ Q _=>∃i j,eY a i/\eY b j/\Q (i,j) loc σ):=by
 intro A ρ σ loc s Q X G hp hm
 refine eT hm λi j h1 h2 hq=> ?_
 refine ai (aJ (ax (.of (wpAny_newObj_type ?_))))
 exact⟨(i,j),ρ,σ,loc,Step.grow G.di G.locals (.push _) s.toks,G.push _ s.toks,⟨_,_,_,rfl,h1.part hp.2,h2.part hp.1,Heap.IsSliceOf.new s.heap lv uv .none⟩,hq⟩
theorem qL{lo hi:Option Expr}{p:Pos}{ml mh:P MV}(hl:sy cx n fd lo ml)(hh:sy cx n fd hi mh):eO cx n fd cg.slice (eval (.Slice lo hi none p) fd.env) (P.bnd ml mh):=by
 show eO cx n fd cg.slice (valueOrNone (evalOpt lo fd.env) >>= λl=>holding [l] (valueOrNone (evalOpt hi fd.env)) >>= λu=>holding [l,u] (pure .none) >>= λst=>newFields "slice" [l,u,st]) _
 exact aM.bind hl λa lv=>aM.bind (aM.holding (aM.side bM.vr hh)) λb uv=>AO
theorem zS{o:Expr}{lo hi:Option Expr}{p pos:Pos}{m ml mh:P MV}(ho:bO cx n fd o m)(hl:sy cx n fd lo ml)(hh:sy cx n fd hi mh) :
  bO cx n fd (.Subscript o (.Slice lo hi none p) pos) (m.bind λa=>P.bounds ml mh λi j=>P.slice a i j):=by
 exact aM.bind ho λa ov=>aM.bind (aM.holding (aM.side bM.vr (qL hl hh))) λb iv=>aM.standAt (rl (·.2) Aa (AV.n.weak λ_ _ _ q=>q))
end
end Internal
namespace Internal
open PySem PySem.W PyProof.Rows PySem.Calls Builtin PySem.EqNone PySem.SeqAt
section
variable {cx:Cx}{n:Nat}{fd:Fd}
noncomputable abbrev jA(cx:Cx)(n:Nat)(fd:Fd)(f:Value)(c:List MV->P MV):Prop:=∀as vs,nS cx n fd (λρ U h=>cR ρ U h as vs) VR (call f vs) (c as)
theorem jA.toN{f:Value}{c:List MV->P MV}(h:jA cx n fd f c):cQ cx n fd f c:=λas vs=>(h as vs).n
theorem dM{L:Addr}{h h':Heap}(hk:∀b o,h.get? b=some o->h'.get? b=some o):jH L h h':=⟨λb o _ e=>hk b o e,λ_ ns=>ns.keeps hk⟩
theorem oV : Slot "bytearray" "__len__" "bytearray.__len__" :=
 .of (owner := "bytearray") (n := "__len__") (by rfl) (by decide +kernel) (by decide +kernel) (by decide +kernel)
  (by first | exact .inl (by decide +kernel) | exact .inr (by decide +kernel)) (by exact (cA ..))
theorem tD : entryFor table "bytearray.__len__" = some Builtin.«bytearray.__len__»:=entryFor_of_tree (by kernel_rfl)
theorem wc(a:Value):argsOk "bytearray.__len__" ⟨[a],[]⟩:=by kernel_rfl
theorem Iz{prog:Program}{w:World}{A:Around}{E:Value->Shared->Prop}{s:Shared}{a:Addr}{b:List UInt8}{Q:Value->Shared->Prop}(e:dZ s.heap a b)(hz:b.length<=1000000)(h:∀t k,Q (.int b.length t) { s with toks:=k }) :
  wpAny (model prog w) A (call (.builtin "len") [.ref a]) Q E s:=by
 refine Calls.call_function_entry kind_len plain_len entry_len (args_len1 _) ?_
 refine af (m:=oneArg "len" _) (ao ?_)
 refine af (m:=callSpecial? (.ref a) (Str.ofString "__len__")) (wpAny_callSpecial?_slot (name:=Str.ofString "__len__") (cu e) oV
  (wpAny_call_entry oV (cu e) tD ?_ (wc _)))
 show wpAny _ _ (Bytes.payload (.ref a) >>= λr=>retInt r.size) _ _ s
 refine af (dF e ?_)
 refine af (wpAny_mkInt (ao ⟨_,rfl, ?_⟩))
 refine af (bl (ao ?_))
 refine af (wpAny_letGo ?_)
 have e1 : b.toArray.size=b.length:=by exact d9
 show wpAny _ _ (if ((b.toArray.size : Nat):Int)≥2^63 then _ else _) _ _ _
 rw[if_neg (by rw[e1];exact Int.not_le.mpr (cU (aW.mpr hz) (by decide)))]
 exact af (wpAny_mkInt (ao ⟨_,rfl,h _ _⟩))
inductive zP(loc:Loc)(σ:MH)(Q:MV->Loc->MH->Prop):List MV->Prop where
 |oct {b} (a:b.length<=100000)(h:Q (.int b.length) loc σ):zP loc σ Q [.bytes b]
 |list {l vs} (e:σ.get l=some (.list vs))(a:vs.length<=100000)(h:Q (.int vs.length) loc σ):zP loc σ Q [.ref l]
 |ba {l b} (e:σ.get l=some (.bW b))(a:b.length<=100000)(h:Q (.int b.length) loc σ):zP loc σ Q [.ref l]
noncomputable abbrev P.len(as:List MV):P MV:=λloc σ Q _=>zP loc σ Q as
theorem EM : jA cx n fd (.builtin "len") P.len:=by
 intro as vs A ρ σ loc s Q X G hp hm
 have tk : ∀ {i:Int}{t k:Nat},Q (.int i) loc σ->Out cx n fd A ρ σ s VR Q (.int i t) { s with toks:=k }:=λh=>Out.pre (Step.tok _) (Out.now (G.tok _) .int h)
 generalize Out cx n fd A ρ σ s VR Q=Q' at tk ⊢
 generalize ey cx n fd A ρ σ s X=E'
 induction hm with
 |oct a h=>
  apply hp.Jq;intro y r;apply r.dg;intro t
  exact KBw.len_K rfl (by rw[KBw.ints_length,d9];exact ad a (by decide)) (by refine ae (KBw.ints_length ..)▸ ?_;exact tk h)
 |list e a h=>
  refine aT (G.isList e) λxs i r=> ?_
  have l1:=r.len
  rw[bu] at l1
  apply hp.eB;intro _
  exact call_len_list i (by rw[l1];exact cU (aW.mpr a) (by decide)) (by refine ae l1▸ ?_;exact tk h)
 |ba e a h=>
  apply hp.eB;intro _
  exact Iz (G.obj _ _ e).2 (ad a (by decide)) λt k=>tk h
inductive IB(loc:Loc)(σ:MH)(Q:MV->Loc->MH->Prop):List MV->Prop where
 |mk {i:Int}(h:Q (.int (if i < 0 then -i else i)) loc σ):IB loc σ Q [.int i]
noncomputable abbrev P.abs(as:List MV):P MV:=λloc σ Q _=>IB loc σ Q as
theorem EN : jA cx n fd (.builtin "abs") P.abs:=by
 intro as vs A ρ σ loc s Q X G hp hm
 induction hm with
 |mk h=>
  apply hp.Jq;intro y r;apply r.eH;intro t
  exact call_abs_int λu tk=>Out.pre (Step.tok _) (Out.now (G.tok _) .int h)
inductive Ib(loc:Loc)(σ:MH)(Q:MV->Loc->MH->Prop):List MV->Prop where
 |mk {i j:Int}(h:Q (.int (if j < i then j else i)) loc σ):Ib loc σ Q [.int i, .int j]
noncomputable abbrev P.min(as:List MV):P MV:=λloc σ Q _=>Ib loc σ Q as
theorem FO{ρ:LA->Addr}{U:LA->Prop}{h:Heap}{p:Prop} [Decidable p] {i j:Int}{t u:Tok}:VR ρ U h (.int (if p then i else j)) (if p then .int i t else .int j u):=by split<;>exact .int
theorem FF : jA cx n fd (.builtin "min") P.min:=by
 intro as vs A ρ σ loc s Q X G hp hm
 induction hm with
 |mk h=>
  apply hp.Ep;intro y z r1 r2;apply VR.fK r1 r2;intro t u
  exact min_two_ints G.ak.hh λh' tk hk=>Out.pre (Step.grow G.di G.locals (dM hk) tk) (Out.now (G.grow (dM hk) tk) FO h)
noncomputable def intsOf : List MV->Option (List Int)
 | []=>some []
 | .int i::r=>(intsOf r).map (i::·)
 |_=>none
theorem rm{ρ:LA->Addr}{U:LA->Prop}{h:Heap}:∀ {ms:List MV}{vs:List Value}{ns:List Int},cR ρ U h ms vs->intsOf ms=some ns->IntsAre vs ns
 | [],_,_,r,e=>by cases r.nil_inv;cases e;exact .nil
 |m::ms,_,ns,r,e=>by
  refine eT r.cons_inv λy ys zr2_ r1 r2=> ?_;subst zr2_
  cases m<;>simp only[intsOf,reduceCtorEq] at e
  refine aT (be.mp e) λns' e' zr2_=> ?_;subst zr2_
  refine cN r1.int_inv λt zr1_=> ?_;subst zr1_
  exact .cons _ _ (rm r2 e')
inductive H3(loc:Loc)(σ:MH)(Q:MV->Loc->MH->Prop):List MV->Prop where
 |mk {l vs ns} (e:σ.get l=some (.list vs))(f:intsOf vs=some ns)(h:Q (.int ns.sum) loc σ):H3 loc σ Q [.ref l]
noncomputable abbrev P.sum(as:List MV):P MV:=λloc σ Q _=>H3 loc σ Q as
theorem EO : jA cx n fd (.builtin "sum") P.sum:=by
 intro as vs A ρ σ loc s Q X G hp hm
 induction hm with
 |mk e f h=>
  refine aT (G.isList e) λxs zo1_ r=> ?_;obtain⟨o,o1,o2,ep,o3⟩:=zo1_
  obtain⟨mL,ns⟩:=G.locals
  apply hp.eB;intro _
  refine sumK G.ak.hh (CI ns) (uE (h:=s.heap)) (vs:=xs.toList) ⟨_,o1,o2,ep,o3⟩ (rm r f) λh' tk t' F N=> ?_
  exact Out.pre (Step.grow G.di G.locals (xR (pre:=[]) ns F N) tk) (Out.now (G.grow (xR (pre:=[]) ns F N) tk) .int h)
end
end Internal
namespace Internal
open PySem PySem.W PyProof.Rows PySem.Calls Builtin
section
variable {M:Model}{A:Around}{E:Value->Shared->Prop}{s:Shared}{a:Addr}{b:List UInt8}
theorem pR(e:dZ s.heap a b){Q:Bool->Shared->Prop}(h:Q false s):cW M A (Bytes.exported (.ref a) <||> (do return decide ((<-Bytes.exportsOf (.ref a)) > 0))) Q E s:=by
 refine ai (tA ?_)
 refine ai (ai (.of (wpAny_load e ?_)))
 exact ax (ax h)
theorem kC(e:dZ s.heap a b){Q:Unit->Shared->Prop}(h:Q () s):cW M A (Bytes.checkResize (.ref a)) Q E s:=by
 refine ai (pR e ?_)
 exact ax h
end
theorem g7{prog:Program}{w:World}{A:Around}{E:Value->Shared->Prop}{s:Shared}{T:String}{name:Str}{id:String}{b:Builtin}{self:Value}{rest:List Value}{Q:Value->Shared->Prop}(h:Slot T name id)(hT:s.TypeIs self T)
  (hb:entryFor table id=some b)(hok:ic (.builtin id ⟨self::rest,[]⟩))(hp:plainId id=true)
  (hc:cW (model prog w) A.in1 (b ⟨self::rest,[]⟩) (λfin s'=>∃v,fin= .done (.ret v)/\Q v s') E s)(ha:argsOk id ⟨self::rest,[]⟩) :
  cW (model prog w) A (call (.builtin id) (self::rest)) Q E s:=by
 refine iF (eV hok (plainId_quiet hp _) hb (h.check _ _ _ _ _ _ _ _ hT ha ?_))
 rw[Around.under_plainId hp]
 refine aD hc (λfin s' h'=> ?_) λ_ _ h'=>h'
 refine aT h' λv zr1_ hv=> ?_;subst zr1_;exact hv
theorem pE : entryFor table "bytearray.append" = some Builtin.«bytearray.append»:=entryFor_of_tree (by kernel_rfl)
theorem ri(a b:Value):argsOk "bytearray.append" ⟨[a,b],[]⟩:=by kernel_rfl
theorem jn : entryFor table "bytearray.extend" = some Builtin.«bytearray.extend»:=entryFor_of_tree (by kernel_rfl)
theorem jQ(a b:Value):argsOk "bytearray.extend" ⟨[a,b],[]⟩:=by kernel_rfl
section
variable {prog:Program}{w:World}{A:Around}{E:Value->Shared->Prop}{s:Shared}{a:Addr}{b:List UInt8}
theorem z8{x:Int}{t:Tok}(e:dZ s.heap a b)(x0:0<=x)(x1:x < 256)(hz:b.length<=100000){Q:Value->Shared->Prop}
  (h:∀h',h'.objs.size=s.heap.objs.size->(∀y,y≠a->h'.get? y=s.heap.get? y)->dZ h' a (b++[x.toNat.toUInt8])->Q .none { s with heap:=h' }) :
  cW (model prog w) A (call (.builtin "bytearray.append") [.ref a, .int x t]) Q E s:=by
 refine g7 jO (cu e) pE (λ_ v _ _=>Fa (x:=Bytes.sameRef _ v)) (by decide +kernel) ?_ (ri _ _)
 refine ai (ax (a:=(Value.ref a,Value.int x t)) ?_)
 refine ai (.of (yI x0 x1 ?_))
 refine ai (kC e ?_)
 refine ai (.of (eQ e (c:=b++[x.toNat.toUInt8]) (List.push_toArray b x.toNat.toUInt8) (by refine ae aU▸ ?_;simp;exact ad hz (by decide)) λh' hs ho hb=> ?_))
 exact ax ⟨_,rfl,h h' hs ho hb⟩
end
theorem C8 : mroOf (.type "bytearray")=pure [.type "bytearray", .type "object"]:=by rw[mroOf_type];kernel_rfl
theorem rJ : typeLookup (.type "bytearray") "__new__" = pure (some (.builtin "bytearray.__new__")):=by rw[cJ,bE];kernel_rfl
theorem uq : Slot "bytearray" "__init__" "bytearray.__init__" :=
 .of (owner := "bytearray") (n := "__init__") (by rfl) (by decide +kernel) (by decide +kernel) (by decide +kernel)
  (by first | exact .inl (by decide +kernel) | exact .inr (by decide +kernel)) (by exact (cA ..))
theorem oq : TypeCalled "bytearray" "bytearray.__new__" "bytearray.__init__" :=
 ⟨by decide +kernel,by decide +kernel,⟨_,_,C8⟩,madeBy_type C8 rJ (by decide +kernel),by decide +kernel,by exact (cA ..),uq⟩
theorem uG : checkTypeCall "bytearray" ⟨[],[]⟩=pure ():=by kernel_rfl
theorem nj(a:Value):checkTypeCall "bytearray" ⟨[a],[]⟩=pure ():=by kernel_rfl
theorem wt : checkBuiltinCall "bytearray.__new__" ⟨[.type "bytearray"],[]⟩=pure ():=by kernel_rfl
theorem o9(a:Value):checkBuiltinCall "bytearray.__new__" ⟨[.type "bytearray",a],[]⟩=pure ():=by kernel_rfl
theorem rS(a:Value):argsOk "bytearray.__init__" ⟨[a],[]⟩:=by kernel_rfl
theorem lc(a b:Value):argsOk "bytearray.__init__" ⟨[a,b],[]⟩:=by kernel_rfl
theorem ii : entryFor table "bytearray.__init__" = some Builtin.«bytearray.__init__»:=entryFor_of_tree (by kernel_rfl)
theorem u4 : entryFor table "bytearray.__new__" = some Builtin.«list.__new__»:=entryFor_alias (id' := "list.__new__") (by kernel_rfl) (by first | rfl | decide +kernel) (by decide +kernel) (by kernel_rfl)
section
variable {prog:Program}{w:World}{A:Around}{E:Value->Shared->Prop}{s:Shared}
theorem sA{id:String}{args:Args}{b:Builtin}{R:Result->Shared->Prop}(ok:ic (.builtin id args))(hb:entryFor table id=some b)
  (h:cW (model prog w) (A.under (.builtin id args)) (b args) (λfin s'=>match fin with | .done f=>R (.ok f) s' | .again c'=>c'.quiet=true/\codeN (model prog w) A c' R s') (λe s'=>R (.error e) s') s) :
  codeN (model prog w) A (.builtin id args) R s:=by
 refine bP ok ?_
 show cW _ _ (match entryFor table id with | some b=>b args | none=>unsupported ((withoutEnding? id "#data").getD id)) _ _ s
 refine ae hb▸ ?_;exact h
theorem l9{T newId initId:String}{Bi:Builtin}{args:List Value}{Q Q₁:Value->Shared->Prop}(ft:TypeCalled T newId initId)
  (hct:checkTypeCall T ⟨args,[]⟩=pure ())(entryI:entryFor table initId=some Bi)(hok:∀obj,ic (.builtin initId ⟨obj::args,[]⟩))
  (h:codeAny (model prog w) A.in1 (.call (.builtin newId) ⟨.type T::args,[]⟩) (wants Q₁ E) s)
  (hnext:∀obj s₁,Q₁ obj s₁->s₁.TypeIs obj T/\argsOk initId ⟨obj::args,[]⟩/\cW (model prog w) A.in1.in1 (Bi ⟨obj::args,[]⟩) (λfin s'=>fin= .done (.ret .none)/\Q obj s') E s₁) :
  cW (model prog w) A (call (.type T) args) Q E s:=by
 refine fv ft.mro λc tl hmro=> ?_
 refine iF (bP (λ_ _ _ _=>rfl) ?_)
 refine ax (a:=Fin.again (.builtin "type.__call__" ⟨.type T::args,[]⟩)) ⟨Code.quiet_builtin _ (by decide +kernel),sA (λ_ v _ _=>Fa (x:=Builtin.Bytes.sameRef _ v)) entry_typeCall ?_⟩
 refine ae (Around.under_plain (weight_type_call_type T args []) (units_type_call_type T args []))▸ ?_
 unfold Builtin.«type.__call__»
 dsimp only
 rw[if_neg (by rw[ft.notType];exact aE)]
 rw[if_neg (by rw[ft.canCreate];exact aE)]
 refine ai (bQ hct ?_)
 refine ai (bQ hmro ?_)
 refine ai (bQ ft.made ?_)
 refine ai (ax ?_)
 refine ai (aJ (.of (wpAny_call (codeAny_mono h λr s₁ hr=> ?_))))
 rcases r with e | (_ | _ | _ | obj)<;>first | exact hr | exact hr.elim | skip
 refine ie (hnext _ _ hr) λhT hargs hi=> ?_
 refine ai (.of (wpAny_isInstance hT ft.sub ?_))
 refine ai (aJ ?_)
 unfold callSpecial?
 refine ai (.of (bN hT ft.init.lookup ?_))
 refine aJ (ai (bQ (ft.init.bind obj) ?_))
 refine ai (iF (eV (hok _) (plainId_quiet ft.init.plain _) entryI (ft.init.check _ _ _ _ _ _ _ _ hT hargs ?_)))
 rw[Around.under_plainId ft.init.plain]
 refine aD hi (λfin s₂ y=> ?_) λ_ _ y=>y
 obtain⟨rfl,hq⟩:=y
 exact ax (ax hq)
theorem jZ : isSubtype (.type "bytearray") (.type "bytearray")=pure true:=by rw[cA];kernel_rfl
set_option maxRecDepth 1000000 in
set_option maxHeartbeats 4000000 in
theorem u3 : ("bytearray.__new__".splitOn ".__new__").headD "" = "bytearray" := by simp +decide [String.splitOn,String.splitOnAux]
theorem t6 : plainId "bytearray.__new__" = true:=by decide +kernel
theorem j8{args:List Value}(hcn:checkBuiltinCall "bytearray.__new__" ⟨.type "bytearray" :: args,[]⟩=pure ()) {Q₁:Value->Shared->Prop}(h:Q₁ (.ref s.heap.objs.size) { s with heap:=s.heap.push (kn []) }) :
  codeAny (model prog w) A (.call (.builtin "bytearray.__new__") ⟨.type "bytearray" :: args,[]⟩) (wants Q₁ E) s:=by
 refine codeAny_of_tree ?_
 refine af (bG hcn (ao ⟨plainId_quiet t6 _,codeAny_builtin_stack u4 rfl λp st=> ?_⟩))
 have hsub:=jZ
 obtain⟨hp,g,d,tk,os⟩:=s
 simp only[u3]
 wp_walk
 exact h
theorem pG : typeLookup (.type "bytearray") "__release_buffer__" = pure (some (.builtin "bytearray.__release_buffer__")):=by rw[cJ,bE];kernel_rfl
theorem eJ{M:Model}{a:Addr}{b:List UInt8}(e:dZ s.heap a b){Q:Bool->Shared->Prop}(h:Q false s):wpAny M A (Bytes.ownRelease (.ref a)) Q E s:=by
 refine af (af (bN (cu e) pG ?_))
 dsimp only
 rw[if_neg (by decide +kernel)]
 refine wpAny_isInstance (T := "bytearray") (b:=true) (cu e) ?_ (ao h)
 have : (("bytearray.__release_buffer__" : String).dropRight (("__release_buffer__" : String).length+1)) = "bytearray" := by decide +kernel
 refine ae this▸ ?_;exact jZ
theorem BF : Bytes.bindOptional "bytearray.__init__" "bytearray" ["source", "encoding", "errors"] [] []=pure [none,none,none]:=by kernel_rfl
theorem wy(v:Value):Bytes.bindOptional "bytearray.__init__" "bytearray" ["source", "encoding", "errors"] [v] []=pure [some v,none,none]:=by kernel_rfl
theorem wk{id:String}{b:Array UInt8}{t:Tok}:Bytes.buffer? id (.bytes b t) true=pure (some b):=by
 unfold Bytes.buffer?
 kernel_rfl
theorem Dh{Q:Value->Shared->Prop}(h:∀h',(∀y o,s.heap.get? y=some o->h'.get? y=some o)->dZ h' s.heap.objs.size []->Q (.ref s.heap.objs.size) { s with heap:=h' }) :
  cW (model prog w) A (call (.type "bytearray") []) Q E s:=by
 have e0 : dZ (s.heap.push (kn [])) s.heap.objs.size []:=aQ _ rfl
 refine l9 oq uG ii (λ_ _ v _ _=>Fa (x:=Bytes.sameRef _ v)) (j8 wt (Q₁:=λv s1=>v= .ref s.heap.objs.size/\s1={ s with heap:=s.heap.push (kn []) }) ⟨rfl,rfl⟩) ?_
 rintro obj s₁ ⟨rfl,rfl⟩
 refine⟨cu e0,rS _, ?_⟩
 refine ai (.of (eJ e0 ?_))
 refine dA aE ?_
 refine ai (bQ BF ?_)
 refine ai (bQ (a:=()) rfl (ai (bQ (a:=()) rfl ?_)))
 refine ai (pR e0 ?_)
 refine dA aE ?_
 refine ai (.of (eQ e0 (c:=[]) rfl (by decide) λh' hs ho hb=> ?_))
 refine ai (bQ (a:=()) rfl (ax ⟨rfl,h h' (λy o q=> ?_) hb⟩))
 have : y≠s.heap.objs.size:=bw (aS q)
 refine ((ho y this)).trans ?_;exact aI _ q
theorem lA{b:List UInt8}{t:Tok}(hz:b.length<=100000){Q:Value->Shared->Prop}(h:∀h',(∀y o,s.heap.get? y=some o->h'.get? y=some o)->dZ h' s.heap.objs.size b->Q (.ref s.heap.objs.size) { s with heap:=h' }) :
  cW (model prog w) A (call (.type "bytearray") [.bytes b.toArray t]) Q E s:=by
 have e0 : dZ (s.heap.push (kn [])) s.heap.objs.size []:=aQ _ rfl
 refine l9 oq (nj _) ii (λ_ _ v _ _=>Fa (x:=Bytes.sameRef _ v)) (j8 (o9 _) (Q₁:=λv s1=>v= .ref s.heap.objs.size/\s1={ s with heap:=s.heap.push (kn []) }) ⟨rfl,rfl⟩) ?_
 rintro obj s₁ ⟨rfl,rfl⟩
 refine⟨cu e0,lc _ _, ?_⟩
 refine ai (.of (eJ e0 ?_))
 refine dA aE ?_
 refine ai (bQ (wy _) ?_)
 refine ai (bQ (a:=()) rfl (ai (bQ (a:=()) rfl ?_)))
 refine ai (pR e0 ?_)
 refine dA aE ?_
 refine ai (.of (eQ e0 (c:=[]) rfl (by decide) λh' hs ho hb=> ?_))
 refine ai (bQ (a:=none) rfl ?_)
 refine dA aE ?_
 refine ai (ax ?_)
 refine ai (bQ (a:=none) (KBy.special_eq (by rfl)) ?_)
 refine dA aE ?_
 refine ai (bQ wk ?_)
 refine ai (qW (ai (.of (eQ hb (c:=b) rfl (by refine ae aU▸ ?_;exact ad hz (by decide)) λh2 hs2 ho2 hb2=> ?_))))
 refine ai (ax (ax ⟨rfl,h h2 (λy o q=> ?_) hb2⟩))
 have : y≠s.heap.objs.size:=bw (aS q)
 refine ((ho2 y this)).trans ?_;refine ((ho y this)).trans ?_;exact aI _ q
theorem ww{i:Int}{t:Tok}(h0:0<=i)(hz:i<=100000){Q:Value->Shared->Prop}(h:∀h',(∀y o,s.heap.get? y=some o->h'.get? y=some o)->dZ h' s.heap.objs.size (List.replicate i.toNat 0)->Q (.ref s.heap.objs.size) { s with heap:=h' }) :
  cW (model prog w) A (call (.type "bytearray") [.int i t]) Q E s:=by
 have e0 : dZ (s.heap.push (kn [])) s.heap.objs.size []:=aQ _ rfl
 refine l9 oq (nj _) ii (λ_ _ v _ _=>Fa (x:=Bytes.sameRef _ v)) (j8 (o9 _) (Q₁:=λv s1=>v= .ref s.heap.objs.size/\s1={ s with heap:=s.heap.push (kn []) }) ⟨rfl,rfl⟩) ?_
 rintro obj s₁ ⟨rfl,rfl⟩
 refine⟨cu e0,lc _ _, ?_⟩
 refine ai (.of (eJ e0 ?_))
 refine dA aE ?_
 refine ai (bQ (wy _) ?_)
 refine ai (bQ (a:=()) rfl (ai (bQ (a:=()) rfl ?_)))
 refine ai (pR e0 ?_)
 refine dA aE ?_
 refine ai (.of (eQ e0 (c:=[]) rfl (by decide) λh' hs ho hb=> ?_))
 refine ai (bQ (a:=none) rfl ?_)
 refine dA aE ?_
 refine ai (ax ?_)
 refine ai (.of (bN (typeIs_int _ i t) F.slot_int_index.lookup ?_))
 refine uS rfl ?_
 refine ai (j5 (bQ (a:=i) rfl ?_))
 refine dA (by refine ae (fits_of (n:=100001) h0 (Int.lt_of_le_sub_one hz) (aj rfl))▸ ?_;exact aE) ?_
 refine dA (cZ.mpr h0) ?_
 refine dA (show ¬((i==2^63 - 1)=true) from λe=>absurd (eq_of_beq e▸hz) (by decide)) ?_
 refine dA (show ¬(Bytes.tooLong i.toNat=true) by unfold Bytes.tooLong;refine ae aU▸ ?_;rw[decide_eq_true_eq];exact iw.mpr (ad (Int.toNat_le.mpr hz) (by decide))) ?_
 refine ai (qW ?_)
 have fin : ∀ (h2:Heap),(∀y,y≠s.heap.objs.size->h2.get? y=h'.get? y)->dZ h2 s.heap.objs.size (List.replicate i.toNat 0)->Q (.ref s.heap.objs.size) { s with heap:=h2 }:=λh2 ho2 hb2=>h h2 (λy o q=>by
  have : y≠s.heap.objs.size:=bw (aS q)
  refine ((ho2 y this)).trans ?_;refine ((ho y this)).trans ?_;exact aI _ q) hb2
 by_cases hi : i > 0
 ·refine uS hi ?_
  refine ai (.of (eQ hb (c:=List.replicate i.toNat 0) (by rfl) (by refine ae aU▸ ?_;refine ae List.length_replicate▸ ?_;exact ad (Int.toNat_le.mpr hz) (by decide)) λh2 hs2 ho2 hb2=> ?_))
  exact ai (ax (ax ⟨rfl,fin h2 ho2 hb2⟩))
 ·refine dA hi ?_
  have : i.toNat=0:=Int.toNat_of_nonpos (cZ.mp hi)
  refine ai (ax (ax ⟨rfl,fin h' (λ_ _=>rfl) (by refine ae this▸ ?_;exact hb)⟩))
end
noncomputable def gd(b:List UInt8)(lo hi:Option Int)(c:List UInt8):List UInt8:=
 b.take (lo.elim 0 (clipAt b.length))++c++b.drop (max (lo.elim 0 (clipAt b.length)) (hi.elim b.length (clipAt b.length)))
theorem uY : isSubtype (.type "bytes") (.type "bytearray")=pure false:=by rw[cA];kernel_rfl
theorem sub_bytes_complex : isSubtype (.type "bytes") (.type "complex")=pure false:=by rw[cA];kernel_rfl
theorem CV{b:Array UInt8}{t:Tok}:specialOf (.bytes b t) "__index__" = pure none:=KBy.special_eq (by rw[cJ,bE];kernel_rfl)
theorem sj{b:Array UInt8}{t:Tok}:isInstance (.bytes b t) (.type "complex")=pure false:=by exact sub_bytes_complex
theorem FK{b:Array UInt8}{t:Tok}:specialOf (.bytes b t) "__int__" = pure none:=KBy.special_eq (by rw[cJ,bE];kernel_rfl)
theorem Cf{b:Array UInt8}{t:Tok}:specialOf (.bytes b t) "__float__" = pure none:=KBy.special_eq (by rw[cJ,bE];kernel_rfl)
section
variable {prog:Program}{w:World}{A:Around}{E:Value->Shared->Prop}{s:Shared}{a:Addr}{b:List UInt8}
theorem su{o i v:Value}{T id:String}{Q:Unit->Shared->Prop}{M:Model}(hT:s.TypeIs o T)(hn:seqItemTypes.contains T=false)(aa:Slot T "__setitem__" id)
  (hc:cW M A (call (.builtin id) [o,i,v]) (λ_ s'=>Q () s') E s):cW M A (setItem o i v) Q E s:=by
 dsimp only[setItem]
 refine aJ ?_
 refine ai (.of (wpAny_sequenceKey hT hn ?_))
 refine ai ?_
 dsimp only[callSpecial?]
 refine ai (.of (bN hT aa.lookup ?_))
 refine aJ (ai (bQ (aa.bind o) ?_))
 exact ai (aD hc (λv s' h'=>ax (ax h')) λ_ _ e=>e)
theorem wM{x:Addr}{l u:Value}{lo hi:Option Int}{c:List UInt8}{t:Tok}(e:dZ s.heap a b)(hl:IsPart l lo)(hu:IsPart u hi)(hs:s.heap.IsSliceOf x l u .none)(hz:b.length<=100000)(hc:c.length<=100000){Q:Unit->Shared->Prop}
  (h:∀h',(∀y o,y≠a->s.heap.get? y=some o->h'.get? y=some o)->dZ h' a (gd b lo hi c)->Q () { s with heap:=h' }):cW (model prog w) A (setItem (.ref a) (.ref x) (.bytes c.toArray t)) Q E s:=by
 have hT : s.TypeIs (.ref x) "slice" := (by refine pH hs λo ho hc _=> ?_;exact⟨o,ho,hc⟩)
 refine su (cu e) (by decide) hG (g7 hG (cu e) nI (λ_ v _ _=>Fa (x:=Bytes.sameRef _ v)) (by decide +kernel) ?_ (oZ _ _ _))
 unfold Builtin.«bytearray.__setitem__»
 refine dA aE ?_
 refine ai (.of (sL hs ?_))
 refine ai (.of (wpAny_typeOf hT ?_))
 refine dA (by decide) ?_
 refine ai (.of (kj hl hu hs ?_))
 refine ai (.of (wpAny_isInstance (typeIs_bytes _ _ _) uY ?_))
 refine uS rfl ?_
 refine ai (bQ (a:=false) ?_ ?_)
 ·dsimp only;rfl
 refine ai (bQ (a:=none) rfl ?_)
 refine dA aE ?_
 refine ai (.of (wpAny_rule ?_))
 refine ai (lA hc λh1 k1 e1=> ?_)
 have ea : dZ h1 a b:=k1 _ _ e
 have hs1 : h1.IsSliceOf x l u .none:=by
  refine aT hs λo ho h2=> ?_
  exact⟨o,k1 _ _ ho,h2⟩
 refine ai (aJ (.of (kj hl hu hs1 ?_)))
 refine ai (.of (dF e1 ?_))
 refine ai (.of (dF ea ?_))
 refine ai (.of (tc ?_))
 dsimp only
 refine ai (.of (wpAny_rule ?_))
 have hw : ∀ {R:Unit->Shared->Prop},(∀h',(∀y o,y≠a->s.heap.get? y=some o->h'.get? y=some o)->dZ h' a (gd b lo hi c)->R () { s with heap:=h' })->
   wpAny (model prog w) A.in1 (Bytes.write (.ref a) λd=>d.extract 0 (((lo.elim 0 (clipAt b.length):Nat):Int)).toNat++c.toArray++d.extract (max ((lo.elim 0 (clipAt b.length):Nat):Int) ((hi.elim b.length (clipAt b.length):Nat):Int)).toNat d.size) R E { s with heap:=h1 }:=by
  intro R hR
  refine eQ ea (c:=gd b lo hi c) ?_ ?_ λh' hs' ho hb=> ?_
  ·have em : (max ((lo.elim 0 (clipAt b.length):Nat):Int) ((hi.elim b.length (clipAt b.length):Nat):Int)).toNat=max (lo.elim 0 (clipAt b.length)) (hi.elim b.length (clipAt b.length)):=LH
   refine ae em▸ ?_
   apply Array.ext';simp[gd,List.take_drop]
   exact ah _ (cF (Nat.sub_le_iff_le_add'.mp (aG _)))
  ·refine ae aU▸ ?_;simp only[gd,aA,bK,List.length_drop];exact ad (bF (bF (ad (Nat.min_le_right ..) hz) hc) (ad (Nat.sub_le ..) hz)) (by decide)
  ·exact hR h' (λy o hy q=>by refine ((ho y hy)).trans ?_;exact k1 _ _ q) hb
 split
 ·refine ai (kC ea ?_)
  exact ai (.of (hw λh' k hb=>ax ⟨_,rfl,h h' k hb⟩))
 ·exact ai (.of (hw λh' k hb=>ax ⟨_,rfl,h h' k hb⟩))
end
end Internal
namespace Internal
open PySem PySem.W PyProof.Rows PySem.Calls Builtin PySem.EqNone PySem.SeqAt
section
variable {cx:Cx}{n:Nat}{fd:Fd}
theorem Out.none{A:Around}{ρ:LA->Addr}{σ:MH}{s s':Shared}{Q:MV->Loc->MH->Prop}(x:Out cx n fd A ρ σ s cg.unit (λ_ l m=>Q .none l m) () s'):Out cx n fd A ρ σ s VR Q .none s':=by
 obtain⟨_,a2,a3,a4,a5,a6,_,a7⟩:=x
 exact⟨.none,a2,a3,a4,a5,a6, .none,a7⟩
inductive DT(loc:Loc)(σ:MH)(Q:MV->Loc->MH->Prop):List MV->Prop where
 |mk {l v vs} (e:σ.get l=some (.list vs))(a:vs.length<=100000)(h:Q .none loc (σ.set l (.list (vs++[v])))):DT loc σ Q [.ref l,v]
noncomputable abbrev P.KV(as:List MV):P MV:=λloc σ Q _=>DT loc σ Q as
theorem BE : jA cx n fd (.builtin "list.append") P.KV:=by
 intro as vs A ρ σ loc s Q X G hp hm
 induction hm with
 |mk e a h=>
  obtain⟨xs,ep,o1,r3⟩:=G.list e
  have l1:=r3.len
  rw[bu] at l1
  apply hp.Ep;intro y z r1 r2;apply r1.eB;intro ua
  refine wpAny_list_append_plain ⟨_,o1⟩ (λh' ⟨ep',hl⟩ sb=> ?_) (by rw[aU];exact ad (ad (aw l1) a) (by decide))
  exact Out.none (Out.set (o':= .list _) G ua s.toks sb.1 sb.2 hl cP (λkp=>⟨_,ep',hl,Array.toList_push.symm▸(r3.mono kp).append (.cons (r2.mono kp) .nil)⟩) h)
inductive sZ(loc:Loc)(σ:MH)(Q:MV->Loc->MH->Prop):List MV->Prop where
 |one {d} {k:Int} {es} (e:σ.get d=some (.bS es))(h:Q ((es.lookup k).getD .none) loc σ):sZ loc σ Q [.ref d, .int k]
 |two {d} {k:Int} {v es} (e:σ.get d=some (.bS es))(h:Q ((es.lookup k).getD v) loc σ):sZ loc σ Q [.ref d, .int k,v]
 |oct {d k v es} (e:σ.get d=some (.iS es))(h:Q ((es.lookup k).getD v) loc σ):sZ loc σ Q [.ref d, .bytes k,v]
noncomputable abbrev P.Li(as:List MV):P MV:=λloc σ Q _=>sZ loc σ Q as
theorem qO{ρ:LA->Addr}{U:LA->Prop}{h:Heap}{o:Option MV}{f:Option Value}{d:MV}{vd:Value}(r:xH ρ U h o f)(rd:VR ρ U h d vd):VR ρ U h (o.getD d) (f.getD vd):=by
 induction r with
 |so r=>exact r
 |no=>exact rd
theorem De : jA cx n fd (.builtin "dict.get") P.Li:=by
 intro as vs A ρ σ loc s Q X G hp hm
 have td : ∀ {j:MV} {y},Q j loc σ->VR ρ σ.us s.heap j y->Out cx n fd A ρ σ s VR Q y { s with toks:=s.toks+1 }:=λh r=>Out.pre (Step.tok _) (Out.now (G.tok _) r h)
 generalize Out cx n fd A ρ σ s VR Q=Q' at td ⊢
 generalize ey cx n fd A ρ σ s X=E'
 induction hm with
 |one e h=>
  refine aT ((G.obj _ _ e).2) λkvs D r=> ?_
  apply hp.Ep;intro y z r1 r2;apply r1.eB;intro ua;apply r2.eH;intro t
  exact call_meetsIn PySem.F.slot_dict_get D.typeIs PySem.F.entry_dict_get (PySem.F.args_dict_get_2 _ _) (meets_dict_get (intKind cx.prog cx.w) _ (beq_self_eq_true _) (eE G ua)) ⟨_,D.mapOf,td h (qO (r.lookup (λ_ _ z=>z) _) .none)⟩
 |two e h=>
  obtain⟨kvs,D,r⟩:=(G.obj _ _ e).2
  apply hp.MA;intro y z v r1 r2 r3;apply r1.eB;intro ua;apply r2.eH;intro t
  exact call_meetsIn PySem.F.slot_dict_get D.typeIs PySem.F.entry_dict_get (PySem.F.args_dict_get_3 _ _ _) (meets_dict_get_default (intKind cx.prog cx.w) _ (beq_self_eq_true _) (eE G ua) v) ⟨_,D.mapOf,td h (qO (r.lookup (λ_ _ z=>z) _) r3)⟩
 |oct e h=>
  obtain⟨kvs,D,r⟩:=(G.obj _ _ e).2
  apply hp.MA;intro y z v r1 r2 r3;apply r1.eB;intro ua;apply r2.dg;intro t
  exact call_meetsIn PySem.F.slot_dict_get D.typeIs PySem.F.entry_dict_get (PySem.F.args_dict_get_3 _ _ _) (meets_dict_get_default (bytesKind cx.prog cx.w) _ (beq_self_eq_true _) (eE G ua) v) ⟨_,D.mapOf,td h (qO (r.lookup (λ_ _ z=>z) _) r3)⟩
inductive BN(loc:Loc)(σ:MH)(Q:MV->Loc->MH->Prop):List MV->Prop where
 |mk {l} {x:Int} {b} (e:σ.get l=some (.bW b))(a:b.length<=100000/\0<=x/\x < 256)(h:Q .none loc (σ.set l (.bW (b++[x.toNat.toUInt8])))):BN loc σ Q [.ref l, .int x]
noncomputable abbrev P.Lj(as:List MV):P MV:=λloc σ Q _=>BN loc σ Q as
theorem BO : cQ cx n fd (.builtin "bytearray.append") P.Lj:=by
 intro as vs A ρ σ loc s Q X G hp hm
 induction hm with
 |mk e a h=>
  apply hp.Ep;intro y z r1 r2;apply r1.eB;intro ua;apply r2.eH;intro t
  exact z8 (G.obj _ _ e).2 a.2.1 a.2.2 a.1 λh' hs ho hb=>Out.none (Out.set (o':= .bW _) G ua s.toks hs ho hb gN (λ_=>hb) h)
theorem uX{ρ:LA->Addr}{U:LA->Prop}{h:Heap}{x:MV}{vx:Value}(hx:VR ρ U h x vx):∀ {vs:List MV}{ys:List Value},cR ρ U h vs ys->vs.all (λv=>(v.fe x).isSome)=true->
  ys.map (λy=>xJ y vx)=vs.map (λv=>(v.fe x).getD false)
 | [],_,r,_=>by cases r.nil_inv;rfl
 |v::vs,_,r,ht=>by
  refine eT r.cons_inv λy ys' zr2_ a b=> ?_;subst zr2_
  replace ht:=(Bool.and_eq_true ..).mp ht
  refine cN (cb.mp ht.1) λk hk=> ?_
  refine (List.map_cons).trans ?_;rw[List.map_cons];refine (ah _ (uX hx b ht.2)).trans ?_;rw[xn a hx hk,hk];rfl
theorem yo{ρ:LA->Addr}{U:LA->Prop}{h:Heap}{x:MV}{vx:Value}(hx:VR ρ U h x vx){vs:List MV}{X:Array Value}(r:cR ρ U h vs X.toList)(ht:vs.all (λv=>(v.fe x).isSome)=true)(m:Nat)(hm:m < X.size)(hv:m < vs.length) :
  xJ X[m] vx=(vs[m].fe x).getD false:=by
 have:=ah (·[m]?) (uX hx r ht)
 simpa [hm,hv] using this
inductive uk(loc:Loc)(σ:MH)(Q:MV->Loc->MH->Prop):List MV->Prop where
 |mk {l x vs} {j:Nat}(e:σ.get l=some (.list vs))(a:vs.length<=100000/\vs.all (λv=>(v.fe x).isSome)=true)(f:vs.findIdx? (λv=>(v.fe x).getD false)=some j)(h:Q (.int j) loc σ):uk loc σ Q [.ref l,x]
noncomputable abbrev P.Eh(as:List MV):P MV:=λloc σ Q _=>uk loc σ Q as
theorem xb : jA cx n fd (.builtin "list.index") P.Eh:=by
 intro as vs A ρ σ loc s Q X G hp hm
 induction hm with
 |mk e a hj h=>
  obtain⟨xs,ep,o1,r3⟩:=G.list e
  have l1:=r3.len
  rw[bu] at l1
  obtain⟨j1,j2,j3⟩:=List.findIdx?_eq_some_iff_getElem.mp hj
  apply hp.Ep;intro y z r1 r2;apply r1.eB;intro ua
  refine call_meets PySem.F.slot_list_index ⟨_,o1,rfl⟩ PySem.F.entry_list_index (PySem.F.args_list_index_2 _ _)
   (list_indexAt _ xs ep none #[] z (λy=>xJ y z) _ (l1▸j1) (cU (aW.mpr (ad (aL j1) a.1)) (by decide)) ((yo r2 r3 a.2 _ (l1▸j1) j1).trans j2)
    (λm hm1 hm2=>(yo r2 r3 a.2 m hm1 (cG hm2 j1)).trans (by simpa using j3 m hm2))) ⟨o1,(nW (A:=A.in1) r3 r2 a.2).2, ?_⟩
  exact Out.pre (Step.tok _) (Out.now (G.tok _) .int h)
inductive tY(loc:Loc)(σ:MH)(Q:MV->Loc->MH->Prop):List MV->Prop where
 |mk {l x vs} (e:σ.get l=some (.list vs))(a:vs.length<=100000/\vs.all (λv=>(v.fe x).isSome)=true)(h:Q (.int (vs.countP (λv=>(v.fe x).getD false):Nat)) loc σ):tY loc σ Q [.ref l,x]
noncomputable abbrev P.D6(as:List MV):P MV:=λloc σ Q _=>tY loc σ Q as
theorem xq : jA cx n fd (.builtin "list.count") P.D6:=by
 intro as vs A ρ σ loc s Q X G hp hm
 induction hm with
 |mk e a h=>
  refine eA (G.list e) λxs ep o1 r3=> ?_
  apply hp.Ep;intro y z r1 r2;apply r1.eB;intro ua
  refine call_meets PySem.F.slot_list_count ⟨_,o1,rfl⟩ PySem.F.entry_list_count (PySem.F.args_list_count_2 _ _)
   (list_countAt _ xs ep none #[] z (λy=>xJ y z)) ⟨o1,(nW (A:=A.in1) r3 r2 a.2).2, ?_⟩
  have t:=ah (List.countP _root_.id) (uX r2 r3 a.2)
  rw[List.countP_map,List.countP_map] at t
  exact Out.pre (Step.tok _) (Out.now (G.tok _) .int ((t:xs.toList.countP (λy=>xJ y z)=_)▸h))
end
section
variable {A:Around}{E:Value->Shared->Prop}{s:Shared}{K:Frag}{x y C:Addr}{ox oy:Obj}{prog:Program}{w:World}
theorem AP(X:K.In s.heap)(hx:s.heap.get? x=some ox)(hcx:ox.cls= .ref C)(hy:s.heap.get? y=some oy)(hxy:x≠y)(hsub:subIn K (.ref C) (.type "object")=some true)
  {R:Value->Shared->Prop}(hr:R .notImplemented s):wpAny (model prog w) A (call (.builtin "object.__eq__") [.ref x, .ref y]) R E s:=by
 refine wpAny_call (codeAny_call_builtin F.cmp_object.eq.plain F.cmpEntry_eq ?_)
 have ha:=F.cmpArgs_eq (.ref x) (.ref y)
 simp only[checkBuiltinCall,F.cmpKind_eq,F.cmpSplit_eq]
 obtain⟨hp,g,d,t,os⟩:=s
 refine af ?_
 unfold isInstance
 repeat (first | (with_reducible refine cD hx ?_;rw[hcx]) | refine (looks_subIn (M:=model prog w) X hsub) _ _ _ _ (λ_ _ e=>e) ?_ | wp_step)
 rw[hcx]
 refine ao ?_
 simp only[Bool.false_eq_true,if_false]
 exact ao hr
theorem uu(X:K.In s.heap)(hx:s.heap.get? x=some ox)(hcx:ox.cls= .ref C)(hy:s.heap.get? y=some oy)(hxy:x≠y)(hf:findIn K (.ref C) "__eq__" = some (some (.builtin "object.__eq__"))) (hsub:subIn K (.ref C) (.type "object")=some true)
  {Q:Option Value->Shared->Prop}(h:Q (some .notImplemented) s):wpAny (model prog w) A (callSpecialIfBound? (.ref x) "__eq__" [.ref y]) Q E s:=by
 have hcall:=λ{A:Around}{R:Value->Shared->Prop}(hr:R .notImplemented s)=>AP (A:=A) (E:=E) (prog:=prog) (w:=w) X hx hcx hy hxy hsub hr
 obtain⟨hp,g,d,t,os⟩:=s
 refine bl (af (af ?_))
 unfold specialOf
 repeat (first | (with_reducible refine cD hx ?_;refine ae hcx▸ ?_) | refine (looks_findIn (M:=model prog w) X hf) _ _ _ _ (λ_ _ e=>e) ?_ | wp_step)
 have fin : ∀A',wpAny (model prog w) A' (call (.builtin "object.__eq__") ([.ref x]++[.ref y]) >>= λv=>pure (some v)) Q E ⟨hp,g,d,t,os⟩:=
  λA'=>af (hcall (ao h))
 have b0:=F.cmp_object.eq.bind (.ref x)
 refine wpAny_askSetting (wpAny_ite ?_)
 split
 ·refine af ?_
  exact ao (ao (fin _))
 ·refine wpAny_tryCatch (af ?_)
  exact ao (ao (fin _))
theorem wa(X:K.In s.heap)(hx:s.heap.get? x=some ox)(hcx:ox.cls= .ref C)(hy:s.heap.get? y=some oy)(hxy:x≠y)(hf:findIn K (.ref C) "__eq__" = some (some (.builtin "object.__eq__"))) (hsub:subIn K (.ref C) (.type "object")=some true)
  {Q:Option Value->Shared->Prop}(h:Q none s):wpAny (model prog w) A (tryCompare (.ref x) "__eq__" (.ref y)) Q E s:=by
 exact af (uu X hx hcx hy hxy hf hsub (ao h))
theorem AZ(X:K.In s.heap)(hx:s.heap.get? x=some ox)(hcx:ox.cls= .ref C)(hy:s.heap.get? y=some oy)(hcy:oy.cls= .ref C)(hxy:x≠y)(hf:findIn K (.ref C) "__eq__" = some (some (.builtin "object.__eq__"))) (hsub:subIn K (.ref C) (.type "object")=some true)
  (hu:A.units < cLine){Q:Value->Shared->Prop}(h:Q (.bool false) s):wpAny (model prog w) A (richCompare .Eq (.ref x) (.ref y)) Q E s:=by
 have h1:=λ{A:Around}{Q:Option Value->Shared->Prop}(h:Q none s)=>wa (A:=A) (E:=E) (prog:=prog) (w:=w) X hx hcx hy hxy hf hsub h
 have h2:=λ{A:Around}{Q:Option Value->Shared->Prop}(h:Q none s)=>wa (A:=A) (E:=E) (prog:=prog) (w:=w) X hy hcy hx hxy.symm hf hsub h
 have nt : ox.cls≠ .type "tuple" := by refine ae hcx▸ ?_;intro h;cases h
 obtain⟨hp,g,d,t,os⟩:=s
 simp only[richCompare,cmpInfo_Eq,oneThing_ref]
 repeat (first | with_reducible refine wpAny_cRoomFor hu ?_ | (with_reducible refine cD hx ?_;refine ae hcx▸ ?_) | (with_reducible refine cD hy ?_) | with_reducible refine h1 ?_ | with_reducible refine h2 ?_ | with_reducible refine wpAny_isSame_ref_other hxy hx hy nt ?_ | wp_step)
 exact h
theorem ET(X:K.In s.heap)(hx:s.heap.get? x=some ox)(hcx:ox.cls= .ref C)(hy:s.heap.get? y=some oy)(hcy:oy.cls= .ref C)(hf:findIn K (.ref C) "__eq__" = some (some (.builtin "object.__eq__"))) (hsub:subIn K (.ref C) (.type "object")=some true)
  (hu:A.units < cLine):EqAt A s (.ref x) (.ref y) (decide (x=y)):=by
 intro prog w E Q hq
 refine bl ?_
 by_cases e : x=y
 ·subst e
  rw[aZ rfl] at hq
  rw[if_pos (by exact beq_self_eq_true _)]
  exact af (wpAny_rule (ao hq))
 ·rw[bz e] at hq
  rw[if_neg (by intro q;exact e (by simpa using q))]
  refine af (AZ X hx hcx hy hcy e hf hsub hu ?_)
  exact wpAny_truthy_bool hq
end
section
open PySem.AutoSeq1 PySem.MeetsSeq PySem.MeetsSeq2 PySem.MeetsSeq3
theorem sC(l:Addr)(items:Array Value)(n:Nat)(x:Value)(e:Value->Bool)(j:Nat)(hj:j < items.size)(hit:e items[j]=true)(k:Nat)(hs1:items.size<=sizeLine) :
  ∀i : Nat,j - i=k->i<=j->(∀m (hm:m < items.size),i<=m->m < j->e items[m]=false)->Meets (Builtin.«list.remove.loop» ⟨[.ref l,x,rawInt i],[]⟩)
   (λA R s=>s.heap.get? l=some { cls:= .type "list",dict:=none,data:= .seq items n,slots:=#[] }/\(∀y,y∈items->EqAt A.in1 s y x (e y))/\R (.ok (.ret .none)) { s with heap:=s.heap.update l (Obj.mapSeq λxs=>xs.eraseIdxIfInBounds j) }):=by
 induction k with
 |zero=>
  intro i hk hij hno prog w A R s h
  obtain⟨hp,g,d,tk,os⟩:=s;obtain⟨hl,he,h⟩:=h
  have hij' : i=j:=IF hk hij
  subst hij'
  wp_walk using wpAny_loadPart' hl
  have hi : items[((i:Nat):Int).toNat]?=some items[i]:=by simp[hj]
  rw[hi]
  refine af (he _ (Array.getElem_mem hj) prog w _ _ ?_)
  refine ae hit▸ ?_
  wp_walk using (wpAny_updateSeq hl rfl (hz:=hs1) (_hz':=(ad (size_erased items _) (cE hs1)))),wpAny_loadPart' hl
  simpa using h
 |succ k ih=>
  intro i hk hij hno prog w A R s h
  obtain⟨hp,g,d,tk,os⟩:=s;obtain⟨hl,he,h⟩:=h
  have hlt : i < items.size:=by exact az hij hj
  wp_walk using wpAny_loadPart' hl
  have hi : items[((i:Nat):Int).toNat]?=some items[i]:=by simp[hlt]
  have hc : ((i:Int)+1)=((i+1 : Nat):Int):=by push_cast;rfl
  refine ae hi▸ ?_
  refine af (he _ (Array.getElem_mem hlt) prog w _ _ ?_)
  refine ae (hno i hlt (aG _) (by exact Nat.lt_of_sub_eq_succ hk))▸ ?_
  wp_walk
  exact⟨plainId_quiet plain_remove_loop _,dE entry_remove_loop (by
   exact ih (i+1) (I4 hk) (Nat.lt_of_sub_eq_succ hk) (λm hm h1 h2=>hno m hm (by exact Nat.le_of_succ_le h1) h2) prog w A R _ ⟨hl,he,h⟩)⟩
theorem sv(l:Addr)(items:Array Value)(n:Nat)(x:Value)(e:Value->Bool)(j:Nat)(hj:j < items.size)
  (hit:e items[j]=true)(hno:∀m (hm:m < items.size),m < j->e items[m]=false)(hs1:items.size<=sizeLine) :
  Meets (Builtin.«list.remove» ⟨[.ref l,x],[]⟩)
   (λA R s=>s.heap.get? l=some { cls:= .type "list",dict:=none,data:= .seq items n,slots:=#[] }/\(∀y,y∈items->EqAt A.in1 s y x (e y))/\R (.ok (.ret .none)) { s with heap:=s.heap.update l (Obj.mapSeq λxs=>xs.eraseIdxIfInBounds j) }):=by
 intro prog w A R s h
 obtain⟨hp,g,d,tk,os⟩:=s;refine ie h λhl he h=> ?_
 wp_walk using wpAny_loadPart' hl
 exact⟨plainId_quiet plain_remove_loop _,dE entry_remove_loop (by
  exact sC l items n x e j hj hit _ hs1 0 rfl (bC _) (λm hm _ h2=>hno m hm h2) prog w A R _ ⟨hl,he,h⟩)⟩
end
noncomputable def eqB(K:Frag)(C:Addr):Bool:=findIn K (.ref C) "__eq__" == some (some (.builtin "object.__eq__"))&&subIn K (.ref C) (.type "object")==some true
noncomputable def pU(b:LA):MV->Bool
 | .ref m=>decide (m=b)
 |_=>false
noncomputable def xY(a:Addr):Value->Bool
 | .ref b=>decide (b=a)
 |_=>false
section
variable {cx:Cx}{n:Nat}{fd:Fd}{eqs:Addr->Bool}
inductive DX(eqs:Addr->Bool)(loc:Loc)(σ:MH)(Q:MV->Loc->MH->Prop):List MV->Prop where
 |mk {l b vs C db j} (e:σ.get l=some (.list vs))(a:vs.length<=100000)(c:eqs C=true)(f:∀v∈vs,∃m d,v= .ref m/\σ.get m=some (.inst C d))(g:σ.get b=some (.inst C db))
   (i:vs.findIdx? (pU b)=some j)(h:Q .none loc (σ.set l (.list (vs.eraseIdx j)))):DX eqs loc σ Q [.ref l, .ref b]
noncomputable abbrev P.zv(eqs:Addr->Bool)(as:List MV):P MV:=λloc σ Q _=>DX eqs loc σ Q as
theorem Di{ρ:LA->Addr}{U:LA->Prop}{h:Heap}{b:LA}(inj:∀l l',U l->U l'->ρ l=ρ l'->l=l')(ub:U b){vs:List MV}{X:Array Value}(r:cR ρ U h vs X.toList)(hv:∀v∈vs,∃m,v= .ref m)(m:Nat)(hm:m < X.size)(hw:m < vs.length) :
  xY (ρ b) X[m]=pU b vs[m]:=by
 refine aT (e8 r hm) λv e1 r1=> ?_
 rw[ay hw] at e1
 refine cN (hv _ (List.getElem_mem hw)) λl e2=> ?_
 obtain rfl:=aP e1
 rw[e2] at r1
 obtain⟨e3,u⟩:=r1.bU
 refine ae e2▸ ?_;refine (ah _ e3).trans ?_
 simp only[xY,pU,decide_eq_decide]
 exact⟨λq=>inj _ _ u ub q,λq=>by exact ah _ q⟩
theorem vX(hE:∀C,eqs C=true->eqB cx.K C=true):jA cx n fd (.builtin "list.remove") (P.zv eqs):=by
 intro as vs A ρ σ loc s Q X G hp hm
 induction hm with
 |@mk l b ws C db j e1 hz hC hall hb hj hm=>
  apply hp.Ep;intro y z r1 r2;apply r1.eB;intro ua;apply r2.eB;intro ub
  refine eA ((G.obj _ _ e1).2) λxs ep o1 r3=> ?_
  have l1 : ws.length=xs.size:=r3.len.symm.trans bu
  refine aT (List.findIdx?_eq_some_iff_getElem.mp hj) λj1 j2 j3=> ?_
  have nth:=λm hm hw=>Di (λl l'=>G.inj l l') ub r3 (λv q=>(by refine eA (hall v q) λm _ e _=> ?_;exact⟨m,e⟩)) m hm hw
  have jx : j < xs.size:=l1▸j1
  refine call_meets PySem.F.slot_list_remove ⟨_,o1,rfl⟩ PySem.F.entry_list_remove (PySem.F.args_list_remove_2 _ _)
   (sv (ρ l) xs ep (.ref (ρ b)) (xY (ρ b)) j jx ((nth j jx j1).trans j2) (λm hm1 hm2=>(nth m hm1 (l1▸hm1)).trans (Bool.eq_false_iff.mpr (j3 m hm2))) (by refine l1▸ ?_;exact ad hz (by decide))) ⟨o1,λy hy=> ?_, ?_⟩
  ·obtain⟨i,hi,rfl⟩:=Array.getElem_of_mem hy
   refine aT (e8 r3 hi) λv q1 q2=> ?_
   refine eA (hall v (au q1)) λm d zr2_ e3=> ?_;subst zr2_
   refine ae q2.bU.1▸ ?_
   exact ET (cx.X.keeps G.top) (G.obj _ _ e3).2.1 rfl (G.obj _ _ hb).2.1 rfl (eq_of_beq (an.mp (hE C hC)).1) (eq_of_beq (an.mp (hE C hC)).2) (az (bF (a9 ..) (by decide:1<=100)) G.ak.un)
  ·have em : Obj.mapSeq (λys:Array Value=>ys.eraseIdxIfInBounds j) { cls:= .type "list",data:= .seq xs ep }={ cls:= .type "list",data:= .seq (xs.eraseIdxIfInBounds j) (ep+1) }:=by
    have : (xs.eraseIdxIfInBounds j).size=xs.size - 1:=by simp[Array.eraseIdxIfInBounds,jx]
    simp only[Obj.mapSeq]
    lia
   have sb:=Heap.SameBut.update s.heap (ρ l) (Obj.mapSeq λys=>ys.eraseIdxIfInBounds j)
   have hl:=dJ (Obj.mapSeq λys : Array Value=>ys.eraseIdxIfInBounds j) o1 (by rfl)
   rw[em] at hl
   refine Out.none (Out.set (o':= .list _) G ua s.toks sb.1 sb.2 hl cP (λkp=>⟨_,ep+1,hl, ?_⟩) hm)
   have:=(r3.erase j).mono kp
   simpa using this
end
section
variable {prog:Program}{w:World}{A:Around}{E:Value->Shared->Prop}{s:Shared}{a:Addr}{b:List UInt8}
theorem wq{id:String}{c:Array UInt8}{t:Tok}:Bytes.takeBufferQuiet? id (.bytes c t) 0=pure (some (c,none)):=by
 delta Bytes.takeBufferQuiet? Bytes.takeBuffer? Bytes.buffer?
 kernel_rfl
theorem pC{c:List UInt8}{t:Tok}(e:dZ s.heap a b)(hz:b.length<=100000)(hc:c.length<=100000){Q:Value->Shared->Prop}
  (h:∀h',h'.objs.size=s.heap.objs.size->(∀y,y≠a->h'.get? y=s.heap.get? y)->dZ h' a (b++c)->Q .none { s with heap:=h' }) :
  cW (model prog w) A (call (.builtin "bytearray.extend") [.ref a, .bytes c.toArray t]) Q E s:=by
 refine g7 gL (cu e) jn (λ_ v _ _=>Fa (x:=Bytes.sameRef _ v)) (by decide +kernel) ?_ (jQ _ _)
 refine ai (ax (a:=(Value.ref a,Value.bytes c.toArray t)) ?_)
 refine ai (bQ (KBy.special_eq KBy.look_buffer) ?_)
 refine ai (.of (wpAny_rule ?_))
 refine ai (.of (dF e ?_))
 refine ai (bQ wq ?_)
 dsimp only
 have hw : ∀ {A':Around}{R:Fin->Shared->Prop},(∀h',h'.objs.size=s.heap.objs.size->(∀y,y≠a->h'.get? y=s.heap.get? y)->dZ h' a (b++c)->R (.done (.ret .none)) { s with heap:=h' })->
   cW (model prog w) A' (Bytes.write (.ref a) (·++c.toArray) >>= λ_=>ret .none) R E s:=by
  intro A' R hR
  refine ai (.of (eQ e (c:=b++c) (List.append_toArray b c) (by refine ae aU▸ae aA▸ ?_;exact ad (bF hz hc) (by decide)) λh' hs ho hb=> ?_))
  exact ax (hR h' hs ho hb)
 show cW _ _ (do
  if !c.toArray.isEmpty then Bytes.checkResize (.ref a)
  Bytes.write (.ref a) (·++c.toArray)
  ret .none) _ _ s
 have f:=hw (A':=A.in1) (R:=λfin s'=>∃v,fin= .done (.ret v)/\Q v s') λh' k1 k2 k3=>⟨_,rfl,h h' k1 k2 k3⟩
 split
 ·exact ai (kC e f)
 ·exact f
theorem fq : typeLookup (.type "bytearray") "__buffer__" = pure (some (.builtin "bytearray.__buffer__")):=by rw[cJ,bE];kernel_rfl
theorem iY{M:Model}{Q:Bool->Shared->Prop}(e:dZ s.heap a b)(h:Q true s):wpAny M A (Bytes.slotIsOwn (.ref a) "__buffer__") Q E s:=by
 refine af (bN (cu e) fq ?_)
 dsimp only
 rw[if_neg (by decide +kernel)]
 refine wpAny_isInstance (T := "bytearray") (b:=true) (cu e) ?_ h
 have : (("bytearray.__buffer__" : String).dropRight (("__buffer__" : String).length+1)) = "bytearray" := by decide +kernel
 refine ae this▸ ?_;exact jZ
theorem Bl{M:Model}{id:String}{Q:Option (Array UInt8×Option Value)->Shared->Prop}(e:dZ s.heap a b)(h:Q (some (b.toArray,none)) s):wpAny M A (Bytes.takeBufferQuiet? id (.ref a) 0) Q E s:=by
 have ss:=λ{A:Around}{E:Value->Shared->Prop}{Q:Option Value->Shared->Prop}(h:Q (some (.builtin "bytearray.__buffer__")) s)=>bN (M:=M) (A:=A) (E:=E) (cu e) fq h
 refine af (wpAny_attempt ?_)
 refine af (ss ?_)
 dsimp only
 refine af (iY e ?_)
 refine af (ss ?_)
 have bf : wpAny M A (Bytes.buffer? id (.ref a) ((0:Int)==Bytes.fullReadOnly)) (λr s'=>r=some b.toArray/\s'=s) (λ_ _=>False) s:=by
  dsimp only[Bytes.buffer?]
  refine af (ss ?_)
  dsimp only
  refine af (iY e ?_)
  refine af (ss ?_)
  split
  all_goals rename_i q
  all_goals first | (exfalso;simp at q;done) | skip
  ·refine af (eJ e ?_)
   exact af (dF e (ao ⟨rfl,rfl⟩))
  ·simp_all
 split
 all_goals rename_i q
 all_goals first | (exfalso;simp at q;done) | skip
 ·refine af (wpAny_mono bf (λr s' hr=> ?_) λ_ _ x=>x.elim)
  obtain⟨rfl,rfl⟩:=hr
  exact ao (ao h)
 ·simp_all
theorem tP{x:Addr}{c:List UInt8}(e:dZ s.heap a b)(ex:dZ s.heap x c)(hz:b.length<=100000)(hc:c.length<=100000){Q:Value->Shared->Prop}
  (h:∀h',h'.objs.size=s.heap.objs.size->(∀y,y≠a->h'.get? y=s.heap.get? y)->dZ h' a (b++c)->Q .none { s with heap:=h' }) :
  cW (model prog w) A (call (.builtin "bytearray.extend") [.ref a, .ref x]) Q E s:=by
 refine g7 gL (cu e) jn (λ_ v _ _=>Fa (x:=Bytes.sameRef _ v)) (by decide +kernel) ?_ (jQ _ _)
 refine ai (ax (a:=(Value.ref a,Value.ref x)) ?_)
 refine ai (.of (bN (cu ex) fq ?_))
 refine ai (.of (wpAny_rule ?_))
 refine ai (.of (dF e ?_))
 refine ai (.of (Bl ex ?_))
 dsimp only
 have hw : ∀ {A':Around}{R:Fin->Shared->Prop},(∀h',h'.objs.size=s.heap.objs.size->(∀y,y≠a->h'.get? y=s.heap.get? y)->dZ h' a (b++c)->R (.done (.ret .none)) { s with heap:=h' })->
   cW (model prog w) A' (Bytes.write (.ref a) (·++c.toArray) >>= λ_=>ret .none) R E s:=by
  intro A' R hR
  refine ai (.of (eQ e (c:=b++c) (List.append_toArray b c) (by refine ae aU▸ae aA▸ ?_;exact ad (bF hz hc) (by decide)) λh' hs ho hb=> ?_))
  exact ax (hR h' hs ho hb)
 show cW _ _ (do
  if !c.toArray.isEmpty then Bytes.checkResize (.ref a)
  Bytes.write (.ref a) (·++c.toArray)
  ret .none) _ _ s
 have f:=hw (A':=A.in1) (R:=λfin s'=>∃v,fin= .done (.ret v)/\Q v s') λh' k1 k2 k3=>⟨_,rfl,h h' k1 k2 k3⟩
 split
 ·exact ai (kC e f)
 ·exact f
end
section
variable {cx:Cx}{n:Nat}{fd:Fd}
inductive v6(loc:Loc)(σ:MH)(Q:MV->Loc->MH->Prop):List MV->Prop where
 |oct {l b c} (e:σ.get l=some (.bW b))(a:b.length<=100000/\c.length<=100000)(h:Q .none loc (σ.set l (.bW (b++c)))):v6 loc σ Q [.ref l, .bytes c]
 |ba {l x b c} (e:σ.get l=some (.bW b))(f:σ.get x=some (.bW c))(a:b.length<=100000/\c.length<=100000)(h:Q .none loc (σ.set l (.bW (b++c)))):v6 loc σ Q [.ref l, .ref x]
noncomputable abbrev P.K7(as:List MV):P MV:=λloc σ Q _=>v6 loc σ Q as
theorem BY : cQ cx n fd (.builtin "bytearray.extend") P.K7:=by
 intro as vs A ρ σ loc s Q X G hp hm
 generalize ey cx n fd A ρ σ s X=X'
 have fin : ∀ {l:LA}{b:List UInt8},σ.us l->Q .none loc (σ.set l (.bW b))->∀h',h'.objs.size=s.heap.objs.size->(∀y,y≠ρ l->h'.get? y=s.heap.get? y)->dZ h' (ρ l) b->Out cx n fd A ρ σ s VR Q .none { s with heap:=h' }:=
  λu hm h' hs ho hb=>Out.none (Out.set (o':= .bW _) G u s.toks hs ho hb gN (λ_=>hb) hm)
 generalize Out cx n fd A ρ σ s VR Q=Q' at fin ⊢
 induction hm with
 |oct e a h=>
  apply hp.Ep;intro y z r1 r2;apply r1.eB;intro u;apply r2.dg;intro t
  exact pC (G.obj _ _ e).2 a.1 a.2 (fin u h)
 |ba e f a h=>
  apply hp.Ep;intro y z r1 r2;apply r1.eB;intro u;apply r2.eB;intro _
  exact tP (G.obj _ _ e).2 (G.obj _ _ f).2 a.1 a.2 (fin u h)
end
section
variable {prog:Program}{w:World}{A:Around}{E:Value->Shared->Prop}{s:Shared}
theorem mw{v:Value}{Q:Value->Shared->Prop}(h:codeAny (model prog w) A.in1 (.call (.builtin "bytes.__new__") ⟨[.type "bytes",v],[]⟩) (wants (λobj s₁=>s₁.TypeIs obj "bytes" /\ Q obj s₁) E) s) :
  wpAny (model prog w) A (call (.type "bytes") [v]) Q E s:=by
 refine callType_codes (Q₁:=λobj s₁=>s₁.TypeIs obj "bytes" /\ Q obj s₁) F.bm_called (F.bm_typeCall _) F.entry_object_init h λobj s₁ h₁=> ?_
 exact⟨h₁.1,F.args_object_init_2 obj _,object_init_meets F.bm_called.init.lookup F.bm_called.made (by decide) prog w A.in1 _ s₁ ⟨h₁.1,rfl,h₁.2⟩⟩
theorem vC : typeLookup (.type "bytes") "__bytes__" = pure (some (.builtin "bytes.__bytes__")):=by rw[cJ,bE];kernel_rfl
theorem qx{b:Array UInt8}{t:Tok}{Q:Value->Shared->Prop}(h:Q (.bytes b t) s):wpAny (model prog w) A (call (.type "bytes") [.bytes b t]) Q E s:=by
 refine mw (codeAny_of_tree ?_)
 show wpAny _ A.in1.in1 (do checkBuiltinCall "bytes.__new__" ⟨[.type "bytes", .bytes b t],[]⟩;again (.builtin "bytes.__new__" ⟨[.type "bytes", .bytes b t],[]⟩)) _ _ s
 refine af (bG (F.bm_newCall _) (ao ⟨plainId_quiet F.bm_plain _,dE F.bm_entry ?_⟩))
 refine af (bG (a:=true) rfl ?_)
 refine bm_if_false rfl ?_
 refine af (bG F.bm_sub ?_)
 refine bm_if_false rfl ?_
 refine af (bG (F.bm_bind _) ?_)
 refine af (bG (a:=()) rfl ?_)
 refine af (bG (a:=()) rfl ?_)
 refine bm_if_false rfl ?_
 refine af (bG (KBy.special_eq vC) ?_)
 refine af (wpAny_rule ?_)
 refine af (bG (a:= .type "bytes") rfl ?_)
 exact ao ⟨PySem.W.typeIs_bytes _ _ _,h⟩
end
theorem tG : typeLookup (.type "bytearray") "__bytes__" = pure none:=by rw[cJ,bE];kernel_rfl
theorem we : typeLookup (.type "bytearray") "__index__" = pure none:=by rw[cJ,bE];kernel_rfl
theorem rM : typeLookup (.type "int") "__bytes__" = pure none:=by rw[cJ,bE];kernel_rfl
section
variable {prog:Program}{w:World}{A:Around}{E:Value->Shared->Prop}{s:Shared}
theorem zH{M:Model}{id:String}{a:Addr}{b:List UInt8}{Q:Option (Array UInt8)->Shared->Prop}(e:dZ s.heap a b)(h:Q (some b.toArray) s):wpAny M A (Bytes.buffer? id (.ref a) true) Q E s:=by
 have ss:=λ{A:Around}{E:Value->Shared->Prop}{Q:Option Value->Shared->Prop}(h:Q (some (.builtin "bytearray.__buffer__")) s)=>bN (M:=M) (A:=A) (E:=E) (cu e) fq h
 dsimp only[Bytes.buffer?]
 refine af (ss ?_)
 dsimp only
 refine af (iY e ?_)
 refine af (ss ?_)
 split
 all_goals rename_i q
 all_goals first | (exfalso;simp at q;done) | skip
 ·refine af (eJ e ?_)
  exact af (dF e (ao h))
 ·simp_all
theorem vP{a:Addr}{b:List UInt8}(hz:b.length<=100000)(e:dZ s.heap a b){Q:Value->Shared->Prop}(h:∀t k,Q (.bytes b.toArray t) { s with toks:=k }):wpAny (model prog w) A (call (.type "bytes") [.ref a]) Q E s:=by
 refine mw (codeAny_of_tree ?_)
 show wpAny _ A.in1.in1 (do checkBuiltinCall "bytes.__new__" ⟨[.type "bytes", .ref a],[]⟩;again (.builtin "bytes.__new__" ⟨[.type "bytes", .ref a],[]⟩)) _ _ s
 refine af (bG (F.bm_newCall _) (ao ⟨plainId_quiet F.bm_plain _,dE F.bm_entry ?_⟩))
 refine af (bG (a:=true) rfl ?_)
 refine bm_if_false rfl ?_
 refine af (bG F.bm_sub ?_)
 refine bm_if_false rfl ?_
 refine af (bG (F.bm_bind _) ?_)
 refine af (bG (a:=()) rfl ?_)
 refine af (bG (a:=()) rfl ?_)
 refine bm_if_false rfl ?_
 refine af (bN (cu e) tG ?_)
 refine af (af ?_)
 refine af (wpAny_load e ?_)
 refine ao (ao ?_)
 refine bm_if_false rfl ?_
 refine af (bN (cu e) we ?_)
 refine bm_if_true rfl ?_
 refine af ?_
 refine zH e ?_
 refine af (wpAny_rule ?_)
 refine af (wpAny_mkBytes ?_ (by refine ae aU▸ae d9▸ ?_;exact ad hz (by decide)))
 refine bm_if_true (by decide) ?_
 refine ao ⟨PySem.W.typeIs_bytes _ _ _,h _ _⟩
theorem ve{i:Int}{t:Tok}(h0:0<=i)(hz:i<=100000){Q:Value->Shared->Prop}(h:∀t k,Q (.bytes (List.replicate i.toNat 0).toArray t) { s with toks:=k }):wpAny (model prog w) A (call (.type "bytes") [.int i t]) Q E s:=by
 refine mw (codeAny_of_tree ?_)
 show wpAny _ A.in1.in1 (do checkBuiltinCall "bytes.__new__" ⟨[.type "bytes", .int i t],[]⟩;again (.builtin "bytes.__new__" ⟨[.type "bytes", .int i t],[]⟩)) _ _ s
 refine af (bG (F.bm_newCall _) (ao ⟨plainId_quiet F.bm_plain _,dE F.bm_entry ?_⟩))
 refine af (bG (a:=true) rfl ?_)
 refine bm_if_false rfl ?_
 refine af (bG F.bm_sub ?_)
 refine bm_if_false rfl ?_
 refine af (bG (F.bm_bind _) ?_)
 refine af (bG (a:=()) rfl ?_)
 refine af (bG (a:=()) rfl ?_)
 refine bm_if_false rfl ?_
 refine af (bN (typeIs_int _ i t) rM ?_)
 refine af (bG (a:=false) rfl ?_)
 refine bm_if_false rfl ?_
 refine af (bN (typeIs_int _ i t) F.slot_int_index.lookup ?_)
 refine bm_if_false rfl ?_
 refine af (wpAny_attempt (bG (a:=i) rfl ?_))
 dsimp only
 simp only[(fits_of (n:=100001) h0 (by exact Int.lt_of_le_sub_one hz) (by exact aj rfl)),Bool.not_true,Bool.false_eq_true,if_false]
 rw[if_neg (by exact Int.not_lt_of_ge h0)]
 rw[if_neg (by exact cZ.mpr (bp hz (by decide)))]
 rw[if_neg (show ¬(Bytes.tooLong i.toNat=true) by unfold Bytes.tooLong;refine ae aU▸ ?_;rw[decide_eq_true_eq];exact iw.mpr (ad (Int.toNat_le.mpr hz) (by decide)))]
 refine af (wpAny_rule ?_)
 refine af (wpAny_mkBytes ?_ (by refine ae aU▸ae Array.size_replicate▸ ?_;exact ad (Int.toNat_le.mpr hz) (by decide)))
 refine bm_if_true (by decide) ?_
 refine ao ⟨PySem.W.typeIs_bytes _ _ _, ?_⟩
 have:=h s.toks (s.toks+1)
 exact this
variable {cx:Cx}{n:Nat}{fd:Fd}
inductive i7(loc:Loc)(σ:MH)(Q:MV->Loc->MH->Prop):List MV->Prop where
 |oct {b} (h:Q (.bytes b) loc σ):i7 loc σ Q [.bytes b]
 |int {i:Int}(a:0<=i/\i<=100000)(h:Q (.bytes (List.replicate i.toNat 0)) loc σ):i7 loc σ Q [.int i]
 |ba {l b} (e:σ.get l=some (.bW b))(a:b.length<=100000)(h:Q (.bytes b) loc σ):i7 loc σ Q [.ref l]
 |list {l vs ns} (e:σ.get l=some (.list vs))(a:vs.length<=100000)(f:intsOf vs=some ns)(g:∀n∈ns,0<=n/\n < 256)(h:Q (.bytes (ns.map λn=>n.toNat.toUInt8)) loc σ):i7 loc σ Q [.ref l]
noncomputable abbrev P.bytes(as:List MV):P MV:=λloc σ Q _=>i7 loc σ Q as
theorem zZ : jA cx n fd (.type "bytes") P.bytes:=by
 intro as vs A ρ σ loc s Q X G hp hm
 generalize ey cx n fd A ρ σ s X=X'
 have fin : ∀ {b:List UInt8}{t:Tok}{k:Nat}{h':Heap},jH fd.env.locals s.heap h'->Q (.bytes b) loc σ->Out cx n fd A ρ σ s VR Q (.bytes b.toArray t) { s with heap:=h',toks:=k }:=
  λg h=>Out.pre (Step.grow G.di G.locals g _) (Out.now (G.grow g _) .bytes h)
 generalize Out cx n fd A ρ σ s VR Q=Q' at fin ⊢
 induction hm with
 |oct h=>apply hp.Jq;intro y r;apply r.dg;intro t;exact qx (fin .refl h)
 |int a h=>apply hp.Jq;intro y r;apply r.eH;intro t;exact ve a.1 a.2 λt k=>fin .refl h
 |ba e a h=>apply hp.eB;intro u;exact vP a (G.obj _ _ e).2 λt k=>fin .refl h
 |@list l vs ns e a f g h=>
  apply hp.eB;intro u
  refine aT (G.isList e) λxs i r2=> ?_
  exact call_bytes_ints (vs:=xs.toList) (by simpa using i) (rm r2 f) g (by refine ae r2.len▸ ?_;exact ad a (by decide)) G.ak.hh λh' t k hk=>fin (dM hk) h
end
section
variable {cx:Cx}{n:Nat}{fd:Fd}
inductive qI(loc:Loc)(σ:MH)(Q:MV->Loc->MH->Prop):List MV->Prop where
 |nil {r} (n:¬σ.us r)(h:Q (.ref r) loc (σ.new r (.bW []))):qI loc σ Q []
 |oct {b r} (a:b.length<=100000)(n:¬σ.us r)(h:Q (.ref r) loc (σ.new r (.bW b))):qI loc σ Q [.bytes b]
 |int {i:Int} {r} (a:0<=i/\i<=100000)(n:¬σ.us r)(h:Q (.ref r) loc (σ.new r (.bW (List.replicate i.toNat 0)))):qI loc σ Q [.int i]
noncomputable abbrev P.bytearray(as:List MV):P MV:=λloc σ Q _=>qI loc σ Q as
theorem rX : cQ cx n fd (.type "bytearray") P.bytearray:=by
 intro as vs A ρ σ loc s Q X G hp hm
 induction hm with
 |nil n h=>(refine ae hp.nil_inv▸ ?_);exact Dh λh' hk hb=>Out.vj G n s.toks (dM hk) (aG _) hb h
 |oct a n h=>apply hp.Jq;intro y r;apply r.dg;intro t;exact lA a λh' hk hb=>Out.vj G n s.toks (dM hk) (aG _) hb h
 |int a n h=>apply hp.Jq;intro y r;apply r.eH;intro t;exact ww a.1 a.2 λh' hk hb=>Out.vj G n s.toks (dM hk) (aG _) hb h
end
end Internal
namespace Internal
open PySem PySem.W PyProof.Rows PySem.Calls
section
variable {cx:Cx}{n:Nat}{fd:Fd}{A:Around}{ρ ρ' ρ₀:LA->Addr}{σ σ' σ₀:MH}{loc loc' loc₀:Loc}{s s₀ s':Shared}{U:LA->Prop}
noncomputable abbrev ig(cx:Cx)(n:Nat)(fd:Fd)(ifs:List Expr)(m:P Bool):Prop:=
 eO cx n fd cg.bool (forIn ifs true λc r=>if r=true then do let ok<-isTrue c fd.env (eval c fd.env);pure (ForInStep.yield ok) else pure (ForInStep.yield r)) m
theorem xi : ig cx n fd [] (P.ret true):=aM.pure λ_ _ _ _=>rfl
theorem xP{c:Expr}{m:P Bool}(h:gz cx n fd c m):ig cx n fd [c] m:=by
 intro A ρ σ loc s Q X G hp hm
 simp only[List.forIn_cons,List.forIn_nil,if_true]
 refine ai (ai (aD (h A ρ σ loc s Q X G hp hm) (λb s1 y=>ax (ax y)) λ_ _ y=>y))
noncomputable def P.lE(tg:MV->P Unit)(ts:P Bool)(el:P MV):Nat->It->List MV->P (List MV)
 |0,_,_=>P.fail
 |N+1,it,acc=>λloc σ Q X=>GF σ it (Q acc loc σ) λv it'=>acc.length<=100000/\tg v loc σ (λ_ l1 σ1=>ts l1 σ1 (λb l2 σ2=>bif b then
    el l2 σ2 (λy l3 σ3=>P.lE tg ts el N it' (acc++[y]) l3 σ3 Q X) X
   else P.lE tg ts el N it' acc l2 σ2 Q X) X) X
noncomputable def AccAt(ρ:LA->Addr)(U:LA->Prop)(h:Heap)(D:Addr)(acc:List MV):Prop:=∃xs ep,h.get? D=some { cls:= .type "list",data:= .seq xs ep }/\cR ρ U h acc xs.toList
theorem AccAt.step(G:Good cx n fd A ρ σ loc s){D:Addr}{acc:List MV}(a:AccAt ρ σ.us s.heap D acc)(W:gX cx fd s₀ ρ σ.us s D)(S:Step fd ρ σ.us s ρ' σ'.us s') :
  AccAt ρ' σ'.us s'.heap D acc/\gX cx fd s₀ ρ' σ'.us s' D:=by
 refine eA a λxs ep e r=> ?_
 refine dw (W.step G S) λW' k=> ?_
 exact⟨⟨xs,ep,k _ e,r.mono (S.keeps G)⟩,W'⟩
inductive JR(cx:Cx)(n:Nat)(fd:Fd)(A:Around)(ρ₀:LA->Addr)(U:LA->Prop)(s₀:Shared)(D:Addr)(Q:List MV->Loc->MH->Prop)(s':Shared):Prop
 |mk (acc:List MV)(ρ':LA->Addr)(σ':MH)(loc':Loc)(S:Step fd ρ₀ U s₀ ρ' σ'.us s')(G:Good cx n fd A ρ' σ' loc' s')(W:gX cx fd s₀ ρ' σ'.us s' D)(a:AccAt ρ' σ'.us s'.heap D acc)(q:Q acc loc' σ')
theorem LW{X:Addr->Loc->MH->Prop}{e:Value}(hX:∀C l m,X C l m->False)(h:ey cx n fd A ρ σ s X e s'):False:=by
 obtain⟨e,C,ρ',σ',loc',_,_,_,_,hx⟩:=h
 exact hX _ _ _ hx
theorem kK.heap{h h':Heap}{it:It}{v:Value}{as:List Addr}(I:kK ρ h it v as)(hk:∀a∈as,∀o,h.get? a=some o->h'.get? a=some o):kK ρ h' it v as:=by
 cases it with
 |lst l i=>obtain⟨a,rfl,rfl,o,ho,r⟩:=I;exact⟨a,rfl,rfl,o,hk a (.head _) o ho,r⟩
 |jK x left step=>refine pH I λa zr1_ zr2_ hI=> ?_;subst zr1_;subst zr2_;exact⟨a,rfl,rfl,hk a (.head _) _ hI⟩
 |nT l i=>obtain⟨e,a,old,rfl,rfl,hne,hE,o,ho,r⟩:=I;exact⟨e,a,old,rfl,rfl,hne,hk e (.head _) _ hE,o,hk a (.tail _ (.head _)) o ho,r⟩
 |rev l k=>obtain⟨a,rfl,rfl,o,ho,r⟩:=I;exact⟨a,rfl,rfl,o,hk a (.head _) o ho,r⟩
 |rF b i=>obtain⟨a,t,rfl,rfl,o,ho,r⟩:=I;exact⟨a,t,rfl,rfl,o,hk a (.head _) o ho,r⟩
theorem Be{U U':LA->Prop}(h:∀l,U l->U' l):∀ {it:It},it.use U->it.use U'
 | .lst _ _,u=>h _ u
 | .jK _ _ _,_=>trivial
 | .nT _ _,u=>h _ u
 | .rev _ _,u=>h _ u
 | .rF _ _,_=>trivial
noncomputable def qH(elt:Expr)(ifs:List Expr)(env:Env)(D:Addr)(c:Code):Sem Fin:=
 (forIn ifs true λc r=>if r=true then do let ok<-isTrue c env (eval c env);pure (ForInStep.yield ok) else pure (ForInStep.yield r)) >>= λok=>
  if ok=true then (eval elt env >>= λy=>call (.builtin "list.append") [.ref D,y] >>= λ_=>pure ()) >>= λ_=>again c else again c
structure ip(cx:Cx)(n:Nat)(fd:Fd)(A:Around)(ρ₀:LA->Addr)(U:LA->Prop)(s₀:Shared)(D:Addr)(v:Value)(as:List Addr)(target:Expr)(it:It)(acc:List MV)(ρ:LA->Addr)(σ:MH)(loc:Loc)(s:Shared):Prop where
 t : it.dT=true->c5 target=true
 G : Good cx n fd A ρ σ loc s
 S : Step fd ρ₀ U s₀ ρ σ.us s
 I : kK ρ s.heap it v as
 W : ∀a∈as,gX cx fd s₀ ρ σ.us s a
 WD : gX cx fd s₀ ρ σ.us s D
 AD : AccAt ρ σ.us s.heap D acc
theorem ip.step{v:Value}{as:List Addr}{D:Addr}{target:Expr}{it:It}{acc:List MV}(C:ip cx n fd A ρ₀ U s₀ D v as target it acc ρ σ loc s)(hu:it.use σ.us)(G':Good cx n fd A ρ' σ' loc' s')(S:Step fd ρ σ.us s ρ' σ'.us s') :
  ip cx n fd A ρ₀ U s₀ D v as target it acc ρ' σ' loc' s':=by
 exact⟨C.t,G',C.S.trans S,(C.I.step C.G hu C.W S).1,(C.I.step C.G hu C.W S).2,(C.AD.step C.G C.WD S).2,(C.AD.step C.G C.WD S).1⟩
theorem ip.add{v w:Value}{as:List Addr}{D:Addr}{target:Expr}{it:It}{acc:List MV}{m:MV}(C:ip cx n fd A ρ₀ U s₀ D v as target it acc ρ σ loc s)(hD:D∉as)(r:VR ρ σ.us s.heap m w)(hlen:acc.length<=100000){Q:Value->Shared->Prop}{E:Value->Shared->Prop}
  (h:∀s',ip cx n fd A ρ₀ U s₀ D v as target it (acc++[m]) ρ σ loc s'->Q .none s'):wpAny cx.M A (call (.builtin "list.append") [.ref D,w]) Q E s:=by
 refine eA C.AD λxs ep e5 r5=> ?_
 have l5:=r5.len
 rw[bu] at l5
 refine wpAny_list_append_plain ⟨_,e5⟩ (λh' ⟨ep',hl⟩ sb=> ?_) (by refine ae aU▸ ?_;exact ad (ad (aw l5) hlen) (by decide))
 have hk : ∀b o,b∉[D]->s.heap.get? b=some o->h'.get? b=some o:=λb o hb e=>(sb.2 b (λq=>hb (av.mpr q))).trans e
 have wD : ∀a∈[D],gX cx fd s₀ ρ σ.us s a:=λa ha=>av.mp ha▸C.WD
 have out : ∀a∈as,a∉[D]:=λa ha m=>hD (av.mp m▸ha)
 exact h _ ⟨C.t,(C.G.gg C.S (as:=[D]) wD (h':=h') s.toks hk).1,(C.G.gg C.S (as:=[D]) wD (h':=h') s.toks hk).2,C.I.heap λa ha o e=>hk a o (out a ha) e,λa ha=>(C.W a ha).set ((by refine aT ((C.W a ha).ex) λo e nt=> ?_;exact⟨o,hk a o (out a ha) e,nt⟩)),C.WD.set ⟨_,hl,cP⟩,⟨_,ep',hl,Array.toList_push.symm▸(r5.mono (ko wD hk)).append (.cons (r.mono (ko wD hk)) .nil)⟩⟩
theorem Ap{elt target:Expr}{ifs:List Expr}{tg:MV->P Unit}{ts:P Bool}{el:P MV}(ht:ew cx n fd target tg)(hts:ig cx n fd ifs ts)(hel:bO cx n fd elt el)
  {Q:List MV->Loc->MH->Prop}{X:Addr->Loc->MH->Prop}(hX:∀C l m,X C l m->False){v:Value}{as:List Addr}{D:Addr}(hD:D∉as){N:Nat}{R:Fin->Shared->Prop}{c:Code}
  (hd:∀s',JR cx n fd A ρ₀ U s₀ D Q s'->R (.done .next) s')(ha:∀it acc ρ σ loc s,ip cx n fd A ρ₀ U s₀ D v as target it acc ρ σ loc s->P.lE tg ts el N it acc loc σ Q X->R (.again c) s)
  {it:It}{acc:List MV}(C:ip cx n fd A ρ₀ U s₀ D v as target it acc ρ σ loc s)(hm:P.lE tg ts el (N+1) it acc loc σ Q X) :
  cW cx.M A (pyNext v >>= λr=>match r with
    |none=>pure (.done .next)
    |some x=>letOwnedTupleGo target v x >>= λ_=>assign target fd.env x >>= λ_=>qH elt ifs fd.env D c) R (λ_ _=>False) s:=by
 have run : ∀ {r},Nx σ it r->(∀r' s',After cx n fd A ρ₀ U s₀ ρ σ loc s as s'->EA cx fd s₀ ρ σ.us s' v as r r'->match r' with
    |none=>R (.done .next) s'
    |some x=>cW cx.M A (assign target fd.env x >>= λ_=>qH elt ifs fd.env D c) R (λ_ _=>False) s')->cW cx.M A (pyNext v >>= λr=>match r with
    |none=>pure (.done .next)
    |some x=>letOwnedTupleGo target v x >>= λ_=>assign target fd.env x >>= λ_=>qH elt ifs fd.env D c) R (λ_ _=>False) s:=λhr h=>by
  refine ai (aD (.of (wK (target:=target) C.G C.S C.I C.W hr C.t (E:=λ_ _=>False) h)) (λr' s1 y=> ?_) λ_ _ y=>y.elim)
  cases r' with
  |none=>exact ax y
  |some x=>exact ai (.of (wpAny_mono y (λ_ _ z=>z) λ_ _ z=>z.elim))
 have acc2 : ∀ {s2},After cx n fd A ρ₀ U s₀ ρ σ loc s as s2->AccAt ρ σ.us s2.heap D acc/\gX cx fd s₀ ρ σ.us s2 D:=λF=>by
  refine eA C.AD λxs ep e ra=> ?_
  exact⟨⟨xs,ep,(F.keep D _ hD e),ra.mono (ko C.W F.keep)⟩,⟨C.WD.new,C.WD.un,C.WD.cI,C.WD.out,C.WD.cell,C.WD.top,_,(F.keep D _ hD e),cP⟩⟩
 induction hm with
 |stop hr hm=>
  refine run hr λr' s2 F nr=> ?_
  cases nr
  exact hd _ ⟨acc,ρ,σ,loc,F.S,F.G,(acc2 F).2,(acc2 F).1,hm⟩
 |@turn w it2 hr hm=>
  refine run hr λr' s2 F nr=> ?_
  apply nr.Hc
  intro x rv I2 W2
  have hn:=yO C.G hr
  refine ai (aD (ht w x A ρ σ loc s2 _ X F.G rv hm.2) (λ_ s3 z=> ?_) λ_ _ z=>LW hX z)
  obtain⟨_,ρ3,σ3,l3,S3,G3,_,hq⟩:=z
  refine ai (aD (hts A ρ3 σ3 l3 s3 _ X G3 trivial hq) (λb s4 z=> ?_) λ_ _ z=>LW hX z)
  obtain⟨b',ρ4,σ4,l4,S4,G4,rfl,hq⟩:=z
  have C4:=(show ip cx n fd A ρ₀ U s₀ D v as target it2 acc ρ σ loc s2 from ⟨λq=>C.t (hn.1▸q),F.G,F.S,I2,W2,(acc2 F).2,(acc2 F).1⟩).step hn.2 G4 (S3.trans S4)
  cases b' with
  |false=>exact ax (ha _ _ _ _ _ _ C4 hq)
  |true=>
   refine ai (ai (aD (hel A ρ4 σ4 l4 s4 _ X G4 trivial hq) (λy s5 z=> ?_) λ_ _ z=>LW hX z))
   obtain⟨my,ρ5,σ5,l5,S5,G5,ry,hq⟩:=z
   exact ai (.of ((C4.step (Be (λl u=>((S3.trans S4).us l u).1) hn.2) G5 S5).add hD ry hm.1 λs6 C6=>ax (ax (ha _ _ _ _ _ _ C6 hq))))
theorem zB{elt target iter:Expr}{ifs:List Expr}{scope:Scope}{pos:Pos}{tg:MV->P Unit}{ts:P Bool}{el:P MV}(ht:ew cx n fd target tg)(hts:ig cx n fd ifs ts)(hel:bO cx n fd elt el)
  {Q:List MV->Loc->MH->Prop}{X:Addr->Loc->MH->Prop}(hX:∀C l m,X C l m->False){v:Value}{as:List Addr}{D:Addr}(hD:D∉as)(N:Nat):∀ (it:It)(acc:List MV)(ρ:LA->Addr)(σ:MH)(loc:Loc)(s:Shared),
  ip cx n fd A ρ₀ U s₀ D v as target it acc ρ σ loc s->P.lE tg ts el N it acc loc σ Q X->
  codeN cx.M A (.compLoop (.ListComp elt [⟨target,iter,ifs,0⟩] scope pos) 0 v (.ref D) fd.env) (λr s'=>r= .ok .next/\JR cx n fd A ρ₀ U s₀ D Q s') s:=by
 induction N with
 |zero=>exact λ_ _ _ _ _ _ _ hm=>hm.elim
 |succ N ih=>
  intro it acc ρ σ loc s C hm
  refine bP (λ_ _ _ _=>rfl) ?_
  show cW _ A ((compTurn (.ListComp elt [⟨target,iter,ifs,0⟩] scope pos) 0 v (.ref D) fd.env).onRaise (λx=>do noteFrame x fd.env;theTreesLotGoes x)) _ _ s
  refine dx (aD (E:=λ_ _=>False) ?_ (λ_ _ y=>y) λ_ _ y=>y.elim)
  refine ae (compTurn_list ..)▸ ?_
  refine ai (bB (Ap ht hts hel hX hD (λs' o=>⟨rfl,o⟩) (λit acc ρ σ loc s C hm=>⟨rfl,ih it acc ρ σ loc s C hm⟩) C hm))
end
noncomputable def closed(env:Env)(names:List (Str×NameKind)):List (Str×Addr):=names.reverse.filterMap λx=>if x.2= .free then (env.cells.lookup x.1).map λc=>(x.1,c) else none
theorem mq(env:Env):∀ (names:List (Str×NameKind))(acc:List (Str×Addr)),(∀x∈names,x.2= .free->(env.cells.lookup x.1).isSome=true)->
  (forIn names acc λx (cs:List (Str×Addr))=>(if (x.2==NameKind.free)=true then do let c<-cellOf env x.1;pure (ForInStep.yield ((x.1,c)::cs)) else pure (ForInStep.yield cs):Sem (ForInStep (List (Str×Addr)))))=pure (closed env names++acc)
 | [],acc,_=>rfl
 | (x,k)::r,acc,h=>by
  refine (List.forIn_cons ..).trans ?_
  have hr : ∀x∈r,x.2= .free->(env.cells.lookup x.1).isSome=true:=λy hy=>h y (aB _ hy)
  by_cases q : k= .free
  ·subst q
   refine cN (cb.mp (h (x, .free) aV rfl)) λc hc=> ?_
   simp only[beq_self_eq_true,if_true,(show cellOf env x=pure c by unfold cellOf;exact ae hc▸rfl),pure_bind]
   refine (((mq env r) _ hr)).trans ?_
   simp[closed,hc]
  ·have hb : (k==NameKind.free)=false:=by simpa using q
   simp only[hb,Bool.false_eq_true,if_false,pure_bind]
   refine (((mq env r) _ hr)).trans ?_
   simp[closed,q]
theorem r8{scope:Scope}{env:Env}(h:∀x∈scope.names,x.2= .free->(env.cells.lookup x.1).isSome=true):closureFor scope env=pure (closed env scope.names):=by
 have:=mq env scope.names [] h
 rw[cK] at this
 dsimp only[closureFor]
 rw[<-bind_pure (pure (closed env scope.names)),<-this]
theorem md{env:Env}{names:List (Str×NameKind)}{c:Str×Addr}(h:c∈closed env names):(c.1,NameKind.free)∈names/\env.cells.lookup c.1=some c.2:=by
 refine aT (cS.mp h) λzo0_ hx he=> ?_;obtain⟨x,k⟩:=zo0_
 rw[List.mem_reverse] at hx
 split at he
 ·rename_i q
  dsimp only at q
  refine aT (be.mp he) λa ha zr2_=> ?_;subst zr2_
  subst q
  exact⟨hx,ha⟩
 ·exact nomatch he
theorem sF{env:Env}{names:List (Str×NameKind)}(_nd:(names.map (·.1)).Nodup){x:Str}{a:Addr}(h:(x,NameKind.free)∈names)(ha:env.cells.lookup x=some a):(closed env names).lookup x=some a:=by
 cases q : (closed env names).lookup x with
 |none=>
  replace q:=List.lookup_eq_none_iff.mp q
  have:=q _ (show (x,a)∈closed env names from cS.mpr ⟨(x, .free),List.mem_reverse.mpr h,by simp[ha]⟩)
  simp at this
 |some b=>
  have m:=md (mem_of_lookup q)
  rw[ha] at m
  exact m.2.symm▸rfl
theorem uJ{env:Env}{names:List (Str×NameKind)}(nd:(names.map (·.1)).Nodup)(ap:env.cells.Pairwise λx y=>x.2≠y.2):(closed env names).Pairwise λx y=>x.2≠y.2:=by
 refine List.Pairwise.filterMap (R:=λx y=>x.1≠y.1) _ (λx y hxy b hb c hc=> ?_) (List.pairwise_reverse.mpr ?_)
 ·intro e
  obtain⟨x,k⟩:=x
  obtain⟨y,l⟩:=y
  dsimp only at hxy hb hc
  split at hb
  ·split at hc
   ·refine aT (be.mp hb) λa ha zr2_=> ?_;subst zr2_
    refine aT (be.mp hc) λa' ha' zr2_=> ?_;subst zr2_
    dsimp only at e
    subst e
    exact hxy (name_of_addr ap (mem_of_lookup ha) (mem_of_lookup ha'))
   ·exact nomatch hc
  ·exact nomatch hb
 ·have:=List.pairwise_map.mp nd
  exact this.imp λh=>Ne.symm h
structure i5(fd:Fd)(scope:Scope)(cn:List Str)(cmap:List (Option Nat)):Prop where
 hk : scope.kind= .function
 Jb : ∀x∈scope.names,x.2≠ .cell
 nl : ∀x∈scope.names,x.2= .local->scope.names.lookup x.1=some .local
 nd : (scope.names.map (·.1)).Nodup
 fr : ∀x∈scope.names,x.2= .free->∃ (i j:Nat),cn[i]?=some x.1/\cmap[i]?=some (some j)
 MS : ∀ (i j:Nat)(x:Str),cn[i]?=some x->cmap[i]?=some (some j)->fd.names[j]?=some x/\(x,NameKind.free)∈scope.names/\(fd.env.kindOf x=some .cell∨fd.env.kindOf x=some .free)
noncomputable abbrev Fd.comp(fd:Fd)(scope:Scope)(cn:List Str)(C:Addr):Fd:=
 { env:=compEnvC scope (closed fd.env scope.names) C fd.env,names:=cn,cI:=[C],outer:=fd.gB,gB:=fd.gB }
noncomputable def eS(cmap:List (Option Nat))(loc:Loc):Loc:=cmap.map λo=>o.bind λi=>(loc[i]?).join
noncomputable def oz(cmap:List (Option Nat))(loc:Loc):Prop:=∀ (i j:Nat),cmap[i]?=some (some j)->∃v,loc[j]?=some (some v)
theorem tH{names:List (Str×NameKind)}(nd:(names.map (·.1)).Nodup){x:Str}{k:NameKind}(h:(x,k)∈names):names.lookup x=some k:=by
 induction names with
 |nil=>cases h
 |cons p r ih=>
  obtain⟨y,l⟩:=p
  replace nd:=List.nodup_cons.mp nd
  refine Or.elim (aK.mp h) (λq=> ?_) λq=> ?_
  ·cases q;simp[List.lookup_cons]
  ·have : x≠y:=λe=>nd.1 (e▸cq.mpr ⟨_,q,rfl⟩)
   refine (List.lookup_cons).trans ?_;refine ae (show (x==y)=false by simpa using this)▸ ?_;exact ih nd.2 q
theorem mU{env:Env}:∀ {names:List (Str×NameKind)}{x:Str},names.lookup x=some .free->
  (names.map λ(n,k)=>if (k==NameKind.free&&env.scope.kind== .function&&env.kindOf n==some .cell) then (n,NameKind.cell) else (n,k)).lookup x≠some .local
 | [],_,h=>by simp at h
 | (n,k)::r,x,h=>by
  show List.lookup x ((if (k==NameKind.free&&env.scope.kind== .function&&env.kindOf n==some .cell)=true then (n,NameKind.cell) else (n,k))::_)≠_
  cases hx : x==n with
  |true=>
   simp only[List.lookup_cons,hx] at h
   cases h
   split<;>simp[List.lookup_cons,hx]
  |false=>
   simp only[List.lookup_cons,hx] at h
   split<;>(simp only[List.lookup_cons,hx];exact (@mU env r x) h)
section
variable {cx:Cx}{n:Nat}{fd:Fd}{A:Around}{ρ ρ' ρ₀:LA->Addr}{σ σ' σ₀:MH}{loc loc' loc₀:Loc}{s s₀ s':Shared}{U:LA->Prop}{scope:Scope}{cn:List Str}{cmap:List (Option Nat)}
theorem i5.cells(K:i5 fd scope cn cmap)(G:Good cx n fd A ρ σ loc s)(hc:oz cmap loc):∀x∈scope.names,x.2= .free->(fd.env.cells.lookup x.1).isSome=true:=λx hx hf=>by
 refine eA (K.fr x hx hf) λi j h1 h2=> ?_
 refine ie (K.MS i j _ h1 h2) λf1 f2 f3=> ?_
 refine cN (hc i j h2) λv hv=> ?_
 obtain⟨m,ns,q⟩:=G.loc
 refine eA ((q j x.1 v f1 hv).2 f3) λc _ e _=> ?_
 exact ah _ e
theorem Good.comp(G:Good cx n fd A ρ σ loc s)(hkd:fd.env.scope.kind≠ .module)(K:i5 fd scope cn cmap)(hc:oz cmap loc){h':Heap}{t:Nat}{C:Addr}{mC:Str->Option Value}(hk:∀b o,s.heap.get? b=some o->h'.get? b=some o)
  (hC:s.heap.objs.size<=C)(ns:h'.Ns C mC):Good cx n (fd.comp scope cn C) A ρ σ (eS cmap loc) { s with heap:=h',toks:=t }:=by
 have k : fh ρ σ.us s.heap ρ σ.us h':=⟨λ_ u=>⟨u,rfl⟩,λa o e _=>hk a o e⟩
 have out : ∀b o,s.heap.get? b=some o->b≠C:=λb o e q=>iH hC (q▸aS e)
 have Jw : ∀a∈fd.gB.filterMap (·.frame),At cx.h0.objs.size ρ σ.us h' a .dict:=λa m=>⟨(G.Jz a m).1,(G.Jz a m).2,(by refine iR (G.Jw a m) λo es ep e d=> ?_;exact⟨o,hk a o e,es,ep,d⟩)⟩
 have nof : C∉fd.gB.filterMap (·.frame):=λm=>(by refine iR (G.Jw C m) λo _ _ e _=> ?_;exact out C o e rfl)
 have mc : ∀c∈(fd.comp scope cn C).env.cells,∃y,(y,c.2)∈fd.env.cells:=λc hc=>⟨_,mem_of_lookup (md hc).2⟩
 refine⟨λl o e=>have z:=G.obj l o e;⟨z.1,z.2.mono k λ_=>hk _ _⟩,G.inj,λl u=>let ⟨h1,o,h2,h3⟩:=G.low l u;⟨h1,o,hk _ _ h2,h3⟩,λb o e=>hk _ _ (G.top b o e),⟨mC,ns,λi x mv hi hl=> ?_⟩,λsp=> ?_,
  ⟨av.mpr rfl,uJ K.nd G.st.D1,λc hc=> ?_,λa m=>av.mp m▸nof,λc hc m=> ?_,λe he=> ?_, .inl rfl⟩,G.ak,G.gens⟩
 ·unfold eS at hl
  rw[bc,be] at hl
  refine aT hl λoj hj he=> ?_
  cases oj with
  |none=>cases he
  |some j=>
   refine ie (K.MS i j x hi hj) λf1 f2 f3=> ?_
   have hv : loc[j]?=some (some mv):=(by refine cN (hc i j hj) λ_ hv=> ?_;exact hv.trans (ah some ((ah (Option.bind · id) hv).symm.trans he)))
   obtain⟨m,_,q⟩:=G.loc
   refine eT ((q j x mv f1 hv).2 f3) λc v e1 zo3_ r=> ?_;refine aT zo3_ λoc e2 e3=> ?_
   exact⟨λz=>(mU (tH K.nd f2) z).elim,λ_=>⟨c,v,sF K.nd f2 e1,⟨oc,hk _ _ e2,e3⟩,r.mono k⟩⟩
 ·induction sp with
  |cI h=>exact av.mp h▸⟨ad G.oQ hC,λl u=>let ⟨_,o,e,_⟩:=G.low l u;out _ o e,(by refine sd ns λo _ _ e d _=> ?_;exact⟨o,e,ca d⟩)⟩
  |cell h=>
   obtain⟨y,m⟩:=mc _ h
   exact have p:=G.foot (.cell m);⟨p.z,p.u,let ⟨o,e,f⟩:=p.e;⟨o,hk _ o e,f⟩⟩
  |frame h=>exact Jw _ h
 ·exact (by refine cN (mc _ hc) λ_ m=> ?_;exact let ⟨o,e,_⟩:=(G.foot (.cell m)).e;out _ o e)
 ·refine cN (mc _ hc) λy z=> ?_
  exact (G.jk m).elim (G.iu (y,c.2) z) (G.st.co (y,c.2) z)
 ·rcases G.Ll with q | ⟨q,qf,_⟩
  ·exact G.st.km e (q▸(he))
  ·refine Or.elim (aK.mp (q▸show e∈fd.gB from he)) (λz=> ?_) λz=> ?_
   ·exact z.symm▸⟨hkd,_,qf⟩
   ·exact G.st.km e z
end
section
variable {M:Model}{A:Around}{E:Value->Shared->Prop}{s:Shared}{env:Env}
theorem vF{α:Type}{c:Prop} [Decidable c] {pos:Pos}{k:PUnit->Sem α}{Q:α->Shared->Prop}(h:cW M A (k ()) Q E s):cW M A (if c then (standAt pos >>= k) else k ()) Q E s:=by
 split
 ·exact ai (bB h)
 ·exact h
noncomputable def yh(M:Model)(A:Around)(E:Value->Shared->Prop)(use:Option (Value->Sem Unit))(Q:Value->Shared->Prop)(acc:Value)(C:Addr)(r:Result)(s':Shared):Prop:=
 (∃f,r= .ok f)/\match use with
 |none=>∃m,s'.heap.Ns C m/\∀h',Heap.SameBut C s'.heap h'->Q acc { s' with heap:=h' }
 |some u=>cW M A (u acc) (λ_ s''=>∃m,s''.heap.Ns C m/\∀h',Heap.SameBut C s''.heap h'->Q .none { s'' with heap:=h' }) E s'
theorem BA{e:Expr}{scope:Scope}{pos:Pos}{newAcc first:Sem Value}{g:Comprehension}{gs:List Comprehension}{use:Option (Value->Sem Unit)}{Q:Value->Shared->Prop}
  (hcl:clausesOf e=g::gs)(hkind:scope.kind= .function)(hnames:∀x∈scope.names,x.2= .local->scope.names.lookup x.1=some .local)
  (h:cW M A first (λx s₁=>cW M A (foldedSetIterable g.iter env x) (λx s₁=>cW M A (pyIter x) (λit s₂=>∃cl,closureFor scope env=pure cl/\cW M A newAcc (λacc s₃=>
   cW M A (newFunctionEnv scope env.globals cl [] env.qual none .none (some env)) (λcenv s₄=>
    codeN M A (.compStart e 0 it acc { cenv with scope:=relabel scope env }) (yh M A E use Q acc cenv.locals) s₄) E s₃) E s₂) E s₁) E s₁) E s) :
  cW M A (comprehension e scope env pos newAcc false first use) Q E s:=by
 unfold comprehension
 refine ae hcl▸ ?_
 refine ai (aD h (λx s₁ h₁=>ai (bB (ai (aD h₁ (λx s₁ h₁=>ai (aJ (aD h₁ (λit s₂ h₂=> ?_) λ_ _ h'=>h'))) λ_ _ h'=>h')))) λ_ _ h'=>h')
 refine aT h₂ λcl hclos h₂=> ?_
 refine ae hclos▸ ?_
 refine vF (ai (aD h₂ (λacc s₃ h₃=>ai (ax (ai (aD h₃ (λcenv s₄ h₄=> ?_) λ_ _ h'=>h')))) λ_ _ h'=>h'))
 dsimp only
 have hv : ∀x∈(scope.names.filter λx=>(x.2== .local||x.2== .cell)&&x.1 != (".0" : Str)).reverse,x.2= .local->
   Env.kindOf { cenv with scope:=relabel scope env } x.1=some .local:=λx hx hl=>lookup_relabel_local (hnames x (List.mem_filter.mp (List.mem_reverse.mp hx)).1 hl)
 have hv' : ∀x∈(scope.names.filter λx=>(x.2== .local||x.2== .cell)&&x.1 != (".0" : Str)).reverse.drop 1++(scope.names.filter λx=>(x.2== .local||x.2== .cell)&&x.1 != (".0" : Str)).reverse.take 1,
   x.2= .local->Env.kindOf { cenv with scope:=relabel scope env } x.1=some .local:=λx hx hl=>by
  refine Or.elim (bI.mp hx) (λh1=> ?_) λh1=> ?_
  ·exact hv x (List.mem_of_mem_drop h1) hl
  ·exact hv x (List.mem_of_mem_take h1) hl
 refine aJ (ai (j5 (aJ (tC (eW h₄ λr s' hr=> ?_)))))
 obtain⟨⟨f,rfl⟩,hr⟩:=hr
 cases use with
 |none=>
  refine aT hr λm hn hr=> ?_
  exact ai (aJ (.of (wpAny_comp_letGo (cenv:={ cenv with scope:=relabel scope env }) hkind _ s' m hv hn λh' m' _ hs'=>ax (hr h' hs'))))
 |some u=>
  refine ai (qW (ai (aJ (aD hr (λ_ s'' hr'=> ?_) λ_ _ h'=>h'))))
  refine aT hr' λm hn hr'=> ?_
  exact ai (.of (wpAny_comp_letGo (cenv:={ cenv with scope:=relabel scope env }) hkind _ s'' m hv' hn λh' m' _ hs'=>ax (hr' h' hs')))
end
noncomputable def It.plain : It->Bool
 | .lst .. | .jK ..=>true
 |_=>false
section
variable {cx:Cx}{n:Nat}{fd:Fd}{A:Around}{ρ ρ' ρ₀:LA->Addr}{σ σ' σ₀:MH}{loc loc' loc₀:Loc}{s s₀ s':Shared}{U:LA->Prop}{scope:Scope}{cn:List Str}{cmap:List (Option Nat)}
theorem xK{it:It}{v:Value}{as:List Addr}(I:kK ρ s.heap it v as)(hp:it.plain=true){Q:Value->Shared->Prop}{E:Value->Shared->Prop}(h:Q v s):wpAny cx.M A (pyIter v) Q E s:=by
 cases it with
 |lst l i=>obtain⟨a,rfl,rfl,hI⟩:=I;exact wpAny_pyIter_listiter hI h
 |jK x left step=>obtain⟨a,rfl,rfl,hI⟩:=I;exact wpAny_pyIter_rangeiter hI h
 |nT l i=>cases hp
 |rev l k=>cases hp
 |rF b i=>cases hp
theorem wC{elt target iter ifs rest scope pos it acc env} {R:Result->Shared->Prop}(hs:∀ {A:Around}{Q:Value->Shared->Prop}{E:Value->Shared->Prop},Q it s->wpAny cx.M A (pyIter it) Q E s)
  (h0:codeN cx.M A (.compLoop (.ListComp elt (⟨target,iter,ifs,0⟩::rest) scope pos) 0 it acc env) R s) :
  codeN cx.M A (.compStart (.ListComp elt (⟨target,iter,ifs,0⟩::rest) scope pos) 0 it acc env) R s:=by
 refine bP (λ_ _ _ _=>rfl) ?_
 refine dx (aD (E:=λ_ _=>False) (Q:=λfin s'=>fin= .again (.compLoop (.ListComp elt (⟨target,iter,ifs,0⟩::rest) scope pos) 0 it acc env)/\s'=s) (.of ?_) (λfin s' y=> ?_) λ_ _ y=>y.elim)
 ·skip
  refine af (wpAny_askSetting (wpAny_ite ?_))
  split
  ·first
    |exact af (ao (ao ⟨rfl,rfl⟩))
    |exact ao ⟨rfl,rfl⟩
  ·first
    |exact af (wpAny_rule (af (ce (af (hs (ao ⟨rfl,rfl⟩))))))
    | (refine af (wpAny_rule ?_);show wpAny _ _ (standAt iter.pos >>= _) _ _ s;exact af (ce (af (hs (ao ⟨rfl,rfl⟩)))))
 ·obtain⟨rfl,rfl⟩:=y
  exact⟨rfl,h0⟩
theorem z9{elt target iter:Expr}{ifs:List Expr}{pos:Pos}{tg:MV->P Unit}{ts:P Bool}{el:P MV}{s3 s5:Shared}{C D:Addr}(K:i5 fd scope cn cmap)(hkd:fd.env.scope.kind≠ .module)
  (ht:ew cx n (fd.comp scope cn C) target tg)(hts:ig cx n (fd.comp scope cn C) ifs ts)(hel:bO cx n (fd.comp scope cn C) elt el){Fin:List MV->Loc->MH->Prop}{R:Result->Shared->Prop}{it:It}{v:Value}{as:List Addr}{N:Nat}{mC:Str->Option Value}
  (S1:Step fd ρ₀ σ₀.us s₀ ρ σ.us s3)(G1:Good cx n fd A ρ σ loc s3)(I1:kK ρ s3.heap it v as)(W1:∀a∈as,gX cx fd s₀ ρ σ.us s3 a)(h1:it.dT=true->c5 target=true)(hpl:it.plain=true)(hcap:oz cmap loc)
  (hq:P.lE tg ts el N it [] (eS cmap loc) σ (λacc _ σ'=>Fin acc loc σ') (λ_ _ _=>False))(hD:s3.heap.objs.size=D)(hDC:D < C)(rest:∃h' tk,s5={ s3 with heap:=h',toks:=tk })
  (old:∀b o,s3.heap.get? b=some o->s5.heap.get? b=some o)(hacc:s5.heap.get? D=some { cls:= .type "list",data:= .seq #[] }) (ns:s5.heap.Ns C mC)
  (hend:∀acc ρ' σ' s' m,Step fd ρ₀ σ₀.us s₀ ρ' σ'.us s'->Good cx n fd A ρ' σ' loc s'->gX cx fd s₀ ρ' σ'.us s' D->AccAt ρ' σ'.us s'.heap D acc->gX cx fd s₀ ρ' σ'.us s' C->s'.heap.Ns C m->Fin acc loc σ'->R (.ok .next) s') :
  codeN cx.M A (.compStart (.ListComp elt [⟨target,iter,ifs,0⟩] scope pos) 0 v (.ref D) (fd.comp scope cn C).env) R s5:=by
 have hC0 : s3.heap.objs.size<=C:=ad (aw hD) (aL hDC)
 have G5 : Good cx n (fd.comp scope cn C) A ρ σ (eS cmap loc) s5:=by
  refine fv rest λh' tk zr2_=> ?_;subst zr2_
  exact G1.comp hkd K hcap old hC0 ns
 have H:=G1.gg S1 W1 (h':=hideAll s3.heap as) s3.toks λb o m e=>hideAll_get _ e m
 have lt3 : ∀ {b o},s3.heap.get? b=some o->b < D:=λe=>hD▸aS e
 have asLt : ∀a∈as,a < D:=λa ha=>(by refine aT ((W1 a ha).ex) λ_ e _=> ?_;exact lt3 e)
 have hid : ∀a∈as,({ s3 with heap:=hideAll s3.heap as }:Shared).heap.get? a=none:=λa ha=>hideAll_none _ ha
 have gone : ∀a,D<=a->({ s3 with heap:=hideAll s3.heap as }:Shared).heap.get? a=none:=λa ha=>Option.eq_none_iff_forall_ne_some.mpr λo q=>(iw.mpr ha (lt3 (of_hideAll _ q))).elim
 have S5 : Step (fd.comp scope cn C) ρ σ.us { s3 with heap:=hideAll s3.heap as } ρ σ.us s5:=by
  have k:=λa o e=>old a o (of_hideAll (h:=s3.heap) as e)
  refine fv rest λh' tk zr2_=> ?_;subst zr2_
  exact⟨⟨_,_,rfl⟩,λa o e=>⟨o,k a o e⟩,λ_ u=>⟨u,rfl⟩,λ_ u nu=>absurd u nu,λa o e _ _ _=>k a o e,λa o e _ _ _=>⟨o.slots,k a o e⟩⟩
 generalize { s3 with heap:=hideAll s3.heap as }=s4 at *
 have fresh : ∀ {a},s3.heap.objs.size<=a->(∃o,s5.heap.get? a=some o/\¬IsTup o)->gX cx fd s₀ ρ σ.us s5 a:=λha e=>gX.fresh G1 ha S1 e
 have toComp : ∀ {a},gX cx fd s₀ ρ σ.us s5 a->a≠C->s4.heap.get? a=none->gX cx (fd.comp scope cn C) s4 ρ σ.us s5 a:=λ{a} w ne hn=>
  ⟨hn,w.un,λm=>ne (av.mp m),λm=>(G1.jk m).elim (λq=>w.cI (q▸G1.di)) w.out,λc hc=>w.cell _ (mem_of_lookup (md hc).2),w.top,w.ex⟩
 have W5 : ∀a∈as,gX cx (fd.comp scope cn C) s4 ρ σ.us s5 a:=λa ha=>have w:=W1 a ha
  toComp ⟨w.new,w.un,w.cI,w.out,w.cell,w.top,(by refine aT w.ex λo e nt=> ?_;exact⟨o,old a o e,nt⟩)⟩ (bw (cG (asLt a ha) hDC)) (hid a ha)
 have fD:=fresh (aw hD) ⟨_,hacc,cP⟩
 have fC:=fresh hC0 ((by refine sd ns λo _ _ e d _=> ?_;exact⟨o,e,ca d⟩))
 refine wC (λ{_ _ _} h=>xK (I1.heap λa _ o e=>old a o e) hpl h) (eW (zB (fd:=fd.comp scope cn C) ht hts hel (X:=λ_ _ _=>False) (λ_ _ _ z=>z) (λm=>Nat.lt_irrefl _ (asLt D m)) N it [] ρ σ (eS cmap loc) _
  ⟨h1,G5,S5,(I1.heap λa _ o e=>old a o e),W5,toComp fD (bw hDC) (gone D (aG _)),⟨#[],0,hacc, .nil⟩⟩ hq) λr s' y=> ?_)
 obtain⟨rfl,acc,ρ',σ',l',S',G',WD',AD',hF⟩:=y
 have B:=H.1.back ⟨_,_,rfl⟩ (λ_ _ e=>e) S' G' rfl λa m=>av.mp m▸gone C (aL hDC)
 obtain⟨mC,Lf⟩:=G'.locals
 exact hend acc ρ' σ' s' mC (H.2.trans B.2) B.1 ⟨fD.new,WD'.un,fD.cI,fD.out,fD.cell,fD.top,WD'.ex⟩ AD' ⟨fC.new,(G'.foot (.cI (av.mpr rfl))).u,fC.cI,fC.out,fC.cell,fC.top,(G'.foot (.cI (av.mpr rfl))).e⟩ Lf hF
theorem sS{elt target iter:Expr}{ifs:List Expr}{pos pos':Pos}{mi:P It}{tg:MV->P Unit}{ts:P Bool}{el:P MV}(K:i5 fd scope cn cmap)(hkd:fd.env.scope.kind≠ .module)
  (hi:qP cx n fd iter mi)(ht:∀C,ew cx n (fd.comp scope cn C) target tg)(hts:∀C,ig cx n (fd.comp scope cn C) ifs ts)(hel:∀C,bO cx n (fd.comp scope cn C) elt el)
  {use:Option (Value->Sem Unit)}{Qv:Value->Shared->Prop}{X:Addr->Loc->MH->Prop}{Fin:List MV->Loc->MH->Prop}(G:Good cx n fd A ρ σ loc s)
  (hm:mi loc σ (λit l1 σ1=>(it.dT=true->c5 target=true)/\it.plain=true/\oz cmap l1/\∃N,P.lE tg ts el N it [] (eS cmap l1) σ1 (λacc _ σ'=>Fin acc l1 σ') (λ_ _ _=>False)) X)
  (hend:∀D C acc ρ' σ' l1 s' m,Step fd ρ σ.us s ρ' σ'.us s'->Good cx n fd A ρ' σ' l1 s'->gX cx fd s ρ' σ'.us s' D->AccAt ρ' σ'.us s'.heap D acc->gX cx fd s ρ' σ'.us s' C->D≠C->cx.h0.objs.size<=D->s'.heap.Ns C m->Fin acc l1 σ'->
   yh cx.M A (ey cx n fd A ρ σ s X) use Qv (.ref D) C (.ok .next) s') :
  cW cx.M A (comprehension (.ListComp elt [⟨target,iter,ifs,0⟩] scope pos) scope fd.env pos' (newList []) false (eval iter fd.env) use) Qv (ey cx n fd A ρ σ s X) s:=by
 refine BA rfl K.hk K.nl (aD (hi A ρ σ loc s _ X G hm) (λx s1 y=>aD y (λx' s2 y=>aD y (λit s3 y=> ?_) λ_ _ y=>y) λ_ _ y=>y) λ_ _ y=>y)
 obtain⟨i,as,ρ1,σ1,l1,S1,G1,I1,W1,h1,hpl,hcap,N,hq⟩:=y
 generalize ey cx n fd A ρ σ s X=E' at hend ⊢
 refine⟨_,r8 (K.cells G1 hcap), .of (wpAny_newObj_type (cW.of (wpAny_newFunctionEnv K.Jb (by intro y hy;simp at hy) (λh₁ hns₁ hsb₁=> ?_) K.hk)))⟩
 have hC:=Heap.size_push s3.heap { cls:= .type "list",dict:=none,data:= .seq ([]:List Value).toArray }
 have lt : ∀ {b},b<=s3.heap.objs.size->b≠(s3.heap.push { cls:= .type "list",dict:=none,data:= .seq ([]:List Value).toArray }).objs.size:=λh=>bw (hC▸Nat.lt_succ_of_le h)
 exact z9 K hkd (ht _) (hts _) (hel _) S1 G1 I1 W1 h1 hpl hcap hq rfl (hC▸Nat.lt_succ_self _) ⟨_,_,rfl⟩ (λb o e=>hsb₁.extBut b o (lt (aL (aS e))) (aI _ (aI _ e)))
  (hsb₁.extBut _ _ (lt (aG _)) (aI _ (aQ _ rfl))) hns₁ λacc ρ' σ' s' m S' G' WD AD WC nC f=>hend _ _ acc ρ' σ' l1 s' m S' G' WD AD WC (lt (aG _)) G1.oQ nC f
end
section
variable {cx:Cx}{n:Nat}{fd:Fd}{A:Around}{ρ ρ' ρ₀:LA->Addr}{σ σ' σ₀:MH}{loc loc' loc₀:Loc}{s s₀ s':Shared}{U:LA->Prop}{scope:Scope}{cn:List Str}{cmap:List (Option Nat)}
noncomputable abbrev P.comp(cmap:List (Option Nat))(tt:Bool)(mi:P It)(tg:MV->P Unit)(ts:P Bool)(el:P MV):P MV:=λloc σ Q X=>
 mi loc σ (λit l1 σ1=>(it.dT=true->tt=true)/\it.plain=true/\oz cmap l1/\∃N,P.lE tg ts el N it [] (eS cmap l1) σ1 (λacc _ σ'=>∃r,¬σ'.us r/\Q (.ref r) l1 (σ'.new r (.list acc))) (λ_ _ _=>False)) X
theorem mr{D:Addr}{acc:List MV}{r:LA}{ρ₁:LA->Addr}(G:Good cx n fd A ρ' σ' loc' s')(S:Step fd ρ σ.us s ρ' σ'.us s')(W:gX cx fd s ρ' σ'.us s' D)(AD:AccAt ρ' σ'.us s'.heap D acc)(hr:¬σ'.us r)(N:oE ρ' r D ρ₁)(h0:cx.h0.objs.size<=D) :
  Good cx n fd A ρ₁ (σ'.new r (.list acc)) loc' s'/\Step fd ρ σ.us s ρ₁ (σ'.new r (.list acc)).us s':=by
 refine eA AD λxs ep e rv=> ?_
 exact⟨G.name hr N e cP h0 W.un W.D2 λk=>⟨xs,ep,e,rv.mono k⟩,S.named hr N W.new⟩
theorem uo{elt target iter:Expr}{ifs:List Expr}{pos:Pos}{mi:P It}{tg:MV->P Unit}{ts:P Bool}{el:P MV}(K:i5 fd scope cn cmap)(hkd:fd.env.scope.kind≠ .module)
  (hi:qP cx n fd iter mi)(ht:∀C,ew cx n (fd.comp scope cn C) target tg)(hts:∀C,ig cx n (fd.comp scope cn C) ifs ts)(hel:∀C,bO cx n (fd.comp scope cn C) elt el) :
  bO cx n fd (.ListComp elt [⟨target,iter,ifs,0⟩] scope pos) (P.comp cmap (c5 target) mi tg ts el):=by
 intro A ρ σ loc s Q X G _ hm
 refine sS K hkd hi ht hts hel G hm λD C acc ρ' σ' l1 s' m S G' WD AD WC hDC h0 ns hq=>⟨⟨_,rfl⟩,m,ns,λh' sb=> ?_⟩
 refine aT hq λr hr hq=> ?_
 obtain⟨G2,S2⟩:=G'.gg S (as:=[C]) (λa ha=>by rw[av.mp ha];exact WC) (h':=h') s'.toks λb o hb e=>sb.extBut b o (λq=>hb (by rw[q];exact av.mpr rfl)) e
 refine eA AD λxs ep e rv=> ?_
 have kp : fh ρ' σ'.us s'.heap ρ' σ'.us h':=⟨λ_ u=>⟨u,rfl⟩,λa o e c=>sb.extBut a o (λq=>by
  refine sd ns λoC _ _ eC dC _=> ?_
  rw[q] at e;replace e:=eC▸e;cases e;exact ca dC c) e⟩
 refine cN (Ac ρ' r D) λρ1 N=> ?_
 have z:=mr (s':={ s' with heap:=h' }) G2 S2 (WD.set (t:=s'.toks) ⟨_,(λo e=>sb.extBut D o hDC e) _ e,cP⟩) ⟨xs,ep,(λo e=>sb.extBut D o hDC e) _ e,rv.mono kp⟩ hr N h0
 exact⟨_,_,_,_,z.2,z.1,N.ref,hq⟩
theorem pK{elt target iter:Expr}{ifs:List Expr}{y:Str}{py pos spos:Pos}{mi:P It}{tg:MV->P Unit}{ts:P Bool}{el:P MV}{mt:MV->P Unit}(K:i5 fd scope cn cmap)(hkd:fd.env.scope.kind≠ .module)
  (hsw:swapsWith (.ListComp elt [⟨target,iter,ifs,0⟩] scope pos) (some (.Name y py)) spos.line fd.env=pure true)
  (hi:qP cx n fd iter mi)(ht:∀C,ew cx n (fd.comp scope cn C) target tg)(hts:∀C,ig cx n (fd.comp scope cn C) ifs ts)(hel:∀C,bO cx n (fd.comp scope cn C) elt el)(hmt:ew cx n fd (.Name y py) mt) :
  gf cx n fd (.Assign [.Name y py] (.ListComp elt [⟨target,iter,ifs,0⟩] scope pos) spos) ((P.comp cmap (c5 target) mi tg ts el).bind λv=>(mt v).bind λ_=>P.ret MF.next):=by
 intro A ρ σ loc s Q X G _ hm
 refine ae (exec_Assign_Name_used _ _ _ _ hsw)▸ ?_
 refine ai (bB (ai ?_))
 refine ai (aD (sS (use:=some (assign (.Name y py) fd.env)) (Qv:=λ_ s'=>Out cx n fd A ρ σ s cg.mA Q .next s') K hkd hi ht hts hel G hm ?_) (λ_ s' hq=>ax (ax hq)) λ_ _ e=>e)
 intro D C acc ρ' σ' l1 s' m S G' WD AD WC hDC h0 ns hq
 refine aT hq λr hr hq=> ?_
 refine cN (Ac ρ' r D) λρ1 N=> ?_
 have G3:=(mr G' S WD AD hr N h0).1;have S3:=(mr G' S WD AD hr N h0).2
 have WC3 : gX cx fd s ρ1 (σ'.new r (.list acc)).us s' C:=⟨WC.new,N.un hr (Ne.symm hDC) WC.un,WC.cI,WC.out,WC.cell,WC.top,WC.ex⟩
 refine⟨⟨_,rfl⟩,aD (hmt (.ref r) (.ref D) A _ _ l1 s' _ X G3 N.ref hq) (λ_ s4 z=> ?_) λ_ _ z=>z.pre S3⟩
 obtain⟨_,ρ4,σ4,l4,S4,G4,_,hq⟩:=z
 refine iR ns λoC es ep eC rest=> ?_
 refine⟨m,⟨oC,es,ep,((WC3.step G3 S4).2) _ eC,rest⟩,λh' sb=> ?_⟩
 refine dw (G4.gg (S3.trans S4) (as:=[C]) (λa ha=>by rw[av.mp ha];exact ((WC3.step G3 S4).1)) (h':=h') s4.toks λb o hb e=>sb.extBut b o (λq=>hb (by rw[q];exact av.mpr rfl)) e) λG5 S5=> ?_
 exact⟨MF.next,ρ4,σ4,l4,S5,G5, .next,hq⟩
theorem vY(hk:fd.env.scope.kind= .function)(nd:fd.names.Nodup){x:Str}{pos:Pos}{i:Nat}(hi:fd.names[i]?=some x)(hl:fd.env.kindOf x=some .local):ew cx n fd (.Name x pos) (P.store i):=by
 intro a v A ρ σ loc s Q X G hv hm
 refine ai (bB (.of ?_))
 obtain⟨hlt,hq⟩:=hm
 obtain⟨m,ns,lr⟩:=G.loc
 have same : ∀ {j:Nat}{y:Str},fd.names[j]?=some y->(y=x↔i=j):=λ{j y} hj=>by
  constructor
  ·rintro rfl
   exact (List.getElem?_inj (bh.mp hi).1 nd).mp (hi.trans hj.symm)
  ·rintro rfl
   replace hi:=hj▸hi;cases hi;rfl
 refine wpAny_bindName ?_
 refine wpAny_storeName_local hl ns (λh' ns' sb=> ?_) (by refine ae hk▸ ?_;rfl)
 refine sd (_root_.id ns') λo es ep e d _=> ?_
 have cells : ∀c∈fd.env.cells,∀o,s.heap.get? c.2=some o->h'.get? c.2=some o:=λc hc o z=>(sb.2 _ (G.iu c hc)).trans z
 obtain⟨G',S'⟩:=G.rD (loc':=loc.set i (some a)) G.di sb.2 ⟨o,e,ca d⟩ (s.toks+1) (λc hc=>by
  refine eA ((G.tv c hc).1) λo w z1 z2=> ?_
  exact⟨o,w,cells c hc o z1,z2⟩) λk=>⟨_,ns',λj y mv hj hg=>by
   rcases uI hg with ⟨q,rfl⟩ | ⟨q,hg⟩
   ·have : y=x:=(same hj).mpr q
    subst this
    refine⟨λ_=>⟨v,by exact if_pos rfl,hv.mono k⟩,λz=> ?_⟩
    rw[hl] at z;refine Or.elim z (λz=> ?_) λz=> ?_<;>cases z
   ·have ne : y≠x:=λz=>q ((same hj).mp z)
    refine⟨λz=> ?_,λz=> ?_⟩
    ·refine aT (((lr j y mv hj hg).1) z) λw f g=> ?_
     exact⟨w,by refine ((if_neg ne)).trans ?_;exact f,g.mono k⟩
    ·refine eT (((lr j y mv hj hg).2) z) λc w f zo3_ g3=> ?_;refine aT zo3_ λoc g1 g2=> ?_
     exact⟨c,w,f,⟨oc,cells _ (mem_of_lookup f) _ g1,g2⟩,g3.mono k⟩⟩
 exact⟨(),_,_,_,S',G',trivial,hq⟩
end
inductive qE(cx:Cx)(fd:Fd):ExceptHandler->Addr×MV->Prop
 |mk {x:Str}{np cp rp pos:Pos}{cc:Const}{k:Nat}{D:Addr}{v:MV}(hx:fd.env.kindOf x=some .globalImplicit)(hd:(x==("__debug__" : Str))=false) (e:nsIn cx.K mainGlobals x=some (some (.ref D)))
  (hc:kE cc=some v∨∃y : String,cc= .str (Str.ofString y)/\v= .str y) :
  qE cx fd (.ExceptHandler (some (.Name x np)) none [.Return (some (.Constant cc k cp)) rp] pos) (D,v)
inductive v9(nU:Addr->Addr->Option Bool)(C:Addr)(loc:Loc)(σ:MH)(Q:MF->Loc->MH->Prop):List (Addr×MV)->Prop
 |hit {D v r} (e:nU C D=some true)(q:Q (.ret v) loc σ):v9 nU C loc σ Q ((D,v)::r)
 |next {D v r} (e:nU C D=some false)(k:v9 nU C loc σ Q r):v9 nU C loc σ Q ((D,v)::r)
noncomputable abbrev P.handle(nU:Addr->Addr->Option Bool)(C:Addr)(hs:List (Addr×MV)):P MF:=λloc σ Q _=>v9 nU C loc σ Q hs
noncomputable abbrev P.try(nU:Addr->Addr->Option Bool)(hs:List (Addr×MV))(m:P MF):P MF:=λloc σ Q X=>m loc σ Q (λC l σ'=>P.handle nU C hs l σ' Q X)
section
variable {cx:Cx}{n:Nat}{fd:Fd}{A A':Around}{ρ ρ' ρ₀:LA->Addr}{σ σ' σ₀:MH}{loc loc' loc₀:Loc}{s s₀ s':Shared}{U:LA->Prop}
theorem yH(ht:∀b o,cx.h0.get? b=some o->s.heap.get? b=some o){x:Str}{pos:Pos}{v:Value}{Q:Value->Shared->Prop}{E:Value->Shared->Prop}
  (hk:fd.env.scope.kind= .function)(hx:fd.env.kindOf x=some .globalImplicit)(hg:fd.env.globals=mainGlobals)(hd:(x==("__debug__" : Str))=false)
  (e:nsIn cx.K mainGlobals x=some (some v))(h:Q v s):wpAny cx.M A (eval (.Name x pos) fd.env) Q E s:=
 Name_function_global hk hx (loadGlobal_global (env:=fd.env) (by refine ae hg▸ ?_;exact cx.g.keeps ht) (mg_of cx.X cx.g e) h) hd
theorem B7{cc:Const}{k:Nat}{pos:Pos}{v:MV}(hc:kE cc=some v∨∃y : String,cc= .str (Str.ofString y)/\v= .str y){Q:Value->Shared->Prop}{E:Value->Shared->Prop}
  (h:∀x t,(∀ρ U h,VR ρ U h v x)->Q x { s with toks:=t }):wpAny cx.M A (eval (.Constant cc k pos) fd.env) Q E s:=by
 rcases hc with hc | ⟨y,rfl,rfl⟩
 ·show wpAny _ _ (constValue fd.env cc) _ _ _
  cases cc<;>simp only[kE,Option.some.injEq,reduceCtorEq] at hc<;>subst hc
  ·exact ao (h _ s.toks λ_ _ _=> .none)
  ·exact ao (h _ s.toks λ_ _ _=> .bool)
  ·exact wpAny_mkInt (h _ _ λ_ _ _=> .int)
  ·exact λ_ _ _=>h _ _ λ_ _ _=> .bytes
 ·exact wpAny_mkText (h _ _ λ_ _ _=> .str)
theorem nK{c:Code}{e:Addr}{Q:Flow->Shared->Prop}{E:Value->Shared->Prop}{M:Model}(h:codeN M (A.mark (some (.ref e))) c (λr s'=>match r with | .ok f=>Q f s' | .error _=>False) s) :
  cW M A (runOwn c fd.env (some (.ref e))) Q E s:=by
 refine dx (aD (E:=λ_ _=>False) (tC (eW h λr s' y=> ?_) (by intro z;cases z)) (λ_ _ y=>y) λ_ _ y=>y.elim)
 cases r with
 |ok f=>exact y
 |error e=>exact y
theorem kL.cons_inv{α β:Type}{R:α->β->Prop}{xs:List α}{b:β}{bs:List β}(h:kL R xs (b::bs)):∃a as,xs=a::as/\R a b/\kL R as bs:=by
 cases h with
 |cons h1 h2=>exact⟨_,_,rfl,h1,h2⟩
theorem vB(F:z6 fd)(hgl:fd.env.globals=mainGlobals){nU:Addr->Addr->Option Bool}(hE:∀C D b,nU C D=some b->exmOne cx.K (.ref C) (.ref D)=some b){e C D:Addr}{v:MV}(G₀:Good cx n fd A ρ₀ σ₀ loc₀ s₀){K:Flow->Shared->Prop}{E:Value->Shared->Prop}
  {H:ExceptHandler}{handlers:List ExceptHandler}(hH:qE cx fd H (D,v))(G:Good cx n fd A ρ σ loc s)(S:Step fd ρ₀ σ₀.us s₀ ρ σ.us s)(x:ExcAt ρ σ.us s.heap s₀.heap none e C){b:Bool}(hh:nU C D=some b)
  (hf:b=false->cW cx.M A (handleBy (.ref e) fd.env handlers) K E s)(ht:b=true->∀y s',Good cx n fd A ρ σ loc s'->Step fd ρ₀ σ₀.us s₀ ρ σ.us s'->VR ρ σ.us s'.heap v y->K (.ret y) s') :
  cW cx.M A (handleBy (.ref e) fd.env (H::handlers)) K E s:=by
 obtain @⟨x',np,cp,rp,pos,cc,k,D,v,hx,hd,hn,hc⟩:=hH
 have LT : Looks cx.M s.heap (typeOf (.ref e)) (.ref C):=by
  obtain⟨oe,vs,a0,e1,e2,_⟩:=x
  have:=(Looks.ld (M:=cx.M) (part:=none) e1).andThen (f:=λo=>pure o.cls) (Looks.now (a:=oe.cls))
  exact e2▸this
 refine ai (aJ (nK (bP (λ_ _ _ _=>rfl) ?_)))
 refine ai (dx (aD (E:=λ_ _=>False) (.of ?_) (λ_ _ y=>y) λ_ _ y=>y.elim))
 refine af (ce (af (yH G.top F.hk hx hgl hd hn (af (ce (af ((exm_one (cx.X.keeps G.top) LT (hE _ _ _ hh)).here ?_)))))))
 cases b with
 |false=>exact ao (ax (ai (ax (hf rfl))))
 |true=>
  refine ao (ax (ai (ax (ai (aJ (nK (bP (λ_ _ _ _=>rfl) ?_)))))))
  refine ai (dx (aD (E:=λ_ _=>False) (.of ?_) (λ_ _ y=>y) λ_ _ y=>y.elim))
  show wpAny _ _ (standAt pos >>= λ_=>setFlight (.ref e) none >>= λ_=>execs [.Return (some (.Constant cc k cp)) rp] fd.env) _ _ _
  refine af (ce (af (G.vp G₀.top S x G₀.holds none λs₂ G₂ S₂ _=> ?_)))
  exact af (af (ce (af (B7 hc λy t hy=>ao (ao (ax (ax (ht rfl y _ (G₂.tok t) (S₂.trans (Step.tok t)) (hy _ _ _)))))))))
theorem xX(F:z6 fd)(hgl:fd.env.globals=mainGlobals){nU:Addr->Addr->Option Bool}(hE:∀C D b,nU C D=some b->exmOne cx.K (.ref C) (.ref D)=some b){Q:MF->Loc->MH->Prop}{X:Addr->Loc->MH->Prop}{e C:Addr}(G₀:Good cx n fd A ρ₀ σ₀ loc₀ s₀)
  {hs:List (Addr×MV)}{handlers:List ExceptHandler}(R:kL (qE cx fd) handlers hs)(G:Good cx n fd A ρ σ loc s)(S:Step fd ρ₀ σ₀.us s₀ ρ σ.us s)(x:ExcAt ρ σ.us s.heap s₀.heap none e C)(hm:P.handle nU C hs loc σ Q X) :
   cW cx.M A (handleBy (.ref e) fd.env handlers) (Out cx n fd A ρ₀ σ₀ s₀ cg.mA Q) (ey cx n fd A ρ₀ σ₀ s₀ X) s:=by
 induction hm generalizing handlers with
 |hit e q=>exact let ⟨_,_,z,H,_⟩:=R.cons_inv;z▸vB F hgl hE G₀ H G S x e (λz=>nomatch z) λ_ y s' G' S' r=>⟨.ret _,ρ,σ,loc,S',G', .ret r,q⟩
 |next e k ih=>exact let ⟨_,_,z,H,R⟩:=R.cons_inv;z▸vB F hgl hE G₀ H G S x e (λ_=>ih R) λz=>nomatch z
theorem B2(F:z6 fd)(hgl:fd.env.globals=mainGlobals){nU:Addr->Addr->Option Bool}(hE:∀C D b,nU C D=some b->exmOne cx.K (.ref C) (.ref D)=some b){body:List Stmt}{handlers:List ExceptHandler}{hs:List (Addr×MV)}{pos:Pos}{m:P MF}
  (hb:jG cx n fd body m)(H:kL (qE cx fd) handlers hs)(h0:handlers.isEmpty=false):gf cx n fd (.Try body handlers [] [] pos) (P.try nU hs m):=by
 intro A ρ σ loc s Q X G _ hm
 refine ai (bB ?_)
 unfold tryStmt
 refine ai (j5 (aD (hb A ρ σ loc s Q _ G trivial hm) (λf s1 y=> ?_) λev s1 y=> ?_))
 ·obtain⟨mf,ρ1,σ1,l1,S1,G1,r,hq⟩:=y
  induction r with
  |next=>exact ax ⟨_,ρ1,σ1,l1,S1,G1,(by constructor),hq⟩
  |brk=>exact ax ⟨_,ρ1,σ1,l1,S1,G1,(by constructor),hq⟩
  |cont=>exact ax ⟨_,ρ1,σ1,l1,S1,G1,(by constructor),hq⟩
  |ret r=>exact ax ⟨_,ρ1,σ1,l1,S1,G1, .ret r,hq⟩
 ·obtain⟨e,C,ρ1,σ1,l1,rfl,S1,G1,x1,hq⟩:=y
  refine ai (.of (G1.note G.top S1 x1 G.holds F.Eo F.kS (by refine ae F.hk▸ ?_;decide) λs₂ G₂ S₂ x₂ nt=> ?_))
  refine ae h0▸ ?_
  refine ai (.of (G₂.vp G.top S₂ x₂ G.holds none λs₃ G₃ S₃ x₃=> ?_))
  exact xX F hgl hE G H G₃ S₃ x₃ hq
end
end Internal
namespace Internal
open PySem PySem.W PyProof.Rows PySem.Calls Builtin Builtin.ObjectAttr
noncomputable abbrev kN : List Value:=[.type "ValueError", .type "Exception", .type "BaseException", .type "object"]
structure oI(h:Heap)(C B0:Addr):Prop where
 obj : ∃nm q N bs sn sub ab col dd k0 k1 k2 k3 k5,h.get? C=some (excClassObj nm q C N bs (.ref B0::kN) true sn sub ab col dd k0 k1 k2 k3 k5 "ValueError.__new__")
noncomputable def JL(C B0:Addr):Data->Bool
 | .cls cd=>cd.hasDict&& !cd.hasDel&&cd.mro== .ref C:: .ref B0::kN
 |_=>false
theorem DN{C B0:Addr}{d:Data}(h:JL C B0 d=true):∃cd,d= .cls cd/\(cd.hasDict&& !cd.hasDel&&cd.mro== .ref C:: .ref B0::kN)=true:=by
 cases d<;>first | exact⟨_,rfl,h⟩ | exact absurd h aE
theorem six{α:Type}{l:List α}(h:l.length=6):∃a b c d e f,l=[a,b,c,d,e,f]:=by
 refine fv (cf h) λa l zr2_=> ?_;subst zr2_
 refine fv (cf (bL h)) λb l zr2_=> ?_;subst zr2_
 refine fv (cf (bL (bL h))) λc l zr2_=> ?_;subst zr2_
 refine fv (cf (bL (bL (bL h)))) λd l zr2_=> ?_;subst zr2_
 refine fv (cf (bL (bL (bL (bL h))))) λe l zr2_=> ?_;subst zr2_
 refine fv (cf (bL (bL (bL (bL (bL h)))))) λf l zr2_=> ?_;subst zr2_
 exact⟨a,b,c,d,e,f,by exact ae (List.length_eq_zero_iff.mp (bL (bL (bL (bL (bL (bL h)))))))▸rfl⟩
noncomputable def Fz(C B0:Addr)(o:Obj):Bool:=o.cls== .type "type" && JL C B0 o.data&&o.slots.toList.length==6&&o.slots.toList[4]?==some (some (.builtin "ValueError.__new__"))
noncomputable def FL(K:Frag)(C B0:Addr):Bool:=(K.lookup C).any (Fz C B0)
theorem isExc{o:Obj}{cd:ClassData}{C B0:Addr}{k0 k1 k2 k3 k5:Option Value}(h1:o.cls= .type "type") (h2:o.data= .cls cd)(h3:o.slots.toList=[k0,k1,k2,k3,some (.builtin "ValueError.__new__"),k5]) (h4:cd.hasDict=true)(h5:cd.hasDel=false)(h6:cd.mro= .ref C:: .ref B0::kN) :
  o=excClassObj cd.name cd.qualname C cd.ns cd.bases (.ref B0::kN) true cd.slotNames cd.subclasses cd.abstract cd.collection o.dict k0 k1 k2 k3 k5 "ValueError.__new__" := by
 obtain⟨oc,od,dt,⟨sl⟩⟩:=o
 obtain⟨nm,bs,mro,ns,qn,hd,sn,sub,ab,col,dl⟩:=cd
 subst h1;subst h2;subst h3;subst h4;subst h5;subst h6
 rfl
theorem kA{K:Frag}{h:Heap}{C B0:Addr}(X:K.In h)(e:FL K C B0=true):oI h C B0:=by
 refine aT (any_some e) λo ho e=> ?_
 have e':=an.mp (an.mp e).1
 have e'':=an.mp e'.1
 refine aT (DN e''.2) λcd d q=> ?_
 obtain⟨k0,k1,k2,k3,k4,k5,s⟩:=six (eq_of_beq e'.2)
 have n:=eq_of_beq (an.mp e).2
 replace n:=s▸n
 have q:=an.mp q
 exact⟨cd.name,cd.qualname,cd.ns,cd.bases,cd.slotNames,cd.subclasses,cd.abstract,cd.collection,o.dict,k0,k1,k2,k3,k5,(X _ _ ho).trans (ah some (isExc (eq_of_beq e''.1) d ((aP n)▸s) (an.mp q.1).1 (by simpa using (an.mp q.1).2) (eq_of_beq q.2)))⟩
section
variable {prog:Program}{w:World}{A:Around}{R:Result->Shared->Prop}{E:Value->Shared->Prop}{h:Heap}{g:Array GenState}{d:Drawn}{t:Nat}{os:OsState}
variable {nm q:Str}{C N B0:Addr}{bs:List Value}{sn:List Str}{sub:List Value}{ab:Bool}{col:Option Bool}{dd:Option Addr}{k0 k1 k2 k3 k5:Option Value}
noncomputable abbrev excAt(C t:Addr):Obj:={ cls:= .ref C,data:= .fields #[.ref t, .none, .none, .none, .bool false, .none] }
noncomputable abbrev rf(rest:List Value):Obj:={ cls:= .type "tuple",data:= .seq rest.toArray }
theorem F0{rest:List Value}(hC:h.get? C=some (excClassObj nm q C N bs (.ref B0::kN) true sn sub ab col dd k0 k1 k2 k3 k5 "ValueError.__new__"))
  (hrest:rest.length<=sizeLine)(hq:R (.ok (.ret (.ref (h.objs.size+1)))) ⟨(h.push (rf rest)).push (excAt C h.objs.size),g,d,t,os⟩) :
  codeAny (model prog w) A (.call (.builtin "ValueError.__new__") ⟨.ref C::rest,[]⟩) R ⟨h,g,d,t,os⟩:=by
 have F:=PySem.F.excBase_ValueError
 have hcB : (Value.ref C:: .ref B0::kN).contains (.type "ValueError")=true:=by rfl
 have hcN : (Value.ref C:: .ref B0::kN).contains (.type "NameError")=false:=by exact ae (Bool.and_or_inj_right (by rfl) hcB)
 refine codeAny_call_builtin_code (Code.quiet_builtin _ F.quiet) (wpAny_check_new_subU F (bmB:= .ref B0::kN) (by exact ae (Bool.and_or_inj_right hcB hcB)) .base hC ?_)
 refine codeAny_builtinAt F.entry ?_
 refine PySem.wpAt_bind ?_
 have hends:=F.ends
 refine PySem.wpAt_bind (PySem.wpAt_stack λp below=>PySem.wpAt_of_wpAny ?_)
 wp_walk
 refine PySem.wpAt_of_wpAny ?_
 refine ae F.owner▸ ?_
 repeat (first | with_reducible refine wpAny_madeHere_exc F.canon hC ?_ | with_reducible refine cD hC ?_ | (with_reducible refine wpAny_isSubtype_exc hC ?_;first | skip | skip | skip) | wp_step)
 show R _ _
 rw[Heap.size_push]
 exact hq
theorem rK{rest:List Value}{fI:Addr}{Q:Fin->Shared->Prop}(hC:h.get? C=some (excClassObj nm q C N bs (.ref B0::kN) true sn sub ab col dd k0 k1 k2 k3 k5 "ValueError.__new__"))
  (hi:Looks (model prog w) h (typeLookup (.ref C) "__init__") (some (.ref fI))) (hb:∀self,Looks (model prog w) h (bindSpecial (.ref fI) self) (.ref fI,[self]))(hrest:rest.length<=sizeLine)
  (hq:wpAny (model prog w) A (call (.ref fI) (.ref (h.objs.size+1)::rest)) (λr s'=>r= .none/\Q (.done (.ret (.ref (h.objs.size+1)))) s') E ⟨(h.push (rf rest)).push (excAt C h.objs.size),g,d,t,os⟩) :
  wpAny (model prog w) A (Builtin.«type.__call__» ⟨.ref C::rest,[]⟩) Q E ⟨h,g,d,t,os⟩:=by
 repeat (first | with_reducible refine cD hC ?_ | with_reducible refine wpAny_madeBy_exc hC ?_ | wp_step)
 refine F0 hC hrest ?_
 have kk : ∀b o,h.get? b=some o->((h.push (rf rest)).push (excAt C h.objs.size)).get? b=some o:=λb o e=>aI _ (aI _ e)
 have hcC : (Value.ref C:: .ref B0::kN).contains (.ref C)=true:=by exact List.elem_cons_self
 unfold isInstance
 repeat (first | with_reducible refine cD hget ?_ | (with_reducible refine wpAny_isSubtype_exc (kk _ _ hC) ?_;refine ae hcC▸ ?_) | wp_step)
 refine (hi.keeps kk).at ?_
 refine bl (af (((hb _).keeps kk).at ?_))
 refine af (wpAny_mono hq (λr s' hr=> ?_) λ_ _ x=>x)
 obtain⟨rfl,hQ⟩:=hr
 wp_walk
 exact hQ
theorem Dr{rest:List Value}{fI:Addr}{Q:Value->Shared->Prop}(hC:h.get? C=some (excClassObj nm q C N bs (.ref B0::kN) true sn sub ab col dd k0 k1 k2 k3 k5 "ValueError.__new__"))
  (hi:Looks (model prog w) h (typeLookup (.ref C) "__init__") (some (.ref fI))) (hb:∀self,Looks (model prog w) h (bindSpecial (.ref fI) self) (.ref fI,[self]))(hrest:rest.length<=sizeLine)
  (hq:wpAny (model prog w) (A.under (.builtin "type.__call__" ⟨.ref C::rest,[]⟩)) (call (.ref fI) (.ref (h.objs.size+1)::rest)) (λr s'=>r= .none/\Q (.ref (h.objs.size+1)) s') E
   ⟨(h.push (rf rest)).push (excAt C h.objs.size),g,d,t,os⟩) :
  wpAny (model prog w) A (call (.ref C) rest) Q E ⟨h,g,d,t,os⟩:=by
 have f1:=tc_lookup
 have f2:=tc_bind (.ref C)
 have hT : (⟨h,g,d,t,os⟩ : Shared).TypeIs (.ref C) "type" := ⟨_,hC,rfl⟩
 refine wpAny_call (codeAny_of_tree ?_)
 show wpAny _ _ (callAny (.ref C) _) _ _ _
 repeat (any_goals (first | assumption | with_reducible refine cD hC ?_ | wp_step))
 refine⟨rfl, ?_⟩
 exact codeAny_call_builtin_at (Code.quiet_builtin _ (by decide +kernel)) entry_typeCall (wpAny_check_type_call_sub hC (rK hC hi hb hrest hq))
end
theorem IE(self:Value)(C B0:Addr):refuseLoop self "__setattr__" (.ref C:: .ref B0::kN)=pure ():=by
 rfl
section
variable {prog:Program}{w:World}{A:Around}{E:Value->Shared->Prop}{s:Shared}{K:Frag}{C B0:Addr}
theorem E1{e:Addr}{oe:Obj}{name:Str}{v:Value}{Q:Unit->Shared->Prop}(X:K.In s.heap)(hC:oI s.heap C B0)(he:s.heap.get? e=some oe)(hc:oe.cls= .ref C)(hd:oe.dict=none)(hdt:∃vs,oe.data= .fields vs)
  (sa:findIn K (.ref C) "__setattr__" = some (some (.builtin "object.__setattr__"))) (re:findIn K (.ref C) name=some none)
  (hq:∀h' tk,(∀b o,b≠e->s.heap.get? b=some o->h'.get? b=some o)->(∃o',h'.get? e=some o'/\o'.cls=oe.cls/\o'.data=oe.data)->Q () { s with heap:=h',toks:=tk }) :
  wpAny (model prog w) A (setAttr (.ref e) name v) Q E s:=by
 obtain⟨nm,q,N,bs,sn,sub,ab,col,dd,k0,k1,k2,k3,k5,hC⟩:=hC
 have I : InstAt s.heap e oe C none:=⟨he,hc,by refine cN hdt λvs z=> ?_;unfold notCls;exact ae z▸rfl,by refine ae hd▸ ?_;trivial⟩
 refine set_plain X I sa ?_
 have SF:=PySem.F.store_object
 obtain⟨hp,g,d,t,os⟩:=s
 dsimp only at X hC he I hq ⊢
 have sub : Looks (model prog w) hp (isInstance (.ref e) (.type "object")) true:=by
  refine I.type.andThen ?_
  intro A' Q' E' s' k z
  exact wpAny_isSubtype_exc (h:=s'.heap) (k _ _ hC) (by simpa [kN] using z)
 refine codeAny_call_builtin SF.slot.plain SF.entry (@check_slot (model prog w) _ _ ⟨hp,g,d,t+1,os⟩ "object.__setattr__" "object" "__setattr__" (.ref e) [.str name t,v] [] _ SF.kind SF.split sub (SF.args (.ref e) (.str name t) v) ?_)
 rw[osa_eq,refuse_eq]
 refine af (af (I.type.here (af (wpAny_mroOf_exc hC ?_))))
 refine ao (af (I.type.here (af ((looks_findIn X re).here (af (ao ?_))))))
 dsimp only
 obtain⟨oc,od,dt,sl⟩:=oe
 dsimp only at hc hd hdt
 subst hc hd
 obtain⟨vs,rfl⟩:=hdt
 refine af (ao (af (af (wpAny_loadPart he ?_))))
 dsimp only
 refine af (af (wpAny_load hC (ao ?_)))
 have hes : e≠hp.objs.size:=bw (aS he)
 have he₁ : (hp.push emptyDict).get? e=some _:=aI _ he
 refine af (wpAny_alloc' ?_)
 refine af (wpAny_update' he₁ (ao ?_))
 have hgd : ((hp.push emptyDict).update e λo=>{ o with dict:=some hp.objs.size }).get? hp.objs.size=some emptyDict:=
  (Heap.get?_update_ne _ _ _ _ hes.symm).trans (Heap.get?_push_at rfl rfl)
 show wpAny _ _ (storeInDict hp.objs.size (.str name t) name v) _ _ _
 refine af (ao (af (wpAny_nsSet1 (nQ hgd) λh' hn' hs=> ?_)))
 refine sd (hn'.count (Within.cons name v Within.nil)) λoD esD epD hoD hdD hcD=> ?_
 refine af (wpAny_lookBehind hoD (by refine (ah _ hdD).trans ?_;exact pastItsLine_dict (ad hcD (by exact Nat.le_add_left (0+1) 16777216))) ?_)
 refine ao ?_
 refine hq h' _ (λb o hb e1=> ?_) ⟨_,(hs.2 e hes).trans (dJ _ he₁ rfl),rfl,rfl⟩
 exact (hs.2 b (bw (aS e1))).trans ((Heap.get?_update_ne _ _ _ _ hb).trans (aI _ e1))
end
theorem FH : bootBuiltins "ValueError" = some (.type "ValueError"):=by kernel_rfl
theorem FE : typeOf (.type "ValueError")=pure (.type "type"):=by first | rfl | kernel_rfl
theorem Hn(K:Frag):findCls K (.type "ValueError") (.type "type") "__init__" = some (.val (.builtin "ValueError.__init__")):=by kernel_rfl
theorem Fc : Manifest.isStub "ValueError" = false:=by decide +kernel
theorem Fg : handedIn (.builtin "ValueError.__init__")=true:=by kernel_rfl
structure yy(cx:Cx)(d:tR):Prop where
 body : ∃p1 p2 p3 p4 p5 p6 p7 p8 p9 p10,d.body=[.Expr (.Call (.Attribute (.Name "ValueError" p1) "__init__" p2) [.Name "self" p3, .Name "reason" p4] [] p5) p6, .Assign [.Attribute (.Name "self" p7) "reason" p8] (.Name "reason" p9) p10]/\(p2.endLine==p5.line)=true
 names : d.names=[("self" : Str),("reason" : Str)]
 ar : d.arity=2
 kl : ∀L,(callEnvC d.fn L d.addr).kindOf "self" = some .local/\(callEnvC d.fn L d.addr).kindOf "reason" = some .local/\(callEnvC d.fn L d.addr).kindOf "ValueError" = some .globalImplicit
 ge : nsIn cx.K mainGlobals "ValueError" = some none
section
variable {cx:Cx}{A:Around}{E:Value->Shared->Prop}{s:Shared}{env:Env}
theorem DC(ht:∀b o,cx.h0.get? b=some o->s.heap.get? b=some o){x:Str}{pos:Pos}{v:Value}{Q:Value->Shared->Prop}
  (hk:env.scope.kind= .function)(hx:env.kindOf x=some .globalImplicit)(hg:env.globals=mainGlobals)(hb:env.builtins=builtinsNs)(hd:(x==("__debug__" : Str))=false)
  (e:nsIn cx.K mainGlobals x=some none)(hv:bootBuiltins x=some v)(hn:x ≠ "__name__") (h:Q v s):wpAny cx.M A (eval (.Name x pos) env) Q E s:=
 Name_function_global hk hx (loadGlobal_builtin (env:=env) (by rw[hg];exact cx.g.keeps ht) (mg_none_of cx.X cx.g e) (by rw[hb];exact cx.b.keeps ht) ((cx.bt x hn).trans hv) h) hd
theorem Ku(t1 t2:Sem Value):spliced [(false,t1),(false,t2)]=(t1 >>= λv=>holding [v] (t2 >>= λw=>holding [w] (pure []) >>= λr=>pure ([w]++r)) >>= λr=>pure ([v]++r)):=rfl
theorem z7{h:Heap}{g:Array GenState}{dr:Drawn}{t:Nat}{os:OsState}{C B0 e t0:Addr}{rest:List Value}{Q:Value->Shared->Prop}(hC:oI h C B0)(he:h.get? e=some (excAt C t0))(hz:rest.length<=sizeLine)
  (hq:∀h',(∀b o,b≠e->h.get? b=some o->h'.get? b=some o)->h'.get? e=some (excAt C h.objs.size)->Q .none ⟨h',g,dr,t,os⟩):wpAny cx.M A (call (.builtin "ValueError.__init__") (.ref e::rest)) Q E ⟨h,g,dr,t,os⟩:=by
 obtain⟨nm,q,N,bs,sn,sub,ab,col,dd,k0,k1,k2,k3,k5,hC⟩:=hC
 have F:=PySem.F.excBase_ValueError
 have hcB : (Value.ref C:: .ref B0::kN).contains (.type "ValueError")=true:=by rfl
 refine wpAny_call (codeAny_call_builtin F.init.plain F.initEntry ?_)
 simp only[checkBuiltinCall,F.initKind,F.initSplit,F.initRow]
 repeat (first | (with_reducible refine cD he ?_) | with_reducible refine cD hC ?_ | (with_reducible refine wpAny_isSubtype_exc hC ?_) | wp_step)
 refine wpAny_onRaise ?_
 rw[show ∀ (a b:String)(n:Nat),Bind.check ⟨.positional, "*", "ValueError", .self,[⟨"args", .varPos,false⟩]⟩ a b n (List.map (λx=>x.fst) ({ pos:=Value.ref e::rest }:Args).kw)=pure () from
  λa b n=>check_star_args _ _ _ _ _ _]
 refine ao ?_
 wp_walk
 refine hq _ (λb o hb e1=>(Heap.get?_update_ne _ _ _ _ hb).trans (aI _ e1)) ?_
 exact dJ _ (aI _ he) rfl
set_option maxHeartbeats 4000000 in
theorem AY{nv ni ns nr:Str}{p1 p2 p3 p4 p5 p6:Pos}{C B0 e t0:Addr}{v:Value}{m:Str->Option Value}(hline:(p2.endLine==p5.line)=true)(hkd:env.scope.kind= .function)(hg:env.globals=mainGlobals)(hb:env.builtins=builtinsNs)
  (kl1:env.kindOf ns=some .local)(kl2:env.kindOf nr=some .local)(kl3:env.kindOf nv=some .globalImplicit)(ge:nsIn cx.K mainGlobals nv=some none)(bo:bootBuiltins nv=some (.type "ValueError")) (hn:nv ≠ "__name__")
  (d1:(ns==("__debug__" : Str))=false) (d2:(nr==("__debug__" : Str))=false) (d3:(nv==("__debug__" : Str))=false) (fc:∀K,findCls K (.type "ValueError") (.type "type") ni=some (.val (.builtin "ValueError.__init__")))
  (nsm:s.heap.Ns env.locals m)(m1:m ns=some (.ref e))(m2:m nr=some v)(ab:cx.h0.objs.size<=env.locals)(top:∀b o,cx.h0.get? b=some o->s.heap.get? b=some o)
  (hC:oI s.heap C B0)(he:s.heap.get? e=some (excAt C t0)){Q:Flow->Shared->Prop}
  (hq:∀h' tk t',(∀b o,b≠e->s.heap.get? b=some o->h'.get? b=some o)->h'.get? e=some (excAt C t')->Q .next { s with heap:=h',toks:=tk }) :
  wpAny cx.M A (exec (.Expr (.Call (.Attribute (.Name nv p1) ni p2) [.Name ns p3, .Name nr p4] [] p5) p6) env) Q E s:=by
 have q1 : exec (.Expr (.Call (.Attribute (.Name nv p1) ni p2) [.Name ns p3, .Name nr p4] [] p5) p6) env=(standAt p6 >>= λ_=>eval (.Call (.Attribute (.Name nv p1) ni p2) [.Name ns p3, .Name nr p4] [] p5) env >>= λv=>
   dropValue (.Call (.Attribute (.Name nv p1) ni p2) [.Name ns p3, .Name nr p4] [] p5) p6 v):=by
  show (standAt p6 >>= λ_=>if interactive env=true then printExpr (eval _ env) else swapsWith _ none p6.line env >>= λb=>if b=true then _ else _)=_
  refine ae (show interactive env=false by dsimp only[interactive];refine ae hkd▸ ?_;rfl)▸ ?_;rfl
 have q2 : eval (.Call (.Attribute (.Name nv p1) ni p2) [.Name ns p3, .Name nr p4] [] p5) env=(eval (.Name nv p1) env >>= λov=>standAt p2.atName >>= λ_=>
   methodCall (.Name nv p1) ni p2 p5 env ov 2 (backTo p5 (starEach [.Name ns p3, .Name nr p4] env)) (backToKw p5 (keywordEach [] env))):=rfl
 have ld : ∀ {s':Shared}{y:Str}{z:Value}{p:Pos}{Q:Value->Shared->Prop}{A':Around}{E':Value->Shared->Prop},s'.heap.Ns env.locals m->env.kindOf y=some .local->m y=some z->(y==("__debug__" : Str))=false->Q z s'->wpAny cx.M A' (eval (.Name y p) env) Q E' s':=
  λn k e1 e2 z=>wpAny_Name (wpAny_loadName_local hkd k n e1 z) e2
 refine ae q1▸ae q2▸ ?_
 refine af (ce (af (af ?_)))
 refine DC (cx:=cx) top hkd kl3 hg hb d3 ge bo hn ?_
 refine af (ce ?_)
 have hf : methodCallForm 2 (backTo p5 (starEach [.Name ns p3, .Name nr p4] env)) (backToKw p5 (keywordEach [] env))=true:=rfl
 dsimp only[methodCall]
 dsimp only[methodCallPos]
 simp only[Bool.not_true,Bool.false_or,hline,if_true]
 refine af (bl ?_)
 refine method_type (K:=cx.K) (T := "ValueError") (name:=ni) (v:= .builtin "ValueError.__init__") (⟨nsm,top,ab⟩) cx.X FE Fc (fc cx.K) Fg ?_
 refine af (ao ?_)
 dsimp only[callWith]
 refine af (bl ?_)
 show wpAny _ _ (evalArgs (.builtin "ValueError.__init__") true [(false,eval (.Name ns p3) env),(false,eval (.Name nr p4) env)] []) _ _ _
 show wpAny _ _ (spliced [(false,eval (.Name ns p3) env),(false,eval (.Name nr p4) env)] >>= _) _ _ _
 rw[Ku]
 refine af (af (ld (s':={ s with toks:=s.toks+1 }) nsm kl1 m1 d1 (af (bl (af (ld (s':={ s with toks:=s.toks+1 }) nsm kl2 m2 d2 (af (bl (ao (ao (ao ?_)))))))))))
 refine af (ao (bl (af (ao (af (ao (ao ?_)))))))
 refine af (ce ?_)
 have hst : ((backTo p5 (starEach [.Name ns p3, .Name nr p4] env)).any (λx=>x.fst)||(backToKw p5 (keywordEach [] env)).any (λx=>x.fst.isNone))=false:=rfl
 refine af (ao (a:=Keeper.machine) ?_)
 refine af ?_
 show wpAny _ _ (call (.builtin "ValueError.__init__") [.ref e,v]) _ _ { s with toks:=s.toks+1 }
 refine z7 (h:=s.heap) hC he (by rw[aU];simp) λh' k1 k2=> ?_
 refine af (bl (wpAny_point (ao ?_)))
 exact wpAny_dropValue (hq h' _ _ k1 k2)
theorem AI{ns nr na:Str}{p7 p8 p9 p10:Pos}{C B0 e t0:Addr}{v:Value}{m:Str->Option Value}(hkd:env.scope.kind= .function)
  (kl1:env.kindOf ns=some .local)(kl2:env.kindOf nr=some .local)(d1:(ns==("__debug__" : Str))=false) (d2:(nr==("__debug__" : Str))=false)
  (nsm:s.heap.Ns env.locals m)(m1:m ns=some (.ref e))(m2:m nr=some v)(X:cx.K.In s.heap)
  (hC:oI s.heap C B0)(he:s.heap.get? e=some (excAt C t0))
  (sa:findIn cx.K (.ref C) "__setattr__" = some (some (.builtin "object.__setattr__"))) (re:findIn cx.K (.ref C) na=some none){Q:Flow->Shared->Prop}
  (hq:∀h' tk t',(∀b o,b≠e->s.heap.get? b=some o->h'.get? b=some o)->(∃o',h'.get? e=some o'/\o'.cls= .ref C/\o'.data=(excAt C t').data)->Q .next { s with heap:=h',toks:=tk }) :
  wpAny cx.M A (exec (.Assign [.Attribute (.Name ns p7) na p8] (.Name nr p9) p10) env) Q E s:=by
 have q3 : exec (.Assign [.Attribute (.Name ns p7) na p8] (.Name nr p9) p10) env=(standAt p10 >>= λ_=>eval (.Name nr p9) env >>= λv=>assign (.Attribute (.Name ns p7) na p8) env v >>= λ_=>pure .next):=by
  show (standAt p10 >>= λ_=>swapsWith (.Name nr p9) (some (.Attribute (.Name ns p7) na p8)) p10.line env >>= λb=>if b=true then _ else (eval (.Name nr p9) env >>= λv=>swappedStores [.Attribute (.Name ns p7) na p8] (.Name nr p9) env >>= λsw=>assignStores env v sw ((assignEach [.Attribute (.Name ns p7) na p8] env).map (·.2))))=_
  rfl
 refine ae q3▸ ?_
 refine af (ce (af (wpAny_Name (wpAny_loadName_local hkd kl2 nsm m2 (af ?_)) d2)))
 refine af (bl (wpAny_Name (wpAny_loadName_local hkd kl1 nsm m1 (af (ce (af (bl ?_))))) d1))
 refine E1 X hC he rfl rfl ⟨_,rfl⟩ sa re λh' tk k1 k2=>wpAny_release (ao (hq h' tk t0 k1 ?_))
 refine pH k2 λo' a b c=> ?_
 exact⟨o',a,b,c⟩
theorem DE{d:tR}(F:rW cx d)(B:yy cx d){C B0 e t0:Addr}{x:String}{tx:Tok}(top:∀b o,cx.h0.get? b=some o->s.heap.get? b=some o)(hdep:A.depth < recursionLimit)
  (hC:FL cx.K C B0=true)(he:s.heap.get? e=some (excAt C t0))(h0:cx.h0.objs.size<=e)
  (sa:findIn cx.K (.ref C) "__setattr__" = some (some (.builtin "object.__setattr__"))) (re:findIn cx.K (.ref C) "reason" = some none) {Q:Value->Shared->Prop}
  (hq:∀h' tk t',(∀b o,b≠e->s.heap.get? b=some o->h'.get? b=some o)->(∃o',h'.get? e=some o'/\o'.cls= .ref C/\o'.data=(excAt C t').data)->Q .none { s with heap:=h',toks:=tk }) :
  wpAny cx.M A (call (.ref d.addr) [.ref e, .str (Str.ofString x) tx]) Q E s:=by
 refine wpAny_call (codeAny_of_tree ?_)
 refine oa (A:=A.in1) F top hdep (by rw[B.ar];exact aG _) (by refine ae B.ar▸ ?_;simp) λs₁ I=>And.intro rfl (codeAny_func ?_)
 have hb2 : d.bound [Value.ref e, .str (Str.ofString x) tx]=([(("self" : Str),Value.ref e),(("reason" : Str),Value.str (Str.ofString x) tx)]:List (Str×Value)):=by
  unfold tR.bound;refine ae B.names▸ae B.ar▸ ?_;simp
 have I0:=I.toInCall
 replace I0:=hb2▸I0
 generalize hE : d.env s.heap.objs.size=env at *
 have hE : env=callEnvC d.fn s.heap.objs.size d.addr:=hE.symm
 obtain⟨p1,p2,p3,p4,p5,p6,p7,p8,p9,p10,hbody,hline⟩:=B.body
 refine ae hbody▸ ?_
 generalize hL : s.heap.objs.size=L at *
 have ⟨kl1,kl2,kl3⟩:=B.kl L
 rw[<-hE] at kl1 kl2 kl3
 have hkd : env.scope.kind= .function:=by rw[hE];exact F.kind
 obtain⟨m,hm⟩ : ∃m,m=(bindL env.kindOf [(("self" : Str),Value.ref e),(("reason" : Str),Value.str (Str.ofString x) tx)] λ_=>none):=⟨_,rfl⟩
 replace I0:=hm▸I0
 have m1 : m "self" = some (.ref e):=by subst hm;dsimp only[bindL,bindL,bindL];rw[if_pos kl1,if_pos kl2];simp;decide
 have m2 : m "reason" = some (.str (Str.ofString x) tx):=by rw[hm];dsimp only[bindL,bindL,bindL];rw[if_pos kl2];simp
 have hl : env.locals=L:=by refine (ah _ hE).trans ?_;rfl
 have hne : env.locals≠e:=λq=>by
  have:=aS he
  rw[hL,<-q,hl] at this
  exact Nat.lt_irrefl _ this
 have top1 : ∀b o,cx.h0.get? b=some o->s₁.heap.get? b=some o:=λb o z=>I0.keep b o (top b o z)
 have hab : cx.h0.objs.size<=env.locals:=by
  refine ae hl▸hL▸ ?_;exact aL (az h0 (aS he))
 refine wpAny_execs_cons (AY (cx:=cx) hline hkd (by refine (ah _ hE).trans ?_;exact F.gl) (by refine (ah _ hE).trans ?_;exact F.bi) kl1 kl2 kl3 B.ge FH (by decide) (by decide) (by decide) (by decide) Hn I0.ns m1 m2 hab top1 (kA (cx.X.keeps top1) hC) (I0.keep _ _ he) λh' tk t' k1 k2=> ?_)
 have nh0 : ∀b o,cx.h0.get? b=some o->b≠e:=λb o z q=>Nat.lt_irrefl _ (az h0 (q▸aS z))
 have ns2 : h'.Ns env.locals m:=by
  refine iR I0.ns λo' es ep z1 z2=> ?_
  exact⟨o',es,ep,k1 _ _ hne z1,z2⟩
 refine wpAny_execs_cons (AI (cx:=cx) (s:={ s₁ with heap:=h',toks:=tk }) hkd kl1 kl2 (by decide) (by decide) ns2 m1 m2 (cx.X.keeps (λb o z=>k1 b o (nh0 b o z) (top1 b o z))) (kA (cx.X.keeps (λb o z=>k1 b o (nh0 b o z) (top1 b o z))) hC) k2 sa re λh'' tk' t'' k3 k4=> ?_)
 refine ao ?_
 refine fv I0.same λh1 tk1 zr2_=> ?_;subst zr2_
 exact hq h'' tk' t'' (λb o hb z=>k3 b o hb (k1 b o hb (I0.keep b o z))) k4
end
theorem Md(t1:Sem Value):spliced [(false,t1)]=(t1 >>= λv=>holding [v] (pure []) >>= λr=>pure ([v]++r)):=rfl
theorem wpAny_keep{α:Type}{M:Model}{A:Around}{E:Value->Shared->Prop}{s:Shared}{vs:List Value}{m:Sem α}{Q:α->Shared->Prop}(h:wpAny M A m Q E s):wpAny M A (m.keep vs) Q E s:=
 λΓ p i=>by rw[Sem.wp_keep];exact h Γ p i
structure DQ(cx:Cx)(C B0:Addr)(d:tR):Prop where
 fn : rW cx d
 body : yy cx d
 cls : FL cx.K C B0=true
 MB : findIn cx.K (.ref C) "__init__" = some (some (.ref d.addr))
 ft : typeIn cx.K (.ref d.addr)=some (.type "function")
 sa : findIn cx.K (.ref C) "__setattr__" = some (some (.builtin "object.__setattr__"))
 re : findIn cx.K (.ref C) "reason" = some none
 kp : keepIn cx.K (.ref C)=true
section
variable {cx:Cx}{n:Nat}{fd:Fd}{A:Around}{E:Value->Shared->Prop}{s:Shared}{C B0:Addr}{d:tR}
theorem C2(K:DQ cx C B0 d)(top:∀b o,cx.h0.get? b=some o->s.heap.get? b=some o)(h0:cx.h0.objs.size<=s.heap.objs.size)(hdep:A.depth+1 < recursionLimit){x:String}{tx:Tok}{Q:Value->Shared->Prop}
  (hq:∀h' tk e t' o',(∀b o,s.heap.get? b=some o->h'.get? b=some o)->s.heap.get? e=none->h'.get? e=some o'->o'.cls= .ref C->o'.data=(excAt C t').data->Q (.ref e) { s with heap:=h',toks:=tk }) :
  wpAny cx.M A (call (.ref C) [.str (Str.ofString x) tx]) Q E s:=by
 have X : cx.K.In s.heap:=cx.X.keeps top
 obtain⟨nm,q,N,bs,sn,sub,ab,col,dd,k0,k1,k2,k3,k5,hC⟩:=kA X K.cls
 obtain⟨hp,g,dr,t,os⟩:=s
 dsimp only at top h0 X hC hq
 refine Dr hC (looks_findIn X K.MB) (λself=>bind_fn X self K.ft) (by rw[aU];simp) ?_
 have kk : ∀ (rest:List Value) b o,hp.get? b=some o->((hp.push (rf rest)).push (excAt C hp.objs.size)).get? b=some o:=λrest b o e=>aI _ (aI _ e)
 have hget : ∀rest : List Value,((hp.push (rf rest)).push (excAt C hp.objs.size)).get? (hp.objs.size+1)=some (excAt C hp.objs.size):=λrest=>by heap_get
 have hnew : hp.get? (hp.objs.size+1)=none:=Heap.get?_none_of_le (cT _)
 have hw : ∀rest : List Value,Code.weight (.builtin "type.__call__" ⟨.ref C::rest,[]⟩)=1:=λrest=>by kernel_rfl
 refine DE (cx:=cx) (C:=C) (B0:=B0) (e:=hp.objs.size+1) (t0:=hp.objs.size) (s:=⟨(hp.push (rf _)).push (excAt C hp.objs.size),g,dr,t,os⟩) K.fn K.body (λb o z=>kk _ b o (top b o z)) (by show A.depth+Code.weight _ < _;exact hdep) K.cls (hget _)
  (ad h0 (cT _)) K.sa K.re λh' tk t' k1 k2=>⟨rfl, ?_⟩
 refine pH k2 λo' z1 z2 z3=> ?_
 refine hq h' tk _ t' o' (λb o z=>k1 b o (λq=> ?_) (kk _ b o z)) hnew z1 z2 z3
 rw[q] at z;replace z:=hnew▸z;cases z
theorem Am{M:Model}{env:Env}{e t':Addr}{o':Obj}{Q:Flow->Shared->Prop}(hC:oI s.heap C B0)(hh:A.handled=none)(he:s.heap.get? e=some o')(hc:o'.cls= .ref C)(hd:o'.data=(excAt C t').data)(hE:E (.ref e) s) :
  wpAny M A (raiseStmt env (some (pure (.ref e))) none) Q E s:=by
 obtain⟨nm,q,N,bs,sn,sub,ab,col,dd,k0,k1,k2,k3,k5,hC⟩:=hC
 have hcB : (Value.ref C:: .ref B0::kN).contains (.type "BaseException")=true:=by rfl
 obtain⟨oc,od,dt,sl⟩:=o'
 dsimp only at hc hd
 subst hc hd
 obtain⟨hs,g,dr,t,os⟩:=s
 dsimp only at hC he
 unfold raiseStmt
 repeat (first | (with_reducible refine cD he ?_) | with_reducible refine cD hC ?_ | (with_reducible refine wpAny_isSubtype_exc hC ?_) | wp_step)
 exact wpAny_raiseNew_none hh hE
noncomputable abbrev P.raise(C:Addr):P MF:=λloc σ _ X=>X C loc σ
theorem xU(K:DQ cx C B0 d)(hkd:fd.env.scope.kind= .function){y:Str}{np cpos pos p:Pos}{k:Nat}{x:String}(hx:fd.env.kindOf y=some .globalImplicit)(hg:fd.env.globals=mainGlobals)(hd:(y==("__debug__" : Str))=false)
  (e:nsIn cx.K mainGlobals y=some (some (.ref C))):gf cx n fd (.Raise (some (.Call (.Name y np) [.Constant (.str (Str.ofString x)) k p] [] cpos)) none pos) (P.raise C):=by
 intro A ρ σ loc s Q X G _ hm
 show cW cx.M A (standAt pos >>= λ_=>raiseStmt fd.env (some (eval (.Call (.Name y np) [.Constant (.str (Str.ofString x)) k p] [] cpos) fd.env >>= λv=>standAt pos >>= λ_=>pure v)) none) _ _ s
 refine .of (af (ce ?_))
 dsimp only[raiseStmt]
 refine af (af ?_)
 show wpAny cx.M A (eval (.Name y np) fd.env >>= λf=>callWith cpos f [] (backTo cpos (starEach [.Constant (.str (Str.ofString x)) k p] fd.env)) []) _ _ s
 refine af (yH G.top hkd hx hg hd e ?_)
 skip
 refine af (bl ?_)
 unfold evalArgs
 show wpAny _ _ (spliced [(false,eval (.Constant (.str (Str.ofString x)) k p) fd.env)] >>= _) _ _ _
 rw[Md]
 refine af (af (wpAny_mkText (af (bl (ao (ao ?_))))))
 refine af (ao (bl (af (ao (af (ao (ao ?_)))))))
 refine af (ce ?_)
 have hst' : ((backTo cpos (starEach [.Constant (.str (Str.ofString x)) k p] fd.env)).any (λx=>x.fst)||([]:List (Option Str×Sem Value)).any (λx=>x.fst.isNone))=false:=rfl
 rw[hst']
 refine aT (looks_keep (M:=cx.M) K.kp cx.X) λkp hkp hk=> ?_
 refine af (hk A _ _ _ (λb o e=>G.top b o e) ?_)
 have main : ∀ {Q':Value->Shared->Prop}{E':Value->Shared->Prop}{t:Nat},(∀h' tk e t' o',(∀b o,s.heap.get? b=some o->h'.get? b=some o)->s.heap.get? e=none->h'.get? e=some o'->o'.cls= .ref C->o'.data=(excAt C t').data->Q' (.ref e) { s with heap:=h',toks:=tk })->
   wpAny cx.M A (call (.ref C) [.str (Str.ofString x) s.toks]) Q' E' { s with toks:=t }:=λ{Q' E' t} hq=>
  C2 (A:=A) (E:=E') (x:=x) (tx:=s.toks) (s:={ s with toks:=t }) K G.top G.oQ (by have:=G.ak.dep;exact az (bF (Nat.le_add_right_of_le (aG _)) (by decide)) this) hq
 have fin : ∀ (h':Heap)(tk:Nat)(e t':Addr)(o':Obj),(∀b o,s.heap.get? b=some o->h'.get? b=some o)->s.heap.get? e=none->h'.get? e=some o'->o'.cls= .ref C->o'.data=(excAt C t').data->
   wpAny cx.M A (raiseStmt fd.env (some (pure (.ref e))) none) (Out cx n fd A ρ σ s cg.mA Q) (ey cx n fd A ρ σ s X) { s with heap:=h',toks:=tk }:=by
  intro h' tk e t' o' z1 z2 z3 z4 z5
  refine Am (kA (cx.X.keeps λb o y=>z1 b o (G.top b o y)) K.cls) G.ak.hh z3 z4 z5 ?_
  refine⟨e,C,ρ,σ,loc,rfl,Step.grow G.di G.locals (dM (L:=fd.env.locals) z1) tk,G.grow (dM (L:=fd.env.locals) z1) tk,⟨o',_,_,z3,z4,z5,rfl,z2,λl u q=> ?_, .no rfl⟩,hm⟩
  obtain⟨_,o,y,_⟩:=G.low l u
  rw[q] at y;replace y:=z2▸y;exact nomatch y
 rcases hkp with rfl | rfl
 ·dsimp only
  split
  ·refine af (main ?_)
   intro h' tk e t' o' z1 z2 z3 z4 z5
   refine af (bl (wpAny_point (ao (af (ce (ao ?_))))))
   exact fin h' tk e t' o' z1 z2 z3 z4 z5
  ·refine af (wpAny_keep (main ?_))
   intro h' tk e t' o' z1 z2 z3 z4 z5
   refine af (bl (wpAny_point (ao (af (ce (ao ?_))))))
   exact fin h' tk e t' o' z1 z2 z3 z4 z5
 ·skip
  refine af (main ?_)
  intro h' tk e t' o' z1 z2 z3 z4 z5
  refine af (bl (wpAny_point (ao (af (ce (ao ?_))))))
  exact fin h' tk e t' o' z1 z2 z3 z4 z5
end
end Internal
namespace Internal
open PySem PySem.W PyProof.Rows PySem.Calls Builtin
section
variable {cx:Cx}{n:Nat}{fd:Fd}{A:Around}{ρ ρ':LA->Addr}{σ σ':MH}{loc loc':Loc}{s s₀ s':Shared}
theorem Out.setG{Q:Unit->Loc->MH->Prop}(G:Good cx n fd A ρ σ loc s){l:LA}(hl:σ.us l){o':MO}{x x':Obj}{h':Heap}(t:Nat)(hk:∀y o,y≠ρ l->s.heap.get? y=some o->h'.get? y=some o)
  (hx0:s.heap.get? (ρ l)=some x)(hx:h'.get? (ρ l)=some x')(hnt:¬Internal.IsTup x')(hrel:fh ρ σ.us s.heap ρ σ.us h'->mu cx.prog cx.w ρ σ.us h' (ρ l) o')(hq:Q () loc (σ.set l o')) :
  Out cx n fd A ρ σ s cg.unit Q () { s with heap:=h',toks:=t }:=by
 have g : ∀b o,s.heap.get? b=some o->(h'.update (ρ l) λ_=>x).get? b=some o:=λb o e=>by
  by_cases q : b=ρ l
  ·subst q;replace e:=hx0▸e;cases e;exact (dJ _ hx (Heap.get?_some_iff.mp hx0).2)
  ·exact (Heap.get?_update_ne _ _ _ _ q).trans (hk b o q e)
 have S1:=Step.grow (ρ:=ρ) (U:=σ.us) G.di G.locals (dM (L:=fd.env.locals) g) s.toks
 refine Out.pre S1 (Out.set (G.grow (dM (L:=fd.env.locals) g) s.toks) hl t ((Heap.size_update ..).symm) (λa q=>(Heap.get?_update_ne _ _ _ _ q).symm) hx hnt (λk=>hrel ((S1.keeps G).trans k)) hq)
inductive tj(lo hi:Option Int)(loc:Loc)(σ:MH)(Q:Unit->Loc->MH->Prop):MV->MV->Prop where
 |mk {l b c} (e:σ.get l=some (.bW b))(a:b.length<=100000/\c.length<=100000)(h:Q () loc (σ.set l (.bW (gd b lo hi c)))):tj lo hi loc σ Q (.ref l) (.bytes c)
noncomputable abbrev P.rA(a:MV)(lo hi:Option Int)(v:MV):P Unit:=λloc σ Q _=>tj lo hi loc σ Q a v
theorem zN{a v:MV}{i j:Option Int}{ov iv vv:Value}:aM cx n fd (λρ U h=>cg.slice ρ U h (i,j) iv/\VR ρ U h a ov/\VR ρ U h v vv) cg.unit (holding [vv,ov,iv] (setItem ov iv vv) >>= λ_=>release [iv,vv,ov] []) (P.rA a i j v):=by
 intro A ρ σ loc s Q X G hp hm
 obtain⟨⟨xa,l,u,rfl,h1,h2,h3⟩,ra,rv⟩:=hp
 induction hm with
 |mk e b h=>
  have e2:=(G.obj _ _ e).2
  apply ra.eB;intro u1;apply rv.dg;intro t
  exact ai (aJ (wM e2 h1 h2 h3 b.1 b.2 λh' hk hb=>eD (Out.setG (o':= .bW _) G u1 s.toks hk e2 hb gN (λ_=>hb) h)))
theorem vS{o:Expr}{lo hi:Option Expr}{p pos:Pos}{m ml mh:P MV}(ho:bO cx n fd o m)(hl:sy cx n fd lo ml)(hh:sy cx n fd hi mh) :
  ew cx n fd (.Subscript o (.Slice lo hi none p) pos) (λv=>m.bind λa=>P.bounds ml mh λi j=>P.rA a i j v):=by
 intro v vv
 show aM cx n fd _ _ (holding [vv] (eval o fd.env) >>= λov=>holding [vv,ov] (eval (.Slice lo hi none p) fd.env) >>= λiv=>standAt pos >>= λ_=>holding [vv,ov,iv] (setItem ov iv vv) >>= λ_=>release [iv,vv,ov] []) _
 exact aM.bind (aM.holding (aM.gU bM.vr ho)) λa ov=>aM.bind (aM.holding (aM.side (bM.and bM.vr bM.vr) (qL hl hh))) λb iv=>aM.standAt zN
end
inductive uT(loc:Loc)(σ:MH)(Q:MV->Loc->MH->Prop):String->MV->Prop where
 |int {i} (h:Q (.bool true) loc σ):uT loc σ Q "int" (.int i)
 |oct {b} (h:Q (.bool false) loc σ):uT loc σ Q "str" (.bytes b)
noncomputable abbrev P.iq(T:String)(a:MV):P MV:=λloc σ Q _=>uT loc σ Q T a
theorem sB : kitOne [] (.type "bytes") (.type "str")=some false:=by decide +kernel
section
variable {cx:Cx}{n:Nat}{fd:Fd}{A:Around}{ρ ρ':LA->Addr}{σ σ':MH}{loc loc':Loc}{s s₀ s':Shared}
theorem xf{x y:Str}{np py pos:Pos}{T:String}{e:Expr}{m:P MV}(hn:fk cx n fd (.Name x np) (.builtin "isinstance")) (ht:fk cx n fd (.Name y py) (.type T))(hp:cj e=true)(h:bO cx n fd e m) :
  bO cx n fd (.Call (.Name x np) [e, .Name y py] [] pos) (m.bind (P.iq T)):=by
 intro A ρ σ loc s Q X G _ hm
 show cW cx.M A (eval (.Name x np) fd.env >>= λf=>callWith pos f [] (backTo pos (starEach [e, .Name y py] fd.env)) []) _ _ s
 refine ai (.of (hn A ρ σ loc s _ _ G ?_))
 refine ae (show starEach [e, .Name y py] fd.env=[(false,eval e fd.env),(false,eval (.Name y py) fd.env)] by refine ((fA hp)).trans ?_;rfl)▸ ?_
 dsimp only[callWith]
 refine ai (aJ ?_)
 refine jj rfl ?_
 show cW _ _ (spliced [(false,eval e fd.env),(false,eval (.Name y py) fd.env)]) _ _ _
 rw[Ku]
 refine ai (aD (h A ρ σ loc s _ X G trivial hm) (λv s1 z=> ?_) λ_ _ z=>z)
 obtain⟨a,ρ1,σ1,l1,S1,G1,r1,hq⟩:=z
 refine ai (aJ (ai (.of (ht A ρ1 σ1 l1 s1 _ _ G1 (ai (aJ (ax (ax (ax ?_)))))))))
 refine ai (bB ?_)
 have hst : ((backTo pos [(false,eval e fd.env),(false,eval (.Name y py) fd.env)]).any (λx=>x.fst)||([]:List (Option Str×Sem Value)).any (λx=>x.fst.isNone))=false:=rfl
 refine ai (ax (a:=Keeper.machine) ?_)
 have main : cW cx.M A (call (.builtin "isinstance") [v, .type T]) (Out cx n fd A ρ1 σ1 s1 VR Q) (ey cx n fd A ρ1 σ1 s1 X) s1:=by
  induction hq with
  |int h=>apply r1.eH;intro t;exact .of (PySem.IsiPair.int_int (Out.now G1 .bool h))
  |oct h=>apply r1.dg;intro t;exact .of (kia_one (K:=[]) kitx_bytes (λ_ _ q=>by cases q) trivial sB (λq=>by cases q) λtk=>Out.pre (Step.tok tk) (Out.now (G1.tok tk) .bool h))
 exact ai (aD main (λr s₂ hr=>ai (aJ (.of (wpAny_point (ax (hr.pre S1)))))) λ_ _ y=>y.pre S1)
end
end Internal
namespace Internal
open PySem PySem.W PyProof.Rows PySem.Calls Builtin PySem.EqNone
theorem HV : isSubtype (.type "int") (.type "str")=pure false:=by rw[cA];kernel_rfl
theorem HW : isSubtype (.type "str") (.type "int")=pure false:=by rw[cA];kernel_rfl
theorem th(i:Int)(t:Tok)(x:Str)(u:Tok):Gives (Builtin.«int.__eq__» ⟨[.int i t, .str x u],[]⟩) (.val (Value.notImplemented)):=
 .of_wp λM A E s Q h=>by
  obtain⟨hp,g,d,tk,os⟩:=s;wp_walk;exact⟨_,rfl,h⟩
theorem sR(i:Int)(t:Tok)(x:Str)(u:Tok):Gives (Builtin.«str.__eq__» ⟨[.str x u, .int i t],[]⟩) (.val (Value.notImplemented)):=
 .of_wp λM A E s Q h=>by
  obtain⟨hp,g,d,tk,os⟩:=s;wp_walk;exact⟨_,rfl,h⟩
section
variable {prog:Program}{w:World}{A:Around}{E:Value->Shared->Prop}{s:Shared}
theorem eq_int_str{i:Int}{t:Tok}{x:Str}{u:Tok}{Q:Value->Shared->Prop}(h:Q (.bool false) s):wpAny (model prog w) A (compareOp .Eq (.int i t) (.str x u)) Q E s:=by
 exact wpAny_richCompare_eq_decline (k:=false) (λ_=>rfl) (λ_=>rfl) (by decide) HW PySem.F.slot_int_eq PySem.F.slot_str_eq_refl rfl
  (call_gives PySem.F.slot_int_eq rfl PySem.F.entry_int_eq (PySem.F.args_int_eq_2 _ _) (th i t x u) ⟨rfl,call_gives PySem.F.slot_str_eq_refl rfl PySem.F.entry_str_eq (PySem.F.args_str_eq_2 _ _) (sR i t x u) ⟨rfl,h⟩⟩)
theorem eq_str_int{i:Int}{t:Tok}{x:Str}{u:Tok}{Q:Value->Shared->Prop}(h:Q (.bool false) s):wpAny (model prog w) A (compareOp .Eq (.str x u) (.int i t)) Q E s:=by
 exact wpAny_richCompare_eq_decline (k:=false) (λ_=>rfl) (λ_=>rfl) (by decide) HV PySem.F.slot_str_eq PySem.F.slot_int_eq_refl rfl
  (call_gives PySem.F.slot_str_eq rfl PySem.F.entry_str_eq (PySem.F.args_str_eq_2 _ _) (sR i t x u) ⟨rfl,call_gives PySem.F.slot_int_eq_refl rfl PySem.F.entry_int_eq (PySem.F.args_int_eq_2 _ _) (th i t x u) ⟨rfl,h⟩⟩)
end
noncomputable def m0 : Int ⊕ Str->Value->Bool
 | .inl i,v=>Value.isInt i v
 | .inr x,v=>Value.isStrOf x v
noncomputable def mixHash(w:World):Int ⊕ Str->Int
 | .inl i=>hashInt i
 | .inr x=>hashStr w x
theorem Fq(a b:Int):decide ((Sum.inl a : Int ⊕ Str)=Sum.inl b)=(a==b):=by by_cases q : a=b<;>simp[q]
theorem EB(a b:Str):decide ((Sum.inr a : Int ⊕ Str)=Sum.inr b)=decide (a=b):=by by_cases q : a=b<;>simp[q]
noncomputable def yw(prog:Program)(w:World):KeyKind prog w (Int ⊕ Str) where
 is:=m0
 hash:=mixHash w
 inj:=λv a b ha hb=>by
  cases a<;>cases b<;>simp only[m0] at ha hb
  ·exact ah _ (Value.isInt_inj _ _ _ ha hb)
  ·obtain⟨t,rfl⟩:=Value.isInt_shape ha;cases hb
  ·obtain⟨t,rfl⟩:=Value.isInt_shape hb;cases ha
  ·exact ah _ (Value.isStrOf_inj _ _ _ ha hb)
 byValue:=λk v h=>by
  cases k<;>simp only[m0] at h
  ·obtain⟨t,rfl⟩:=Value.isInt_shape h;rfl
  ·obtain⟨t,rfl⟩:=Value.isStrOf_shape h;rfl
 pyHash:=λ{_ _ _ k _ _} hv h=>by
  cases k<;>simp only[m0] at hv
  ·obtain⟨t,rfl⟩:=Value.isInt_shape hv;exact wpAny_pyHash_int h
  ·obtain⟨t,rfl⟩:=Value.isStrOf_shape hv;exact wpAny_pyHash_str h
 eqBool:=λ{_ _ _ a b _ _ _} hu hv h=>by
  cases a<;>cases b<;>simp only[m0] at hu hv
  ·obtain⟨t,rfl⟩:=Value.isInt_shape hu
   obtain⟨u,rfl⟩:=Value.isInt_shape hv
   exact wpAny_eqBool_int (by rw[Fq] at h;exact h)
  ·obtain⟨t,rfl⟩:=Value.isInt_shape hu
   obtain⟨u,rfl⟩:=Value.isStrOf_shape hv
   exact kB (k:=false) (λq=>by cases q) (λ_ _ q=>by cases q) (by simpa using h) λQ hq=>eq_int_str hq
  ·obtain⟨t,rfl⟩:=Value.isStrOf_shape hu
   obtain⟨u,rfl⟩:=Value.isInt_shape hv
   exact kB (k:=false) (λq=>by cases q) (λ_ _ q=>by cases q) (by simpa using h) λQ hq=>eq_str_int hq
  ·obtain⟨t,rfl⟩:=Value.isStrOf_shape hu
   obtain⟨u,rfl⟩:=Value.isStrOf_shape hv
   exact wpAny_eqBool_str (by rw[EB] at h;exact h)
 «strs»:=λk x t v h=>by
  cases k<;>simp only[m0] at h ⊢
  ·cases h
  ·exact (PySem.strKind prog w).«strs» _ _ t _ h
noncomputable def met{K:Type} [DecidableEq K] (ks:List K):List K:=ks.foldl (λacc k=>if k∈acc then acc else acc++[k]) []
theorem CB{K:Type} [DecidableEq K] (ks:List K)(k:K):met (ks++[k])=if k∈met ks then met ks else met ks++[k]:=by
 unfold met;exact List.foldl_append
theorem Dc{K:Type} [DecidableEq K]:∀ (ks acc:List K),(ks.foldl (λacc k=>if k∈acc then acc else acc++[k]) acc).length<=acc.length+ks.length
 | [],acc=>by exact a9 (List.foldl (λacc k=>if k∈acc then acc else acc++[k]) acc []).length [].length
 |k::ks,acc=>by
  rw[List.foldl_cons]
  refine ad (Dc ks _) ?_
  split;exact bb (cT _) _;rw[aA];exact aw (Nat.add_right_comm ..)
theorem xj{K:Type} [DecidableEq K] (ks:List K):(met ks).length<=ks.length:=by
 have:=Dc ks []
 simpa [met] using this
section
variable {prog:Program}{w:World}{A:Around}{R:Result->Shared->Prop}{I:Addr}{fp wr:List Addr}{G:Array GenState->Array GenState->Prop}{n:Nat}{P:Nat->Value->Prop}{St:Nat->Shared->Prop}
variable {K:Type} [DecidableEq K] {knd:KeyKind prog w K}
theorem Dq(W:WalksS prog w A.in1 I fp wr G n P St)(S:Addr)(hSf:S∉fp)
  (ks:List K)(hval:∀i v,P i v->∃k,ks[i]?=some k/\knd.is k v=true/\v.scannable=true)(hb:n+1 < scanBound) :
  ∀ (k i:Nat)(s:Shared),n - i=k->i<=n->St i s->
   s.heap.SetOf knd S (λk'=>decide (k'∈met (ks.take i))) (met (ks.take i)).length->
   (∀s',Moved (S::wr) G s s'->s'.heap.SetOf knd S (λk'=>decide (k'∈met (ks.take n))) (met (ks.take n)).length->R (.ok (.ret .none)) s')->
   codeAny (model prog w) A (.builtin "set.update.loop" ⟨[.ref S, .ref I],[]⟩) R s:=by
 have hSw : S∉wr:=λh=>hSf (W.sub _ h)
 intro k
 induction k with
 |zero=>
  intro i s hk hi hst hS hR
  have hin : i=n:=IF hk hi
  subst hin
  refine dE PyProof.Rows.F.entry_set_update_loop ?_
  refine af (W.done s _ _ hst λs' hm=> ?_)
  exact ao (hR s' (hm.mono (λb hb=>aB _ hb)) (by
   refine wY hS λo es ep t ho rest=> ?_
   exact⟨o,es,ep,t,hm.heap S _ hSw ho,rest⟩))
 |succ k ih=>
  intro i s hk hi hst hS hR
  have hlt : i < n:=by exact Nat.lt_of_sub_eq_succ hk
  refine dE PyProof.Rows.F.entry_set_update_loop ?_
  show wpAny _ A.in1 (pyNext (.ref I) >>= _) _ _ s
  refine af (W.item i s _ _ hlt hst λv s' hP hst' hm=> ?_)
  refine pH (hval i v hP) λki hki his hsc=> ?_
  have hS' : s'.heap.SetOf knd S (λk'=>decide (k'∈met (ks.take i))) (met (ks.take i)).length:=by
   refine wY hS λo es ep tb ho rest=> ?_
   exact⟨o,es,ep,tb,hm.heap S _ hSw ho,rest⟩
  refine af (bl ?_)
  refine bl ?_
  refine af (knd.pyHash (k:=ki) his ?_)
  refine wpAny_setAddHashed_of (knd:=knd) (s:={ s' with toks:=s'.toks+1 }) his hsc hS' (by have:=xj (ks.take i);have : (ks.take i).length<=i:=(by rw[bK];exact Nat.min_le_left _ _);exact az (Nat.succ_le_succ (ad (xj _) (ad this (aL hlt)))) hb) λh' hsb hS2=> ?_
  have hSi : h'.SetOf knd S (λk'=>decide (k'∈met (ks.take (i+1)))) (met (ks.take (i+1))).length:=by
   rw[(show ks.take (i+1)=ks.take i++[ki] by refine (bV).trans ?_;refine ae hki▸ ?_;rfl),CB]
   by_cases q : ki∈met (ks.take i)
   ·rw[if_pos q]
    simp only[q,decide_true,if_true] at hS2
    have e : (λk'=>decide (k'∈met (ks.take i))||decide (k'=ki))=λk'=>decide (k'∈met (ks.take i)):=by
     funext k';by_cases z : k'=ki
     ·cases z;simp[q]
     ·simp[z]
    rw[e] at hS2;exact hS2
   ·rw[if_neg q]
    simp only[q,decide_false,Bool.false_eq_true,if_false] at hS2
    have e : (λk'=>decide (k'∈met (ks.take i))||decide (k'=ki))=λk'=>decide (k'∈met (ks.take i)++[ki]):=by
     funext k';simp
    rw[e] at hS2;refine ae aA▸ ?_;exact hS2
  refine ao ⟨plainId_quiet PyProof.Rows.F.plain_set_update_loop _,ih (i+1) _ (I4 hk) hlt (W.frame _ s' _ _ hst' (cT _) λb hb o e=> ?_) hSi λs'' hm'' hS''=> ?_⟩
  ·refine ((hsb.2 b (λh:b=S=>hSf (by rw[<-h];exact hb)))).trans ?_;exact e
  ·refine hR s'' (Moved.trans W.gtrans ((hm.mono (λb hb=>aB _ hb)).then_heap (cT _) λb o hb e=> ?_) hm'') hS''
   refine ((hsb.2 b (λh:b=S=>hb (by rw[h];exact aV)))).trans ?_;exact e
end
end Internal
namespace Internal
open PySem PySem.W PyProof.Rows PySem.Calls
inductive IR where
 |fail | nil
 |cons (a b:IR)
 |ag (v:MV)
 |aa (i:Nat)
 |glob (x:String)(v:MV)
 |bin (op:Operator)(a b:IR)
 |cmp (op:CmpOp)(a b:IR)
 |ky (o1 o2:CmpOp)(a b c:IR)
 |ite (t a b:IR)
 |not (a:IR)
 |and (a b:IR)
 |or (a b:IR)
 |am (a:IR)(x:String)
 |item (a b:IR)
 |slice (a lo hi:IR)
 |list (es:IR)
 |tup (es:IR)
 |iU
 |dD (ks:List String)(es:IR)
 |comp (cn:List Str)(cmap:List (Option Nat))(tt:Bool)(i tg ifs el:IR)
 |call (x:String)(f:Value)(es:IR)
 |aO (o:IR)(x:String)(es:IR)
 |iq (T:String)(a:IR)
 |mx (a:IR)
 |pt (a:IR)
 |mz (a:IR)
 |iter (a:IR)
 |range (es:IR)
 |enum (a:IR)
 |rev (a:IR)
 |expr (a:IR)
 |asg (t a:IR)
 |aug (o:IR)(x:String)(op:Operator)(v:IR)
 |del (o i:IR)
 |dH (t a b:IR)
 |gS (t b:IR)
 |fR (tt:Bool)(t i b:IR)
 |ret (a:IR)
 |A8 | pass | brk
 |raise (n:String)(C:Addr)(x:String)
 |Ea (hs:List (String×Addr×MV))(b:IR)
structure Tab extends Tb where
 fn : Addr->Option (Nat×Nat×List MV×IR)
 cls : Addr->Option Addr
 nU : Addr->Addr->Option Bool
 eqs : Addr->Bool
noncomputable def lz : List MV->Option (List (Int ⊕ Str))
 | []=>some []
 | .int i::r=>(lz r).map (.inl i::·)
 | .str x::r=>(lz r).map (.inr (Str.ofString x)::·)
 |_=>none
inductive zu(loc:Loc)(σ:MH)(Q:MV->Loc->MH->Prop):MV->Prop where
 |mk {l vs ks} (e:σ.get l=some (.list vs))(f:lz vs=some ks)(a:ks.length<=1000)(h:Q (.int (met ks).length) loc σ):zu loc σ Q (.ref l)
noncomputable abbrev P.mx(a:MV):P MV:=λloc σ Q _=>zu loc σ Q a
noncomputable abbrev yz(p:List UInt8×MV):MV:= .tup [.bytes p.1,p.2]
inductive DM(loc:Loc)(σ:MH)(Q:MV->Loc->MH->Prop):MV->Prop where
 |mk {l es r} (e:σ.get l=some (.list (es.map yz)))(a:es.length<=1000/\(es.map (·.1)).Nodup)(n:¬σ.us r)(h:Q (.ref r) loc (σ.new r (.iS es))):DM loc σ Q (.ref l)
noncomputable abbrev P.pt(a:MV):P MV:=λloc σ Q _=>DM loc σ Q a
inductive DW(loc:Loc)(σ:MH)(Q:MV->Loc->MH->Prop):List MV->Prop where
 |mk {l es r} (e:σ.get l=some (.bS es))(a:es.length<=1000)(n:¬σ.us r)(h:Q (.ref r) loc (σ.new r (.bS es))):DW loc σ Q [.ref l]
noncomputable abbrev P.He(as:List MV):P MV:=λloc σ Q _=>DW loc σ Q as
inductive wW(loc:Loc)(σ:MH)(Q:MV->Loc->MH->Prop):List MV->Prop where
 |mk {l vs r} (e:σ.get l=some (.list vs))(a:vs.length<=1000)(n:¬σ.us r)(h:Q (.ref r) loc (σ.new r (.list vs))):wW loc σ Q [.ref l]
noncomputable abbrev P.Hg(as:List MV):P MV:=λloc σ Q _=>wW loc σ Q as
inductive yF(loc:Loc)(σ:MH)(Q:MV->Loc->MH->Prop):MV->Prop where
 |mk {r} (n:¬σ.us r)(h:Q (.ref r) loc (σ.new r (.list []))):yF loc σ Q (.int 0)
noncomputable abbrev P.mz(a:MV):P MV:=λloc σ Q _=>yF loc σ Q a
noncomputable abbrev P.D5(as:List MV):P MV:=λloc σ Q _=>as.length<=100000/\Q (.tup as) loc σ
structure Dn where
 e : P MV:=P.fail
 b : P Bool:=P.fail
 it : P It:=P.fail
 t : MV->P Unit:=λ_=>P.fail
 s : P MF:=P.fail
 ms : List (P MV):=[P.fail]
 ts : List MV->P Unit:=λ_=>P.fail
 tn : Nat:=0
 c : P Bool:=P.fail
noncomputable abbrev Dn.ex(m:P MV):Dn:={ e:=m,b:=m.bind P.truth }
noncomputable abbrev Dn.st(m:P MF):Dn:={ s:=m }
noncomputable abbrev Dn.bo(m:P MV)(b:P Bool):Dn:={ e:=m,b:=b }
noncomputable def den(T:Tab)(call:Value->List MV->P MV):IR->Dn
 | .fail=>{}
 | .nil=>{ s:=P.ret .next,ms:=[],ts:=λas=>(match as with | []=>P.ret () | _=>P.fail),c:=P.ret true,e:=P.ret .none }
 | .cons a b=>{ s:=P.seq (den T call a).s (den T call b).s,ms:=(den T call a).e::(den T call b).ms,tn:=(den T call b).tn+1,ts:=λas=>(match as with | x::r=>((den T call a).t x).bind λ_=>(den T call b).ts r | []=>P.fail),c:=(den T call a).b }
 | .ag v=> .ex (P.ret v)
 | .aa i=>{ e:=P.aa i,b:=(P.aa i).bind P.truth,t:=P.store i }
 | .glob _ v=> .ex (P.ret v)
 | .bin op a b=> .ex ((den T call a).e.bind λx=>(den T call b).e.bind λy=>P.bin op x y)
 | .cmp op a b=> .bo ((den T call a).e.bind λx=>(den T call b).e.bind λy=>P.cmp op x y) ((den T call a).e.bind λx=>(den T call b).e.bind λy=>(P.cmp op x y).bind P.truth)
 | .ky o1 o2 a b c=>{ e:=(den T call a).e.bind λx=>(den T call b).e.bind (λy=>(P.cmp o1 x y).bind λr=>P.cond (P.truth r) ((den T call c).e.bind λz=>P.cmp o2 y z) (P.ret r)),b:=(den T call a).e.bind λx=>(den T call b).e.bind λy=>P.cond ((P.cmp o1 x y).bind P.truth) ((den T call c).e.bind λz=>(P.cmp o2 y z).bind P.truth) (P.ret false) }
 | .ite t a b=>{ e:=P.cond (den T call t).b (den T call a).e (den T call b).e }
 | .not a=> .bo (((den T call a).e.bind P.truth).bind λb=>P.ret (.bool (!b))) (P.not (den T call a).b)
 | .and a b=> .bo ((den T call a).e.bind λx=>P.cond (P.truth x) (den T call b).e (P.ret x)) (P.cond (den T call a).b (den T call b).b (P.ret false))
 | .or a b=> .bo ((den T call a).e.bind λx=>P.cond (P.truth x) (P.ret x) (den T call b).e) (P.cond (den T call a).b (P.ret true) (den T call b).b)
 | .am a x=>{ e:=(den T call a).e.bind (P.am T.am x),b:=((den T call a).e.bind (P.am T.am x)).bind P.truth,t:=λv=>(den T call a).e.bind λo=>P.setattr T.am x o v }
 | .item a b=>{ e:=(den T call a).e.bind λx=>(den T call b).e.bind (λy=>P.item x y),b:=((den T call a).e.bind λx=>(den T call b).e.bind λy=>P.item x y).bind P.truth,t:=λv=>(den T call a).e.bind λx=>(den T call b).e.bind λy=>P.vk x y v }
 | .slice a lo hi=>{ e:=(den T call a).e.bind λx=>P.bounds (den T call lo).e (den T call hi).e λi j=>P.slice x i j,b:=((den T call a).e.bind λx=>P.bounds (den T call lo).e (den T call hi).e λi j=>P.slice x i j).bind P.truth,t:=λv=>(den T call a).e.bind λx=>P.bounds (den T call lo).e (den T call hi).e λi j=>P.rA x i j v }
 | .list es=> .ex ((P.gT (den T call es).ms).bind P.vh)
 | .tup es=>{ e:=(P.gT (den T call es).ms).bind P.D5,b:=((P.gT (den T call es).ms).bind P.D5).bind P.truth,t:=P.zx (den T call es).tn (den T call es).ts }
 | .iU=> .ex P.iU
 | .dD ks es=> .ex ((P.gT (den T call es).ms).bind (P.dD ks))
 | .comp _ cmap tt i tg ifs el=> .ex (P.comp cmap tt (den T call i).it (den T call tg).t (den T call ifs).c (den T call el).e)
 | .call _ f es=> .ex ((P.gT (den T call es).ms).bind (call f))
 | .aO o x es=> .ex ((den T call o).e.bind λa=>(P.method T.toTb a x).bind λf=>(P.gT (den T call es).ms).bind λas=>call f (a::as))
 | .iq t a=> .ex ((den T call a).e.bind (P.iq t))
 | .mx a=> .ex ((den T call a).e.bind P.mx)
 | .pt a=> .ex ((den T call a).e.bind P.pt)
 | .mz a=> .ex ((den T call a).e.bind P.mz)
 | .iter a=>{ it:=(den T call a).e.bind P.D3 }
 | .range es=>{ it:=(P.gT (den T call es).ms).bind P.zw }
 | .enum a=>{ it:=(den T call a).e.bind (P.vm λl _=> .nT l 0) }
 | .rev a=>{ it:=(den T call a).e.bind (P.vm λl vs=> .rev l vs.length) }
 | .expr a=> .st ((den T call a).e.bind λ_=>P.ret .next)
 | .asg t a=> .st ((den T call a).e.bind λv=>((den T call t).t v).bind λ_=>P.ret .next)
 | .aug o x op v=> .st (P.aug T.am x op (den T call o).e (den T call v).e)
 | .del o i=> .st ((den T call o).e.bind λa=>(den T call i).e.bind λb=>(P.vo a b).bind λ_=>P.ret .next)
 | .dH t a b=> .st (P.cond (den T call t).b (den T call a).s (den T call b).s)
 | .gS t b=> .st (P.while (den T call t).b (den T call b).s (P.ret .next))
 | .fR tt t i b=> .st (P.M1 tt (den T call i).it (den T call t).t (den T call b).s (P.ret .next))
 | .ret a=> .st ((den T call a).e.bind λv=>P.ret (.ret v))
 | .A8=> .st (P.ret (.ret .none))
 | .pass=> .st (P.ret .next)
 | .brk=> .st (P.ret .brk)
 | .raise _ C _=> .st (P.raise C)
 | .Ea hs b=> .st (P.try T.nU (hs.map (·.2)) (den T call b).s)
noncomputable def GY(T:Tab)(id:String)(as:List MV):P MV:=
 if id = "len" then P.len as else if id = "list.append" then P.KV as else if id = "dict.get" then P.Li as else if id = "bytearray.append" then P.Lj as
 else if id = "bytearray.extend" then P.K7 as else if id = "list.index" then P.Eh as else if id = "list.count" then P.D6 as else if id = "list.remove" then P.zv T.eqs as
 else if id = "abs" then P.abs as else if id = "min" then P.min as else if id = "sum" then P.sum as else P.fail
noncomputable def GQ(t:String)(as:List MV):P MV:=
 if t = "bytes" then P.bytes as else if t = "bytearray" then P.bytearray as else if t = "dict" then P.He as else if t = "list" then P.Hg as else P.fail
noncomputable abbrev PH.fail{α:Type}:PH α:=λ_ _ _=>False
noncomputable abbrev PH.Nb(ar nl:Nat)(dm args:List MV)(m:P MF):PH MV:=λσ Q X=>(args.length<=ar/\ar<=args.length+dm.length)/\
 m ((args++dm.drop (dm.length - (ar - args.length))).map some++List.replicate (nl - ar) none) σ (λf _ σ'=>Q (f0 f) σ') (λC _ σ'=>X C σ')
noncomputable abbrev yr(T:Tab)(h:Addr->List MV->PH MV)(f:Value)(as:List MV):P MV:=match f with
 | .ref a=>P.MR (h a as)
 | .builtin id=>GY T id as
 | .type t=>GQ t as
 |_=>P.fail
noncomputable def kY(T:Tab):Nat->Addr->List MV->PH MV
 |0,_,_=>PH.fail
 |n+1,a,args=>match T.fn a with
  |some (ar,nl,dm,body)=>PH.Nb ar nl dm args (den T (yr T (kY T n)) body).s
  |none=>match T.cls a with
   |some init=>PH.new a λself=>kY T n init (self::args)
   |none=>PH.fail
noncomputable abbrev za(T:Tab)(n:Nat):Value->List MV->P MV:=yr T (kY T n)
end Internal
namespace Internal
open PySem
section
noncomputable abbrev eG : Addr:=204
noncomputable abbrev lg : Addr:=293
noncomputable abbrev jX : Addr:=453
noncomputable abbrev oN : Addr:=659
noncomputable abbrev gA : Addr:=757
noncomputable abbrev lM : Addr:=874
noncomputable abbrev jB : Addr:=972
noncomputable abbrev eP : Addr:=1083
noncomputable abbrev qa : Addr:=76
noncomputable abbrev Bz : Addr:=88
noncomputable abbrev q8 : IR:= .cons (.ret (.bin .BitOr (.item (.aa 0) (.aa 1)) (.bin .LShift (.item (.aa 0) (.bin .Add (.aa 1) (.ag (.int 1)))) (.ag (.int 8))))) .nil
noncomputable abbrev qG : IR:= .cons (.ret (.bin .BitOr (.call "half_at" (.ref 116) (.cons (.aa 0) (.cons (.aa 1) .nil))) (.bin .LShift (.call "half_at" (.ref 116) (.cons (.aa 0) (.cons (.bin .Add (.aa 1) (.ag (.int 2))) .nil))) (.ag (.int 16))))) .nil
noncomputable abbrev pf : IR:= .cons (.asg (.item (.aa 0) (.aa 1)) (.bin .BitAnd (.aa 2) (.ag (.int 255)))) (.cons (.asg (.item (.aa 0) (.bin .Add (.aa 1) (.ag (.int 1)))) (.bin .BitAnd (.bin .RShift (.aa 2) (.ag (.int 8))) (.ag (.int 255)))) .nil)
noncomputable abbrev pe : IR:= .cons (.expr (.call "put_half" (.ref 130) (.cons (.aa 0) (.cons (.aa 1) (.cons (.bin .BitAnd (.aa 2) (.ag (.int 65535))) .nil))))) (.cons (.expr (.call "put_half" (.ref 130) (.cons (.aa 0) (.cons (.bin .Add (.aa 1) (.ag (.int 2))) (.cons (.bin .BitAnd (.bin .RShift (.aa 2) (.ag (.int 16))) (.ag (.int 65535))) .nil))))) .nil)
noncomputable abbrev ly : IR:= .cons (.ret (.bin .FloorDiv (.bin .Sub (.bin .Add (.aa 0) (.aa 1)) (.ag (.int 1))) (.aa 1))) .nil
noncomputable abbrev kZ : IR:= .cons (.dH (.or (.cmp .Lt (.aa 5) (.ag (.int 1))) (.or (.cmp .Lt (.aa 1) (.bin .Add (.glob "HEAD" (.int 12)) (.bin .Mult (.ag (.int 4)) (.bin .Add (.aa 5) (.ag (.int 1)))))) (.cmp .Lt (.aa 1) (.bin .Mult (.ag (.int 4)) (.glob "SUPER_WORDS" (.int 9)))))) (.cons .fail .nil) .nil) (.cons (.dH (.cmp .NotEq (.bin .Mod (.aa 1) (.glob "PIECE" (.int 16))) (.ag (.int 0))) (.cons .fail .nil) .nil) (.cons (.dH (.or (.cmp .Lt (.aa 3) (.ag (.int 2))) (.or (.cmp .Lt (.aa 4) (.ag (.int 2))) (.cmp .Lt (.aa 2) (.ag (.int 1))))) (.cons .fail .nil) .nil) (.cons (.asg (.am (.aa 0) "block") (.aa 1)) (.cons (.asg (.am (.aa 0) "blocks") (.aa 2)) (.cons (.asg (.am (.aa 0) "inodes") (.aa 3)) (.cons (.asg (.am (.aa 0) "log") (.aa 4)) (.cons (.asg (.am (.aa 0) "direct") (.aa 5)) (.cons (.asg (.am (.aa 0) "row") (.bin .Add (.glob "HEAD" (.int 12)) (.bin .Mult (.ag (.int 4)) (.bin .Add (.aa 5) (.ag (.int 1)))))) (.cons (.asg (.am (.aa 0) "rows") (.bin .FloorDiv (.aa 1) (.am (.aa 0) "row"))) (.cons (.asg (.am (.aa 0) "indirect") (.bin .FloorDiv (.aa 1) (.ag (.int 4)))) (.cons (.asg (.am (.aa 0) "log_start") (.glob "FIRST_LOG" (.int 2))) (.cons (.asg (.am (.aa 0) "inode_start") (.bin .Add (.glob "FIRST_LOG" (.int 2)) (.aa 4))) (.cons (.asg (.am (.aa 0) "bitmap_start") (.bin .Add (.am (.aa 0) "inode_start") (.call "rounded_up" (.ref 144) (.cons (.aa 3) (.cons (.am (.aa 0) "rows") .nil))))) (.cons (.asg (.am (.aa 0) "data_start") (.bin .Add (.am (.aa 0) "bitmap_start") (.call "rounded_up" (.ref 144) (.cons (.aa 2) (.cons (.bin .Mult (.ag (.int 8)) (.aa 1)) .nil))))) (.cons (.dH (.cmp .GtE (.am (.aa 0) "data_start") (.aa 2)) (.cons .fail .nil) .nil) .nil)))))))))))))))
noncomputable abbrev f6 : IR:= .cons (.ret (.bin .Add (.am (.aa 0) "direct") (.am (.aa 0) "indirect"))) .nil
noncomputable abbrev gQ : IR:= .cons (.ret (.bin .Mult (.am (.aa 0) "block") (.aO (.aa 0) "most_blocks" .nil))) .nil
noncomputable abbrev jP : IR:= .cons (.asg (.aa 1) (.bin .Sub (.am (.aa 0) "blocks") (.am (.aa 0) "data_start"))) (.cons (.ret (.list (.cons (.glob "MAGIC" (.int 270544960)) (.cons (.am (.aa 0) "blocks") (.cons (.aa 1) (.cons (.am (.aa 0) "inodes") (.cons (.am (.aa 0) "log") (.cons (.am (.aa 0) "log_start") (.cons (.am (.aa 0) "inode_start") (.cons (.am (.aa 0) "bitmap_start") (.cons (.am (.aa 0) "direct") .nil))))))))))) .nil)
noncomputable abbrev jo : IR:= .cons (.asg (.aa 1) (.call "bytearray" (.type "bytearray") (.cons (.am (.aa 0) "block") .nil))) (.cons (.fR true (.tup (.cons (.aa 2) (.cons (.aa 3) .nil))) (.enum (.aO (.aa 0) "words" .nil)) (.cons (.expr (.call "put_word" (.ref 137) (.cons (.aa 1) (.cons (.bin .Mult (.ag (.int 4)) (.aa 2)) (.cons (.aa 3) .nil))))) .nil)) (.cons (.ret (.call "bytes" (.type "bytes") (.cons (.aa 1) .nil))) .nil))
noncomputable abbrev jm : IR:= .cons (.ret (.tup (.cons (.bin .Add (.am (.aa 0) "inode_start") (.bin .FloorDiv (.aa 1) (.am (.aa 0) "rows"))) (.cons (.bin .Mult (.bin .Mod (.aa 1) (.am (.aa 0) "rows")) (.am (.aa 0) "row")) .nil)))) .nil
noncomputable abbrev ju : IR:= .cons (.asg (.aa 2) (.bin .RShift (.aa 1) (.ag (.int 3)))) (.cons (.ret (.tup (.cons (.bin .Add (.am (.aa 0) "bitmap_start") (.bin .FloorDiv (.aa 2) (.am (.aa 0) "block"))) (.cons (.bin .Mod (.aa 2) (.am (.aa 0) "block")) (.cons (.bin .LShift (.ag (.int 1)) (.bin .BitAnd (.aa 1) (.ag (.int 7)))) .nil))))) .nil)
noncomputable abbrev nP : IR:= .cons (.asg (.am (.aa 0) "nodes") (.aa 1)) (.cons (.asg (.am (.aa 0) "number") (.aa 2)) (.cons (.asg (.am (.aa 0) "holders") (.ag (.int 1))) (.cons (.asg (.am (.aa 0) "kind") (.glob "FREE" (.int 0))) (.cons (.asg (.am (.aa 0) "major") (.ag (.int 0))) (.cons (.asg (.am (.aa 0) "minor") (.ag (.int 0))) (.cons (.asg (.am (.aa 0) "links") (.ag (.int 0))) (.cons (.asg (.am (.aa 0) "size") (.ag (.int 0))) (.cons (.asg (.am (.aa 0) "places") (.list .nil)) .nil))))))))
noncomputable abbrev fU : IR:= .cons (.ret (.cmp .Eq (.am (.aa 0) "kind") (.glob "DIRECTORY" (.int 1)))) .nil
noncomputable abbrev iL : IR:= .cons (.asg (.am (.aa 0) "kind") (.call "half_at" (.ref 116) (.cons (.aa 1) (.cons (.aa 2) .nil)))) (.cons (.asg (.am (.aa 0) "major") (.call "half_at" (.ref 116) (.cons (.aa 1) (.cons (.bin .Add (.aa 2) (.ag (.int 2))) .nil)))) (.cons (.asg (.am (.aa 0) "minor") (.call "half_at" (.ref 116) (.cons (.aa 1) (.cons (.bin .Add (.aa 2) (.ag (.int 4))) .nil)))) (.cons (.asg (.am (.aa 0) "links") (.call "half_at" (.ref 116) (.cons (.aa 1) (.cons (.bin .Add (.aa 2) (.ag (.int 6))) .nil)))) (.cons (.asg (.am (.aa 0) "size") (.call "word_at" (.ref 123) (.cons (.aa 1) (.cons (.bin .Add (.aa 2) (.ag (.int 8))) .nil)))) (.cons (.asg (.am (.aa 0) "places") (.comp ["place", "octets", "at"] [none,some 1,some 2] false (.range (.cons (.bin .Add (.aa 3) (.ag (.int 1))) .nil)) (.aa 0) .nil (.call "word_at" (.ref 123) (.cons (.aa 1) (.cons (.bin .Add (.bin .Add (.aa 2) (.glob "HEAD" (.int 12))) (.bin .Mult (.ag (.int 4)) (.aa 0))) .nil))))) .nil)))))
noncomputable abbrev jr : IR:= .cons (.expr (.call "put_half" (.ref 130) (.cons (.aa 1) (.cons (.aa 2) (.cons (.am (.aa 0) "kind") .nil))))) (.cons (.expr (.call "put_half" (.ref 130) (.cons (.aa 1) (.cons (.bin .Add (.aa 2) (.ag (.int 2))) (.cons (.am (.aa 0) "major") .nil))))) (.cons (.expr (.call "put_half" (.ref 130) (.cons (.aa 1) (.cons (.bin .Add (.aa 2) (.ag (.int 4))) (.cons (.am (.aa 0) "minor") .nil))))) (.cons (.expr (.call "put_half" (.ref 130) (.cons (.aa 1) (.cons (.bin .Add (.aa 2) (.ag (.int 6))) (.cons (.am (.aa 0) "links") .nil))))) (.cons (.expr (.call "put_word" (.ref 137) (.cons (.aa 1) (.cons (.bin .Add (.aa 2) (.ag (.int 8))) (.cons (.am (.aa 0) "size") .nil))))) (.cons (.fR true (.tup (.cons (.aa 3) (.cons (.aa 4) .nil))) (.enum (.am (.aa 0) "places")) (.cons (.expr (.call "put_word" (.ref 137) (.cons (.aa 1) (.cons (.bin .Add (.bin .Add (.aa 2) (.glob "HEAD" (.int 12))) (.bin .Mult (.ag (.int 4)) (.aa 3))) (.cons (.aa 4) .nil))))) .nil)) .nil)))))
noncomputable abbrev mF : IR:= .cons (.ret (.aO (.am (.aa 0) "nodes") "read" (.cons (.aa 0) (.cons (.aa 1) (.cons (.aa 2) .nil))))) .nil
noncomputable abbrev lj : IR:= .cons (.ret (.aO (.am (.aa 0) "nodes") "write" (.cons (.aa 0) (.cons (.aa 1) (.cons (.aa 2) .nil))))) .nil
noncomputable abbrev jN : IR:= .cons (.expr (.aO (.am (.aa 0) "nodes") "update" (.cons (.aa 0) .nil))) .nil
noncomputable abbrev k7 : IR:= .cons (.asg (.am (.aa 0) "journal") (.aa 1)) (.cons (.asg (.am (.aa 0) "cache") (.am (.aa 1) "cache")) (.cons (.asg (.am (.aa 0) "super") (.aa 2)) (.cons (.asg (.am (.aa 0) "table") .iU) .nil)))
noncomputable abbrev fW : IR:= .cons (.dH (.not (.ky .LtE .Lt (.ag (.int 1)) (.aa 1) (.am (.am (.aa 0) "super") "inodes"))) (.cons .fail .nil) .nil) .nil
noncomputable abbrev iP : IR:= .cons (.asg (.tup (.cons (.aa 2) (.cons (.aa 3) .nil))) (.aO (.am (.aa 0) "super") "row_of" (.cons (.aa 1) .nil))) (.cons (.asg (.aa 4) (.aO (.am (.aa 0) "cache") "get" (.cons (.aa 2) .nil))) (.cons (.asg (.aa 5) (.tup (.cons (.call "half_at" (.ref 116) (.cons (.am (.aa 4) "data") (.cons (.aa 3) .nil))) (.cons (.call "half_at" (.ref 116) (.cons (.am (.aa 4) "data") (.cons (.bin .Add (.aa 3) (.ag (.int 6))) .nil))) .nil)))) (.cons (.expr (.aO (.am (.aa 0) "cache") "release" (.cons (.aa 4) .nil))) (.cons (.ret (.aa 5)) .nil))))
noncomputable abbrev m8 : IR:= .cons (.expr (.aO (.aa 0) "need_number" (.cons (.aa 1) .nil))) (.cons (.dH (.cmp .In (.aa 1) (.am (.aa 0) "table")) (.cons .fail .nil) .nil) (.cons (.asg (.tup (.cons (.aa 2) (.cons (.aa 3) .nil))) (.aO (.am (.aa 0) "super") "row_of" (.cons (.aa 1) .nil))) (.cons (.asg (.aa 4) (.call "Node" (.ref 293) (.cons (.aa 0) (.cons (.aa 1) .nil)))) (.cons (.asg (.aa 5) (.aO (.am (.aa 0) "cache") "get" (.cons (.aa 2) .nil))) (.cons (.expr (.aO (.aa 4) "take_row" (.cons (.am (.aa 5) "data") (.cons (.aa 3) (.cons (.am (.am (.aa 0) "super") "direct") .nil))))) (.cons (.expr (.aO (.am (.aa 0) "cache") "release" (.cons (.aa 5) .nil))) (.cons (.dH (.cmp .Eq (.am (.aa 4) "kind") (.glob "FREE" (.int 0))) (.cons .fail .nil) .nil) (.cons (.asg (.item (.am (.aa 0) "table") (.aa 1)) (.aa 4)) (.cons (.ret (.aa 4)) .nil)))))))))
noncomputable abbrev hM : IR:= .cons (.dH (.cmp .NotIn (.aa 1) (.tup (.cons (.glob "DIRECTORY" (.int 1)) (.cons (.glob "FILE" (.int 2)) (.cons (.glob "DEVICE" (.int 3)) .nil))))) (.cons .fail .nil) .nil) (.cons (.fR false (.aa 4) (.range (.cons (.ag (.int 1)) (.cons (.am (.am (.aa 0) "super") "inodes") .nil))) (.cons (.dH (.cmp .Eq (.item (.aO (.aa 0) "kind_at" (.cons (.aa 4) .nil)) (.ag (.int 0))) (.glob "FREE" (.int 0))) (.cons (.asg (.aa 5) (.call "Node" (.ref 293) (.cons (.aa 0) (.cons (.aa 4) .nil)))) (.cons (.asg (.tup (.cons (.am (.aa 5) "kind") (.cons (.am (.aa 5) "major") (.cons (.am (.aa 5) "minor") .nil)))) (.tup (.cons (.aa 1) (.cons (.aa 2) (.cons (.aa 3) .nil))))) (.cons (.asg (.am (.aa 5) "places") (.bin .Mult (.list (.cons (.ag (.int 0)) .nil)) (.bin .Add (.am (.am (.aa 0) "super") "direct") (.ag (.int 1))))) (.cons (.asg (.item (.am (.aa 0) "table") (.aa 4)) (.aa 5)) (.cons (.expr (.aO (.aa 0) "update" (.cons (.aa 5) .nil))) (.cons (.ret (.aa 5)) .nil)))))) .nil) .nil)) (.cons .fail .nil))
noncomputable abbrev jq : IR:= .cons (.asg (.tup (.cons (.aa 2) (.cons (.aa 3) .nil))) (.aO (.am (.aa 0) "super") "row_of" (.cons (.am (.aa 1) "number") .nil))) (.cons (.asg (.aa 4) (.aO (.am (.aa 0) "cache") "get" (.cons (.aa 2) .nil))) (.cons (.expr (.aO (.aa 1) "put_row" (.cons (.am (.aa 4) "data") (.cons (.aa 3) .nil)))) (.cons (.expr (.aO (.am (.aa 0) "journal") "write" (.cons (.aa 4) .nil))) (.cons (.expr (.aO (.am (.aa 0) "cache") "release" (.cons (.aa 4) .nil))) .nil))))
noncomputable abbrev gk : IR:= .cons (.asg (.aa 1) (.am (.am (.aa 0) "super") "data_start")) (.cons (.gS (.cmp .Lt (.aa 1) (.am (.am (.aa 0) "super") "blocks")) (.cons (.asg (.aa 2) (.item (.aO (.am (.aa 0) "super") "bit_of" (.cons (.aa 1) .nil)) (.ag (.int 0)))) (.cons (.asg (.aa 3) (.aO (.am (.aa 0) "cache") "get" (.cons (.aa 2) .nil))) (.cons (.asg (.aa 1) (.aO (.aa 0) "free_bit" (.cons (.am (.aa 3) "data") (.cons (.aa 2) (.cons (.aa 1) .nil))))) (.cons (.asg (.aa 4) (.and (.cmp .Lt (.aa 1) (.am (.am (.aa 0) "super") "blocks")) (.cmp .Eq (.item (.aO (.am (.aa 0) "super") "bit_of" (.cons (.aa 1) .nil)) (.ag (.int 0))) (.aa 2)))) (.cons (.dH (.aa 4) (.cons (.asg (.tup (.cons (.aa 5) (.cons (.aa 6) .nil))) (.slice (.aO (.am (.aa 0) "super") "bit_of" (.cons (.aa 1) .nil)) (.ag (.int 1)) .nil)) (.cons (.asg (.item (.am (.aa 3) "data") (.aa 5)) (.bin .BitOr (.item (.am (.aa 3) "data") (.aa 5)) (.aa 6))) (.cons (.expr (.aO (.am (.aa 0) "journal") "write" (.cons (.aa 3) .nil))) .nil))) .nil) (.cons (.expr (.aO (.am (.aa 0) "cache") "release" (.cons (.aa 3) .nil))) (.cons (.dH (.aa 4) (.cons (.expr (.aO (.aa 0) "clear_block" (.cons (.aa 1) .nil))) (.cons (.ret (.aa 1)) .nil)) .nil) .nil)))))))) (.cons (.raise "NoRoom" 76 "no block is free") .nil))
noncomputable abbrev g9 : IR:= .cons (.gS (.cmp .Lt (.aa 3) (.am (.am (.aa 0) "super") "blocks")) (.cons (.asg (.tup (.cons (.aa 4) (.cons (.aa 5) (.cons (.aa 6) .nil)))) (.aO (.am (.aa 0) "super") "bit_of" (.cons (.aa 3) .nil))) (.cons (.dH (.or (.cmp .NotEq (.aa 4) (.aa 2)) (.cmp .Eq (.bin .BitAnd (.item (.aa 1) (.aa 5)) (.aa 6)) (.ag (.int 0)))) (.cons (.ret (.aa 3)) .nil) .nil) (.cons (.asg (.aa 3) (.bin .Add (.aa 3) (.ag (.int 1)))) .nil)))) (.cons (.ret (.aa 3)) .nil)
noncomputable abbrev fZ : IR:= .cons (.asg (.aa 2) (.aO (.am (.aa 0) "cache") "get" (.cons (.aa 1) .nil))) (.cons (.expr (.aO (.aa 2) "clear" .nil)) (.cons (.expr (.aO (.am (.aa 0) "journal") "write" (.cons (.aa 2) .nil))) (.cons (.expr (.aO (.am (.aa 0) "cache") "release" (.cons (.aa 2) .nil))) .nil)))
noncomputable abbrev fX : IR:= .cons (.asg (.aa 1) (.ag (.int 0))) (.cons (.fR false (.aa 2) (.range (.cons (.am (.am (.aa 0) "super") "data_start") (.cons (.am (.am (.aa 0) "super") "blocks") .nil))) (.cons (.asg (.tup (.cons (.aa 3) (.cons (.aa 4) (.cons (.aa 5) .nil)))) (.aO (.am (.aa 0) "super") "bit_of" (.cons (.aa 2) .nil))) (.cons (.asg (.aa 6) (.aO (.am (.aa 0) "cache") "get" (.cons (.aa 3) .nil))) (.cons (.dH (.cmp .Eq (.bin .BitAnd (.item (.am (.aa 6) "data") (.aa 4)) (.aa 5)) (.ag (.int 0))) (.cons (.asg (.aa 1) (.bin .Add (.aa 1) (.ag (.int 1)))) .nil) .nil) (.cons (.expr (.aO (.am (.aa 0) "cache") "release" (.cons (.aa 6) .nil))) .nil))))) (.cons (.ret (.aa 1)) .nil))
noncomputable abbrev fw : IR:= .cons (.asg (.aa 4) (.am (.am (.aa 0) "super") "direct")) (.cons (.dH (.cmp .Lt (.aa 2) (.aa 4)) (.cons (.dH (.and (.cmp .Eq (.item (.am (.aa 1) "places") (.aa 2)) (.ag (.int 0))) (.aa 3)) (.cons (.asg (.item (.am (.aa 1) "places") (.aa 2)) (.aO (.aa 0) "take_block" .nil)) .nil) .nil) (.cons (.ret (.item (.am (.aa 1) "places") (.aa 2))) .nil)) .nil) (.cons (.dH (.cmp .GtE (.aa 2) (.aO (.am (.aa 0) "super") "most_blocks" .nil)) (.cons .fail .nil) .nil) (.cons (.dH (.cmp .Eq (.item (.am (.aa 1) "places") (.aa 4)) (.ag (.int 0))) (.cons (.dH (.not (.aa 3)) (.cons (.ret (.ag (.int 0))) .nil) .nil) (.cons (.asg (.item (.am (.aa 1) "places") (.aa 4)) (.aO (.aa 0) "take_block" .nil)) .nil)) .nil) (.cons (.ret (.aO (.aa 0) "named_block" (.cons (.item (.am (.aa 1) "places") (.aa 4)) (.cons (.bin .Sub (.aa 2) (.aa 4)) (.cons (.aa 3) .nil))))) .nil))))
noncomputable abbrev f7 : IR:= .cons (.asg (.aa 4) (.aO (.am (.aa 0) "cache") "get" (.cons (.aa 1) .nil))) (.cons (.asg (.aa 5) (.call "word_at" (.ref 123) (.cons (.am (.aa 4) "data") (.cons (.bin .Mult (.ag (.int 4)) (.aa 2)) .nil)))) (.cons (.expr (.aO (.am (.aa 0) "cache") "release" (.cons (.aa 4) .nil))) (.cons (.dH (.and (.cmp .Eq (.aa 5) (.ag (.int 0))) (.aa 3)) (.cons (.asg (.aa 5) (.aO (.aa 0) "take_block" .nil)) (.cons (.asg (.aa 4) (.aO (.am (.aa 0) "cache") "get" (.cons (.aa 1) .nil))) (.cons (.expr (.call "put_word" (.ref 137) (.cons (.am (.aa 4) "data") (.cons (.bin .Mult (.ag (.int 4)) (.aa 2)) (.cons (.aa 5) .nil))))) (.cons (.expr (.aO (.am (.aa 0) "journal") "write" (.cons (.aa 4) .nil))) (.cons (.expr (.aO (.am (.aa 0) "cache") "release" (.cons (.aa 4) .nil))) .nil))))) .nil) (.cons (.ret (.aa 5)) .nil))))
noncomputable abbrev kW : IR:= .cons (.dH (.or (.cmp .Lt (.aa 2) (.ag (.int 0))) (.cmp .Lt (.aa 3) (.ag (.int 0)))) (.cons .fail .nil) .nil) (.cons (.asg (.aa 4) (.call "min" (.builtin "min") (.cons (.am (.aa 1) "size") (.cons (.bin .Add (.aa 2) (.aa 3)) .nil)))) (.cons (.asg (.aa 5) (.call "bytearray" (.type "bytearray") .nil)) (.cons (.gS (.cmp .Lt (.aa 2) (.aa 4)) (.cons (.asg (.aa 6) (.bin .Mod (.aa 2) (.am (.am (.aa 0) "super") "block"))) (.cons (.asg (.aa 7) (.call "min" (.builtin "min") (.cons (.bin .Sub (.am (.am (.aa 0) "super") "block") (.aa 6)) (.cons (.bin .Sub (.aa 4) (.aa 2)) .nil)))) (.cons (.asg (.aa 8) (.aO (.aa 0) "block_of" (.cons (.aa 1) (.cons (.bin .FloorDiv (.aa 2) (.am (.am (.aa 0) "super") "block")) (.cons (.ag (.bool false)) .nil))))) (.cons (.dH (.cmp .Eq (.aa 8) (.ag (.int 0))) (.cons (.expr (.aO (.aa 5) "extend" (.cons (.call "bytes" (.type "bytes") (.cons (.aa 7) .nil)) .nil))) .nil) (.cons (.asg (.aa 9) (.aO (.am (.aa 0) "cache") "get" (.cons (.aa 8) .nil))) (.cons (.expr (.aO (.aa 5) "extend" (.cons (.slice (.am (.aa 9) "data") (.aa 6) (.bin .Add (.aa 6) (.aa 7))) .nil))) (.cons (.expr (.aO (.am (.aa 0) "cache") "release" (.cons (.aa 9) .nil))) .nil)))) (.cons (.asg (.aa 2) (.bin .Add (.aa 2) (.aa 7))) .nil)))))) (.cons (.ret (.call "bytes" (.type "bytes") (.cons (.aa 5) .nil))) .nil))))
noncomputable abbrev j4 : IR:= .cons (.dH (.cmp .Lt (.aa 2) (.ag (.int 0))) (.cons .fail .nil) .nil) (.cons (.dH (.cmp .Gt (.bin .Add (.aa 2) (.call "len" (.builtin "len") (.cons (.aa 3) .nil))) (.aO (.am (.aa 0) "super") "most_size" .nil)) (.cons .fail .nil) .nil) (.cons (.asg (.aa 4) (.ag (.int 0))) (.cons (.gS (.and (.cmp .Lt (.aa 4) (.call "len" (.builtin "len") (.cons (.aa 3) .nil))) (.cmp .GtE (.aO (.am (.aa 0) "journal") "left" .nil) (.glob "MOST_A_PIECE" (.int 4)))) (.cons (.asg (.aa 5) (.aO (.aa 0) "write_part" (.cons (.aa 1) (.cons (.bin .Add (.aa 2) (.aa 4)) (.cons (.aa 3) (.cons (.aa 4) .nil)))))) (.cons (.dH (.cmp .Eq (.aa 5) (.ag (.int 0))) (.cons .brk .nil) .nil) (.cons (.asg (.aa 4) (.bin .Add (.aa 4) (.aa 5))) .nil)))) (.cons (.dH (.and (.cmp .Gt (.aa 4) (.ag (.int 0))) (.cmp .Gt (.bin .Add (.aa 2) (.aa 4)) (.am (.aa 1) "size"))) (.cons (.asg (.am (.aa 1) "size") (.bin .Add (.aa 2) (.aa 4))) .nil) .nil) (.cons (.expr (.aO (.aa 0) "update" (.cons (.aa 1) .nil))) (.cons (.ret (.aa 4)) .nil))))))
noncomputable abbrev gi : IR:= .cons (.Ea [("NoRoom",76, .int 0)] (.cons (.asg (.aa 5) (.aO (.aa 0) "block_of" (.cons (.aa 1) (.cons (.bin .FloorDiv (.aa 2) (.am (.am (.aa 0) "super") "block")) (.cons (.ag (.bool true)) .nil))))) .nil)) (.cons (.asg (.aa 6) (.bin .Mod (.aa 2) (.am (.am (.aa 0) "super") "block"))) (.cons (.asg (.aa 7) (.call "min" (.builtin "min") (.cons (.bin .Sub (.am (.am (.aa 0) "super") "block") (.aa 6)) (.cons (.bin .Sub (.call "len" (.builtin "len") (.cons (.aa 3) .nil)) (.aa 4)) .nil)))) (.cons (.asg (.aa 8) (.aO (.am (.aa 0) "cache") "get" (.cons (.aa 5) .nil))) (.cons (.asg (.slice (.am (.aa 8) "data") (.aa 6) (.bin .Add (.aa 6) (.aa 7))) (.slice (.aa 3) (.aa 4) (.bin .Add (.aa 4) (.aa 7)))) (.cons (.expr (.aO (.am (.aa 0) "journal") "write" (.cons (.aa 8) .nil))) (.cons (.expr (.aO (.am (.aa 0) "cache") "release" (.cons (.aa 8) .nil))) (.cons (.ret (.aa 7)) .nil)))))))
noncomputable abbrev mO : IR:= .cons (.ret (.ite (.iq "str" (.aa 0)) .fail (.call "bytes" (.type "bytes") (.cons (.aa 0) .nil)))) .nil
noncomputable abbrev o0 : IR:= .cons (.ret (.slice (.call "octets_of" (.ref 464) (.cons (.aa 0) .nil)) .nil (.glob "NAME" (.int 14)))) .nil
noncomputable abbrev rq : IR:= .cons (.asg (.aa 2) (.call "bytearray" (.type "bytearray") (.cons (.glob "ROW" (.int 16)) .nil))) (.cons (.expr (.call "put_half" (.ref 130) (.cons (.aa 2) (.cons (.ag (.int 0)) (.cons (.aa 0) .nil))))) (.cons (.asg (.slice (.aa 2) (.ag (.int 2)) (.bin .Add (.ag (.int 2)) (.call "len" (.builtin "len") (.cons (.aa 1) .nil)))) (.aa 1)) (.cons (.ret (.call "bytes" (.type "bytes") (.cons (.aa 2) .nil))) .nil)))
noncomputable abbrev rj : IR:= .cons (.asg (.aa 1) (.call "bytearray" (.type "bytearray") .nil)) (.cons (.fR false (.aa 2) (.iter (.slice (.aa 0) (.ag (.int 2)) (.glob "ROW" (.int 16)))) (.cons (.dH (.cmp .Eq (.aa 2) (.ag (.int 0))) (.cons .brk .nil) .nil) (.cons (.expr (.aO (.aa 1) "append" (.cons (.aa 2) .nil))) .nil))) (.cons (.ret (.call "bytes" (.type "bytes") (.cons (.aa 1) .nil))) .nil))
noncomputable abbrev kU : IR:= .cons (.asg (.am (.aa 0) "nodes") (.aa 1)) .nil
noncomputable abbrev la : IR:= .cons (.ret (.aO (.am (.aa 0) "nodes") "get" (.cons (.glob "ROOT" (.int 1)) .nil))) .nil
noncomputable abbrev fb : IR:= .cons (.dH (.not (.aO (.aa 1) "is_directory" .nil)) (.cons .fail .nil) .nil) .nil
noncomputable abbrev gZ : IR:= .cons (.expr (.aO (.aa 0) "need_directory" (.cons (.aa 1) .nil))) (.cons (.asg (.aa 2) (.aO (.aa 1) "read" (.cons (.ag (.int 0)) (.cons (.am (.aa 1) "size") .nil)))) (.cons (.asg (.aa 3) (.list .nil)) (.cons (.fR false (.aa 4) (.range (.cons (.ag (.int 0)) (.cons (.bin .Add (.bin .Sub (.call "len" (.builtin "len") (.cons (.aa 2) .nil)) (.glob "ROW" (.int 16))) (.ag (.int 1))) (.cons (.glob "ROW" (.int 16)) .nil)))) (.cons (.asg (.aa 5) (.slice (.aa 2) (.aa 4) (.bin .Add (.aa 4) (.glob "ROW" (.int 16))))) (.cons (.expr (.aO (.aa 3) "append" (.cons (.tup (.cons (.aa 4) (.cons (.call "half_at" (.ref 116) (.cons (.aa 5) (.cons (.ag (.int 0)) .nil))) (.cons (.call "name_in" (.ref 492) (.cons (.aa 5) .nil)) .nil)))) .nil))) .nil))) (.cons (.ret (.aa 3)) .nil))))
noncomputable abbrev kr : IR:= .cons (.ret (.comp ["place", "number", "name"] [none,none,none] true (.iter (.aO (.aa 0) "all_rows" (.cons (.aa 1) .nil))) (.tup (.cons (.aa 0) (.cons (.aa 1) (.cons (.aa 2) .nil)))) (.cons (.cmp .NotEq (.aa 1) (.ag (.int 0))) .nil) (.aa 2))) .nil
noncomputable abbrev lq : IR:= .cons (.asg (.aa 3) (.call "cut_name" (.ref 471) (.cons (.aa 2) .nil))) (.cons (.fR true (.tup (.cons (.aa 4) (.cons (.aa 5) (.cons (.aa 6) .nil)))) (.iter (.aO (.aa 0) "all_rows" (.cons (.aa 1) .nil))) (.cons (.dH (.and (.cmp .NotEq (.aa 5) (.ag (.int 0))) (.cmp .Eq (.aa 6) (.aa 3))) (.cons (.ret (.tup (.cons (.aa 5) (.cons (.aa 4) .nil)))) .nil) .nil) .nil)) (.cons (.ret (.ag .none)) .nil))
noncomputable abbrev lx : IR:= .cons (.asg (.aa 4) (.call "cut_name" (.ref 471) (.cons (.aa 2) .nil))) (.cons (.dH (.cmp .Eq (.call "len" (.builtin "len") (.cons (.aa 4) .nil)) (.ag (.int 0))) (.cons .fail .nil) .nil) (.cons (.asg (.aa 5) (.bin .Sub (.am (.aa 1) "size") (.bin .Mod (.am (.aa 1) "size") (.glob "ROW" (.int 16))))) (.cons (.fR true (.tup (.cons (.aa 6) (.cons (.aa 7) (.cons (.aa 8) .nil)))) (.rev (.aO (.aa 0) "all_rows" (.cons (.aa 1) .nil))) (.cons (.dH (.cmp .Eq (.aa 7) (.ag (.int 0))) (.cons (.asg (.aa 5) (.aa 6)) .nil) (.cons (.dH (.cmp .Eq (.aa 8) (.aa 4)) (.cons (.raise "BadCall" 88 "the name is there already") .nil) .nil) .nil)) .nil)) (.cons (.dH (.cmp .Lt (.aO (.aa 1) "write" (.cons (.aa 5) (.cons (.call "row_for" (.ref 485) (.cons (.aa 3) (.cons (.aa 4) .nil))) .nil))) (.glob "ROW" (.int 16))) (.cons (.raise "NoRoom" 76 "no block for a row of a directory") .nil) .nil) .nil))))
noncomputable abbrev jF : IR:= .cons (.expr (.aO (.aa 1) "write" (.cons (.aa 2) (.cons (.call "bytes" (.type "bytes") (.cons (.glob "ROW" (.int 16)) .nil)) .nil)))) .nil
noncomputable abbrev hV : IR:= .cons (.ret (.cmp .Eq (.comp ["name"] [none] false (.iter (.aO (.aa 0) "names" (.cons (.aa 1) .nil))) (.aa 0) (.cons (.cmp .NotIn (.aa 0) (.tup (.cons (.glob "HERE" (.bytes [46])) (.cons (.glob "ABOVE" (.bytes [46,46])) .nil)))) .nil) (.aa 0)) (.list .nil))) .nil
noncomputable abbrev kq : IR:= .cons (.asg (.am (.aa 0) "number") (.aa 1)) (.cons (.asg (.am (.aa 0) "data") (.call "bytearray" (.type "bytearray") (.cons (.aa 2) .nil))) (.cons (.asg (.am (.aa 0) "holders") (.ag (.int 0))) (.cons (.asg (.am (.aa 0) "pins") (.ag (.int 0))) .nil)))
noncomputable abbrev hW : IR:= .cons (.ret (.and (.cmp .Eq (.am (.aa 0) "holders") (.ag (.int 0))) (.cmp .Eq (.am (.aa 0) "pins") (.ag (.int 0))))) .nil
noncomputable abbrev iI : IR:= .cons (.ret (.call "bytes" (.type "bytes") (.cons (.am (.aa 0) "data") .nil))) .nil
noncomputable abbrev jY : IR:= .cons (.dH (.cmp .NotEq (.call "len" (.builtin "len") (.cons (.aa 1) .nil)) (.call "len" (.builtin "len") (.cons (.am (.aa 0) "data") .nil))) (.cons .fail .nil) .nil) (.cons (.asg (.slice (.am (.aa 0) "data") .nil .nil) (.aa 1)) .nil)
noncomputable abbrev jp : IR:= .cons (.asg (.slice (.am (.aa 0) "data") .nil .nil) (.call "bytes" (.type "bytes") (.cons (.call "len" (.builtin "len") (.cons (.am (.aa 0) "data") .nil)) .nil))) .nil
noncomputable abbrev lu : IR:= .cons (.dH (.cmp .Lt (.aa 2) (.ag (.int 1))) (.cons .fail .nil) .nil) (.cons (.asg (.am (.aa 0) "disk") (.aa 1)) (.cons (.asg (.am (.aa 0) "most") (.aa 2)) (.cons (.asg (.am (.aa 0) "size") (.am (.aa 1) "size")) (.cons (.asg (.am (.aa 0) "row") (.list .nil)) (.cons (.asg (.am (.aa 0) "by_number") .iU) (.cons (.asg (.am (.aa 0) "hits") (.ag (.int 0))) (.cons (.asg (.am (.aa 0) "reads") (.ag (.int 0))) (.cons (.asg (.am (.aa 0) "writes") (.ag (.int 0))) .nil))))))))
noncomputable abbrev gm : IR:= .cons (.dH (.or (.not (.iq "int" (.aa 1))) (.not (.ky .LtE .Lt (.ag (.int 0)) (.aa 1) (.am (.am (.aa 0) "disk") "blocks")))) (.cons .fail .nil) .nil) .nil
noncomputable abbrev gG : IR:= .cons (.dH (.or (.cmp .IsNot (.aO (.am (.aa 0) "by_number") "get" (.cons (.am (.aa 1) "number") .nil)) (.aa 1)) (.cmp .Eq (.am (.aa 1) "holders") (.ag (.int 0)))) (.cons .fail .nil) .nil) .nil
noncomputable abbrev mN : IR:= .cons (.expr (.aO (.aa 0) "need_block" (.cons (.aa 1) .nil))) (.cons (.asg (.aa 2) (.aO (.am (.aa 0) "by_number") "get" (.cons (.aa 1) .nil))) (.cons (.dH (.cmp .Is (.aa 2) (.ag .none)) (.cons (.expr (.aO (.aa 0) "make_room" .nil)) (.cons (.asg (.aa 2) (.call "Buffer" (.ref 757) (.cons (.aa 1) (.cons (.aO (.am (.aa 0) "disk") "read" (.cons (.aa 1) .nil)) .nil)))) (.cons (.aug (.aa 0) "reads" .Add (.ag (.int 1))) (.cons (.asg (.item (.am (.aa 0) "by_number") (.aa 1)) (.aa 2)) (.cons (.expr (.aO (.am (.aa 0) "row") "append" (.cons (.aa 2) .nil))) .nil))))) (.cons (.aug (.aa 0) "hits" .Add (.ag (.int 1))) .nil)) (.cons (.aug (.aa 2) "holders" .Add (.ag (.int 1))) (.cons (.ret (.aa 2)) .nil))))
noncomputable abbrev gF : IR:= .cons (.dH (.cmp .Lt (.call "len" (.builtin "len") (.cons (.am (.aa 0) "row") .nil)) (.am (.aa 0) "most")) (.cons .A8 .nil) .nil) (.cons (.fR true (.tup (.cons (.aa 1) (.cons (.aa 2) .nil))) (.enum (.am (.aa 0) "row")) (.cons (.dH (.aO (.aa 2) "is_free" .nil) (.cons (.del (.am (.aa 0) "by_number") (.am (.aa 2) "number")) (.cons (.del (.am (.aa 0) "row") (.aa 1)) (.cons .A8 .nil))) .nil) .nil)) (.cons .fail .nil))
noncomputable abbrev iD : IR:= .cons (.expr (.aO (.aa 0) "need_held" (.cons (.aa 1) .nil))) (.cons (.aug (.aa 1) "holders" .Sub (.ag (.int 1))) (.cons (.dH (.cmp .Eq (.am (.aa 1) "holders") (.ag (.int 0))) (.cons (.expr (.aO (.am (.aa 0) "row") "remove" (.cons (.aa 1) .nil))) (.cons (.expr (.aO (.am (.aa 0) "row") "append" (.cons (.aa 1) .nil))) .nil)) .nil) .nil))
noncomputable abbrev mQ : IR:= .cons (.expr (.aO (.aa 0) "need_held" (.cons (.aa 1) .nil))) (.cons (.aug (.aa 1) "pins" .Add (.ag (.int 1))) .nil)
noncomputable abbrev kb : IR:= .cons (.asg (.aa 2) (.aO (.am (.aa 0) "by_number") "get" (.cons (.aa 1) .nil))) (.cons (.dH (.or (.cmp .Is (.aa 2) (.ag .none)) (.cmp .Eq (.am (.aa 2) "pins") (.ag (.int 0)))) (.cons .fail .nil) .nil) (.cons (.aug (.aa 2) "pins" .Sub (.ag (.int 1))) .nil))
noncomputable abbrev jL : IR:= .cons (.expr (.aO (.aa 0) "need_held" (.cons (.aa 1) .nil))) (.cons (.expr (.aO (.am (.aa 0) "disk") "write" (.cons (.am (.aa 1) "number") (.cons (.aO (.aa 1) "octets" .nil) .nil)))) (.cons (.aug (.aa 0) "writes" .Add (.ag (.int 1))) .nil))
noncomputable abbrev kh : IR:= .cons (.expr (.aO (.am (.aa 0) "disk") "flush" .nil)) .nil
noncomputable abbrev kX : IR:= .cons (.asg (.aa 2) (.aO (.aa 0) "get" (.cons (.aa 1) .nil))) (.cons (.asg (.aa 3) (.aO (.aa 2) "octets" .nil)) (.cons (.expr (.aO (.aa 0) "release" (.cons (.aa 2) .nil))) (.cons (.ret (.aa 3)) .nil)))
noncomputable abbrev k8 : IR:= .cons (.asg (.aa 3) (.aO (.aa 0) "get" (.cons (.aa 1) .nil))) (.cons (.expr (.aO (.aa 3) "fill" (.cons (.aa 2) .nil))) (.cons (.expr (.aO (.aa 0) "write" (.cons (.aa 3) .nil))) (.cons (.expr (.aO (.aa 0) "release" (.cons (.aa 3) .nil))) .nil)))
noncomputable abbrev nH : IR:= .cons (.dH (.or (.cmp .Lt (.aa 1) (.ag (.int 1))) (.cmp .Lt (.aa 2) (.ag (.int 1)))) (.cons .fail .nil) .nil) (.cons (.asg (.am (.aa 0) "blocks") (.aa 1)) (.cons (.asg (.am (.aa 0) "size") (.aa 2)) (.cons (.asg (.am (.aa 0) "kept") .iU) (.cons (.asg (.am (.aa 0) "latest") .iU) (.cons (.asg (.am (.aa 0) "unflushed") (.list .nil)) (.cons (.asg (.am (.aa 0) "writes") (.ag (.int 0))) (.cons (.asg (.am (.aa 0) "flushes") (.ag (.int 0))) (.cons (.asg (.am (.aa 0) "last") (.ag .none)) (.cons (.asg (.am (.aa 0) "last_flush") (.ag .none)) (.cons (.asg (.am (.aa 0) "is_dead") (.ag (.bool false))) .nil))))))))))
noncomputable abbrev gI : IR:= .cons (.dH (.am (.aa 0) "is_dead") (.cons .fail .nil) .nil) .nil
noncomputable abbrev gK : IR:= .cons (.dH (.or (.not (.iq "int" (.aa 1))) (.not (.ky .LtE .Lt (.ag (.int 0)) (.aa 1) (.am (.aa 0) "blocks")))) (.cons .fail .nil) .nil) .nil
noncomputable abbrev nE : IR:= .cons (.expr (.aO (.aa 0) "need_power" .nil)) (.cons (.expr (.aO (.aa 0) "need_block" (.cons (.aa 1) .nil))) (.cons (.ret (.aO (.am (.aa 0) "latest") "get" (.cons (.aa 1) (.cons (.call "bytes" (.type "bytes") (.cons (.am (.aa 0) "size") .nil)) .nil)))) .nil))
noncomputable abbrev lh : IR:= .cons (.expr (.aO (.aa 0) "need_power" .nil)) (.cons (.expr (.aO (.aa 0) "need_block" (.cons (.aa 1) .nil))) (.cons (.dH (.cmp .NotEq (.call "len" (.builtin "len") (.cons (.aa 2) .nil)) (.am (.aa 0) "size")) (.cons .fail .nil) .nil) (.cons (.dH (.and (.cmp .IsNot (.am (.aa 0) "last") (.ag .none)) (.cmp .GtE (.am (.aa 0) "writes") (.am (.aa 0) "last"))) (.cons .fail .nil) .nil) (.cons (.aug (.aa 0) "writes" .Add (.ag (.int 1))) (.cons (.asg (.item (.am (.aa 0) "latest") (.aa 1)) (.call "bytes" (.type "bytes") (.cons (.aa 2) .nil))) (.cons (.expr (.aO (.am (.aa 0) "unflushed") "append" (.cons (.tup (.cons (.aa 1) (.cons (.call "bytes" (.type "bytes") (.cons (.aa 2) .nil)) .nil))) .nil))) .nil))))))
noncomputable abbrev lC : IR:= .cons (.expr (.aO (.aa 0) "need_power" .nil)) (.cons (.dH (.and (.cmp .IsNot (.am (.aa 0) "last_flush") (.ag .none)) (.cmp .GtE (.am (.aa 0) "flushes") (.am (.aa 0) "last_flush"))) (.cons .fail .nil) .nil) (.cons (.aug (.aa 0) "flushes" .Add (.ag (.int 1))) (.cons (.fR true (.tup (.cons (.aa 1) (.cons (.aa 2) .nil))) (.iter (.am (.aa 0) "unflushed")) (.cons (.asg (.item (.am (.aa 0) "kept") (.aa 1)) (.aa 2)) .nil)) (.cons (.asg (.am (.aa 0) "unflushed") (.list .nil)) .nil))))
noncomputable abbrev ls : IR:= .cons (.asg (.aa 2) (.call "Disk" (.ref 972) (.cons (.am (.aa 0) "blocks") (.cons (.am (.aa 0) "size") .nil)))) (.cons (.asg (.am (.aa 2) "kept") (.call "dict" (.type "dict") (.cons (.am (.aa 0) "kept") .nil))) (.cons (.fR false (.aa 3) (.iter (.aa 1)) (.cons (.dH (.not (.ky .LtE .Lt (.ag (.int 0)) (.aa 3) (.call "len" (.builtin "len") (.cons (.am (.aa 0) "unflushed") .nil)))) (.cons .fail .nil) .nil) .nil)) (.cons (.fR true (.tup (.cons (.aa 3) (.cons (.tup (.cons (.aa 4) (.cons (.aa 5) .nil))) .nil))) (.enum (.am (.aa 0) "unflushed")) (.cons (.dH (.cmp .In (.aa 3) (.aa 1)) (.cons (.asg (.item (.am (.aa 2) "kept") (.aa 4)) (.aa 5)) .nil) .nil) .nil)) (.cons (.asg (.am (.aa 2) "latest") (.call "dict" (.type "dict") (.cons (.am (.aa 2) "kept") .nil))) (.cons (.ret (.aa 2)) .nil)))))
noncomputable abbrev nz : IR:= .cons (.ret (.aO (.aa 0) "after" (.cons (.mz (.call "len" (.builtin "len") (.cons (.am (.aa 0) "unflushed") .nil))) .nil))) .nil
noncomputable abbrev kd : IR:= .cons (.dH (.cmp .Gt (.bin .Mult (.glob "NUMBER" (.int 4)) (.bin .Add (.call "len" (.builtin "len") (.cons (.aa 0) .nil)) (.ag (.int 1)))) (.aa 1)) (.cons .fail .nil) .nil) (.cons (.asg (.aa 2) (.call "bytearray" (.type "bytearray") .nil)) (.cons (.fR false (.aa 3) (.iter (.bin .Add (.list (.cons (.call "len" (.builtin "len") (.cons (.aa 0) .nil)) .nil)) (.call "list" (.type "list") (.cons (.aa 0) .nil)))) (.cons (.expr (.aO (.aa 2) "extend" (.cons (.call "bytes" (.type "bytes") (.cons (.comp ["at", "value"] [none,some 3] false (.range (.cons (.glob "NUMBER" (.int 4)) .nil)) (.aa 0) .nil (.bin .BitAnd (.bin .RShift (.aa 1) (.bin .Mult (.ag (.int 8)) (.aa 0))) (.ag (.int 255)))) .nil)) .nil))) .nil)) (.cons (.ret (.bin .Add (.call "bytes" (.type "bytes") (.cons (.aa 2) .nil)) (.call "bytes" (.type "bytes") (.cons (.bin .Sub (.aa 1) (.call "len" (.builtin "len") (.cons (.aa 2) .nil))) .nil)))) .nil)))
noncomputable abbrev jv : IR:= .cons (.dH (.or (.cmp .Lt (.aa 2) (.ag (.int 0))) (.or (.cmp .Lt (.aa 3) (.ag (.int 2))) (.cmp .Gt (.bin .Add (.aa 2) (.aa 3)) (.am (.am (.aa 1) "disk") "blocks")))) (.cons .fail .nil) .nil) (.cons (.asg (.am (.aa 0) "cache") (.aa 1)) (.cons (.asg (.am (.aa 0) "start") (.aa 2)) (.cons (.asg (.am (.aa 0) "size") (.aa 3)) (.cons (.asg (.am (.aa 0) "places") (.call "min" (.builtin "min") (.cons (.bin .Sub (.aa 3) (.ag (.int 1))) (.cons (.bin .Sub (.bin .FloorDiv (.am (.aa 1) "size") (.glob "NUMBER" (.int 4))) (.ag (.int 1))) .nil)))) (.cons (.asg (.am (.aa 0) "most") (.call "min" (.builtin "min") (.cons (.am (.aa 0) "places") (.cons (.bin .Sub (.am (.aa 1) "most") (.glob "SPARE" (.int 4))) .nil)))) (.cons (.dH (.cmp .Lt (.am (.aa 0) "most") (.ag (.int 1))) (.cons .fail .nil) .nil) (.cons (.asg (.am (.aa 0) "each") (.ite (.cmp .Is (.aa 4) (.ag .none)) (.call "min" (.builtin "min") (.cons (.glob "MOST_EACH" (.int 10)) (.cons (.am (.aa 0) "most") .nil))) (.aa 4))) (.cons (.dH (.not (.ky .LtE .LtE (.ag (.int 1)) (.am (.aa 0) "each") (.am (.aa 0) "most"))) (.cons .fail .nil) .nil) (.cons (.asg (.am (.aa 0) "numbers") (.list .nil)) (.cons (.asg (.am (.aa 0) "noted") .iU) (.cons (.asg (.am (.aa 0) "calls") (.ag (.int 0))) (.cons (.asg (.am (.aa 0) "commits") (.ag (.int 0))) .nil))))))))))))
noncomputable abbrev g0 : IR:= .cons (.ret (.ky .LtE .Lt (.am (.aa 0) "start") (.aa 1) (.bin .Add (.am (.aa 0) "start") (.am (.aa 0) "size")))) .nil
noncomputable abbrev gj : IR:= .cons (.ret (.cmp .LtE (.bin .Add (.call "len" (.builtin "len") (.cons (.am (.aa 0) "numbers") .nil)) (.bin .Mult (.bin .Add (.am (.aa 0) "calls") (.ag (.int 1))) (.am (.aa 0) "each"))) (.am (.aa 0) "most"))) .nil
noncomputable abbrev jt : IR:= .cons (.ret (.bin .Sub (.am (.aa 0) "most") (.call "len" (.builtin "len") (.cons (.am (.aa 0) "numbers") .nil)))) .nil
noncomputable abbrev iC : IR:= .cons (.dH (.not (.aO (.aa 0) "has_room" .nil)) (.cons .fail .nil) .nil) (.cons (.aug (.aa 0) "calls" .Add (.ag (.int 1))) .nil)
noncomputable abbrev iz : IR:= .cons (.dH (.cmp .Eq (.am (.aa 0) "calls") (.ag (.int 0))) (.cons .fail .nil) .nil) (.cons (.dH (.aO (.aa 0) "is_own" (.cons (.am (.aa 1) "number") .nil)) (.cons .fail .nil) .nil) (.cons (.dH (.cmp .In (.am (.aa 1) "number") (.am (.aa 0) "noted")) (.cons (.expr (.aO (.am (.aa 0) "cache") "need_held" (.cons (.aa 1) .nil))) (.cons .A8 .nil)) .nil) (.cons (.dH (.cmp .GtE (.call "len" (.builtin "len") (.cons (.am (.aa 0) "numbers") .nil)) (.am (.aa 0) "most")) (.cons .fail .nil) .nil) (.cons (.expr (.aO (.am (.aa 0) "cache") "pin" (.cons (.aa 1) .nil))) (.cons (.asg (.item (.am (.aa 0) "noted") (.am (.aa 1) "number")) (.call "len" (.builtin "len") (.cons (.am (.aa 0) "numbers") .nil))) (.cons (.expr (.aO (.am (.aa 0) "numbers") "append" (.cons (.am (.aa 1) "number") .nil))) .nil))))))
noncomputable abbrev jM : IR:= .cons (.dH (.cmp .Eq (.am (.aa 0) "calls") (.ag (.int 0))) (.cons .fail .nil) .nil) (.cons (.aug (.aa 0) "calls" .Sub (.ag (.int 1))) (.cons (.dH (.and (.cmp .Eq (.am (.aa 0) "calls") (.ag (.int 0))) (.cmp .NotEq (.am (.aa 0) "numbers") (.list .nil))) (.cons (.expr (.aO (.aa 0) "commit" .nil)) .nil) .nil) .nil))
noncomputable abbrev g8 : IR:= .cons (.expr (.aO (.aa 0) "fill_log" .nil)) (.cons (.expr (.aO (.aa 0) "write_head" (.cons (.am (.aa 0) "numbers") .nil))) (.cons (.expr (.aO (.aa 0) "install" (.cons (.am (.aa 0) "numbers") (.cons (.ag (.bool false)) .nil)))) (.cons (.expr (.aO (.aa 0) "write_head" (.cons (.list .nil) .nil))) (.cons (.fR false (.aa 1) (.iter (.am (.aa 0) "numbers")) (.cons (.expr (.aO (.am (.aa 0) "cache") "unpin" (.cons (.aa 1) .nil))) .nil)) (.cons (.asg (.am (.aa 0) "numbers") (.list .nil)) (.cons (.asg (.am (.aa 0) "noted") .iU) (.cons (.aug (.aa 0) "commits" .Add (.ag (.int 1))) .nil)))))))
noncomputable abbrev go : IR:= .cons (.fR true (.tup (.cons (.aa 1) (.cons (.aa 2) .nil))) (.enum (.am (.aa 0) "numbers")) (.cons (.expr (.aO (.am (.aa 0) "cache") "poke" (.cons (.bin .Add (.bin .Add (.am (.aa 0) "start") (.ag (.int 1))) (.aa 1)) (.cons (.aO (.am (.aa 0) "cache") "peek" (.cons (.aa 2) .nil)) .nil)))) .nil)) (.cons (.expr (.aO (.am (.aa 0) "cache") "flush" .nil)) .nil)
noncomputable abbrev fJ : IR:= .cons (.expr (.aO (.am (.aa 0) "cache") "poke" (.cons (.am (.aa 0) "start") (.cons (.call "packed_head" (.ref 981) (.cons (.aa 1) (.cons (.am (.am (.aa 0) "cache") "size") .nil))) .nil)))) (.cons (.expr (.aO (.am (.aa 0) "cache") "flush" .nil)) .nil)
noncomputable abbrev gH : IR:= .cons (.fR true (.tup (.cons (.aa 3) (.cons (.aa 4) .nil))) (.enum (.aa 1)) (.cons (.asg (.aa 5) (.aO (.am (.aa 0) "cache") "peek" (.cons (.ite (.aa 2) (.bin .Add (.bin .Add (.am (.aa 0) "start") (.ag (.int 1))) (.aa 3)) (.aa 4)) .nil))) (.cons (.expr (.aO (.am (.aa 0) "cache") "poke" (.cons (.aa 4) (.cons (.aa 5) .nil)))) .nil))) (.cons (.expr (.aO (.am (.aa 0) "cache") "flush" .nil)) .nil)
noncomputable abbrev oS : IR:= .cons (.asg (.aa 1) (.call "Disk" (.ref 972) (.cons (.am (.aa 0) "blocks") (.cons (.ag (.int 64)) .nil)))) (.cons (.expr (.aO (.aa 1) "write" (.cons (.ag (.int 1)) (.cons (.aO (.aa 0) "octets" .nil) .nil)))) (.cons (.asg (.aa 2) (.call "sum" (.builtin "sum") (.cons (.comp ["one"] [none] false (.range (.cons (.am (.aa 0) "data_start") .nil)) (.aa 0) .nil (.bin .LShift (.ag (.int 1)) (.aa 0))) .nil))) (.cons (.expr (.aO (.aa 1) "write" (.cons (.am (.aa 0) "bitmap_start") (.cons (.call "bytes" (.type "bytes") (.cons (.comp ["at", "bits"] [none,some 2] false (.range (.cons (.ag (.int 64)) .nil)) (.aa 0) .nil (.bin .BitAnd (.bin .RShift (.aa 1) (.bin .Mult (.ag (.int 8)) (.aa 0))) (.ag (.int 255)))) .nil)) .nil)))) (.cons (.expr (.aO (.aa 1) "flush" .nil)) (.cons (.ret (.aa 1)) .nil)))))
noncomputable abbrev o8 : IR:= .cons (.expr (.aO (.am (.am (.aa 0) "nodes") "journal") "begin" .nil)) (.cons (.asg (.aa 1) (.aO (.am (.aa 0) "nodes") "allocate" (.cons (.glob "DIRECTORY" (.int 1)) .nil))) (.cons (.asg (.am (.aa 1) "links") (.ag (.int 1))) (.cons (.expr (.aO (.aa 1) "update" .nil)) (.cons (.expr (.aO (.aa 0) "link" (.cons (.aa 1) (.cons (.ag (.bytes [46])) (.cons (.ag (.int 1)) .nil))))) (.cons (.expr (.aO (.aa 0) "link" (.cons (.aa 1) (.cons (.ag (.bytes [46,46])) (.cons (.ag (.int 1)) .nil))))) (.cons (.expr (.aO (.am (.am (.aa 0) "nodes") "journal") "end" .nil)) (.cons (.ret (.aa 1)) .nil)))))))
noncomputable abbrev pa : IR:= .cons (.ret (.bin .Add (.call "bytes" (.type "bytes") (.cons (.list (.cons (.bin .Add (.ag (.int 97)) (.aa 0)) .nil)) .nil)) (.bin .Mult (.ag (.bytes [46])) (.bin .Mod (.bin .Mult (.aa 0) (.ag (.int 5))) (.ag (.int 14)))))) .nil
noncomputable abbrev i9 : IR:= .cons (.dH (.cmp .In (.aa 1) (.item (.aa 0) (.ag (.str "blocks")))) (.cons (.ret (.ag (.bool true))) .nil) .nil) (.cons (.dH (.and (.cmp .Gt (.aa 1) (.ag (.int 1))) (.not (.item (.aa 0) (.ag (.str "names"))))) (.cons (.dH (.cmp .Eq (.item (.aa 0) (.ag (.str "free"))) (.ag (.int 0))) (.cons (.ret (.ag (.bool false))) .nil) .nil) (.cons (.asg (.tup (.cons (.item (.aa 0) (.ag (.str "free"))) (.cons (.item (.aa 0) (.ag (.str "names"))) .nil))) (.tup (.cons (.bin .Sub (.item (.aa 0) (.ag (.str "free"))) (.ag (.int 1))) (.cons (.ag (.bool true)) .nil)))) (.cons (.expr (.aO (.aa 2) "append" (.cons (.ag (.str "bits")) .nil))) (.cons (.expr (.aO (.aa 2) "append" (.cons (.ag (.str "names")) .nil))) .nil)))) .nil) (.cons (.dH (.cmp .Eq (.item (.aa 0) (.ag (.str "free"))) (.ag (.int 0))) (.cons (.ret (.ag (.bool false))) .nil) .nil) (.cons (.asg (.item (.aa 0) (.ag (.str "free"))) (.bin .Sub (.item (.aa 0) (.ag (.str "free"))) (.ag (.int 1)))) (.cons (.expr (.aO (.item (.aa 0) (.ag (.str "blocks"))) "append" (.cons (.aa 1) .nil))) (.cons (.expr (.aO (.aa 2) "append" (.cons (.ag (.str "bits")) .nil))) (.cons (.dH (.cmp .Gt (.aa 1) (.ag (.int 1))) (.cons (.expr (.aO (.aa 2) "append" (.cons (.ag (.str "names")) .nil))) .nil) .nil) (.cons (.ret (.ag (.bool true))) .nil)))))))
noncomputable abbrev i4 : IR:= .cons (.dH (.cmp .In (.aa 1) (.item (.aa 0) (.ag (.str "slots")))) (.cons (.ret (.ag (.str "there"))) .nil) .nil) (.cons (.asg (.aa 3) (.ite (.cmp .In (.ag .none) (.item (.aa 0) (.ag (.str "slots")))) (.aO (.item (.aa 0) (.ag (.str "slots"))) "index" (.cons (.ag .none) .nil)) (.call "len" (.builtin "len") (.cons (.item (.aa 0) (.ag (.str "slots"))) .nil)))) (.cons (.asg (.aa 4) (.and (.cmp .LtE (.mx (.aa 2)) (.ag (.int 5))) (.call "_law_block" (.ref 1113) (.cons (.aa 0) (.cons (.bin .FloorDiv (.aa 3) (.ag (.int 4))) (.cons (.aa 2) .nil)))))) (.cons (.expr (.aO (.aa 2) "append" (.cons (.ag (.str "row")) .nil))) (.cons (.dH (.not (.aa 4)) (.cons (.ret (.ag (.str "room"))) .nil) .nil) (.cons (.expr (.aO (.aa 2) "append" (.cons (.bin .FloorDiv (.aa 3) (.ag (.int 4))) .nil))) (.cons (.asg (.item (.aa 0) (.ag (.str "slots"))) (.bin .Add (.bin .Add (.slice (.item (.aa 0) (.ag (.str "slots"))) .nil (.aa 3)) (.list (.cons (.aa 1) .nil))) (.slice (.item (.aa 0) (.ag (.str "slots"))) (.bin .Add (.aa 3) (.ag (.int 1))) .nil))) (.cons (.ret (.ag (.str "done"))) .nil)))))))
noncomputable abbrev pk : IR:= .cons (.Ea [("BadCall",88, .str "there"),("NoRoom",76, .str "room")] (.cons (.expr (.aO (.aa 0) "link" (.cons (.aa 1) (.cons (.aa 2) (.cons (.aa 3) .nil))))) .nil)) (.cons (.ret (.ag (.str "done"))) .nil)
noncomputable abbrev fu : IR:= .cons (.asg (.tup (.cons (.aa 4) (.cons (.aa 5) .nil))) (.tup (.cons (.bin .Mod (.bin .FloorDiv (.aa 3) (.ag (.int 3))) (.ag (.int 20))) (.cons (.list .nil) .nil)))) (.cons (.expr (.aO (.am (.am (.aa 0) "nodes") "journal") "begin" .nil)) (.cons (.dH (.cmp .Eq (.bin .Mod (.aa 3) (.ag (.int 3))) (.ag (.int 2))) (.cons (.asg (.aa 6) (.call "_law_name" (.ref 1106) (.cons (.aa 4) .nil))) (.cons (.asg (.aa 7) (.aO (.aa 0) "look" (.cons (.aa 1) (.cons (.aa 6) .nil)))) (.cons (.asg (.aa 8) (.cmp .Eq (.aa 7) (.ite (.cmp .In (.aa 6) (.item (.aa 2) (.ag (.str "slots")))) (.tup (.cons (.bin .Add (.ag (.int 2)) (.aa 4)) (.cons (.bin .Mult (.ag (.int 16)) (.aO (.item (.aa 2) (.ag (.str "slots"))) "index" (.cons (.aa 6) .nil))) .nil))) (.ag .none)))) (.cons (.dH (.and (.cmp .IsNot (.aa 7) (.ag .none)) (.aa 8)) (.cons (.expr (.aO (.aa 0) "unlink" (.cons (.aa 1) (.cons (.item (.aa 7) (.ag (.int 1))) .nil)))) (.cons (.asg (.item (.item (.aa 2) (.ag (.str "slots"))) (.aO (.item (.aa 2) (.ag (.str "slots"))) "index" (.cons (.aa 6) .nil))) (.ag .none)) .nil)) .nil) .nil)))) (.cons (.asg (.aa 9) (.comp ["k", "first"] [none,some 4] false (.range (.cons (.bin .Add (.ag (.int 1)) (.bin .Mod (.bin .FloorDiv (.aa 3) (.ag (.int 60))) (.ag (.int 3)))) .nil)) (.aa 0) .nil (.bin .Mod (.bin .Add (.aa 1) (.aa 0)) (.ag (.int 20))))) (.cons (.asg (.aa 10) (.comp ["k", "paths", "root"] [none,some 0,some 1] false (.iter (.aa 9)) (.aa 0) .nil (.call "_law_link" (.ref 1127) (.cons (.aa 1) (.cons (.aa 2) (.cons (.call "_law_name" (.ref 1106) (.cons (.aa 0) .nil)) (.cons (.bin .Add (.ag (.int 2)) (.aa 0)) .nil))))))) (.cons (.asg (.aa 8) (.cmp .Eq (.aa 10) (.comp ["k", "own", "noted"] [none,some 2,some 5] false (.iter (.aa 9)) (.aa 0) .nil (.call "_law_given" (.ref 1120) (.cons (.aa 1) (.cons (.call "_law_name" (.ref 1106) (.cons (.aa 0) .nil)) (.cons (.aa 2) .nil))))))) .nil)))) (.cons (.expr (.aO (.am (.am (.aa 0) "nodes") "journal") "end" .nil)) (.cons (.ret (.aa 8)) .nil))))
noncomputable abbrev pb : IR:= .cons (.asg (.aa 3) (.item (.aa 2) (.ag (.str "slots")))) (.cons (.asg (.aa 4) (.comp ["at", "slots", "own"] [none,some 3,some 2] false (.range (.cons (.call "len" (.builtin "len") (.cons (.aa 3) .nil)) .nil)) (.aa 0) .nil (.tup (.cons (.bin .Mult (.ag (.int 16)) (.aa 0)) (.cons (.ite (.cmp .Is (.item (.aa 1) (.aa 0)) (.ag .none)) (.ag (.int 0)) (.aO (.item (.aa 2) (.ag (.str "numbers"))) "get" (.cons (.item (.aa 1) (.aa 0)) (.cons (.ag (.int 1)) .nil)))) (.cons (.or (.item (.aa 1) (.aa 0)) (.ag (.bytes []))) .nil)))))) (.cons (.dH (.or (.cmp .NotEq (.aO (.aa 0) "all_rows" (.cons (.aa 1) .nil)) (.aa 4)) (.cmp .NotEq (.am (.aa 1) "size") (.bin .Mult (.ag (.int 16)) (.call "len" (.builtin "len") (.cons (.aa 3) .nil))))) (.cons (.ret (.ag (.bool false))) .nil) .nil) (.cons (.dH (.or (.cmp .NotEq (.aO (.aa 0) "names" (.cons (.aa 1) .nil)) (.comp ["name"] [none] false (.iter (.aa 3)) (.aa 0) (.cons (.cmp .IsNot (.aa 0) (.ag .none)) .nil) (.aa 0))) (.cmp .NotEq (.aO (.aa 0) "is_empty" (.cons (.aa 1) .nil)) (.cmp .Eq (.aO (.aa 3) "count" (.cons (.ag .none) .nil)) (.bin .Sub (.call "len" (.builtin "len") (.cons (.aa 3) .nil)) (.ag (.int 2)))))) (.cons (.ret (.ag (.bool false))) .nil) .nil) (.cons (.ret (.cmp .Eq (.aO (.am (.aa 0) "nodes") "free_blocks" .nil) (.item (.aa 2) (.ag (.str "free"))))) .nil))))
noncomputable abbrev tJ : IR:= .cons (.asg (.aa 1) (.ite (.cmp .Eq (.aa 0) (.list .nil)) (.list (.cons (.ag (.int 0)) .nil)) (.comp ["n"] [none] false (.iter (.slice (.aa 0) .nil (.ag (.int 4)))) (.aa 0) .nil (.bin .Mod (.call "abs" (.builtin "abs") (.cons (.aa 0) .nil)) (.bin .Pow (.ag (.int 10)) (.ag (.int 12))))))) (.cons (.asg (.aa 2) (.bin .Add (.ag (.int 2)) (.bin .Mod (.call "sum" (.builtin "sum") (.cons (.aa 1) .nil)) (.ag (.int 5))))) (.cons (.asg (.aa 3) (.call "Super" (.ref 204) (.cons (.ag (.int 64)) (.cons (.bin .Add (.ag (.int 15)) (.aa 2)) (.cons (.ag (.int 4)) (.cons (.ag (.int 10)) (.cons (.ag (.int 2)) .nil))))))) (.cons (.asg (.aa 4) (.call "_law_disk" (.ref 1092) (.cons (.aa 3) .nil))) (.cons (.asg (.aa 5) (.call "Paths" (.ref 659) (.cons (.call "Nodes" (.ref 453) (.cons (.call "Journal" (.ref 1083) (.cons (.call "Cache" (.ref 874) (.cons (.aa 4) (.cons (.ag (.int 14)) .nil))) (.cons (.ag (.int 2)) (.cons (.ag (.int 10)) .nil)))) (.cons (.aa 3) .nil))) .nil))) (.cons (.asg (.aa 6) (.call "_law_root" (.ref 1099) (.cons (.aa 5) .nil))) (.cons (.asg (.aa 7) (.dD ["slots", "blocks", "names", "free"] (.cons (.list (.cons (.ag (.bytes [46])) (.cons (.ag (.bytes [46,46])) .nil))) (.cons (.list (.cons (.ag (.int 0)) .nil)) (.cons (.ag (.bool false)) (.cons (.bin .Sub (.aa 2) (.ag (.int 1))) .nil)))))) (.cons (.asg (.item (.aa 7) (.ag (.str "numbers"))) (.pt (.comp ["k"] [none] false (.range (.cons (.ag (.int 20)) .nil)) (.aa 0) .nil (.tup (.cons (.call "_law_name" (.ref 1106) (.cons (.aa 0) .nil)) (.cons (.bin .Add (.ag (.int 2)) (.aa 0)) .nil)))))) (.cons (.fR false (.aa 8) (.iter (.aa 1)) (.cons (.dH (.or (.not (.call "_law_call_right" (.ref 1132) (.cons (.aa 5) (.cons (.aa 6) (.cons (.aa 7) (.cons (.aa 8) .nil)))))) (.not (.call "_law_same" (.ref 1137) (.cons (.aa 5) (.cons (.aa 6) (.cons (.aa 7) .nil)))))) (.cons (.ret (.ag (.bool false))) .nil) .nil) .nil)) (.cons (.asg (.aa 9) (.call "Paths" (.ref 659) (.cons (.call "Nodes" (.ref 453) (.cons (.call "Journal" (.ref 1083) (.cons (.call "Cache" (.ref 874) (.cons (.aO (.aa 4) "copy" .nil) (.cons (.ag (.int 14)) .nil))) (.cons (.ag (.int 2)) (.cons (.ag (.int 10)) .nil)))) (.cons (.aa 3) .nil))) .nil))) (.cons (.ret (.call "_law_same" (.ref 1137) (.cons (.aa 9) (.cons (.aO (.aa 9) "root" .nil) (.cons (.aa 7) .nil))))) .nil))))))))))
noncomputable def AS : List (Addr×Nat×Nat×List MV×IR):=[(116,2,2,[],q8),(123,2,2,[],qG),(130,3,3,[],pf),(137,3,3,[],pe),(144,2,2,[],ly),(159,6,6,[.int 12],kZ),(166,1,1,[],f6),(173,1,1,[],gQ),(180,1,2,[],jP),(187,1,4,[],jo),(194,2,2,[],jm),(201,2,3,[],ju),(222,3,3,[],nP),(229,1,1,[],fU),(234,4,4,[],iL),(241,3,5,[],jr),(255,3,3,[],mF),(262,3,3,[],lj),(276,1,1,[],jN),(311,3,3,[],k7),(318,2,2,[],fW),(325,2,6,[],iP),(332,2,6,[],m8),(340,4,6,[.int 0, .int 0],hM),(347,2,5,[],jq),(375,1,7,[],gk),(382,4,7,[],g9),(389,2,3,[],fZ),(403,1,7,[],fX),(410,4,5,[],fw),(417,4,6,[],f7),(424,4,10,[],kW),(431,4,6,[],j4),(438,5,9,[],gi),(464,1,1,[],mO),(471,1,1,[],o0),(485,2,3,[],rq),(492,1,3,[],rj),(506,2,2,[],kU),(513,1,1,[],la),(520,2,2,[],fb),(527,2,6,[],gZ),(532,2,2,[],kr),(539,3,7,[],lq),(546,4,9,[],lx),(553,3,3,[],jF),(558,2,2,[],hV),(677,3,3,[],kq),(684,1,1,[],hW),(691,1,1,[],iI),(719,2,2,[],jY),(726,1,1,[],jp),(775,3,3,[],lu),(782,2,2,[],gm),(789,2,2,[],gG),(796,2,3,[],mN),(803,1,3,[],gF),(810,2,2,[],iD),(817,2,2,[],mQ),(824,2,3,[],kb),(831,2,2,[],jL),(838,1,1,[],kh),(845,2,4,[],kX),(852,3,4,[],k8),(892,3,3,[],nH),(899,1,1,[],gI),(906,2,2,[],gK),(913,2,2,[],nE),(920,3,3,[],lh),(934,1,3,[],lC),(955,2,6,[],ls),(962,1,1,[],nz),(981,2,4,[],kd),(996,5,5,[.none],jv),(1003,2,2,[],g0),(1010,1,1,[],gj),(1017,1,1,[],jt),(1024,1,1,[],iC),(1031,2,2,[],iz),(1038,1,1,[],jM),(1045,1,2,[],g8),(1052,1,3,[],go),(1059,2,2,[],fJ),(1066,3,6,[],gH),(1092,1,3,[],oS),(1099,1,2,[],o8),(1106,1,1,[],pa),(1113,3,3,[],i9),(1120,3,5,[],i4),(1127,4,4,[],pk),(1132,4,11,[],fu),(1137,3,5,[],pb),(1142,1,10,[],tJ)]
noncomputable def GL : List (Addr×List (String×Addr)):=[(204,[("most_blocks",166),("most_size",173),("words",180),("octets",187),("row_of",194),("bit_of",201)]),(293,[("is_directory",229),("take_row",234),("put_row",241),("read",255),("write",262),("update",276)]),(453,[("need_number",318),("kind_at",325),("get",332),("allocate",340),("update",347),("take_block",375),("free_bit",382),("clear_block",389),("free_blocks",403),("block_of",410),("named_block",417),("read",424),("write",431),("write_part",438)]),(659,[("root",513),("need_directory",520),("all_rows",527),("names",532),("look",539),("link",546),("unlink",553),("is_empty",558)]),(757,[("is_free",684),("octets",691),("fill",719),("clear",726)]),(874,[("need_block",782),("need_held",789),("get",796),("make_room",803),("release",810),("pin",817),("unpin",824),("write",831),("flush",838),("peek",845),("poke",852)]),(972,[("need_power",899),("need_block",906),("read",913),("write",920),("flush",934),("after",955),("copy",962)]),(1083,[("is_own",1003),("has_room",1010),("left",1017),("begin",1024),("write",1031),("end",1038),("commit",1045),("fill_log",1052),("write_head",1059),("install",1066)])]
noncomputable def attrL : List (Addr×List String):=[(204,["block", "blocks", "inodes", "log", "direct", "row", "rows", "indirect", "log_start", "inode_start", "bitmap_start", "data_start"]),(293,["nodes", "number", "holders", "kind", "major", "minor", "links", "size", "places"]),(453,["journal", "cache", "super", "table"]),(659,["nodes"]),(757,["number", "data", "holders", "pins"]),(874,["disk", "most", "size", "row", "by_number", "hits", "reads", "writes"]),(972,["blocks", "size", "kept", "latest", "unflushed", "writes", "flushes", "last", "last_flush", "is_dead"]),(1083,["cache", "start", "size", "places", "most", "each", "numbers", "noted", "calls", "commits"])]
noncomputable def Hw : List (Addr×Addr):=[(204,159),(293,222),(453,311),(659,506),(757,677),(874,775),(972,892),(1083,996)]
noncomputable def nZ : List Addr:=[76,88]
noncomputable def tab : Tab where
 aO C x:=((GL.lookup C).getD []).lookup x
 am C x:=((attrL.lookup C).getD []).contains x
 fn a:=AS.lookup a
 cls C:=Hw.lookup C
 nU C D:=if nZ.contains C&&nZ.contains D then some (C==D) else none
 eqs C:=C==757
theorem xO : tab.fn 116=some (2,2,[],q8):=rfl
theorem w9 : tab.fn 123=some (2,2,[],qG):=rfl
theorem wL : tab.fn 130=some (3,3,[],pf):=rfl
theorem vG : tab.fn 137=some (3,3,[],pe):=rfl
theorem rV : tab.fn 144=some (2,2,[],ly):=rfl
theorem sx : tab.fn 159=some (6,6,[.int 12],kZ):=rfl
theorem kg : tab.fn 166=some (1,1,[],f6):=rfl
theorem lU : tab.fn 173=some (1,1,[],gQ):=rfl
theorem qS : tab.fn 180=some (1,2,[],jP):=rfl
theorem pu : tab.fn 187=some (1,4,[],jo):=rfl
theorem pI : tab.fn 194=some (2,2,[],jm):=rfl
theorem pA : tab.fn 201=some (2,3,[],ju):=rfl
theorem tK : tab.fn 222=some (3,3,[],nP):=rfl
theorem jR : tab.fn 229=some (1,1,[],fU):=rfl
theorem oA : tab.fn 234=some (4,4,[],iL):=rfl
theorem pF : tab.fn 241=some (3,5,[],jr):=rfl
theorem ue : tab.fn 255=some (3,3,[],mF):=rfl
theorem rQ : tab.fn 262=some (3,3,[],lj):=rfl
theorem qr : tab.fn 276=some (1,1,[],jN):=rfl
theorem sc : tab.fn 311=some (3,3,[],k7):=rfl
theorem kc : tab.fn 318=some (2,2,[],fW):=rfl
theorem ou : tab.fn 325=some (2,6,[],iP):=rfl
theorem tM : tab.fn 332=some (2,6,[],m8):=rfl
theorem mK : tab.fn 340=some (4,6,[.int 0, .int 0],hM):=rfl
theorem pJ : tab.fn 347=some (2,5,[],jq):=rfl
theorem kQ : tab.fn 375=some (1,7,[],gk):=rfl
theorem mW : tab.fn 382=some (4,7,[],g9):=rfl
theorem ka : tab.fn 389=some (2,3,[],fZ):=rfl
theorem ku : tab.fn 403=some (1,7,[],fX):=rfl
theorem g5 : tab.fn 410=some (4,5,[],fw):=rfl
theorem f8 : tab.fn 417=some (4,6,[],f7):=rfl
theorem rU : tab.fn 424=some (4,10,[],kW):=rfl
theorem qQ : tab.fn 431=some (4,6,[],j4):=rfl
theorem kM : tab.fn 438=some (5,9,[],gi):=rfl
theorem tO : tab.fn 464=some (1,1,[],mO):=rfl
theorem wE : tab.fn 471=some (1,1,[],o0):=rfl
theorem xF : tab.fn 485=some (2,3,[],rq):=rfl
theorem wU : tab.fn 492=some (1,3,[],rj):=rfl
theorem r9 : tab.fn 506=some (2,2,[],kU):=rfl
theorem sE : tab.fn 513=some (1,1,[],la):=rfl
theorem iJ : tab.fn 520=some (2,2,[],fb):=rfl
theorem mE : tab.fn 527=some (2,6,[],gZ):=rfl
theorem qX : tab.fn 532=some (2,2,[],kr):=rfl
theorem rY : tab.fn 539=some (3,7,[],lq):=rfl
theorem rL : tab.fn 546=some (4,9,[],lx):=rfl
theorem pL : tab.fn 553=some (3,3,[],jF):=rfl
theorem nq : tab.fn 558=some (2,2,[],hV):=rfl
theorem qi : tab.fn 677=some (3,3,[],kq):=rfl
theorem mJ : tab.fn 684=some (1,1,[],hW):=rfl
theorem n0 : tab.fn 691=some (1,1,[],iI):=rfl
theorem qt : tab.fn 719=some (2,2,[],jY):=rfl
theorem pD : tab.fn 726=some (1,1,[],jp):=rfl
theorem rZ : tab.fn 775=some (3,3,[],lu):=rfl
theorem kJ : tab.fn 782=some (2,2,[],gm):=rfl
theorem lJ : tab.fn 789=some (2,2,[],gG):=rfl
theorem tV : tab.fn 796=some (2,3,[],mN):=rfl
theorem lR : tab.fn 803=some (1,3,[],gF):=rfl
theorem nY : tab.fn 810=some (2,2,[],iD):=rfl
theorem uj : tab.fn 817=some (2,2,[],mQ):=rfl
theorem qB : tab.fn 824=some (2,3,[],kb):=rfl
theorem qz : tab.fn 831=some (2,2,[],jL):=rfl
theorem rr : tab.fn 838=some (1,1,[],kh):=rfl
theorem sH : tab.fn 845=some (2,4,[],kX):=rfl
theorem sg : tab.fn 852=some (3,4,[],k8):=rfl
theorem uR : tab.fn 892=some (3,3,[],nH):=rfl
theorem lH : tab.fn 899=some (1,1,[],gI):=rfl
theorem lW : tab.fn 906=some (2,2,[],gK):=rfl
theorem tI : tab.fn 913=some (2,2,[],nE):=rfl
theorem r6 : tab.fn 920=some (3,3,[],lh):=rfl
theorem sq : tab.fn 934=some (1,3,[],lC):=rfl
theorem rH : tab.fn 955=some (2,6,[],ls):=rfl
theorem ud : tab.fn 962=some (1,1,[],nz):=rfl
theorem qp : tab.fn 981=some (2,4,[],kd):=rfl
theorem px : tab.fn 996=some (5,5,[.none],jv):=rfl
theorem ng : tab.fn 1003=some (2,2,[],g0):=rfl
theorem kP : tab.fn 1010=some (1,1,[],gj):=rfl
theorem pB : tab.fn 1017=some (1,1,[],jt):=rfl
theorem oB : tab.fn 1024=some (1,1,[],iC):=rfl
theorem oh : tab.fn 1031=some (2,2,[],iz):=rfl
theorem qC : tab.fn 1038=some (1,1,[],jM):=rfl
theorem nO : tab.fn 1045=some (1,2,[],g8):=rfl
theorem kR : tab.fn 1052=some (1,3,[],go):=rfl
theorem jI : tab.fn 1059=some (2,2,[],fJ):=rfl
theorem lT : tab.fn 1066=some (3,6,[],gH):=rfl
theorem wl : tab.fn 1092=some (1,3,[],oS):=rfl
theorem wf : tab.fn 1099=some (1,2,[],o8):=rfl
theorem vA : tab.fn 1106=some (1,1,[],pa):=rfl
theorem vf : tab.fn 1113=some (3,3,[],i9):=rfl
theorem uM : tab.fn 1120=some (3,5,[],i4):=rfl
theorem vy : tab.fn 1127=some (4,4,[],pk):=rfl
theorem mH : tab.fn 1132=some (4,11,[],fu):=rfl
theorem wJ : tab.fn 1137=some (3,5,[],pb):=rfl
theorem HQ : tab.fn 1142=some (1,10,[],tJ):=rfl
end
end Internal
namespace Internal
open PySem PySem.W PyProof.Rows PySem.Calls
noncomputable section
structure SE where
 names : List Str
 kinds : List (Str×NameKind)
 cells : List Str
 fn : Bool
structure Nt where
 gv : String->Option Value
 bv : String->Option Value
 Jf : String->MV->Bool
 A6 : Addr->Bool
noncomputable def yU(e:Expr):Bool:=e.ctorIdx != 0&&(e.ctorIdx != 3&&(e.ctorIdx != 5&&e.ctorIdx != 15))
noncomputable def DU(e:Expr):Bool:=e.ctorIdx==26
noncomputable def SE.kind(se:SE)(x:Str):Option NameKind:=se.kinds.lookup x
noncomputable def SE.is(se:SE)(x:Str)(k:NameKind):Bool:=se.kind x==some k
noncomputable def mj(se:SE)(scope:Scope)(cn:List Str):SE:=
 { names:=cn,kinds:=scope.names.map λ(n,k)=>if k== .free&&se.is n .cell then (n, .cell) else (n,k),cells:=[],fn:=false }
inductive Ok(p:Prop):Type where
 |no
 |yes (h:p)
noncomputable def Ok.y{p:Prop}:Ok p->Bool
 | .no=>false
 | .yes _=>true
theorem Ok.get{p:Prop}:∀ {o:Ok p},o.y=true->p
 | .yes h,_=>h
noncomputable def Ok.iff{p:Prop}(b:Bool)(f:b=true->Ok p):Ok p:=if h : b=true then f h else .no
noncomputable def Ok.eq{p:Prop}{α:Type} [DecidableEq α] (a b:α)(f:a=b->Ok p):Ok p:=if h : a=b then f h else .no
noncomputable def Ok.m1{p q:Prop}(f:p->q):Ok p->Ok q
 | .no=> .no
 | .yes h=> .yes (f h)
noncomputable def Ok.m2{p q r:Prop}(f:p->q->r):Ok p->Ok q->Ok r
 | .yes h, .yes g=> .yes (f h g)
 |_,_=> .no
noncomputable def Ok.m3{p q r t:Prop}(f:p->q->r->t)(a:Ok p)(b:Ok q)(c:Ok r):Ok t:= .m2 (λh g=>g h) a (.m2 (λh g k=>f k h g) b c)
noncomputable def Ok.or{p:Prop}:Ok p->Ok p->Ok p
 | .yes h,_=> .yes h
 | .no,b=>b
theorem nb{b:Bool}(h:(!b)=true):b=false:=by cases b<;>first | rfl | cases h
end
section
variable {cx:Cx}{n:Nat}{fd:Fd}{A:Around}{ρ:LA->Addr}{σ:MH}{loc:Loc}{s:Shared}
theorem zX : cQ cx n fd (.type "list") P.Hg:=by
 intro as vs A ρ σ loc s Q X G hp hm
 induction hm with
 |@mk l ws r e a n h=>
  apply hp.eB;intro u
  refine eA ((G.obj _ _ e).2) λxs ep o1 r2=> ?_
  refine .of (call_list_seq _ (.inl rfl) o1 rfl rfl (λh' c' hk hD=>Out.iT G n s.toks (dM hk) (aG _) hD r2 h) ?_)
  refine bu▸ae r2.len▸ ?_
  exact ad a (by decide)
theorem AE : cQ cx n fd (.type "dict") P.He:=by
 intro as vs A ρ σ loc s Q X G hp hm
 induction hm with
 |@mk l es r e a n h=>
  apply hp.eB;intro u
  refine aT ((G.obj _ _ e).2) λkvs d kv=> ?_
  refine .of (kt_call_dict (knd:=intKind cx.prog cx.w) (eE G u) d (by refine ae kv.len▸ ?_;exact ad a (by decide)) λh' hd sb=> ?_)
  refine aT (qe hd) λod hod ntd=> ?_
  exact Out.alloc (o:= .bS es) G n s.toks (dM (λb o e=>(sb.2 b (bw (aS e))).trans (aI _ e))) (aG _) hod ntd (λ_ k=>⟨kvs,hd,kv.mono k⟩) h
theorem iQ{x:Str}{np pos:Pos}{f:Value}{e:Expr}{K E:Value->Shared->Prop}(hn:fk cx n fd (.Name x np) f)(hf:keeperOf f=pure .machine)(hp:cj e=true)(G:Good cx n fd A ρ σ loc s)
  (h:cW cx.M A (eval e fd.env) (λv s1=>cW cx.M A (call f [v]) K E s1) E s):cW cx.M A (eval (.Call (.Name x np) [e] [] pos) fd.env) K E s:=by
 refine dw (fB pos (es:=[e]) (env:=fd.env) (by simp[hp])) λh1 h2=> ?_
 refine ai (.of (hn A ρ σ loc s _ _ G ?_))
 refine mZ hf h1 ?_
 have q : spliced (backTo pos (starEach [e] fd.env))=(eval e fd.env >>= λv=>pure [v] >>= λhere=>holding here (pure []) >>= λr=>pure (here++r)):=by
  rw[fA hp];rfl
 refine ae q▸ ?_
 exact ai (aD h (λv s1 y=>ai (ax (ai (aJ (ax (ax y)))))) λ_ _ y=>y)
theorem xw{x y:Str}{np py p pos:Pos}{e:Expr}{m:P MV}(hn:fk cx n fd (.Name x np) (.type "list")) (ht:fk cx n fd (.Name y py) (.type "range")) (hp:cj e=true)(h:bO cx n fd e m) :
  bO cx n fd (.Call (.Name x np) [.Call (.Name y py) [e] [] p] [] pos) (m.bind P.mz):=by
 intro A ρ σ loc s Q X G _ hm
 refine iQ hn rfl rfl G (iQ ht rfl hp G (aD (h A ρ σ loc s _ X G trivial hm) (λv s1 z=> ?_) λ_ _ z=>z))
 obtain⟨a,ρ1,σ1,l1,S1,G1,r1,hq⟩:=z
 have S2 : ∀ {o tk},Step fd ρ σ.us s ρ1 σ1.us { s1 with heap:=s1.heap.push o,toks:=tk }:=λ{o tk}=>S1.trans (Step.grow G1.di G1.locals (.push o) tk)
 induction hq with
 |mk n h=>
  apply r1.eH;intro t
  refine .of (call_range_1 (.of (call_list_range (n:=0) G1.ak.hh (IsRange.new s1.heap 0 0 1 s1.toks t (s1.toks+1)) (by decide) (by decide) (by decide) λh' tk acc' c' hk hS hi=> ?_)))
  have e0 : acc'=#[]:=Array.eq_empty_of_size_eq_zero hi.1
  subst e0
  exact Out.pre S2 (Out.iT (G1.push _ _) n tk (dM hk) (aG _) hS .nil h)
end
noncomputable abbrev AX(led:Bool):Obj:={ cls:= .type "set",dict:=none,data:= .set #[] 0 (.fresh 0 0 led) }
section
variable {prog:Program}{w:World}{A:Around}{E:Value->Shared->Prop}{s:Shared}{K:Type} [DecidableEq K] {knd:KeyKind prog w K}
theorem Cl{l S:Addr}{items:Array Value}{ks:List K}{led:Bool}{R:Result->Shared->Prop}(hh:A.handled=none)(hl:s.heap.IsList l items)(hS:s.heap.get? S=some (AX led))(hne:l≠S)
  (hval:∀ (i:Nat) v,items[i]?=some v->∃k,ks[i]?=some k/\knd.is k v=true/\v.scannable=true)(hb:items.size+1 < scanBound)
  (h:∀ (h':Heap)(tk:Nat),h'.SetOf knd S (λk'=>decide (k'∈met (ks.take items.size))) (met (ks.take items.size)).length->(∀b o,b≠S->s.heap.get? b=some o->h'.get? b=some o)->R (.ok (.ret .none)) { s with heap:=h',toks:=tk }) :
  wpAny (model prog w) A.in1 (Builtin.«set.__init__» ⟨[.ref S, .ref l],[]⟩) (λfin s'=>match fin with | .done f=>R (.ok f) s' | .again c'=>c'.quiet=true/\codeAny (model prog w) A c' R s') (λe s'=>R (.error e) s') s:=by
 obtain⟨ol,hol,hcl,nl,hdl⟩:=_root_.id hl
 obtain⟨ocls,odict,odata,oslots⟩:=ol
 dsimp only at hcl hdl
 subst hcl hdl
 have t1:=PySem.F.sub_list_set
 have t2:=PySem.F.sub_list_frozenset
 unfold Builtin.«set.__init__» noKeywords Builtin.Frozenset.updateFrom
 generalize hp : pyIter=PI
 obtain⟨H,g,d,tk,os⟩:=s
 wp_walk
 subst hp
 refine wpAny_pyIter_list hl ?_
 refine af (wpAny_runValue ?_)
 have lS : S < H.objs.size:=aS hS
 have ll : l < H.objs.size:=aS hol
 have hSf : S∉[H.objs.size,l]:=by
  intro q
  refine Or.elim (aK.mp q) (λq=> ?_) λq=> ?_
  ·exact bw lS q
  ·exact hne (av.mp q).symm
 refine Dq (knd:=knd) ((Walks.list (A:=A.in1.in1) hh _ l (bw ll) items).toS) S hSf ks hval hb (items.size - 0) 0 _ (by exact Nat.sub_zero items.size) (bC _) ⟨⟨_,aQ _ rfl,rfl,rfl⟩,hl.push _⟩ ?_ ?_
 ·exact SetOf_congr ((setObjOf_fresh (knd:=knd) led).setOf (aI _ hS) (by exact Nat.zero_lt_succ 4095)) (λ_=>rfl) rfl
 ·intro s' hm hS'
  obtain⟨h',g',d',tk',os'⟩:=s'
  obtain rfl : g'=g:=hm.gens
  obtain rfl : d'=d:=hm.drawn
  obtain rfl : os'=os:=hm.os
  refine ao (ao (h h' tk' hS' λb o hb e=>hm.heap b o (λq=> ?_) (aI _ e)))
  refine Or.elim (aK.mp q) (λq=> ?_) λq=> ?_
  ·exact hb q
  ·exact bw (aS e) (av.mp q)
theorem w6{l:Addr}{items:Array Value}{ks:List K}{Q:Value->Shared->Prop}(hh:A.handled=none)(hl:s.heap.IsList l items)
  (hval:∀ (i:Nat) v,items[i]?=some v->∃k,ks[i]?=some k/\knd.is k v=true/\v.scannable=true)(hb:items.size+1 < scanBound)
  (h:∀ (h':Heap)(tk:Nat),h'.SetOf knd s.heap.objs.size (λk'=>decide (k'∈met (ks.take items.size))) (met (ks.take items.size)).length->(∀b o,s.heap.get? b=some o->h'.get? b=some o)->Q (.ref s.heap.objs.size) { s with heap:=h',toks:=tk }) :
  wpAny (model prog w) A (call (.type "set") [.ref l]) Q E s:=by
 obtain⟨c,tl,m1⟩:=PySem.F.called_set.mro
 have m2:=PySem.F.called_set.made
 have m3:=PySem.F.called_set.sub
 refine wpAny_call (codeAny_of_tree ?_)
 show wpAny _ _ (callAny (.type "set") _) _ _ _
 refine ao ⟨Code.quiet_builtin _ (by decide +kernel),dE PySem.F.entry_type_call ?_⟩
 rw[Around.under_plain (weight_type_call_type "set" [.ref l] []) rfl]
 have m4:=PySem.F.called_set.notType
 have m5:=PySem.F.called_set.canCreate
 have m6:=PySem.F.typeCall_set_1 (.ref l)
 repeat (any_goals (first | assumption | wp_step))
 refine codeAny_mono (PySem.code_set_new_1 (.ref l) (E:=E) (Q₁:=λobj s₁=>∃led : Bool,obj= .ref s.heap.objs.size/\s₁={ s with heap:=s.heap.push (AX led) }) λled=>⟨led,rfl,rfl⟩) λr s₁ hr=> ?_
 rcases r with e | (_ | _ | _ | obj)
 ·exact hr
 ·exact hr.elim
 ·exact hr.elim
 ·exact hr.elim
 obtain⟨led,rfl,rfl⟩:=hr
 have hT : Shared.TypeIs { s with heap:=s.heap.push (AX led) } (.ref s.heap.objs.size) "set" := ⟨_,(aQ s.heap (o:=AX led) rfl),rfl⟩
 have n1:=PySem.F.called_set.init.lookup
 have n2:=PySem.F.called_set.init.bind (.ref s.heap.objs.size)
 repeat (any_goals (first | assumption | wp_step))
 have ne : l≠s.heap.objs.size:=λq=>by obtain⟨o,e,_⟩:=hl;exact bw (aS e) q
 obtain⟨R0,hR0⟩ : ∃R0 : Result->Shared->Prop,R0=λr s₂=>r= .ok (.ret .none)/\∃h' tk,s₂={ s with heap:=h',toks:=tk }/\h'.SetOf knd s.heap.objs.size (λk'=>decide (k'∈met (ks.take items.size))) (met (ks.take items.size)).length/\∀b o,s.heap.get? b=some o->h'.get? b=some o:=⟨_,rfl⟩
 have fill:=Cl (knd:=knd) (A:=A.in1) (s:={ s with heap:=s.heap.push (AX led) }) (l:=l) (S:=s.heap.objs.size) (R:=R0)
  hh (hl.push _) (aQ s.heap (o:=AX led) rfl) ne hval hb λh' tk hs hk=>by rw[hR0];exact⟨rfl,h',tk,rfl,hs,λb o e=>hk b o (bw (aS e)) (aI _ e)⟩
 refine codeAny_mono (codeAny_call_builtin (R:=R0) PySem.F.called_set.init.plain PySem.F.entry_set_init (PySem.check_set_init_1 hT fill)) λr s₂ hr=> ?_
 rw[hR0] at hr
 obtain⟨rfl,h',tk,rfl,hs,hk⟩:=hr
 dsimp only
 repeat (any_goals (first | assumption | wp_step))
 exact h h' tk hs hk
theorem AJ{a:Addr}{S:K->Bool}{m:Nat}{Q:Value->Shared->Prop}(h:s.heap.SetOf knd a S m)(hm:m<=1000)(hq:∀t k,Q (.int m t) { s with toks:=k }):wpAny (model prog w) A (call (.builtin "len") [.ref a]) Q E s:=by
 obtain⟨o,es,ep,tb,ho,hx,hd,_,_,_,hf,rfl⟩:=h
 exact PySem.call_len_set ho hx hd hf (cU (aW.mpr hm) (by decide)) (hq _ _)
end
theorem uP{ρ:LA->Addr}{U:LA->Prop}{h:Heap}:∀ {vs:List MV}{ys:List Value}{ks:List (Int ⊕ Str)},cR ρ U h vs ys->lz vs=some ks->ks.length=ys.length/\∀ (i:Nat) v,ys[i]?=some v->∃k,ks[i]?=some k/\m0 k v=true/\v.scannable=true
 | [],ys,ks,r,e=>by
  cases e;refine ae r.nil_inv▸ ?_
  exact⟨rfl,λi v q=>by simp at q⟩
 |x::vs,ys,ks,r,e=>by
  refine eT r.cons_inv λy ys' zr2_ r1 r2=> ?_;subst zr2_
  have main : ∀ (k0:Int ⊕ Str),m0 k0 y=true->y.scannable=true->(lz vs).map (k0::·)=some ks->ks.length=(y::ys').length/\∀ (i:Nat) v,(y::ys')[i]?=some v->∃k,ks[i]?=some k/\m0 k v=true/\v.scannable=true:=by
   intro k0 h1 h2 h3
   refine aT (be.mp h3) λks' e' zr2_=> ?_;subst zr2_
   refine⟨by exact Nat.succ_inj.mpr ((uP r2 e').1),λi v q=> ?_⟩
   cases i with
   |zero=>cases q;exact⟨k0,rfl,h1,h2⟩
   |succ i=>exact ((uP r2 e').2) i v q
  cases x with
  |int i=>refine cN r1.int_inv λt zr1_=> ?_;subst zr1_;exact main (.inl i) (by exact mS r1 r1 rfl) rfl e
  |str z=>refine cN r1.str_inv λt zr1_=> ?_;subst zr1_;exact main (.inr _) (by exact mS r1 r1 rfl) rfl e
  |_=>cases e
section
variable {cx:Cx}{n:Nat}{fd:Fd}
theorem xk{x y:Str}{np py p pos:Pos}{e:Expr}{m:P MV}(hn:fk cx n fd (.Name x np) (.builtin "len")) (ht:fk cx n fd (.Name y py) (.type "set")) (hp:cj e=true)(h:bO cx n fd e m) :
  bO cx n fd (.Call (.Name x np) [.Call (.Name y py) [e] [] p] [] pos) (m.bind P.mx):=by
 intro A ρ σ loc s Q X G _ hm
 refine iQ hn rfl rfl G (iQ ht rfl hp G (aD (h A ρ σ loc s _ X G trivial hm) (λv s1 z=> ?_) λ_ _ z=>z))
 obtain⟨a,ρ1,σ1,l1,S1,G1,r1,hq⟩:=z
 have S2 : ∀ {h' tk},(∀b o,s1.heap.get? b=some o->h'.get? b=some o)->Step fd ρ σ.us s ρ1 σ1.us { s1 with heap:=h',toks:=tk }:=λhk=>S1.trans (Step.grow G1.di G1.locals (dM hk) _)
 induction hq with
 |@mk l vs ks e1 e2 hz hq=>
  apply r1.eB;intro u
  refine aT (G1.isList e1) λxs i r2=> ?_
  have sz : xs.size=ks.length:=((uP r2 e2).1).trans bu |>.symm
  refine .of (w6 (knd:=yw cx.prog cx.w) (ks:=ks) G1.ak.hh i (λi v q=>((uP r2 e2).2) i v (c9.trans q)) (by refine ae sz▸ ?_;unfold scanBound;exact az (bD hz _) (by decide)) λh' tk hs hk=> .of ?_)
  rw[sz,List.take_length] at hs
  exact AJ (knd:=yw cx.prog cx.w) hs (ad (xj ks) hz) λt k=>Out.pre (S2 hk) (Out.now (G1.grow (dM hk) k) .int hq)
end
end Internal
namespace Internal
open PySem PySem.W PyProof.Rows PySem.Calls Builtin
theorem uV : typeLookup (.type "list") "keys" = pure none:=by rw[cJ,bE];kernel_rfl
theorem sD : typeLookup (.type "list") "__getattr__" = pure none:=by rw[cJ,bE];kernel_rfl
theorem jC : entryFor table "dict.update.loop" = some Builtin.«dict.update.loop»:=entryFor_of_tree (by kernel_rfl)
theorem jz : plainId "dict.update.loop" = true:=by decide +kernel
section
variable {prog:Program}{w:World}{A:Around}{E:Value->Shared->Prop}{h:Heap}{g:Array GenState}{d:Drawn}{t:Nat}{os:OsState}{a:Addr}{items:Array Value}{ep:Nat}{sl:Array (Option Value)}
theorem zA{Q:Option Value->Shared->Prop}(hh:A.handled=none)(hx:h.get? a=some { cls:= .type "list",data:= .seq items ep,slots:=sl }) (hQ:∀h' tk,(∀b o,h.get? b=some o->h'.get? b=some o)->Q none ⟨h',g,d,tk,os⟩) :
  wpAny (model prog w) A (getAttr? (.ref a) "keys") Q E ⟨h,g,d,t,os⟩:=by
 have f1:=sub_AttributeError
 have f2:=F.slot_list_getattribute.lookup
 have f3:=F.slot_list_getattribute.bind (.ref a)
 have f5:=sD
 repeat (any_goals (first | assumption | exact (show ∀tk',(⟨h,g,d,tk',os⟩ : Shared).TypeIs (.ref a) "list" from λ_=>⟨_,hx,rfl⟩) _ | ((with_reducible show wpAny _ _ (call (Value.builtin "list.__getattribute__") _ _) _ _ _);refine call_meets F.slot_list_getattribute ((show ∀tk',(⟨h,g,d,tk',os⟩ : Shared).TypeIs (.ref a) "list" from λ_=>⟨_,hx,rfl⟩) _) am_entry_list_getattribute (F.args_list_getattribute_2 _ _) (meets_getattribute_miss_list a items ep sl "keys" _ uV (by decide +kernel) (by decide +kernel)) ⟨hx,hh,λh' tk' e hx'=> ?_⟩) | wp_step))
 refine fv hx'.there λt' u' he=> ?_
 unfold getattributeRaised
 repeat (any_goals (first | assumption | wp_step))
 exact hQ _ _ hx'.keeps
end
section
variable {prog:Program}{w:World}{A:Around}{R:Result->Shared->Prop}{I:Addr}{fp wr:List Addr}{G:Array GenState->Array GenState->Prop}{n:Nat}{P:Nat->Value->Prop}{St:Nat->Shared->Prop}
variable {K:Type} [DecidableEq K] {knd:KeyKind prog w K}
theorem stored_new{es:List (K×Value)}{k:K}{x:Value}(h:k∉es.map (·.1)):stored es k x=es++[(k,x)]:=by
 unfold stored;rw[if_neg]
 intro q;refine aT (List.any_eq_true.mp q) λp m e=> ?_
 exact h (cq.mpr ⟨p,m,aF e⟩)
theorem Cr{E:Value->Shared->Prop}{s:Shared}{S a:Addr}{kv x:Value}{k:K}{es:List (K×Value)}{Q:Unit->Shared->Prop}{f:Value->Sem (List Value)}{g:List Value->Sem Unit}(ht:s.heap.IsTuple a #[kv,x])(hk:knd.is k kv=true)(hd:s.heap.DictOf knd S es)(hs:es.length<=sizeLine)
  (hg:g [kv,x]=holding [kv,x] (dictSet S kv x))(h:∀h',h'.DictOf knd S (stored es k x)->Heap.SameBut S s.heap h'->Q () { s with heap:=h',toks:=s.toks+1 }) :
  wpAny (model prog w) A ((Dict.pairItems (.ref a)).tryCatch f >>= g) Q E s:=by
 obtain⟨o,ho,hc,n,hdt⟩:=ht
 obtain⟨c,dct,dat,sl⟩:=o
 dsimp only at hc hdt
 subst hc hdt
 obtain⟨hp,gn,d,tk,os⟩:=s
 dsimp only at ho hd h
 refine af (wpAny_tryCatch (m:=Dict.pairItems (.ref a)) (k:=f) ?_)
 refine af (wpAny_typeOf (T := "tuple") ⟨_,ho,rfl⟩ ?_)
 refine af (wpAny_seqItems ho rfl (ao ?_))
 show wpAny _ _ (g [kv,x]) _ _ _
 rw[hg];exact bl (wpAny_dictSet_pairs hk hd h hs)
theorem AL{h0:Heap}(W:WalksS prog w A.in1 I fp wr G n P St)(S:Addr)(hSf:S∉fp)(es:List (K×Value))(hn:(es.map (·.1)).Nodup)(hl:es.length=n)(hb:n<=1000)
  (hval:∀i v,P i v->∃k x a kv,es[i]?=some (k,x)/\v= .ref a/\h0.IsTuple a #[kv,x]/\knd.is k kv=true/\a∉S::wr) :
  ∀ (k i:Nat)(s:Shared),n - i=k->i<=n->St i s->(∀b o,b∉S::wr->h0.get? b=some o->s.heap.get? b=some o)->s.heap.DictOf knd S (es.take i)->
   (∀s',Moved (S::wr) G s s'->s'.heap.DictOf knd S es->R (.ok (.ret .none)) s')->
   codeAny (model prog w) A (.builtin "dict.update.loop" ⟨[.ref S, .ref I,rawInt i, .none],[]⟩) R s:=by
 have hSw : S∉wr:=λh=>hSf (W.sub _ h)
 have hsub : ∀b∈wr,b∈S::wr:=λb hb=>aB _ hb
 intro k
 induction k with
 |zero=>
  intro i s hk hi hst h0k hS hR
  have hin : i=n:=IF hk hi
  subst hin
  refine dE jC ?_
  show wpAny _ A.in1 (pyNext (.ref I) >>= _) _ _ s
  refine af (W.done s _ _ hst λs' hm=> ?_)
  rw[<-hl,List.take_length] at hS
  exact af (ao (ao (hR s' (hm.mono hsub) (by
   refine iR hS λo es ep ho rest=> ?_
   exact⟨o,es,ep,hm.heap S _ hSw ho,rest⟩))))
 |succ k ih=>
  intro i s hk hi hst h0k hS hR
  have hlt : i < n:=by exact Nat.lt_of_sub_eq_succ hk
  refine dE jC ?_
  show wpAny _ A.in1 (pyNext (.ref I) >>= _) _ _ s
  refine af (W.item i s _ _ hlt hst λv s' hP hst' hm=> ?_)
  refine qw (hval i v hP) λki x a kv hki zr5_ hit hkk ha=> ?_;subst zr5_
  have hS' : s'.heap.DictOf knd S (es.take i):=by
   refine iR hS λo es ep ho rest=> ?_
   exact⟨o,es,ep,hm.heap S _ hSw ho,rest⟩
  have h0' : ∀b o,b∉S::wr->h0.get? b=some o->s'.heap.get? b=some o:=λb o q e=>hm.heap b o (λz=>q (hsub b z)) (h0k b o q e)
  have nk : ki∉(es.take i).map (·.1):=by
   have : (es.take (i+1)).map (·.1)=(es.take i).map (·.1)++[ki]:=by rw[bV,hki];refine (aY).trans ?_;rfl
   have nd : ((es.take (i+1)).map (·.1)).Nodup:=hn.sublist ((List.take_sublist _ _).map _)
   rw[this] at nd
   exact λm=>(List.nodup_append.mp nd).2.2 _ m _ (av.mpr rfl) rfl
  refine af (bl (Cr (by refine aT hit λo e rest=> ?_;exact⟨o,h0' a o ha e,rest⟩) hkk hS' (by rw[bK];exact ad (Nat.min_le_right ..) (by rw[hl];exact ad hb (by decide))) rfl λh' hd' hsb=> ?_))
  rw[stored_new nk] at hd'
  rw[<-(show es.take (i+1)=es.take i++[(ki,x)] by refine (bV).trans ?_;rw[hki];rfl)] at hd'
  refine ao ⟨plainId_quiet jz _,ih (i+1) _ (I4 hk) hlt (W.frame _ s' _ _ hst' (cT _) λb hb o e=> ?_) (λb o q e=> ?_) hd' λs'' hm'' hS''=> ?_⟩
  ·refine ((hsb.2 b (λh:b=S=>hSf (by rw[<-h];exact hb)))).trans ?_;exact e
  ·exact (hsb.2 b λh=>q (by rw[h];exact aV)).trans (h0' b o q e)
  ·refine hR s'' (Moved.trans W.gtrans ((hm.mono hsub).then_heap (cT _) λb o hb e=> ?_) hm'') hS''
   refine ((hsb.2 b (λh:b=S=>hb (by rw[h];exact aV)))).trans ?_;exact e
end
section
variable {prog:Program}{w:World}{K:Type} [DecidableEq K] {knd:KeyKind prog w K}{A:Around}{E:Value->Shared->Prop}{s:Shared}
theorem tL{l:Addr}{items:Array Value}{ep:Nat}{es:List (K×Value)}{Q:Value->Shared->Prop}(hh:A.handled=none)(hl:s.heap.get? l=some { cls:= .type "list",data:= .seq items ep }) (hn:(es.map (·.1)).Nodup)(hz:es.length=items.size/\items.size<=1000)
  (hval:∀ (i:Nat) v,items[i]?=some v->∃k x a kv,es[i]?=some (k,x)/\v= .ref a/\s.heap.IsTuple a #[kv,x]/\knd.is k kv=true)
  (h:∀ (h':Heap)(tk:Nat),h'.DictOf knd s.heap.objs.size es->(∀b o,s.heap.get? b=some o->h'.get? b=some o)->Q (.ref s.heap.objs.size) { s with heap:=h',toks:=tk }) :
  wpAny (model prog w) A (call (.type "dict") [.ref l]) Q E s:=by
 refine callType_codes (Q₁:=λobj s₁=>obj= .ref s.heap.objs.size/\s₁={ s with heap:=s.heap.push { cls:= .type "dict",data:= .dict #[] } }) F.kt_called_dict (F.kt_typeCall_dict_1 _) F.entry_dict_init (kt_code_dict_new _ ⟨rfl,rfl⟩) ?_
 rintro obj s₁ ⟨rfl,rfl⟩
 have hnew : (s.heap.push { cls:= .type "dict",data:= .dict #[] }).DictOf knd s.heap.objs.size []:=Heap.DictOf.new s.heap
 refine⟨hnew.typeIs,F.args_dict_init_2 _ _, ?_⟩
 dsimp only[Builtin.«dict.__init__»]
 refine af ?_
 dsimp only[Builtin.Dict.selfAndRest]
 refine af (wpAny_notOrdered_dict hnew.typeIs ?_)
 refine ao ?_
 show wpAny _ _ (Builtin.Dict.updateFrom "dict.__init__" s.heap.objs.size (.ref l) [] .none) _ _ _
 skip
 have hl' : (s.heap.push { cls:= .type "dict",data:= .dict #[] }).get? l=some { cls:= .type "list",data:= .seq items ep }:=aI _ hl
 generalize hp : pyIter=PI
 refine af (wpAny_typeOf (T := "list") ⟨_,hl',rfl⟩ ?_)
 refine af (zA hh hl' λh1 tk hk=> ?_)
 refine af (wpAny_rule ?_)
 subst hp
 have hl1 : h1.IsList l items:=⟨_,hk _ _ hl',rfl,_,rfl⟩
 refine af (wpAny_pyIter_list hl1 ?_)
 have lS : s.heap.objs.size < h1.objs.size:=aS (hk _ _ (aQ _ rfl))
 have hSf : s.heap.objs.size∉[h1.objs.size,l]:=by
  intro q
  refine Or.elim (aK.mp q) (λq=> ?_) λq=> ?_
  ·exact bw lS q
  ·exact Nat.ne_of_gt (aS hl) (av.mp q)
 refine ao ⟨plainId_quiet jz _,AL (knd:=knd) (A:=A.in1) (i:=0) (h0:=s.heap) (Walks.list (A:=A.in1.in1) hh _ l (bw (cG (aS hl) lS)) items).toS _ hSf es hn hz.1 hz.2 (λi v q=> ?_) (items.size - 0) _ rfl (bC _) ⟨⟨_,aQ _ rfl,rfl,rfl⟩,hl1.push _⟩ (λb o _ e=>aI _ ((λb o e=>hk b o (aI _ e)) b o e)) ?_ λs' hm hS'=> ?_⟩
 ·refine FA (hval i v q) λk x a kv e1 e2 e3 e4=> ?_
  refine⟨k,x,a,kv,e1,e2,e3,e4,λq=> ?_⟩
  refine aT e3 λo ho _=> ?_
  refine Or.elim (aK.mp q) (λq=> ?_) λq=> ?_
  ·exact bw (aS ho) q
  ·exact bw (cG (aS ho) lS) (av.mp q)
 ·refine iR hnew λo es' ep' ho rest=> ?_
  exact⟨o,es',ep',aI _ (hk _ _ ho),rest⟩
 ·obtain⟨h',g',d',tk',os'⟩:=s'
  obtain rfl : g'=s.gens:=hm.gens
  obtain rfl : d'=s.drawn:=hm.drawn
  obtain rfl : os'=s.os:=hm.os
  refine⟨rfl,h h' tk' hS' λb o e=>hm.heap b o (λq=> ?_) (aI _ ((λb o e=>hk b o (aI _ e)) b o e))⟩
  refine Or.elim (aK.mp q) (λq=> ?_) λq=> ?_
  ·exact bw (aS e) q
  ·exact bw (cG (aS e) lS) (av.mp q)
end
end Internal
namespace Internal
open PySem PySem.W PyProof.Rows PySem.Calls
section
variable {cx:Cx}{n:Nat}{fd:Fd}
theorem ug{l r1 r2:Expr}{o1 o2:CmpOp}{pos:Pos}{m1 m2 m3:P MV}(h1:bO cx n fd l m1)(h2:bO cx n fd r1 m2)(h3:bO cx n fd r2 m3)(hb:lastMarks [o1,o2] [r1,r2]=false) :
  bO cx n fd (.Compare l [o1,o2] [r1,r2] pos) (m1.bind λa=>m2.bind λb=>(P.cmp o1 a b).bind λr=>P.cond (P.truth r) (m3.bind λc=>P.cmp o2 b c) (P.ret r)):=by
 have e : eval (.Compare l [o1,o2] [r1,r2] pos) fd.env=(eval l fd.env >>= λa=>holding [a] (eval r1 fd.env) >>= λb=>standAt pos >>= λ_=>
   holding [a,b] (compareOp o1 a b) >>= λc=>release [a,b] [c] >>= λ_=>holding [c,b] (truthy c) >>= λt=>if t then
    (holding [b] (eval r2 fd.env) >>= λd=>standAt pos >>= λ_=>operate [b,d] (compareOp o2 b d)) else pure c):=by
  show (eval l fd.env >>= λa=>compareChain pos a [o1,o2] (markedEach [o1,o2] [r1,r2] [eval r1 fd.env,eval r2 fd.env]))=_
  refine ae (markedEach_of_false _ _ _ hb)▸ ?_;rfl
 show eO cx n fd VR _ _
 rw[e]
 refine aM.bind h1 λa va=> ?_
 refine aM.bind (aM.holding (aM.gU bM.vr h2)) λb vb=> ?_
 refine aM.standAt ?_
 have hc : aM cx n fd (λρ U h=>(VR ρ U h b vb/\VR ρ U h a va)) (λρ U h x y=>VR ρ U h x y/\VR ρ U h b vb) (compareOp o1 va vb) (P.cmp o1 a b):=
  (aM.frame (q:=λρ U h=>VR ρ U h b vb) bM.vr (kG (op:=o1) (a:=a) (b:=b) (va:=va) (vb:=vb))).weak λ_ _ _ q=>⟨⟨q.2,q.1⟩,q.1⟩
 intro A ρ σ loc s Q X G hp hm
 refine ai (aJ (aD (hc A ρ σ loc s _ X G hp hm) (λvc s1 h=> ?_) λ_ _ y=>y))
 obtain⟨c,ρ1,σ1,l1,S1,G1,⟨rc,rb⟩,hq⟩:=h
 refine ai (eD (ai (aJ ?_)))
 refine aD ((aM.frame (q:=λρ U h=>VR ρ U h b vb/\VR ρ U h c vc) (bM.and bM.vr bM.vr) (fP (cx:=cx) (n:=n) (fd:=fd) (a:=c) (v:=vc))) A ρ1 σ1 l1 s1 _ X G1 ⟨rc,rb,rc⟩ hq) (λt s2 h=> ?_) λ_ _ y=>y.pre S1
 obtain⟨t',ρ2,σ2,l2,S2,G2,⟨e2,rb2,rc2⟩,hq2⟩:=h
 cases e2
 cases t with
 |false=>exact ax ((Out.now G2 rc2 hq2).pre (S1.trans S2))
 |true=>
  have hrest : aM cx n fd (λρ U h=>VR ρ U h b vb) VR (holding [vb] (eval r2 fd.env) >>= λd=>standAt pos >>= λ_=>operate [vb,d] (compareOp o2 vb d)) (m3.bind λc=>P.cmp o2 b c):=by
   refine aM.bind (aM.holding (aM.gU bM.vr h3)) λd vd=> ?_
   exact aM.standAt (aM.operate (kG.weak λρ U h q=>⟨q.2,q.1⟩))
  exact aD (hrest A ρ2 σ2 l2 s2 Q X G2 rb2 hq2) (λ_ _ y=>y.pre (S1.trans S2)) λ_ _ y=>y.pre (S1.trans S2)
theorem pairs_at{prog:Program}{w:World}{ρ:LA->Addr}{U:LA->Prop}{h:Heap}:∀ {es:List (List UInt8×MV)}{ys:List Value},cR ρ U h (es.map yz) ys->
  ∃kvs : List (List UInt8×Value),iy ρ U h id es kvs/\∀ (i:Nat) v,ys[i]?=some v->∃k x a kv,kvs[i]?=some (k,x)/\v= .ref a/\h.IsTuple a #[kv,x]/\(bytesKind prog w).is k kv=true
 | [],ys,r=>⟨[], .nil,λi v q=>by replace q:=r.nil_inv▸q;cases q⟩
 | (b,m)::es,ys,r=>by
  refine eT r.cons_inv λy ys' zr2_ r1 r2=> ?_;subst zr2_
  refine aT (pairs_at (prog:=prog) (w:=w) r2) λkvs kv g=> ?_
  refine qw r1.dN λa o xs ep zr4_ ho hc hd hv=> ?_;subst zr4_
  refine eT hv.cons_inv λy1 l1 e1 v1 hv=> ?_
  refine eT hv.cons_inv λy2 l2 e2 v2 hv=> ?_
  have e3:=hv.nil_inv
  subst e3 e2
  have ex : xs=#[y1,y2]:=(Array.toArray_toList (xs:=xs)).symm.trans (ah List.toArray e1)
  subst ex
  refine⟨(b,y2)::kvs, .cons v2 kv,λi v q=> ?_⟩
  cases i with
  |zero=>cases q;exact⟨b,y2,a,y1,rfl,rfl,⟨o,ho,hc,ep,hd⟩,by apply v1.dg;intro t;exact beq_self_eq_true b⟩
  |succ i=>exact g i v q
theorem iy.fst{ρ:LA->Addr}{U:LA->Prop}{h:Heap}{es:List (List UInt8×MV)}{ys:List (List UInt8×Value)}(k:iy ρ U h id es ys):ys.map (·.1)=es.map (·.1):=by
 induction k with
 |nil=>rfl
 |cons _ _ ih=>exact ah (_::·) ih
theorem zG{x:Str}{np pos:Pos}{e:Expr}{m:P MV}(hn:fk cx n fd (.Name x np) (.type "dict")) (hp:cj e=true)(h:bO cx n fd e m) :
  bO cx n fd (.Call (.Name x np) [e] [] pos) (m.bind P.pt):=by
 intro A ρ σ loc s Q X G _ hm
 refine iQ hn rfl hp G (aD (h A ρ σ loc s _ X G trivial hm) (λv s1 z=> ?_) λ_ _ z=>z)
 obtain⟨a,ρ1,σ1,l1,S1,G1,r1,hq⟩:=z
 induction hq with
 |@mk l es r e a n h=>
  apply r1.eB;intro u
  refine eA ((G1.obj _ _ e).2) λxs ep o1 r2=> ?_
  refine aT (pairs_at (prog:=cx.prog) (w:=cx.w) r2) λkvs kv g=> ?_
  have sz : xs.size=es.length:=bu.symm.trans (r2.len.trans (aq ..))
  refine .of (tL (knd:=bytesKind cx.prog cx.w) G1.ak.hh o1 (kv.fst▸a.2) ⟨by exact ae kv.len▸ae sz▸rfl,sz▸a.1⟩ (λi v q=>g i v (c9.trans q)) λh' tk hd hk=> ?_)
  refine aT (qe hd) λod hod ntd=> ?_
  exact Out.pre S1 (Out.alloc (o:= .iS es) G1 n tk (dM hk) (aG _) hod ntd (λ_ k=>⟨kvs,hd,kv.mono k⟩) h)
end
noncomputable section
structure ny(se:SE)(fd:Fd):Prop where
 names : fd.names=se.names
 kind : ∀x,fd.env.kindOf x=se.kind x
 hk : fd.env.scope.kind= .function
 nd : fd.names.Nodup
 gl : fd.env.globals=mainGlobals
 bi : fd.env.builtins=builtinsNs
 cells : ∀x∈se.cells,x∈fd.env.cells.map (·.1)
 F : se.fn=true->z6 fd
noncomputable abbrev Ey(d:tR):SE:={ names:=d.names,kinds:=d.fn.scope.names,cells:=(cellsFrom 0 d.fn.scope.names []).map (·.1),fn:=true }
structure fY(cx:Cx)(T:Tab)(V:Nt):Prop where
 tb : Hk cx T.toTb
 cls : ∀C i,T.cls C=some i->GS cx C i
 nU : ∀C D b,T.nU C D=some b->exmOne cx.K (.ref C) (.ref D)=some b
 eqs : ∀C,T.eqs C=true->eqB cx.K C=true
 gv : ∀x v,V.gv x=some v->nsIn cx.K mainGlobals (Str.ofString x)=some (some v)/\jW cx v
 bv : ∀x v,V.bv x=some v->nsIn cx.K mainGlobals (Str.ofString x)=some none/\bootBuiltins (Str.ofString x)=some v/\Str.ofString x ≠ "__name__" /\ jW cx v
 Jf : ∀x v,V.Jf x v=true->∃u,nsIn cx.K mainGlobals (Str.ofString x)=some (some u)/\VC v u
 A6 : ∀C,V.A6 C=true->∃B0 d,DQ cx C B0 d
noncomputable abbrev Al(se:SE)(p:Fd->Prop):Prop:=∀fd,ny se fd->p fd
section
variable {cx:Cx}{n:Nat}{fd:Fd}{se:SE}
theorem hJ{x:Str}{k:NameKind}(F:ny se fd)(h:se.is x k=true):fd.env.kindOf x=some k:=(F.kind x).trans (eq_of_beq h)
theorem zF{e:Expr}{m:P MV}(hf:yU e=true)(h:bO cx n fd e m):gz cx n fd e (m.bind P.truth):=by
 refine xc ?_ h
 clear h
 cases e<;>first | rfl | cases hf
structure wd(cx:Cx)(n:Nat)(fd:Fd)(x:Expr)(m:P MV):Prop where
 s : bO cx n fd x m
 a : kI x=true->∀y py (sp:Pos) mt,swapsWith x (some (.Name y py)) sp.line fd.env=pure true->ew cx n fd (.Name y py) mt->gf cx n fd (.Assign [.Name y py] x sp) (m.bind λv=>(mt v).bind λ_=>P.ret MF.next)
theorem wd.pl{x:Expr}{m:P MV}(hc:kI x=false)(h:bO cx n fd x m):wd cx n fd x m:=⟨h,λq=>absurd (hc.symm.trans q) aE⟩
structure Ev(cx:Cx)(n:Nat)(se:SE)(d:Dn):Type where
 e : ∀x,Ok (Al se λfd=>wd cx n fd x d.e):=λ_=> .no
 b : ∀x,Ok (Al se λfd=>gz cx n fd x d.b):=λ_=> .no
 it : ∀x,Ok (Al se λfd=>qP cx n fd x d.it):=λ_=> .no
 t : ∀x,Ok (Al se λfd=>ew cx n fd x d.t):=λ_=> .no
 s : ∀x,Ok (Al se λfd=>gf cx n fd x d.s):=λ_=> .no
 ss : ∀x,Ok (Al se λfd=>jG cx n fd x d.s):=λ_=> .no
 es : ∀x,Ok (Al se λfd=>kL (bO cx n fd) x d.ms/\x.all cj=true):=λ_=> .no
 ts : ∀x,Ok (Al se λfd=>te cx n fd x d.ts/\x.all cj=true/\x.length=d.tn):=λ_=> .no
 o : ∀x,Ok (Al se λfd=>sy cx n fd x d.e):=λ_=> .no
 c : ∀x,Ok (Al se λfd=>ig cx n fd x d.c):=λ_=> .no
noncomputable def GE{m:P MV}(he:∀x,Ok (Al se λfd=>wd cx n fd x m)):∀x,Ok (Al se λfd=>sy cx n fd x m)
 |some x=>(he x).m1 λh fd F=>zJ (h fd F).s
 |none=> .no
noncomputable def Cq{m:P MV}(he:∀x,Ok (Al se λfd=>wd cx n fd x m))(x:Expr):Ok (Al se λfd=>gz cx n fd x (m.bind P.truth)):= .iff (yU x) λq=>(he x).m1 λh fd F=>zF q (h fd F).s
noncomputable def Ev.bo{d:Dn}(he:∀x,Ok (Al se λfd=>wd cx n fd x d.e))(hb:∀x,Ok (Al se λfd=>gz cx n fd x d.b)):Ev cx n se d where
 e:=he
 b:=hb
 o:=GE he
noncomputable def Ev.ex{m:P MV}(he:∀x,Ok (Al se λfd=>wd cx n fd x m)):Ev cx n se (Dn.ex m):= .bo he (Cq he)
noncomputable def Ev.ext{m:P MV}{mt:MV->P Unit}(he:∀x,Ok (Al se λfd=>wd cx n fd x m))(ht:∀x,Ok (Al se λfd=>ew cx n fd x mt)):Ev cx n se { e:=m,b:=m.bind P.truth,t:=mt } where
 e:=he
 b:=Cq he
 o:=GE he
 t:=ht
noncomputable def Ev.st{m:P MF}(h:∀x,Ok (Al se λfd=>gf cx n fd x m)):Ev cx n se (Dn.st m) where
 s:=h
theorem wx{x:Expr}{r:List Expr}(p:cj x=true)(q:r.all cj=true):(x::r).all cj=true:=by rw[List.all_cons,p,q];rfl
structure GN(x:String)(z:Str)(fd:Fd):Prop where
 eq : z=Str.ofString x
 k : fd.env.kindOf z=some .globalImplicit
 d : (z==("__debug__" : Str))=false
noncomputable def vz(se:SE)(x:String)(z:Str):Ok (Al se (GN x z)):= .eq z (Str.ofString x) λq=> .iff (se.is z .globalImplicit) λk=> .iff (!(z==("__debug__" : Str))) λd=> .yes λ_ F=>⟨q,hJ F k,nb d⟩
structure NV(cx:Cx)(n:Nat)(f:Value)(z:Str)(fd:Fd):Prop where
 is : ∀p,fk cx n fd (.Name z p) f
 k : jW cx f
theorem LI{T:Tab}{V:Nt}(O:fY cx T V){x:String}{f:Value}{z:Str}(h:V.gv x=some f)(F:ny se fd)(g:GN x z fd):NV cx n f z fd:=by
 obtain⟨rfl,k,d⟩:=g
 exact⟨λp A ρ σ loc s Q E G hq=>sJ G F.hk k F.gl d (O.gv _ _ h).1 hq,(O.gv _ _ h).2⟩
theorem L0{T:Tab}{V:Nt}(O:fY cx T V){x:String}{f:Value}{z:Str}(h:V.bv x=some f)(F:ny se fd)(g:GN x z fd):NV cx n f z fd:=by
 obtain⟨rfl,k,d⟩:=g
 have o:=O.bv _ _ h
 exact⟨λp A ρ σ loc s Q E G hq=>xE G F.hk k F.gl F.bi d o.1 o.2.1 o.2.2.1 hq,o.2.2.2⟩
noncomputable def jV{T:Tab}{V:Nt}(O:fY cx T V)(se:SE)(x:String)(f:Value)(z:Str):Ok (Al se (NV cx n f z)):=
 .or (.iff (V.gv x==some f) λh=>(vz se x z).m1 λg fd F=>LI O (eq_of_beq h) F (g fd F)) (.iff (V.bv x==some f) λh=>(vz se x z).m1 λg fd F=>L0 O (eq_of_beq h) F (g fd F))
noncomputable def yL(c:Const)(v:MV):Prop:=kE c=some v∨∃y : String,c= .str (Str.ofString y)/\v= .str y
noncomputable def zc : (c:Const)->(v:MV)->Ok (yL c v)
 | .none, .none=> .yes (.inl rfl)
 | .bool a, .bool b=> .eq a b λh=> .yes (h▸ .inl rfl)
 | .int a, .int b=> .eq a b λh=> .yes (h▸ .inl rfl)
 | .bytes a, .bytes b=> .eq a b λh=> .yes (h▸ .inl rfl)
 | .str a, .str b=> .eq a (Str.ofString b) λh=> .yes (h▸ .inr ⟨_,rfl,rfl⟩)
 |_,_=> .no
theorem Gk{c:Const}{v:MV}{k:Nat}{p:Pos}(h:yL c v):bO cx n fd (.Constant c k p) (P.ret v):=by
 rcases h with h | ⟨y,rfl,rfl⟩
 ·exact Ai h
 ·exact yu
noncomputable def Cc : (keys:List (Option Expr))->(ks:List String)->Ok (kL BV keys ks)
 | [],[]=> .yes .nil
 |some (.Constant (.str s) kk p)::r,k::ks=> .eq s (Str.ofString k) λe=>(Cc r ks).m1 λh=> .cons ⟨kk,p,e▸rfl⟩ h
 |_,_=> .no
noncomputable def Dx : (o:Expr)->Ok (∀ (x:Str)(env:Env)(w:Sem Value),attributeBase o x env w=w)
 | .Name .. | .Attribute .. | .Subscript .. | .Call (.Attribute ..) .. | .Call (.Name ..) (_::_) ..=> .yes λ_ _ _=>rfl
 |_=> .no
noncomputable def zr{T:Tab}{V:Nt}(O:fY cx T V)(se:SE):(hs':List ExceptHandler)->(hs:List (String×Addr×MV))->Ok (Al se λfd=>kL (qE cx fd) hs' (hs.map (·.2)))
 | [],[]=> .yes λ_ _=> .nil
 | .ExceptHandler (some (.Name y _)) none [.Return (some (.Constant cc _ _)) _] _::r,(x,D,v)::rs=> .iff (V.gv x==some (.ref D)) λh=>
  .m3 (λ(g:Al se (GN x y)) k t fd F=> .cons (.mk (g fd F).k (g fd F).d ((g fd F).eq▸(O.gv _ _ (eq_of_beq h)).1) k) (t fd F)) (vz se x y) (zc cc v) (zr O se r rs)
 |_,_=> .no
noncomputable def qU(cmap:List (Option Nat))(i:Nat):Bool:=match cmap[i]? with
 |some (some _)=>true
 |_=>false
noncomputable def Ic(se:SE)(scope:Scope)(cn:List Str)(cmap:List (Option Nat))(i:Nat):Bool:=match cn[i]?,cmap[i]? with
 |some x,some (some j)=>se.names[j]?==some x&&scope.names.contains (x, .free)&&(se.is x .cell||se.is x .free)
 |_,_=>true
theorem GM{a b:Bool}{p:Prop}(h:(!a||b)=true)(ha:a=true)(f:b=true->p):p:=f (by replace h:=ha▸h;exact h)
theorem Gy(F:ny se fd){scope:Scope}{cn:List Str}{C:Addr}(hk:scope.kind= .function)(nd:cn.Nodup):ny (mj se scope cn) (fd.comp scope cn C):=by
 refine⟨rfl,λx=> ?_,hk,nd,F.gl,F.bi,λx h=>(nomatch h),λh=>(nomatch h)⟩
 show (scope.names.map λ(n,k)=>if (k==NameKind.free&&fd.env.scope.kind== .function&&fd.env.kindOf n==some .cell)=true then (n,NameKind.cell) else (n,k)).lookup x=(scope.names.map _).lookup x
 congr 1
 refine List.map_congr_left λp _=> ?_
 dsimp only
 rw[F.hk,F.kind,beq_self_eq_true,Bool.and_true]
 rfl
theorem Ay(F:ny se fd){scope:Scope}{cn:List Str}{cmap:List (Option Nat)}(h1:scope.kind= .function)(h2:scope.names.all (λx=> !(x.2== .cell))=true)(h3:scope.names.all (λx=> !(x.2== .local)||scope.names.lookup x.1==some .local)=true)
  (h4:(scope.names.map (·.1)).Nodup)(h6:scope.names.all (λx=> !(x.2== .free)||(List.range cn.length).any λi=>cn[i]?==some x.1&&qU cmap i)=true)(h7:(List.range cn.length).all (Ic se scope cn cmap)=true):i5 fd scope cn cmap:=by
 refine⟨h1,λx hx e=> ?_,λx hx e=> ?_,h4,λx hx e=> ?_,λi j x hi hj=> ?_⟩
 ·have:=List.all_eq_true.mp h2 x hx;replace this:=e▸this;cases this
 ·exact GM (List.all_eq_true.mp h3 x hx) (by refine ae e▸ ?_;rfl) eq_of_beq
 ·refine GM (List.all_eq_true.mp h6 x hx) (by refine ae e▸ ?_;rfl) λq=> ?_
  refine aT (List.any_eq_true.mp q) λi _ q=> ?_
  have q2:=(an.mp q).2
  unfold qU at q2
  split at q2
  ·rename_i j q3;exact⟨i,j,eq_of_beq (an.mp q).1,q3⟩
  ·exact nomatch q2
 ·have:=List.all_eq_true.mp h7 i (List.mem_range.mpr (bh.mp hi).1)
  unfold Ic at this
  rw[hi,hj] at this
  have this:=an.mp this
  exact⟨F.names▸eq_of_beq (an.mp this.1).1,bX.mp (an.mp this.1).2,(dp.mp this.2).imp (hJ F) (hJ F)⟩
theorem JM(F:ny se fd):fd.env.scope.kind≠ .module:=by refine ae F.hk▸ ?_;intro h;cases h
theorem E2{e:Expr}{n':Str}{p:Pos}{l:Nat}{env:Env}:∃b,swapsWith e (some (.Name n' p)) l env=pure b:=by cases e<;>exact⟨_,rfl⟩
theorem CZ{z:Str}{pz pos:Pos}{e:Expr}{m:P MV}{mt:MV->P Unit}(h:wd cx n fd e m)(ht:ew cx n fd (.Name z pz) mt):gf cx n fd (.Assign [.Name z pz] e pos) (m.bind λv=>(mt v).bind λ_=>P.ret MF.next):=by
 cases hc : kI e with
 |false=>exact fm rfl (jD hc) rfl h.s ht
 |true=>
  refine cN (E2 (e:=e) (n':=z) (p:=pz) (l:=pos.line) (env:=fd.env)) λb hb=> ?_
  cases b with
  |false=>exact fm rfl hb rfl h.s ht
  |true=>exact h.a hc _ _ _ _ hb ht
noncomputable def BI(se:SE):Expr->Bool
 | .Name id _=> !se.is id .local
 |_=>true
theorem w8(F:ny se fd){ts:List Expr}(h:ts.any (BI se)=true):ts.all (EC fd.env)=false:=by
 refine List.all_eq_false.mpr (let ⟨x,hx,hn⟩:=List.any_eq_true.mp h;⟨x,hx,λq=> ?_⟩)
 unfold EC at q
 split at q
 ·rename_i id p
  replace q:=(F.kind ..)▸q
  exact aE ((nb hn).symm.trans q)
 ·cases q
end
end
noncomputable section
variable {cx:Cx}{n:Nat}{T:Tab}{V:Nt}{call:Value->List MV->P MV}{se:SE}{a b c d e es o t i lo hi:IR}
theorem yB(m:P Bool):P.cond m (P.ret true) (P.ret false)=m:=by
 funext loc σ Q X
 show m loc σ (λc l s=>bif c then Q true l s else Q false l s) X=_
 congr 1;funext c l s;cases c<;>rfl
theorem sW{fd:Fd}{op:BoolOp}{y:Expr}{p:Pos}{m:P Bool}(h:gz cx n fd y m):gz cx n fd (.BoolOp op [y] p) m:=by
 cases op
 ·exact yB m▸qD h (uF (pos:=p))
 ·exact yB m▸ur h (vR (pos:=p))
noncomputable abbrev c6(cx:Cx)(n:Nat)(T:Tab)(call:Value->List MV->P MV)(se:SE)(a:IR):=Ev cx n se (den T call a)
noncomputable def IM : c6 cx n T call se .fail where
 e:=λ_=> .yes λ_ _=>⟨λ_ _ _ _ _ _ _ _ _ hm=>hm.elim,λ_ _ _ _ _ _ _ _ _ _ _ _ _ _ _ _ hm=>hm.elim⟩
 b:=λ_=> .yes λ_ _ _ _ _ _ _ _ _ _ _ hm=>hm.elim
 it:=λ_=> .yes λ_ _ _ _ _ _ _ _ _ _ hm=>hm.elim
 t:=λ_=> .yes λ_ _ _ _ _ _ _ _ _ _ _ _ _ hm=>hm.elim
 s:=λ_=> .yes λ_ _ _ _ _ _ _ _ _ _ _ hm=>hm.elim
 ss:=λ_=> .yes λ_ _ _ _ _ _ _ _ _ _ _ hm=>hm.elim
 o:=λ_=> .yes λ_ _ _ _ _ _ _ _ _ _ _ hm=>hm.elim
noncomputable def JS : c6 cx n T call se .nil where
 ss:=λ | []=> .yes λ_ _=>q7 | _=> .no
 es:=λ | []=> .yes λ_ _=>⟨.nil,rfl⟩ | _=> .no
 ts:=λ | []=> .yes λ_ _=>⟨AC,rfl,rfl⟩ | _=> .no
 o:=λ | none=> .yes λ_ _=>AB | _=> .no
 c:=λ | []=> .yes λ_ _=>xi | _=> .no
noncomputable def I8(A:c6 cx n T call se a)(B:c6 cx n T call se b):c6 cx n T call se (.cons a b) where
 ss:=λ | x::r=> .m2 (λh g fd F=>zC (h fd F) (g fd F)) (A.s x) (B.ss r) | _=> .no
 es:=λ | x::r=> .iff (cj x) λp=> .m2 (λh g fd F=>⟨.cons (h fd F).s (g fd F).1,wx p (g fd F).2⟩) (A.e x) (B.es r) | _=> .no
 ts:=λ | x::r=> .iff (cj x) λp=> .m2 (λh g fd F=>⟨xg p (h fd F) (g fd F).1,wx p (g fd F).2.1,ah Nat.succ (g fd F).2.2⟩) (A.t x) (B.ts r) | _=> .no
 c:=λ | [x]=>(A.b x).m1 λh fd F=>xP (h fd F) | _=> .no
structure EH(P:Expr->Prop):Type where
 name : ∀a b,Ok (P (.Name a b)):=λ_ _=> .no
 bin : ∀a b c d,Ok (P (.BinOp a b c d)):=λ_ _ _ _=> .no
 cmp : ∀a b c d,Ok (P (.Compare a b c d)):=λ_ _ _ _=> .no
 ite : ∀a b c d,Ok (P (.IfExp a b c d)):=λ_ _ _ _=> .no
 un : ∀a b c,Ok (P (.UnaryOp a b c)):=λ_ _ _=> .no
 bo : ∀a b c,Ok (P (.BoolOp a b c)):=λ_ _ _=> .no
 am : ∀a b c,Ok (P (.Attribute a b c)):=λ_ _ _=> .no
 sub : ∀a b c,Ok (P (.Subscript a b c)):=λ_ _ _=> .no
 slice : ∀a b c d,Ok (P (.Slice a b c d)):=λ_ _ _ _=> .no
 list : ∀a b,Ok (P (.List a b)):=λ_ _=> .no
 tup : ∀a b c,Ok (P (.Tuple a b c)):=λ_ _ _=> .no
 dict : ∀a b c,Ok (P (.Dict a b c)):=λ_ _ _=> .no
 comp : ∀a b c d,Ok (P (.ListComp a b c d)):=λ_ _ _ _=> .no
 call : ∀a b c d,Ok (P (.Call a b c d)):=λ_ _ _ _=> .no
 ag : ∀a b c,Ok (P (.Constant a b c)):=λ_ _ _=> .no
noncomputable def EH.run{P:Expr->Prop}(h:EH P):∀e,Ok (P e)
 | .Name a b=>h.name a b
 | .BinOp a b c d=>h.bin a b c d
 | .Compare a b c d=>h.cmp a b c d
 | .IfExp a b c d=>h.ite a b c d
 | .UnaryOp a b c=>h.un a b c
 | .BoolOp a b c=>h.bo a b c
 | .Attribute a b c=>h.am a b c
 | .Subscript a b c=>h.sub a b c
 | .Slice a b c d=>h.slice a b c d
 | .List a b=>h.list a b
 | .Tuple a b c=>h.tup a b c
 | .Dict a b c=>h.dict a b c
 | .ListComp a b c d=>h.comp a b c d
 | .Call a b c d=>h.call a b c d
 | .Constant a b c=>h.ag a b c
 |_=> .no
structure SH(P:Stmt->Prop):Type where
 ex : ∀a b,Ok (P (.Expr a b)):=λ_ _=> .no
 asg : ∀a b c,Ok (P (.Assign [a] b c)):=λ_ _ _=> .no
 aug : ∀a b c d,Ok (P (.AugAssign a b c d)):=λ_ _ _ _=> .no
 del : ∀a b,Ok (P (.Delete [a] b)):=λ_ _=> .no
 dH : ∀a b c d,Ok (P (.If a b c d)):=λ_ _ _ _=> .no
 gS : ∀a b c,Ok (P (.While a b [] c)):=λ_ _ _=> .no
 fR : ∀a b c d,Ok (P (.For a b c [] d)):=λ_ _ _ _=> .no
 ret : ∀a b,Ok (P (.Return a b)):=λ_ _=> .no
 pass : ∀a,Ok (P (.Pass a)):=λ_=> .no
 brk : ∀a,Ok (P (.Break a)):=λ_=> .no
 MX : ∀a b,Ok (P (.Raise (some a) none b)):=λ_ _=> .no
 MY : ∀a b c,Ok (P (.Try a b [] [] c)):=λ_ _ _=> .no
noncomputable def SH.run{P:Stmt->Prop}(h:SH P):∀e,Ok (P e)
 | .Expr a b=>h.ex a b
 | .Assign [a] b c=>h.asg a b c
 | .AugAssign a b c d=>h.aug a b c d
 | .Delete [a] b=>h.del a b
 | .If a b c d=>h.dH a b c d
 | .While a b [] c=>h.gS a b c
 | .For a b c [] d=>h.fR a b c d
 | .Return a b=>h.ret a b
 | .Pass a=>h.pass a
 | .Break a=>h.brk a
 | .Raise (some a) none b=>h.MX a b
 | .Try a b [] [] c=>h.MY a b c
 |_=> .no
section
variable {P:Expr->Prop}
noncomputable def nB(h:∀a b,Ok (P (.Name a b))):∀e,Ok (P e):=EH.run { name:=h }
noncomputable def H8(h:∀a b c d,Ok (P (.BinOp a b c d))):∀e,Ok (P e):=EH.run { bin:=h }
noncomputable def DL(h:∀a b c d,Ok (P (.Compare a b c d))):∀e,Ok (P e):=EH.run { cmp:=h }
noncomputable def HS(h:∀a b c d,Ok (P (.IfExp a b c d))):∀e,Ok (P e):=EH.run { ite:=h }
noncomputable def Kz(h:∀a b c,Ok (P (.UnaryOp a b c))):∀e,Ok (P e):=EH.run { un:=h }
noncomputable def Kb(h:∀a b c,Ok (P (.BoolOp a b c))):∀e,Ok (P e):=EH.run { bo:=h }
noncomputable def pV(h:∀a b c,Ok (P (.Attribute a b c))):∀e,Ok (P e):=EH.run { am:=h }
noncomputable def ux(h:∀a b c,Ok (P (.Subscript a b c))):∀e,Ok (P e):=EH.run { sub:=h }
noncomputable def Cg(h:∀a b c d,Ok (P (.Slice a b c d))):∀e,Ok (P e):=EH.run { slice:=h }
noncomputable def FV(h:∀a b,Ok (P (.List a b))):∀e,Ok (P e):=EH.run { list:=h }
noncomputable def DF(h:∀a b c,Ok (P (.Tuple a b c))):∀e,Ok (P e):=EH.run { tup:=h }
noncomputable def yW(h:∀a b c,Ok (P (.Dict a b c))):∀e,Ok (P e):=EH.run { dict:=h }
noncomputable def FC(h:∀a b c d,Ok (P (.ListComp a b c d))):∀e,Ok (P e):=EH.run { comp:=h }
noncomputable def yg(h:∀a b c d,Ok (P (.Call a b c d))):∀e,Ok (P e):=EH.run { call:=h }
noncomputable def wj(h:∀a b c,Ok (P (.Constant a b c))):∀e,Ok (P e):=EH.run { ag:=h }
noncomputable def nN(h:∀z q b d,Ok (P (.Call (.Name z q) b [] d))):∀e,Ok (P e):=yg λa b c d=>match c with
 | []=>nB (P:=λa=>P (.Call a b [] d)) (λz q=>h z q b d) a
 |_=> .no
noncomputable def gb(h:∀z q x d,Ok (P (.Call (.Name z q) [x] [] d))):∀e,Ok (P e):=nN λz q b d=>match b with
 | [x]=>h z q x d
 |_=> .no
noncomputable def yf(h:∀l o r d,Ok (P (.Compare l [o] [r] d))):∀e,Ok (P e):=DL λa b c d=>match b,c with
 | [o],[r]=>h a o r d
 |_,_=> .no
noncomputable def y8(h:∀l o p r q d,Ok (P (.Compare l [o,p] [r,q] d))):∀e,Ok (P e):=DL λa b c d=>match b,c with
 | [o,p],[r,q]=>h a o p r q d
 |_,_=> .no
noncomputable def DD(h:∀x d,Ok (P (.UnaryOp .Not x d))):∀e,Ok (P e):=Kz λa b c=>match a with
 | .Not=>h b c
 |_=> .no
noncomputable def G8(h:∀o l u q d,Ok (P (.Subscript o (.Slice l u none q) d))):∀e,Ok (P e):=ux λa b c=>Cg (P:=λb=>P (.Subscript a b c)) (λl u s q=>match s with
 |none=>h a l u q c
 |_=> .no) b
noncomputable def pP(op:BoolOp)(h2:∀x y p,Ok (P (.BoolOp op [x,y] p)))(h3:∀x y z r p,Ok (P (.BoolOp op (x::y::z::r) p))):∀e,Ok (P e):=Kb λa b c=> .eq op a λq=>Eq.rec (motive:=λx _=>Ok (P (.BoolOp x b c))) (match b with
 | [x,y]=>h2 x y c
 |x::y::z::r=>h3 x y z r c
 |_=> .no) q
end
noncomputable def Ew{v:MV}:c6 cx n T call se (.ag v):= .ex (wj λc _ _=>(zc c v).m1 λh _ _=> .pl rfl (Gk h))
theorem F9{i:Nat}{x:Str}{p:Pos}{fd:Fd}(F:ny se fd)(h1:se.names[i]?=some x)(h2:(!(x==("__debug__" : Str)))=true) (h3:(!(x==("__classdict__" : Str)))=true) (k:(se.is x .local||(se.is x .cell||se.is x .free))=true):wd cx n fd (.Name x p) (P.aa i):=
 .pl rfl (B3 (F.names▸h1) F.hk ((dp.mp k).imp (hJ F) λk=>(dp.mp k).imp (hJ F) (hJ F)) (nb h2) (nb h3))
noncomputable def IS{i:Nat}:c6 cx n T call se (.aa i):= .ext
 (nB λx _=> .eq (se.names[i]?) (some x) λh1=> .iff (!(x==("__debug__" : Str))) λh2=> .iff (!(x==("__classdict__" : Str))) λh3=> .iff (se.is x .local||(se.is x .cell||se.is x .free)) λk=> .yes λ_ F=>F9 F h1 h2 h3 k)
 (nB λx _=> .eq (se.names[i]?) (some x) λh1=> .or
    (.iff (se.is x .local) λk=> .yes λfd F=>vY F.hk F.nd (F.names▸h1) (hJ F k))
    (.iff se.fn λh2=> .iff (se.is x .cell) λk=> .iff (se.cells.contains x) λh4=> .yes λfd F=>xC (F.F h2) (F.names▸h1) (.inr ⟨hJ F k,F.cells _ (bX.mp h4)⟩)))
theorem Fl(O:fY cx T V){x:String}{v:MV}{z:Str}{p:Pos}{fd:Fd}(h:V.Jf x v=true)(F:ny se fd)(g:GN x z fd):wd cx n fd (.Name z p) (P.ret v):=by
 refine aT (O.Jf _ _ h) λu e hc=> ?_
 exact .pl rfl (CP hc F.hk g.k F.gl g.d (g.eq▸e))
noncomputable def IG(O:fY cx T V){x:String}{v:MV}:c6 cx n T call se (.glob x v):= .ex (nB λz _=> .iff (V.Jf x v) λh=>(vz se x z).m1 λg fd F=>Fl O h F (g fd F))
noncomputable def JE{op:Operator}(A:c6 cx n T call se a)(B:c6 cx n T call se b):c6 cx n T call se (.bin op a b):= .ex (H8 λl o r _=> .eq o op λq=> .m2 (λh g fd F=> .pl rfl (q▸AR (h fd F).s (g fd F).s)) (A.e l) (B.e r))
noncomputable def KH{op:CmpOp}(A:c6 cx n T call se a)(B:c6 cx n T call se b):c6 cx n T call se (.cmp op a b):= .bo
 (yf λl o r _=> .iff (!lastMarks [o] [r]) λk=> .eq o op λq=> .m2 (λh g fd F=> .pl rfl (q▸uD (h fd F).s (g fd F).s (nb k))) (A.e l) (B.e r))
 (yf λl o r _=> .iff (!lastMarks [o] [r]) λk=> .eq o op λq=> .m2 (λh g fd F=>q▸si (h fd F).s (g fd F).s (nb k)) (A.e l) (B.e r))
noncomputable def HC{o1 o2:CmpOp}(A:c6 cx n T call se a)(B:c6 cx n T call se b)(C:c6 cx n T call se c):c6 cx n T call se (.ky o1 o2 a b c):= .bo
 (y8 λl p q r r' _=> .iff (!lastMarks [p,q] [r,r']) λk=> .eq p o1 λe1=> .eq q o2 λe2=> .m3 (λh g w fd F=> .pl rfl (e1▸e2▸ug (h fd F).s (g fd F).s (w fd F).s (nb k))) (A.e l) (B.e r) (C.e r'))
 (y8 λl p q r r' _=> .iff (!lastMarks [p,q] [r,r']) λk=> .eq p o1 λe1=> .eq q o2 λe2=> .m3 (λh g w fd F=>e1▸e2▸rI (h fd F).s (g fd F).s (w fd F).s (nb k)) (A.e l) (B.e r) (C.e r'))
noncomputable def J5(t':c6 cx n T call se t)(A:c6 cx n T call se a)(B:c6 cx n T call se b):c6 cx n T call se (.ite t a b):= .bo
 (HS λx y z _=> .m3 (λh g w fd F=> .pl rfl (Ae (h fd F) (g fd F).s (w fd F).s)) (t'.b x) (A.e y) (B.e z)) λ_=> .no
noncomputable def J3(A:c6 cx n T call se a):c6 cx n T call se (.not a):= .bo
 (DD λx _=>(A.e x).m1 λh fd F=> .pl rfl (Gx (h fd F).s)) (DD λx _=>(A.b x).m1 λh fd F=>Dg (h fd F))
noncomputable def Ky(A:c6 cx n T call se a)(B:c6 cx n T call se b):c6 cx n T call se (.and a b):= .bo
 (pP .And (λx y _=> .m2 (λh g fd F=> .pl rfl (yp (h fd F).s (pn (g fd F).s))) (A.e x) (B.e y)) λx y z r p=> .m2 (λh g fd F=> .pl rfl (yp (h fd F).s (g fd F).s)) (A.e x) (B.e (.BoolOp .And (y::z::r) p)))
 (pP .And (λx y _=> .m2 (λh g fd F=>qD (h fd F) (sW (g fd F))) (A.b x) (B.b y)) λx y z r p=> .m2 (λh g fd F=>qD (h fd F) (g fd F)) (A.b x) (B.b (.BoolOp .And (y::z::r) p)))
noncomputable def Mi(A:c6 cx n T call se a)(B:c6 cx n T call se b):c6 cx n T call se (.or a b):= .bo
 (pP .Or (λx y _=> .m2 (λh g fd F=> .pl rfl (B5 (h fd F).s (pn (g fd F).s))) (A.e x) (B.e y)) λx y z r p=> .m2 (λh g fd F=> .pl rfl (B5 (h fd F).s (g fd F).s)) (A.e x) (B.e (.BoolOp .Or (y::z::r) p)))
 (pP .Or (λx y _=> .m2 (λh g fd F=>ur (h fd F) (sW (g fd F))) (A.b x) (B.b y)) λx y z r p=> .m2 (λh g fd F=>ur (h fd F) (g fd F)) (A.b x) (B.b (.BoolOp .Or (y::z::r) p)))
noncomputable def Ie(O:fY cx T V){x:String}(A:c6 cx n T call se a):c6 cx n T call se (.am a x):= .ext
 (pV λo y _=> .eq y (Str.ofString x) λq=> .m2 (λg h fd F=> .pl rfl (q▸sm O.tb.am (g fd F).s (h _ _ _))) (A.e o) (Dx o))
 (pV λo y _=> .eq y (Str.ofString x) λq=>(A.e o).m1 λg fd F=>q▸xt O.tb.am (g fd F).s)
noncomputable def IJ(A:c6 cx n T call se a)(B:c6 cx n T call se b):c6 cx n T call se (.item a b):= .ext
 (ux λo i _=> .m2 (λh g fd F=> .pl rfl (sG (h fd F).s (g fd F).s)) (A.e o) (B.e i))
 (ux λo i _=> .iff (!DU i) λk=> .m2 (λh g fd F=>w2 (λp q r z=>aE ((nb k).symm.trans (z▸rfl))) (h fd F).s (g fd F).s) (A.e o) (B.e i))
noncomputable def F5(A:c6 cx n T call se a)(L:c6 cx n T call se lo)(H:c6 cx n T call se hi):c6 cx n T call se (.slice a lo hi):= .ext
 (G8 λo l h _ _=> .m3 (λh g w fd F=> .pl rfl (zS (h fd F).s (g fd F) (w fd F))) (A.e o) (L.o l) (H.o h))
 (G8 λo l h _ _=> .m3 (λh g w fd F=>vS (h fd F).s (g fd F) (w fd F)) (A.e o) (L.o l) (H.o h))
noncomputable def Iy(E:c6 cx n T call se es):c6 cx n T call se (.list es):= .ex (FV λxs _=>(E.es xs).m1 λh fd F=> .pl rfl (BC (iK (h fd F).2 (h fd F).1)))
theorem F8{xs:List Expr}{k:Nat}{p:Pos}{fd:Fd}{m:List MV->P Unit}{tn:Nat}(h:te cx n fd xs m/\xs.all cj=true/\xs.length=tn):ew cx n fd (.Tuple xs k p) (P.zx tn m):=h.2.2▸vO h.2.1 h.1
noncomputable def KD(E:c6 cx n T call se es):c6 cx n T call se (.tup es):= .ext
 (DF λxs _ _=>(E.es xs).m1 λh fd F=> .pl rfl (Ab (iK (h fd F).2 (h fd F).1)))
 (DF λxs _ _=>(E.ts xs).m1 λh fd F=>F8 (h fd F))
noncomputable def Fu : c6 cx n T call se .iU:= .ex (yW λa b _=>match a,b with
 | [],[]=> .yes λ_ _=> .pl rfl zL
 |_,_=> .no)
noncomputable def E5{ks:List String}(E:c6 cx n T call se es):c6 cx n T call se (.dD ks es):= .ex (yW λkeys xs _=> .eq ks.length xs.length λc2=> .iff (decide (0 < ks.length)) λc3=> .iff (decide (ks.length<=15)) λc4=> .m2 (λh c1 fd F=> .pl rfl (zV c1 c2 (aF c3) (aF c4) (h fd F).1)) (E.es xs) (Cc keys ks))
theorem Fm{fd:Fd}{scope:Scope}{cn:List Str}{cmap:List (Option Nat)}{elt target iter:Expr}{fs:List Expr}{p:Pos}{tt:Bool}{mi:P It}{mt:MV->P Unit}{mf:P Bool}{me:P MV}(F:ny se fd)(K:i5 fd scope cn cmap)(nd:cn.Nodup)(q:c5 target=tt)
  (h1:qP cx n fd iter mi)(h2:Al (mj se scope cn) λfd=>ew cx n fd target mt)(h3:Al (mj se scope cn) λfd=>ig cx n fd fs mf)(h4:Al (mj se scope cn) λfd=>wd cx n fd elt me) :
  wd cx n fd (.ListComp elt [⟨target,iter,fs,0⟩] scope p) (P.comp cmap tt mi mt mf me):=by
 subst q
 have D:=λC=>Gy (C:=C) F K.hk nd
 exact⟨uo K (JM F) h1 (λC=>h2 _ (D C)) (λC=>h3 _ (D C)) λC=>(h4 _ (D C)).s,λ_ y py sp mt' hsw hmt=>pK K (JM F) hsw h1 (λC=>h2 _ (D C)) (λC=>h3 _ (D C)) (λC=>(h4 _ (D C)).s) hmt⟩
noncomputable def HY{cn:List Str}{cmap:List (Option Nat)}{tt:Bool}{tg ifs el:IR}(I:c6 cx n T call se i)(G:∀se,c6 cx n T call se tg)(U:∀se,c6 cx n T call se ifs)(L:∀se,c6 cx n T call se el):c6 cx n T call se (.comp cn cmap tt i tg ifs el):= .ex (FC λelt gs scope _=>match gs with
 | [⟨target,iter,fs,0⟩]=> .eq scope.kind .function λh1=> .iff (scope.names.all λx=> !(x.2== .cell)) λh2=> .iff (scope.names.all λx=> !(x.2== .local)||scope.names.lookup x.1==some .local) λh3=>
  .iff (decide (scope.names.map (·.1)).Nodup) λh4=> .iff (decide cn.Nodup) λh5=> .iff (scope.names.all λx=> !(x.2== .free)||(List.range cn.length).any λi=>cn[i]?==some x.1&&qU cmap i) λh6=> .iff ((List.range cn.length).all (Ic se scope cn cmap)) λh7=>
  .eq (c5 target) tt λq=> .m2 (λh g fd F=>Fm F (Ay F h1 h2 h3 (aF h4) h6 h7) (aF h5) q (h fd F) g.1 g.2.1 g.2.2) (I.it iter) (.m3 (λx y z=>And.intro x (And.intro y z)) ((G (mj se scope cn)).t target) ((U (mj se scope cn)).c fs) ((L (mj se scope cn)).e elt))
 |_=> .no)
noncomputable def IZ(O:fY cx T V)(hc:∀fd f,cQ cx n fd f (call f)){x:String}{f:Value}(E:c6 cx n T call se es):c6 cx n T call se (.call x f es):= .ex (nN λz _ args _=> .m2 (λh g fd F=> .pl rfl (u7 ((h fd F).is _) (h fd F).k (g fd F).2 (iK (g fd F).2 (g fd F).1) (hc fd f))) (jV (n:=n) O se x f z) (E.es args))
noncomputable def II(O:fY cx T V)(hc:∀fd f,cQ cx n fd f (call f)){x:String}(A:c6 cx n T call se o)(E:c6 cx n T call se es):c6 cx n T call se (.aO o x es):= .ex (yg λf args kw q=>match kw with
 | []=>pV (P:=λf=>Al se λfd=>wd cx n fd (.Call f args [] q) _) (λo' y p=> .eq y (Str.ofString x) λe=> .iff (p.endLine==q.line) λc2=> .iff (decide (args.length < 30)) λc3=> .m3 (λk h g fd F=> .pl rfl (e▸uH O.tb (h fd F).s (k _ _ _) c2 (aF c3) (g fd F).2 (λ_=>iK (g fd F).2 (g fd F).1) (hc fd))) (Dx o') (A.e o') (E.es args)) f
 |_=> .no)
noncomputable def Dm(O:fY cx T V){t:String}(A:c6 cx n T call se a):c6 cx n T call se (.iq t a):= .ex (nN λz _ args q=>match args with
 | [x,y]=>nB (P:=λy=>Al se λfd=>wd cx n fd (.Call (.Name z _) [x,y] [] q) _) (λy _=> .iff (cj x) λc=> .m3 (λh k g fd F=> .pl rfl (xf ((h fd F).is _) ((k fd F).is _) c (g fd F).s)) (jV (n:=n) O se "isinstance" (.builtin "isinstance") z) (jV (n:=n) O se t (.type t) y) (A.e x)) y
 |_=> .no)
noncomputable def C0(O:fY cx T V)(A:c6 cx n T call se a):c6 cx n T call se (.mx a):= .ex (gb λz _ w q=>gb (P:=λw=>Al se λfd=>wd cx n fd (.Call (.Name z _) [w] [] q) _) (λy _ x _=> .iff (cj x) λc=> .m3 (λh k g fd F=> .pl rfl (xk ((h fd F).is _) ((k fd F).is _) c (g fd F).s)) (jV (n:=n) O se "len" (.builtin "len") z) (jV (n:=n) O se "set" (.type "set") y) (A.e x)) w)
noncomputable def Gs(O:fY cx T V)(A:c6 cx n T call se a):c6 cx n T call se (.pt a):= .ex (gb λz _ x _=> .iff (cj x) λc=> .m2 (λh g fd F=> .pl rfl (zG ((h fd F).is _) c (g fd F).s)) (jV (n:=n) O se "dict" (.type "dict") z) (A.e x))
noncomputable def Du(O:fY cx T V)(A:c6 cx n T call se a):c6 cx n T call se (.mz a):= .ex (gb λz _ w q=>gb (P:=λw=>Al se λfd=>wd cx n fd (.Call (.Name z _) [w] [] q) _) (λy _ x _=> .iff (cj x) λc=> .m3 (λh k g fd F=> .pl rfl (xw ((h fd F).is _) ((k fd F).is _) c (g fd F).s)) (jV (n:=n) O se "list" (.type "list") z) (jV (n:=n) O se "range" (.type "range") y) (A.e x)) w)
noncomputable def IA(A:c6 cx n T call se a):c6 cx n T call se (.iter a) where
 it:=λx=> .iff (!xV x) λc=>(A.e x).m1 λh fd F=>Ah (nb c) (h fd F).s
noncomputable def Fy(O:fY cx T V)(E:c6 cx n T call se es):c6 cx n T call se (.range es) where
 it:=nN λz _ args _=> .m2 (λh g fd F=>wS ((h fd F).is _) (g fd F).2 (iK (g fd F).2 (g fd F).1)) (jV (n:=n) O se "range" (.type "range") z) (E.es args)
noncomputable def HE(O:fY cx T V)(A:c6 cx n T call se a):c6 cx n T call se (.enum a) where
 it:=gb λz _ x _=> .iff (cj x) λc=> .m2 (λh g fd F=>zR ((h fd F).is _) c (g fd F).s) (jV (n:=n) O se "enumerate" (.type "enumerate") z) (A.e x)
noncomputable def J1(O:fY cx T V)(A:c6 cx n T call se a):c6 cx n T call se (.rev a) where
 it:=gb λz _ x _=> .iff (cj x) λc=> .m2 (λh g fd F=>BQ ((h fd F).is _) c (g fd F).s) (jV (n:=n) O se "reversed" (.type "reversed") z) (A.e x)
noncomputable def IV(A:c6 cx n T call se a):c6 cx n T call se (.expr a):= .st (SH.run { ex:=λx _=> .iff se.fn λf=> .iff (!kI x) λc=>(A.e x).m1 λh fd F=>zD (F.F f) (nb c) (h fd F).s })
theorem E9{e o:Expr}{y:Str}{p:Pos}{l:Nat}{env:Env}:swapsWith e (some (.Attribute o y p)) l env=pure false:=by cases e<;>rfl
theorem FP{e o i:Expr}{p:Pos}{l:Nat}{env:Env}:swapsWith e (some (.Subscript o i p)) l env=pure false:=by cases e<;>rfl
theorem Fp{e:Expr}{ts:List Expr}{k:Nat}{p:Pos}{l:Nat}{env:Env}:swapsWith e (some (.Tuple ts k p)) l env=pure false:=by cases e<;>rfl
noncomputable def Kc(B:c6 cx n T call se t)(A:c6 cx n T call se a):c6 cx n T call se (.asg t a):= .st (SH.run { asg:=λt' x p=>EH.run (P:=λt'=>Al se λfd=>gf cx n fd (.Assign [t'] x p) _) {
 name:=λz p=> .m2 (λh g fd F=>CZ (h fd F) (g fd F)) (A.e x) (B.t (.Name z p))
 am:=λo y p=> .m2 (λh g fd F=>fm rfl E9 rfl (h fd F).s (g fd F)) (A.e x) (B.t (.Attribute o y p))
 sub:=λo y p=> .m2 (λh g fd F=>fm rfl FP rfl (h fd F).s (g fd F)) (A.e x) (B.t (.Subscript o y p))
 tup:=λts k p=> .iff (ts.any (BI se)|| !c5 x) λc=> .m2 (λh g fd F=>fm rfl Fp (Av ((dp.mp c).imp (w8 F) nb)) (h fd F).s (g fd F)) (A.e x) (B.t (.Tuple ts k p)) } t' })
noncomputable def JC(O:fY cx T V){x:String}{op:Operator}{v:IR}(A:c6 cx n T call se o)(B:c6 cx n T call se v):c6 cx n T call se (.aug o x op v):= .st (SH.run { aug:=λt' op' v' p=>pV (P:=λt'=>Al se λfd=>gf cx n fd (.AugAssign t' op' v' p) _) (λo' y _=> .eq y (Str.ofString x) λe1=> .eq op' op λe2=> .m2 (λh g fd F=>e1▸e2▸CT O.tb.am (h fd F).s (g fd F).s) (A.e o') (B.e v')) t' })
noncomputable def JI(A:c6 cx n T call se o)(B:c6 cx n T call se i):c6 cx n T call se (.del o i):= .st (SH.run { del:=λt' p=>ux (P:=λt'=>Al se λfd=>gf cx n fd (.Delete [t'] p) _) (λx y _=> .m2 (λh g fd F=>BM (h fd F).s (g fd F).s) (A.e x) (B.e y)) t' })
noncomputable def Mm(t':c6 cx n T call se t)(A:c6 cx n T call se a)(B:c6 cx n T call se b):c6 cx n T call se (.dH t a b):= .st (SH.run { dH:=λx y z _=> .m3 (λh g w fd F=>Gp (h fd F) (g fd F) (w fd F)) (t'.b x) (A.ss y) (B.ss z) })
noncomputable def Ge(t':c6 cx n T call se t)(B:c6 cx n T call se b):c6 cx n T call se (.gS t b):= .st (SH.run { gS:=λx y _=> .iff se.fn λf=> .m2 (λh g fd F=>xN (F.F f) (h fd F) (g fd F) q7) (t'.b x) (B.ss y) })
noncomputable def KC{tt:Bool}(t':c6 cx n T call se t)(I:c6 cx n T call se i)(B:c6 cx n T call se b):c6 cx n T call se (.fR tt t i b):= .st (SH.run { fR:=λx y z _=> .iff se.fn λf=> .eq (c5 x) tt λq=> .m3 (λh g w fd F=>q▸CL (F.F f) (g fd F) (h fd F) (w fd F) q7) (t'.t x) (I.it y) (B.ss z) })
noncomputable def Kk(A:c6 cx n T call se a):c6 cx n T call se (.ret a):= .st (SH.run { ret:=λx _=>match x with
 |some x=>(A.e x).m1 λh fd F=>vM (h fd F).s
 |_=> .no })
noncomputable def Hq : c6 cx n T call se .A8:= .st (SH.run { ret:=λx _=>match x with
 |none=> .yes λ_ _=>uA
 |_=> .no })
noncomputable def Id : c6 cx n T call se .pass:= .st (SH.run { pass:=λ_=> .yes λ_ _=>AT })
noncomputable def Km : c6 cx n T call se .brk:= .st (SH.run { brk:=λ_=> .yes λ_ _=>xS })
theorem Bx(O:fY cx T V){C:Addr}{nm x:String}{y:Str}{np cp pos p:Pos}{k:Nat}{fd:Fd}(h1:V.A6 C=true)(h2:V.gv nm=some (.ref C))(F:ny se fd)(g:GN nm y fd):gf cx n fd (.Raise (some (.Call (.Name y np) [.Constant (.str (Str.ofString x)) k p] [] cp)) none pos) (P.raise C):=by
 refine fv (O.A6 _ h1) λB0 d K=> ?_
 exact xU K F.hk g.k F.gl g.d (g.eq▸(O.gv _ _ h2).1)
noncomputable def EQ(O:fY cx T V){C:Addr}{nm x:String}:c6 cx n T call se (.raise nm C x):= .st (SH.run { MX:=λe p=>gb (P:=λe=>Al se λfd=>gf cx n fd (.Raise (some e) none p) _) (λy q w d=>wj (P:=λw=>Al se λfd=>gf cx n fd (.Raise (some (.Call (.Name y q) [w] [] d)) none p) _) (λs _ _=>match s with | .str s=> .eq s (Str.ofString x) λe=> .iff (V.A6 C) λh1=> .iff (V.gv nm==some (.ref C)) λh2=>(vz se nm y).m1 λg fd F=>e▸Bx O h1 (eq_of_beq h2) F (g fd F) | _=> .no) w) e })
noncomputable def Kq(O:fY cx T V){hs:List (String×Addr×MV)}(B:c6 cx n T call se b):c6 cx n T call se (.Ea hs b):= .st (SH.run { MY:=λx hs' _=> .iff se.fn λf=> .iff (!hs'.isEmpty) λk=> .m2 (λh g fd F=>B2 (F.F f) F.gl O.nU (h fd F) (g fd F) (nb k)) (B.ss x) (zr O se hs' hs) })
noncomputable def ck(O:fY cx T V)(hc:∀fd f,cQ cx n fd f (call f))(ir:IR):∀se,c6 cx n T call se ir:=
 IR.rec (motive:=λir=>∀se,c6 cx n T call se ir) (λ_=>IM) (λ_=>JS) (λ_ _ A B s=>I8 (A s) (B s)) (λ_ _=>Ew) (λ_ _=>IS) (λ_ _ _=>IG O)
  (λ_ _ _ A B s=>JE (A s) (B s)) (λ_ _ _ A B s=>KH (A s) (B s)) (λ_ _ _ _ _ A B C s=>HC (A s) (B s) (C s)) (λ_ _ _ A B C s=>J5 (A s) (B s) (C s)) (λ_ A s=>J3 (A s)) (λ_ _ A B s=>Ky (A s) (B s)) (λ_ _ A B s=>Mi (A s) (B s))
  (λ_ _ A s=>Ie O (A s)) (λ_ _ A B s=>IJ (A s) (B s)) (λ_ _ _ A B C s=>F5 (A s) (B s) (C s)) (λ_ A s=>Iy (A s)) (λ_ A s=>KD (A s)) (λ_=>Fu) (λ_ _ A s=>E5 (A s)) (λ_ _ _ _ _ _ _ A B C D s=>HY (A s) B C D)
  (λ_ _ _ A s=>IZ O hc (A s)) (λ_ _ _ A B s=>II O hc (A s) (B s)) (λ_ _ A s=>Dm O (A s)) (λ_ A s=>C0 O (A s)) (λ_ A s=>Gs O (A s)) (λ_ A s=>Du O (A s)) (λ_ A s=>IA (A s)) (λ_ A s=>Fy O (A s)) (λ_ A s=>HE O (A s)) (λ_ A s=>J1 O (A s))
  (λ_ A s=>IV (A s)) (λ_ _ A B s=>Kc (A s) (B s)) (λ_ _ _ _ A B s=>JC O (A s) (B s)) (λ_ _ A B s=>JI (A s) (B s)) (λ_ _ _ A B C s=>Mm (A s) (B s) (C s)) (λ_ _ A B s=>Ge (A s) (B s)) (λ_ _ _ _ A B C s=>KC (A s) (B s) (C s))
  (λ_ A s=>Kk (A s)) (λ_=>Hq) (λ_=>Id) (λ_=>Km) (λ_ _ _ _=>EQ O) (λ_ _ A s=>Kq O (A s)) ir
end
section
variable {cx:Cx}{n:Nat}{fd:Fd}{T:Tab}{V:Nt}{se:SE}
theorem P.rB{f:Value}:cQ cx n fd f (λ_=>P.fail):=λ_ _ _ _ _ _ _ _ _ _ _ hm=>hm.elim
theorem ci{f:Value}{p:Prop} [Decidable p] {a b:List MV->P MV}(h:p->cQ cx n fd f a)(g:cQ cx n fd f b):cQ cx n fd f (λas=>(if p then a as else b as:P MV)):=λas vs=>by
 by_cases q : p
 ·show aM _ _ _ _ _ _ (if p then a as else b as:P MV)
  rw[if_pos q];exact h q as vs
 ·show aM _ _ _ _ _ _ (if p then a as else b as:P MV)
  rw[if_neg q];exact g as vs
theorem zQ(hE:∀C,T.eqs C=true->eqB cx.K C=true){id:String}:cQ cx n fd (.builtin id) (GY T id):=
 ci (λe=>e▸EM.toN)<|ci (λe=>e▸BE.toN)<|ci (λe=>e▸De.toN)<|ci (λe=>e▸BO)<|ci (λe=>e▸BY)<|
 ci (λe=>e▸xb.toN)<|ci (λe=>e▸xq.toN)<|ci (λe=>e▸(vX hE).toN)<|ci (λe=>e▸EN.toN)<|ci (λe=>e▸FF.toN)<|ci (λe=>e▸EO.toN) P.rB
theorem Ao{t:String}:cQ cx n fd (.type t) (GQ t):=
 ci (λe=>e▸zZ.toN)<|ci (λe=>e▸rX)<|ci (λe=>e▸AE)<|ci (λe=>e▸zX) P.rB
theorem yD{d:tR}(F:rW cx d)(nd:d.names.Nodup){L:Addr}:ny (Ey d) (Fd.call fd d L):=by
 exact⟨rfl,λ_=>rfl,F.kind,nd,F.gl,F.bi,λx h=>(gD _ _ _ _ _ rfl)▸h,λ_=>⟨rfl,rfl,F.kind,λc h=>aB _ (cq.mpr ⟨c,h,rfl⟩),nd,(gD _ _ _ _ _ rfl)▸F.cn⟩⟩
structure LE(cx:Cx)(T:Tab)(V:Nt)(O:fY cx T V)(a ar nl:Nat)(dm:List MV)(body:IR):Prop where
 h : ∃d,rW cx d/\d.addr=a/\d.arity=ar/\d.names.length=nl/\d.dm=dm/\d.names.Nodup/\∀n call hc,((ck (n:=n) (call:=call) O hc body (Ey d)).ss d.body).y=true
structure CE(cx:Cx)(T:Tab)(V:Nt):Prop where
 A : fY cx T V
 fn : ∀a ar nl dm body,T.fn a=some (ar,nl,dm,body)->LE cx T V A a ar nl dm body
theorem wz(O:fY cx T V)(h:∀a as,kD cx n (.ref a) as (kY T n a as))(fd:Fd)(f:Value):cQ cx n fd f (za T n f):=by
 cases f with
 |ref b=>exact cQ.of (h b)
 |builtin id=>exact zQ O.eqs
 |type t=>exact Ao
 |_=>exact P.rB
theorem qT(O:CE cx T V):∀ (n:Nat)(a:Addr)(as:List MV),kD cx n (.ref a) as (kY T n a as)
 |0,_,_=>λ_ _ _ _ _ _ _ _ _ _ _ hm=>hm.elim
 |n+1,a,as=>by
  dsimp only[kY]
  split
  ·rename_i ar nl dm body e
   refine KP ((O.fn _ _ _ _ _ e).h) λd F zr2_ zr3_ zr4_ zr5_ nd g=> ?_;subst zr2_;subst zr3_;subst zr4_;subst zr5_
   exact Gi F λfd L=>Ok.get (g n _ (wz O.A (qT O n))) _ (yD F nd)
  ·split
   ·rename_i init e
    exact DB (O.A.cls _ _ e) λl=>qT O n init _
   ·exact λ_ _ _ _ _ _ _ _ _ _ _ hm=>hm.elim
end
noncomputable section
noncomputable def MQ : List (String×Addr):=[("half_at",116),("word_at",123),("put_half",130),("put_word",137),("rounded_up",144),("octets_of",464),("cut_name",471),("row_for",485),("name_in",492),("packed_head",981),("_law_disk",1092),("_law_root",1099),("_law_name",1106),("_law_block",1113),("_law_given",1120),("_law_link",1127),("_law_call_right",1132),("_law_same",1137),("Super",204),("Node",293),("Nodes",453),("Paths",659),("Buffer",757),("Cache",874),("Disk",972),("Journal",1083),("NoRoom",76),("BadCall",88)]
noncomputable def L4 : List (String×Bool):=[("len",false),("abs",false),("min",false),("sum",false),("bytes",true),("bytearray",true),("dict",true),("list",true),("isinstance",false),("int",true),("str",true),("set",true),("range",true),("enumerate",true),("reversed",true)]
noncomputable def LC : List (String×Int×Tok):=[("MAGIC",270544960,315),("FREE",0,317),("DIRECTORY",1,319),("FILE",2,321),("DEVICE",3,323),("ROOT",1,325),("FIRST_LOG",2,327),("HEAD",12,331),("PIECE",16,333),("SUPER_WORDS",9,335),("MOST_A_PIECE",4,337),("NAME",14,849),("ROW",16,851),("NUMBER",4,1558),("MOST_EACH",10,1560),("SPARE",4,1562)]
noncomputable def L2 : List (String×List UInt8×Tok):=[("HERE",[46],855),("ABOVE",[46,46],857)]
noncomputable def Me(x:String):Bool->Value
 |true=> .type x
 |false=> .builtin x
noncomputable def nt : Nt where
 gv x:=(MQ.lookup x).map .ref
 bv x:=(L4.lookup x).map (Me x)
 Jf x v:=match v with
  | .int i=>(LC.lookup x).any (·.1==i)
  | .bytes b=>(L2.lookup x).any (·.1==b)
  |_=>false
 A6 C:=nZ.contains C
noncomputable abbrev Ek:=Addr×Nat×Nat×List MV×IR
noncomputable def fnD? : Data->Option FuncData
 | .func fd=>some fd
 |_=>none
noncomputable def fnAt(K:Frag)(a:Addr):Option FuncData:=(K.lookup a).bind λo=>fnD? o.data
noncomputable def MJ(K:Frag)(a:Addr):Bool:=(fnAt K a).isSome
noncomputable def eZ(K:Frag)(a:Addr):FuncData:=(fnAt K a).getD default
theorem JF{K:Frag}{a:Addr}(h:MJ K a=true):∃o,K.lookup a=some o/\o.data= .func (eZ K a):=by
 refine cN (cb.mp h) λfd e=> ?_
 refine aT (Option.bind_eq_some_iff.mp e) λo q f=> ?_
 refine⟨o,q, ?_⟩
 unfold eZ
 refine ae e▸ ?_
 generalize o.data=d at f ⊢
 cases d<;>first | exact ah Data.func (aP f) | cases f
noncomputable def yE : FuncBody->List Stmt
 | .stmts b=>b
 |_=>[]
noncomputable def zf : FuncBody->Bool
 | .stmts _=>true
 |_=>false
theorem DK : ∀ {b:FuncBody},zf b=true->b= .stmts (yE b)
 | .stmts _,_=>rfl
noncomputable def namesOf(a:Addr)(fd:FuncData):List Str:=if a==1142 then (["script", "marks", "spare", "plan", "disk", "paths", "root", "own", "n", "later"]:List String).map Str.ofString else (fd.scope.names.filter λx=>x.2== .local||x.2== .cell).map (·.1)
noncomputable def vN(a:Addr):List (MV×Value):=if a==159 then [(.int 12, .int 12 329)] else if a==340 then [(.int 0, .int 0 642),(.int 0, .int 0 643)] else if a==996 then [(.none, .none)] else if a==36 then [(.str "", .str (Str.ofString "") 208)] else []
theorem IU{a:Addr}{ρ:LA->Addr}{U:LA->Prop}{h:Heap}:cR ρ U h ((vN a).map (·.1)) ((vN a).map (·.2)):=by
 unfold vN
 cases a==159
 ·cases a==340
  ·cases a==996
   ·cases a==36
    ·exact .nil
    ·exact .cons .str .nil
   ·exact .cons .none .nil
  ·exact .cons .int (.cons .int .nil)
 ·exact .cons .int .nil
noncomputable def iN(K:Frag)(p:Ek):tR:=⟨p.1,eZ K p.1,yE (eZ K p.1).body,namesOf p.1 (eZ K p.1),p.2.1,(vN p.1).map (·.2),(vN p.1).map (·.1)⟩
noncomputable abbrev GK(fd:FuncData):List Str:=(cellsFrom 0 fd.scope.names []).map (·.1)
noncomputable abbrev MN(K:Frag)(p:Ek):Prop:=MJ K p.1=true/\zf (eZ K p.1).body=true/\codeIn K (eZ K p.1).code (eZ K p.1).qualname=true/\(eZ K p.1).scope.isCoroutine=false/\(eZ K p.1).scope.isGenerator=false/\(eZ K p.1).scope.kind= .function/\
 (eZ K p.1).closure.isEmpty=true/\(eZ K p.1).globals=mainGlobals/\(eZ K p.1).builtins=builtinsNs/\(iN K p).names.Nodup/\p.2.1<=(iN K p).names.length/\
 (∀x∈(iN K p).names.take p.2.1,(eZ K p.1).scope.names.lookup x=some .local∨((eZ K p.1).scope.names.lookup x=some .cell/\x∈GK (eZ K p.1)))/\(GK (eZ K p.1)).Nodup/\(iN K p).names.length=p.2.2.1
noncomputable abbrev Bd:=Setting->(Nat->Value)->Option (List Value)
noncomputable def JD(K:Frag)(p:Ek)(k:Nat)(S:Setting)(v:Nat->Value):Option (List (Str×Value)):=peek K S (bindArgs (eZ K p.1) ⟨(List.range (p.2.1 - k)).map v,[]⟩)
noncomputable def Ez(K:Frag)(S:Setting)(v:Nat->Value)(p:Ek):Bool:=(List.range ((vN p.1).length+1)).all λk=>(JD K p k S v).map (·.map (·.1))==some ((iN K p).names.take p.2.1)
noncomputable def Cm(K:Frag)(p:Ek):List Bd:=(List.range ((vN p.1).length+1)).map λk S v=>(JD K p k S v).map (·.map (·.2))
noncomputable def C9(p:Ek):List Bd:=(List.range ((vN p.1).length+1)).map λk _ v=>some ((List.range (p.2.1 - k)).map v++((vN p.1).map (·.2)).drop ((vN p.1).length - k))
theorem Hx{K:Frag}{p:Ek}{S:Setting}{v:Nat->Value}(h:Ez K S v p=true)(e:Cm K p=C9 p){k:Nat}(hk:k<=(vN p.1).length) :
  JD K p k S v=some (((iN K p).names.take p.2.1).zip ((List.range (p.2.1 - k)).map v++((vN p.1).map (·.2)).drop ((vN p.1).length - k))):=by
 have h1:=eq_of_beq (List.all_eq_true.mp h k (List.mem_range.mpr (Nat.lt_succ_of_le hk)))
 have h2:=ah (λ(l:List Bd)=>l[k]?) e
 simp only[Cm,C9,bc,List.getElem?_range (Nat.lt_succ_of_le hk),Option.map_some,Option.some.injEq] at h2
 have h2:=congrFun (congrFun h2 S) v
 cases q : JD K p k S v with
 |none=>rw[q] at h1;cases h1
 |some l=>
  rw[q] at h1 h2
  exact ah some (List.zip_of_prod (aP h1) (aP h2))
theorem wZ{vals:List Value}:vals=(List.range vals.length).map λi=>vals.getD i default:=
 List.ext_getElem (by simp) λi h1 h2=>by simp[aR,ay h1]
theorem E7{cx:Cx}{p:Ek}(h:MN cx.K p)(hn:∀S v,Ez cx.K S v p=true)(he:Cm cx.K p=C9 p) :
  rW cx (iN cx.K p)/\(iN cx.K p).names.Nodup/\(iN cx.K p).names.length=p.2.2.1:=by
 obtain⟨h0,h1,h2,h3,h4,h5,h6,h7,h8,h9,h10,h11,h12,h15⟩:=h
 refine aT (JF h0) λo ho hd=> ?_
 refine⟨⟨⟨o,cx.X _ _ ho,hd⟩,codeRec_of cx.X h2,h3,h4,DK h1,h5,List.isEmpty_iff.mp h6,h7,h8,h9.sublist (List.take_sublist _ _),h10,h11,h12,(aq ..).trans (aq ..).symm,λρ U hp=>IU,λs vals top l1 l2=> ?_⟩,h9,h15⟩
 have l2 : p.2.1<=vals.length+((vN p.1).map (·.2)).length:=l2
 rw[aq] at l2
 have b:=λS=>Hx (S:=S) (hn S λi=>vals.getD i default) he (k:=p.2.1 - vals.length) (Nat.sub_le_iff_le_add'.mpr l2)
 unfold JD at b
 rw[Nat.sub_sub_self (show vals.length<=p.2.1 from l1),<-wZ] at b
 show BindsTo s _ _ ((List.take _ _).zip (vals++((vN p.1).map (·.2)).drop (((vN p.1).map (·.2)).length - (p.2.1 - vals.length))))
 refine ae (aq ..)▸ ?_
 exact kp_binds (cx.X.keeps top) b
end
section
variable {cx:Cx}{n:Nat}{A:Around}{ρ ρ':LA->Addr}{σ σ':MH}{s s₁:Shared}{d:tR}
noncomputable abbrev M3 : Fd:={ env:=default,names:=[],cI:=[],outer:=[],gB:=[] }
theorem Ci{args:List MV}{vals:List Value}{m:P MF}{Q:MV->MH->Prop}(F:rW cx d)(hb:∀fd L,jG cx n (Fd.call fd d L) d.body m)(G:qR cx (n+1) [] A ρ σ s)(hv:cR ρ σ.us s.heap args vals)(hm:PH.fn d args m σ Q λ_ _=>False) :
  cW cx.M A (call (.ref d.addr) vals) (λv s'=>∃mv ρ' σ',VR ρ' σ'.us s'.heap mv v/\Q mv σ'/\(∃h' tk,s'={ s with heap:=h',toks:=tk })/\(∀b o,cx.h0.get? b=some o->s'.heap.get? b=some o)/\
   (∀l o,σ'.get l=some o->mu cx.prog cx.w ρ' σ'.us s'.heap (ρ' l) o)/\∀l,σ.us l->ρ' l=ρ l) (λ_ _=>False) s:=by
 refine dw hm λzo0_ hm=> ?_;have h1:=zo0_.1;have h2:=zo0_.2
 refine iF (bP (λ_ _ _ _=>rfl) (.of (oa F G.top (by have:=G.ak.dep;show A.depth < _;exact az (Nat.le_add_right_of_le (Nat.le_add_right_of_le (aG _))) this) (hv.len▸h1) (by refine ae hv.len▸F.dl▸ ?_;exact h2) λs₁ I=>And.intro rfl ?_)))
 refine qA (aD (hb M3 s.heap.objs.size _ ρ σ _ s₁ _ (λ_ _ _=>False) (G.enter F hv h1 h2 I) trivial hm) (λf s₂ y=> ?_) λe s₂ y=> ?_)
 ·obtain⟨mf,ρ',σ',l',S,G2,r,hq⟩:=y
  refine fv I.toInCall.same λh1 t1 e1=> ?_
  refine fv S.rest λh2 t2 e2=> ?_
  refine⟨f0 mf,ρ',σ', ?_,hq,⟨h2,t2,by refine (e2).trans ?_;rw[e1]⟩,G2.top,λl o e=>(G2.obj l o e).2,λl u=>(S.us l u).2⟩
  induction r with
  |ret r=>exact r
  |_=>exact .none
 ·obtain⟨e',C,ρ',σ',l',rfl,S,G2,x,hx⟩:=y
  exact hx.elim
end
end Internal
namespace Internal
open PySem PySem.W PyProof.Rows PySem.Calls
set_option synthInstance.maxHeartbeats 200000
set_option synthInstance.maxSize 2000
noncomputable section
noncomputable abbrev qJ : Ek:=(36,2,2,[.str ""], .fail)
noncomputable def JZ : List Stmt:=[.Expr (.Call (.Attribute (.Name "ValueError" ⟨8,8,8,18⟩) "__init__" ⟨8,8,8,27⟩) [.Name "self" ⟨8,28,8,32⟩, .Name "reason" ⟨8,34,8,40⟩] [] ⟨8,8,8,41⟩) ⟨8,8,8,41⟩, .Assign [.Attribute (.Name "self" ⟨9,8,9,12⟩) "reason" ⟨9,8,9,19⟩] (.Name "reason" ⟨9,22,9,28⟩) ⟨9,8,9,28⟩]
noncomputable abbrev Ju(K:Frag)(x:String):Option (Option Value):=nsIn K mainGlobals (Str.ofString x)
noncomputable abbrev LM(K:Frag)(C:Addr):Prop:=FL K C 39=true/\findIn K (.ref C) "__init__" = some (some (.ref 36))/\typeIn K (.ref 36)=some (.type "function")/\findIn K (.ref C) "__setattr__" = some (some (.builtin "object.__setattr__"))/\findIn K (.ref C) "reason" = some none/\keepIn K (.ref C)=true
noncomputable abbrev L3(K:Frag)(x:String):Option NameKind:=(eZ K 36).scope.names.lookup (Str.ofString x)
noncomputable abbrev Mb(K:Frag):Prop:=(iN K qJ).names=[("self" : Str),("reason" : Str)]/\L3 K "self" = some .local/\L3 K "reason" = some .local/\L3 K "ValueError" = some .globalImplicit/\Ju K "ValueError" = some none
noncomputable abbrev Kn(K:Frag):Prop:=(∀p∈GL,∀q∈p.2,GT K p.1 q.1 q.2=true)/\(∀p∈attrL,∀x∈p.2,gq K p.1 x=true)/\
 (∀p∈Hw,makesIn K p.1=true/\findIn K (.ref p.1) "__init__" = some (some (.ref p.2))/\typeIn K (.ref p.2)=some (.type "function"))/\(∀C∈nZ,∀D∈nZ,exmOne K (.ref C) (.ref D)=some (C==D))/\eqB K 757=true/\
 (∀p∈MQ,Ju K p.1=some (some (.ref p.2))/\keepIn K (.ref p.2)=true)/\(∀p∈L4,Ju K p.1=some none/\bootBuiltins (Str.ofString p.1)=some (Me p.1 p.2)/\Str.ofString p.1≠("__name__" : Str))/\
 (∀p∈LC,Ju K p.1=some (some (.int p.2.1 p.2.2)))/\(∀p∈L2,Ju K p.1=some (some (.bytes p.2.1.toArray p.2.2)))/\(∀C∈nZ,LM K C)/\Mb K/\Ju K "law" = some (some (.ref 1142))/\∀p∈qJ::AS,MN K p
noncomputable abbrev Mn:=(cx:Cx)->fY cx tab nt->(n:Nat)->(call:Value->List MV->P MV)->(∀fd f,cQ cx n fd f (call f))->Bool
noncomputable def wA(K:Frag):Bool×List Stmt×Mn×(Setting->(Nat->Value)->Bool)×List (List Bd):=
 (decide (Kn K),(iN K qJ).body,λ_ O _ _ hc=>AS.all λp=>((ck O hc p.2.2.2.2 (Ey (iN K p))).ss (iN K p).body).y,λS v=>(qJ::AS).all (Ez K S v),(qJ::AS).map (Cm K))
noncomputable abbrev v8 : Bool×List Stmt×Mn×(Setting->(Nat->Value)->Bool)×List (List Bd):=(true,JZ,λ_ _ _ _ _=>true,λ_ _=>true,(qJ::AS).map C9)
structure lQ(K:Frag):Prop where
 t : Kn K
 b : (iN K qJ).body=JZ
 c : (λcx O n call hc=>AS.all λp=>((ck O hc p.2.2.2.2 (Ey (iN K p))).ss (iN K p).body).y : Mn)=λ_ _ _ _ _=>true
 f : ∀p∈qJ::AS,∀S v,Ez K S v p=true
 v : ∀p∈qJ::AS,Cm K p=C9 p
theorem lQ.of{K:Frag}(h:wA K=v8):lQ K:=
 ⟨aF (ah (·.1) h),ah (·.2.1) h,ah (·.2.2.1) h,λp m S v=>List.all_eq_true.mp (congrFun (congrFun (ah (·.2.2.2.1) h) S) v) p m,List.map_inj_left.mp (ah (·.2.2.2.2) h)⟩
theorem eK{α β:Type} [BEq α] [LawfulBEq α] {a:α}{b:β}:∀ {l:List (α×β)},l.lookup a=some b->(a,b)∈l
 | (x,y)::r,h=>by
  rw[List.lookup_cons] at h
  cases q : a==x with
  |true=>(replace h:=q▸h);refine ae (eq_of_beq q)▸ ?_;cases h;exact .head _
  |false=>rw[q] at h;exact .tail _ (eK h)
noncomputable def fragOf(h:Heap)(L:List Addr):Frag:=L.filterMap λa=>(h.get? a).map (a,·)
theorem E8{h:Heap}{L:List Addr}:(fragOf h L).In h:=λa o e=>by
 refine aT (cS.mp (eK e)) λb _ q=> ?_
 refine aT (be.mp q) λo' q1 q2=> ?_
 cases q2;exact q1
theorem getD_mem{α:Type}{L:List (Addr×List α)}{C:Addr}{x:α}(h:x∈(L.lookup C).getD []):∃ms,(C,ms)∈L/\x∈ms:=by
 cases q : L.lookup C with
 |none=>(replace h:=q▸h);exact nomatch h
 |some ms=>rw[q] at h;exact⟨ms,eK q,h⟩
section
variable {cx:Cx}
theorem yA(h:lQ cx.K){p:Ek}(m:p∈qJ::AS):rW cx (iN cx.K p)/\(iN cx.K p).names.Nodup/\(iN cx.K p).names.length=p.2.2.1:=
 E7 (h.t.2.2.2.2.2.2.2.2.2.2.2.2 p m) (h.f p m) (h.v p m)
theorem FG{x:String}{v:Value}(h:nt.bv x=some v):∃b,(x,b)∈L4/\Me x b=v:=
 let ⟨b,h1,h2⟩:=be.mp h
 ⟨b,eK h1,h2⟩
theorem FW{x:String}{v:MV}(h:nt.Jf x v=true):(∃p∈LC,p.1=x/\v= .int p.2.1)∨∃p∈L2,p.1=x/\v= .bytes p.2.1:=by
 cases v with
 |int i=>exact .inl ((by refine aT ((Option.any_eq_true ..).mp h) λp h1 h2=> ?_;exact⟨_,eK h1,rfl,ah MV.int (eq_of_beq h2).symm⟩))
 |bytes i=>exact .inr ((by refine aT ((Option.any_eq_true ..).mp h) λp h1 h2=> ?_;exact⟨_,eK h1,rfl,ah MV.bytes (eq_of_beq h2).symm⟩))
 |_=>cases h
theorem DA{C D:Addr}{b:Bool}(h:tab.nU C D=some b):(C∈nZ/\D∈nZ)/\b=(C==D):=by
 have h : (if nZ.contains C&&nZ.contains D then some (C==D) else none)=some b:=h
 cases q : nZ.contains C&&nZ.contains D with
 |false=>rw[q] at h;cases h
 |true=>(replace h:=q▸h);cases h;exact⟨(an.mp q).imp bX.mp bX.mp,rfl⟩
theorem v3(h:lQ cx.K):fY cx tab nt:=by
 have hx:=yA h (.head _)
 have hb:=h.b
 obtain⟨hme,hat,hcl,hem,heq,hgv,hbv,hgi,hgb,hex,⟨k2,k3,k4,k5,k6⟩,_,_⟩:=h.t
 clear h
 refine⟨⟨λC x f h=> ?_,λC x h=> ?_⟩,λC i h=> ?_,λC D b h=> ?_,λC h=> ?_,λx v h=> ?_,λx v h=> ?_,λx v h=> ?_,λC h=> ?_⟩
 ·refine aT (getD_mem (eK h)) λms h1 h2=> ?_
  exact hme _ h1 _ h2
 ·refine aT (getD_mem (bX.mp h)) λms h1 h2=> ?_
  exact hat _ h1 _ h2
 ·have t:=hcl _ (eK h)
  exact⟨t.1,t.2.1,t.2.2⟩
 ·refine dw (DA h) λzo0_ zr1_=> ?_;have h1:=zo0_.1;subst zr1_
  exact hem _ h1 _ zo0_.2
 ·exact eq_of_beq h▸heq
 ·refine aT (be.mp h) λa h1 zr2_=> ?_;subst zr2_
  have t:=hgv _ (eK h1)
  exact⟨t.1,looks_keep t.2 cx.X⟩
 ·refine aT (FG h) λb h1 zr2_=> ?_;subst zr2_
  have t:=hbv _ h1
  exact⟨t.1,t.2.1,t.2.2,match b with | true=>AU _ | false=>fy _⟩
 ·rcases FW h with ⟨p,m,rfl,rfl⟩ | ⟨p,m,rfl,rfl⟩
  ·exact⟨_,hgi p m,λ_ _ _=> .int⟩
  ·exact⟨_,hgb p m,λ_ _ _=> .bytes⟩
 ·refine Mf (hex _ (bX.mp h)) λa1 a2 a3 a4 a5 a6=> ?_
  exact⟨39,iN cx.K qJ,hx.1,⟨⟨_,_,_,_,_,_,_,_,_,_,hb,rfl⟩,k2,rfl,λL=>⟨k3,k4,k5⟩,k6⟩,a1,a2,a3,a4,a5,a6⟩
theorem EX(h:lQ cx.K):CE cx tab nt:=⟨v3 h,λa ar nl dm body e=>by
 have m:=eK ((e))
 refine ie (yA h (.tail _ m)) λF nd l=> ?_
 exact⟨_,F,rfl,rfl,l,List.map_inj_left.mp (show AS.map (λp=>(vN p.1).map (·.1))=AS.map (·.2.2.2.1) by rfl) _ m,nd,λn call hc=>List.all_eq_true.mp (congrFun (congrFun (congrFun (congrFun (congrFun h.c cx) (v3 h)) n) call) hc) _ m⟩⟩
end
end
end Internal
namespace Internal
open PySem PySem.W PyProof.Rows PySem.Calls
theorem A4{h:Heap}:RecFacts [] h:=recFacts_of (s:=⟨h,#[],{},0,{}⟩) rfl
noncomputable def Lv : List Addr:=[3,38,39,29,152,333,989]++(nZ++Hw.map (·.1)++36::AS.map (·.1)).flatMap λa=>[a,a - 1]
theorem BU(left:LeftO pw q0 ja (λ_=>true) (λs=>wA (fragOf s.heap Lv)) (λ_=>v8) 16100)
  (call:∀d kwd,defOf q0 PySem.Challenge.rw_nz0231_01.row.name=some (d,kwd)->GJ q0 ja (λ_ _=>True) (λ_ h=>∃K : Frag,K.In h/\lQ K) PySem.Challenge.rw_nz0231_01.row.toRowW d kwd):PySem.Challenge.rw_nz0231_01.Holds :=Cd λsaid=>Hd.PySem.W.holds_open (q:=q0) (loose:=ja) (Xt:=λ_=>true) (XP:=λ_ _=>True) (YP:=λ_ h=>∃K : Frag,K.In h/\lQ K) left
  (λw s e=>⟨_,E8, .of e⟩) (λw h h' zz k=>(by refine aT zz λK i l=> ?_;exact⟨K,i.keeps k,l⟩)) (λ_ _=>trivial) (λ_ _ _ _ _=>trivial) (by rfl) (by rfl) (by rfl) (λs _=>A4) (by rfl) said (by decide +kernel) ⟨rfl,rfl,rfl,rfl,rfl,by decide +kernel⟩
  ⟨[.list []],by decide +kernel,by decide +kernel⟩ (call _ _ (by rfl))
noncomputable def Il(s:SharedT)(a:Addr):Option Obj:=if a < s.n then alive ((s.tree.get a).getD default) else none
theorem BD{s:SharedT}{a:Addr}:s.abs.heap.get? a=Il s a:=by
 show (absHeap s.tree s.n s.life).get? a=_
 unfold Il
 by_cases h : a < s.n
 ·rw[if_pos h]
  unfold Heap.get?
  rw[absHeap_at,if_pos h]
  obtain⟨c,d,dt,sl⟩:=(s.tree.get a).getD default
  cases dt<;>rfl
 ·rw[if_neg h,abs_get_none h]
noncomputable def C5(s:SharedT)(L:List Addr):Frag:=L.filterMap λa=>(Il s a).map (a,·)
theorem Bc{s:SharedT}{L:List Addr}:fragOf s.abs.heap L=C5 s L:=ah (L.filterMap ·) (funext λ_=>ah (Option.map _) BD)
noncomputable abbrev B6(w:World)(os:OsState):Option (Flow×SharedT×Code×Pos):=KO PySem.W.Fast.tw10110043849684766642 PySem.W.Fast.tw14364793385576792824 PySem.W.Fast.tw12563942051412417395 w os
theorem JU : ∀w : World,(λos=>(B6 w os).map λr=>(r.1,r.2.2.1,ym w r.2.1.abs,openSeen q0 ja (importedModules pw.main.body) (λ_=>true) true r.2.1.abs))=λ_=>some (.next,j0,true,openGood q0 ja):=λw=>by kernel_rfl
theorem Kh : ∀w : World,(λos=>(B6 w os).map λr=>(wA (C5 r.2.1 Lv)).1)=λ_=>some v8.1:=λw=>by kernel_rfl
theorem J8 : ∀w : World,(λos=>(B6 w os).map λr=>(wA (C5 r.2.1 Lv)).2)=λ_=>some v8.2:=λw=>by kernel_rfl
theorem Ki{sr:Kx}{tb:String->Option Builtin}{ex:List Stmt->Env->Sem Flow}{w:World}{os:OsState}:KO sr tb ex w os=sr tb pw w 11 nh 1 8000 (CO w os) (Lu ex):=rfl
theorem Gw{w:World}{os:OsState}:B6 w os=segRunT treeTable pw w 11 nh 1 8000 (CO w os) (Lu execs):=by
 unfold B6
 rw[Ki,<-PySem.W.Fast.te10110043849684766642,<-PySem.W.Fast.te14364793385576792824,<-PySem.W.Fast.te12563942051412417395]
theorem JA : LeftO pw q0 ja (λ_=>true) (λs=>wA (fragOf s.heap Lv)) (λ_=>v8) 16100:=
 KL λw os=>by
  obtain⟨⟨f,s',c,q⟩,hr,hs⟩:=be.mp (congrFun (JU w) os)
  obtain⟨r,ha,ta⟩:=be.mp (congrFun (Kh w) os)
  obtain rfl:=aP (hr.symm.trans ha)
  obtain⟨r,hb,tb⟩:=be.mp (congrFun (J8 w) os)
  obtain rfl:=aP (hr.symm.trans hb)
  obtain⟨h1,hs⟩:=Prod.mk.inj hs
  obtain⟨h2,hs⟩:=Prod.mk.inj hs
  obtain⟨h3,h4⟩:=Prod.mk.inj hs
  dsimp only at h1 h2 h3 h4 ta tb
  subst h1 h2
  exact⟨s',q,Gw▸hr,h3,h4,Bc▸Prod.ext ta tb⟩
theorem Cy{d:DefRec}{kwd:List (Str×Expr)}(h:defOf q0 PySem.Challenge.rw_nz0231_01.row.name=some (d,kwd)):d.name=("law" : Str):=(defOf_name h).trans rfl
noncomputable abbrev mR(o:PySem.Obj)(ns:List Int):MH:={ get:=λl=>if l= .tm 0 then some (.fz o (ns.map .int)) else none,us:=λl=>l= .tm 0 }
noncomputable abbrev wV(ns:List Int):Prop:=∀o,kY tab 40 1142 [.ref (.tm 0)] (mR o ns) (λv σ'=>v= .bool true/\σ'.get (.tm 0)=some (.fz o (ns.map .int))) λ_ _=>False
theorem has_int{x:WData}(h:WShape.has [] x .int=true):∃n,x= .int n:=by
 cases x<;>first | exact⟨_,rfl⟩ | exact absurd h aE
theorem Fw{x:WData}(h:WShape.has [] x (.list .int)=true):∃xs,x= .list xs/\WShape.hasItems [] xs .int=true:=by
 cases x<;>first | exact⟨_,rfl,(Bool.or_false _).symm.trans h⟩ | exact absurd h aE
theorem vQ : ∀ {xs:List WData},WShape.hasItems [] xs .int=true->∃ns : List Int,xs=ns.map .int
 | [],_=>⟨[],rfl⟩
 |x::xs,h=>by
  refine cN (vQ (an.mp h).2) λns zr1_=> ?_;subst zr1_
  refine cN (has_int (an.mp h).1) λn zr1_=> ?_;subst zr1_
  exact⟨n::ns,rfl⟩
theorem BX{args:List WData}(h:(PySem.Challenge.rw_nz0231_01.row.toRowW).claim.pre args=true):∃ns : List Int,args=[.list (ns.map .int)]/\ns.length<=63:=by
 refine dw (pre_splitW h) λh1 h2=> ?_
 refine eT (hasAllW_cons (show WShape.hasAll [] args [.list .int]=true from h1)) λx r zr2_ h3 h4=> ?_;subst zr2_
 obtain rfl:=hasAllW_nil h4
 refine aT (Fw h3) λxs zr1_ h5=> ?_;subst zr1_
 refine cN (vQ h5) λns zr1_=> ?_;subst zr1_
 have h7:=br (nb (condW_of (holds_andW h2).1 ((rfl))))
 rw[aq] at h7
 exact⟨ns,rfl,aW.mp (cZ.mp h7)⟩
theorem lay_ints{R:WRecords}{cl:Str->Option Addr}{P:Params}{ord:List DictEntry->List DictEntry}:∀ (ns:List Int){s:Shared}{r:List Value×Shared},layAllW R cl P ord (ns.map .int) s=some r->(∃t,r.2={ s with toks:=t })/\∀ρ U h,cR ρ U h (ns.map .int) r.1
 | [],s,r,h=>by cases h;exact⟨⟨s.toks,rfl⟩,λ_ _ _=> .nil⟩
 |n::ns,s,r,h=>by
  refine eT (layAllW_cons h) λa q h1 h2 zr4_=> ?_;subst zr4_
  cases h1
  refine dw (lay_ints ns h2) λzo0_ v=> ?_;refine cN zo0_ λt e=> ?_
  exact⟨⟨t,e⟩,λρ U h=> .cons .int (v ρ U h)⟩
noncomputable abbrev lst(rv:List Value):PySem.Obj:={ cls:= .type "list",data:= .seq rv.toArray }
section
variable {cx:Cx}{ns:List Int}{rv:List Value}{s:Shared}
theorem IW(hs:s.heap=cx.h0.push (lst rv))(hv:∀ρ U h,cR ρ U h (ns.map .int) rv)(hg:s.gens=#[]):qR cx 40 [] callerA (λ_=>cx.h0.objs.size) (mR (lst rv) ns) s:=by
 have hnew : s.heap.get? cx.h0.objs.size=some (lst rv):=hs▸aQ _ rfl
 refine⟨λl x e=> ?_,λl l' u u' _=>Eq.trans (b:= .tm 0) u (ae u'),λl u=>⟨aG _,_,hnew,cP⟩,λb x e=>hs▸aI _ e, ?_,(λ_ h=>nomatch h),(λ_ h=>nomatch h),⟨rfl,by decide,by decide,rfl⟩,hg⟩
 ·have e : (if l= .tm 0 then some (MO.fz (lst rv) (ns.map .int)) else none)=some x:=e
  by_cases hl : l= .tm 0
  ·rw[if_pos hl] at e
   cases e
   exact⟨hl,hnew,rv.toArray,0,rfl,hv _ _ _⟩
  ·rw[if_neg hl] at e;cases e
 ·refine ae hs▸ ?_;refine ae (Heap.size_push ..)▸ ?_;exact cT _
theorem Cw(TO:CE cx tab nt)(H:wV ns)(hs:s.heap=cx.h0.push (lst rv))(hv:∀ρ U h,cR ρ U h (ns.map .int) rv)(hg:s.gens=#[]) :
  cW cx.M callerA (PySem.call (.ref 1142) [.ref cx.h0.objs.size]) (λv s'=>v= .bool true/\(∃h' tk,s'={ s with heap:=h',toks:=tk })/\∀b o,s.heap.get? b=some o->s'.heap.get? b=some o) (λ_ _=>False) s:=by
 refine KP ((TO.fn 1142 1 10 [] tJ rfl).h) λd F da dar dnl ddm dnd dck=> ?_
 have run : PH.fn d [.ref (.tm 0)] (den tab (za tab 39) tJ).s (mR (lst rv) ns) (λv σ'=>v= .bool true/\σ'.get (.tm 0)=some (.fz (lst rv) (ns.map .int))) λ_ _=>False:=by
  dsimp only[PH.fn,uW]
  refine ae dar▸ae ddm▸ae dnl▸ ?_
  exact H (lst rv)
 have hcl:=Ci (n:=39) F (λfd L=>Ok.get (dck 39 _ (wz TO.A (qT TO 39))) _ (yD F dnd)) (IW hs hv hg) (vals:=[.ref cx.h0.objs.size]) (.cons (.ref (l:= .tm 0) rfl) .nil) run
 rw[da] at hcl
 refine aD hcl (λv s' y=> ?_) λ_ _ y=>y
 refine LQ y λmv ρ' σ' rv' zo4_ r top obj hρ=> ?_;obtain⟨rfl,hfz⟩:=zo4_
 have ho:=(obj _ _ hfz).1
 rw[hρ (.tm 0) rfl] at ho
 refine⟨rv'.bool_inv,r,λb o e=> ?_⟩
 replace e:=hs▸e
 rcases Nat.lt_trichotomy b cx.h0.objs.size with q | q | q
 ·exact top b o (get?_push_back q e)
 ·subst q
  rw[aQ _ rfl] at e
  cases e;exact ho
 ·have hlt:=aS e
  rw[Heap.size_push] at hlt
  exact (iH (Nat.lt_succ_iff.mp hlt) q).elim
end
theorem zY(args:List WData):(PySem.Challenge.rw_nz0231_01.row.toRowW).claim.post args (.bool true) args=true:=by kernel_rfl
theorem Ar(H:∀ns : List Int,ns.length<=63->wV ns):PySem.Challenge.rw_nz0231_01.Holds :=BU JA λd0 kwd hdef=>by
 intro w s mg mb G ⟨K,KX,LK⟩ fa o pm cd doc dV kV ho hd hcd hD hmg hgens hlow args vals s₁ hpre hlay ⟨ord,hord,hl⟩
 clear hd hcd hD ho hlay hlow
 refine aT (BX hpre) λns zr1_ hlen=> ?_;subst zr1_
 let cx : Cx:={ prog:=PySem.Challenge.pw_nz0231_01,w:=w,K:=K,h0:=s.heap,mg:=mg,mb:=mb,X:=KX,g:=G.T.g,b:=G.T.b,bt:=G.T.builtins,nl:=G.T.nolimit }
 have hfa : some (Value.ref fa)=some (.ref 1142):=(Cy hdef▸hmg).symm.trans (mg_of KX G.T.g LK.t.2.2.2.2.2.2.2.2.2.2.2.1)
 cases hfa
 refine eT (layAllW_cons hl) λa q h1 h2 h3=> ?_
 cases h2
 refine aT (layW_list h1) λr hr zr2_=> ?_;subst zr2_
 obtain⟨⟨t,e1⟩,e2⟩:=lay_ints ns hr
 obtain⟨rv,rs⟩:=r
 subst e1
 cases h3
 refine aD (Cw (cx:=cx) (EX LK) (H ns hlen) rfl e2 hgens) (λv s' y=> ?_) λ_ _ y=>y.elim
 obtain⟨rfl,⟨h',tk,rfl⟩,k⟩:=y
 exact GoodW.toG ⟨.inl ⟨_, .bool true,[],rfl,λcls=>rfl, .bool true,zY _,λ_=>⟨.nil,λ_ h=>nomatch h⟩⟩,λb o e=>k b o e,rfl,hgens⟩
end Internal
namespace Internal
open PySem
noncomputable def dn(n:Nat)(ir:IR):Dn:=den tab (za tab n) ir
noncomputable def eM(n:Nat)(f:Value)(as:List MV):P MV:=za tab n f as
noncomputable def Nm(p:Prop):Prop:=p
noncomputable abbrev As:=MH->Prop
noncomputable def dP(S:As)(l:LA)(o:MO):Prop:=∀σ,S σ->σ.get l=some o
noncomputable def Us(S:As)(l:LA):Prop:=∀σ,S σ->σ.us l
noncomputable def Obj(S:As)(l:LA)(C:Addr)(fs:List (String×MV)):Prop:=∀σ,S σ->∃D,σ.get l=some (.inst C D)/\σ.get D=some (.ns fs)
noncomputable def Upd(S:As)(l:LA)(o:MO)(S':As):Prop:=∀σ,S σ->S' (σ.set l o)
noncomputable def wm(S:As)(l:LA)(x:String)(v:MV)(S':As):Prop:=∀σ,S σ->∃C D fs,(σ.get l=some (.inst C D)/\σ.get D=some (.ns fs)/\tab.am C x=true/\fs.length<=100)/\S' (σ.set D (.ns (gM x v fs)))
noncomputable def pX(S:As)(o:MO)(S':LA->As):Prop:=∀σ,S σ->∃r,¬σ.us r/\S' r (σ.new r o)
noncomputable abbrev Po:=MV->Loc->MH->Prop
section
variable {S:As}{loc:Loc}
noncomputable def fE(op:Operator)(x y v:MV):Prop:=∀ (loc:Loc)(σ:MH)(Q:Po),Q v loc σ->jT loc σ Q op x y
theorem fE.ok{op:Operator}{x y v:MV}(h:fE op x y v){loc:Loc}{σ:MH}{Q:Po}(q:Q v loc σ):jT loc σ Q op x y:=h _ _ _ q
section
variable {x y:Int}
theorem fE.add : fE .Add (.int x) (.int y) (.int (x+y)):=λ_ _ _=> .add
theorem fE.sub : fE .Sub (.int x) (.int y) (.int (x - y)):=λ_ _ _=> .sub
theorem fE.mul(h:Nm (x.natAbs < 2^32/\y.natAbs < 2^32)):fE .Mult (.int x) (.int y) (.int (x * y)):=λ_ _ _=> .mul h
theorem fE.fdiv(h:Nm (y≠0/\x.natAbs < 2^60/\y.natAbs < 2^60)):fE .FloorDiv (.int x) (.int y) (.int (x.fdiv y)):=λ_ _ _=> .fdiv h
theorem fE.mod(h:Nm (y≠0)):fE .Mod (.int x) (.int y) (.int (x.fmod y)):=λ_ _ _=> .mod h
theorem fE.shl(h:Nm (0<=y/\y<=1000/\x.natAbs < 2^64)):fE .LShift (.int x) (.int y) (.int (x * 2^y.toNat)):=λ_ _ _=> .shl h
theorem fE.shr(h:Nm (0<=y)):fE .RShift (.int x) (.int y) (.int (x.fdiv (2^y.toNat))):=λ_ _ _=> .shr h
theorem fE.band : fE .BitAnd (.int x) (.int y) (.int (Builtin.bitAnd x y)):=λ_ _ _=> .band
theorem fE.bor : fE .BitOr (.int x) (.int y) (.int (Builtin.bitOr x y)):=λ_ _ _=> .bor
theorem fE.Ed{x y:List UInt8}(h:Nm (x.length+y.length<=100000)):fE .Add (.bytes x) (.bytes y) (.bytes (x++y)):=λ_ _ _=> .Ed h
theorem fE.GA{x:List UInt8}(h:Nm (0<=y/\y<=1000/\x.length<=16/\x≠[])):fE .Mult (.bytes x) (.int y) (.bytes (List.replicate y.toNat x).flatten):=λ_ _ _=> .GA h
theorem fE.pow : fE .Pow (.int 10) (.int 12) (.int (10^12)):=λ_ _ _=> .pow
end
inductive Ma(x:MV):MO->Bool->Prop where
 |dI {k es} (e:x= .int k):Ma x (.bS es) (es.lookup k).isSome
 |list {vs} (t:Nm (vs.all (λv=>(v.fe x).isSome)=true)):Ma x (.list vs) (vs.any λv=>(v.fe x).getD false)
noncomputable def Ht(o:MO)(y v:MV):Prop:=∀ (l:LA)(loc:Loc)(σ:MH)(Q:Po),σ.get l=some o->Q v loc σ->lB loc σ Q (.ref l) y
theorem Ht.list{k:Int}{vs:List MV}{v:MV}(h:Nm (0<=k/\k < vs.length/\vs.length<=100000))(e:vs[k.toNat]?=some v):Ht (.list vs) (.int k) v:=λ_ _ _ _ f=> .list f h e
theorem Ht.ba{k:Int}{b:List UInt8}(h:Nm (0<=k/\k < b.length/\b.length<=100000)):Ht (.bW b) (.int k) (.int (b.getD k.toNat 0).toNat):=λ_ _ _ _ f=> .ba f h
theorem Ht.dS{x:String}{es:List (String×MV)}{v:MV}(e:es.lookup x=some v):Ht (.dD es) (.str x) v:=λ_ _ _ _ f=> .dS f e
noncomputable def Bh(o:MO)(k:Nat):Prop:=∀ (l:LA)(loc:Loc)(σ:MH)(Q:Po),σ.get l=some o->k<=100000->Q (.int k) loc σ->zP loc σ Q [.ref l]
theorem Bh.list{vs:List MV}:Bh (.list vs) vs.length:=λ_ _ _ _=> .list
theorem Bh.ba{b:List UInt8}:Bh (.bW b) b.length:=λ_ _ _ _=> .ba
noncomputable def dU(S:As)(op:CmpOp)(x y:MV)(k:Bool):Prop:=∀ (loc:Loc)(σ:MH)(Q:Po),S σ->Q (.bool k) loc σ->iB loc σ Q op x y
theorem dU.ok{op:CmpOp}{x y:MV}{k:Bool}(h:dU S op x y k){loc:Loc}{σ:MH}(s:S σ){Q:Po}(q:Q (.bool k) loc σ):iB loc σ Q op x y:=h _ _ _ s q
section
variable {x y:Int}
theorem dU.lt : dU S .Lt (.int x) (.int y) (decide (x < y)):=λ_ _ _ _=> .lt
theorem dU.le : dU S .LtE (.int x) (.int y) (decide (x<=y)):=λ_ _ _ _=> .le
theorem dU.gt : dU S .Gt (.int x) (.int y) (decide (x > y)):=λ_ _ _ _=> .gt
theorem dU.ge : dU S .GtE (.int x) (.int y) (decide (x≥y)):=λ_ _ _ _=> .ge
theorem dU.ne : dU S .NotEq (.int x) (.int y) (x != y):=λ_ _ _ _=> .ne
theorem dU.lD : dU S .Eq (.int x) (.int y) (x==y):=λ_ _ _ _=> .eq rfl
end
theorem dU.Ly{x y:Bool}:dU S .NotEq (.bool x) (.bool y) (!(x==y)):=λ_ _ _ _=> .Ly
theorem dU.is{x:MV}:dU S .Is x .none (Internal.M5 x):=λ_ _ _ _=> .is .none
theorem dU.vn{x:MV}:dU S .IsNot x .none (!Internal.M5 x):=λ_ _ _ _=> .vn .none
theorem dU.Mz{l m:LA}{C:Addr}{fs:List (String×MV)}(e:Obj S l C fs)(u:Us S m):dU S .IsNot (.ref l) (.ref m) (!decide (l=m)):=λ_ σ _ s=>(e σ s).elim λ_ e=> .vn (.ref e.1 (u σ s))
theorem dU.eqB{x y:List UInt8}:dU S .Eq (.bytes x) (.bytes y) (x==y):=λ_ _ _ _=> .eq rfl
theorem dU.inR{x:MV}{l:LA}{o:MO}{p:Bool}(e:dP S l o)(h:Ma x o p):dU S .In x (.ref l) p:=λ_ σ _ s q=>by
 cases h with
 |dI h=>subst h;exact .inD (e σ s) q
 |list t=>exact .MZ (e σ s) t q
section
variable {k l:LA}{x:MV}{vs ws:List MV}
theorem dU.K0(e:dP S k (.list vs))(f:dP S l (.list ws))(t:Nm (ga MV.ia vs ws=true)):dU S .Eq (.ref k) (.ref l) (ph MV.ia vs ws):=λ_ σ _ s=> .K0 (e σ s) (f σ s) t
theorem dU.Jy(e:dP S k (.list vs))(f:dP S l (.list ws))(t:Nm (ga MV.ia vs ws=true)):dU S .NotEq (.ref k) (.ref l) (!ph MV.ia vs ws):=λ_ σ _ s=> .Jy (e σ s) (f σ s) t
theorem dU.Ln(t:Nm (vs.all (λv=>(v.fe x).isSome)=true)):dU S .NotIn x (.tup vs) (!vs.any λv=>(v.fe x).getD false):=λ_ _ _ _=> .Ln t
end
noncomputable def zW(S:As)(x y v:MV):Prop:=∀ (loc:Loc)(σ:MH)(Q:Po),S σ->Q v loc σ->lB loc σ Q x y
theorem zW.ok{x y v:MV}(h:zW S x y v){loc:Loc}{σ:MH}(s:S σ){Q:Po}(q:Q v loc σ):lB loc σ Q x y:=h _ _ _ s q
theorem zW.oct{b:List UInt8}{k:Int}(h:Nm (0<=k/\k < b.length/\b.length<=100000)):zW S (.bytes b) (.int k) (.int (b.getD k.toNat 0).toNat):=λ_ _ _ _=> .oct h
theorem zW.tup{vs:List MV}{k:Int}{v:MV}(h:Nm (0<=k/\k < vs.length/\vs.length<=100000))(e:vs[k.toNat]?=some v):zW S (.tup vs) (.int k) v:=λ_ _ _ _=> .tup h e
theorem zW.ref{l:LA}{o:MO}{y v:MV}(f:dP S l o)(h:Ht o y v):zW S (.ref l) y v:=λ_ σ _ s=>h _ _ _ _ (f σ s)
noncomputable def ff(S:As)(f:Value)(vs:List MV)(v:MV):Prop:=∀ (n:Nat)(loc:Loc)(σ:MH)(Q:Po)(X:Addr->Loc->MH->Prop),S σ->Q v loc σ->eM n f vs loc σ Q X
theorem ff.ok{f:Value}{vs:List MV}{v:MV}(h:ff S f vs v){n:Nat}{loc:Loc}{σ:MH}(s:S σ){Q:Po}{X:Addr->Loc->MH->Prop}(q:Q v loc σ):eM n f vs loc σ Q X:=h _ _ _ _ _ s q
theorem ff.x7{b:List UInt8}(h:Nm (b.length<=100000)):ff S (.builtin "len") [.bytes b] (.int b.length):=λ_ _ _ _ _ _=>zP.oct h
theorem ff.len{l:LA}{o:MO}{k:Nat}(e:dP S l o)(g:Bh o k)(h:Nm (k<=100000)):ff S (.builtin "len") [.ref l] (.int k):=λ_ _ σ _ _ s=>g _ _ _ _ (e σ s) h
theorem ff.min{i j:Int}:ff S (.builtin "min") [.int i, .int j] (.int (if j < i then j else i)):=λ_ _ _ _ _ _=>Ib.mk
theorem ff.abs{i:Int}:ff S (.builtin "abs") [.int i] (.int (if i < 0 then -i else i)):=λ_ _ _ _ _ _=>IB.mk
theorem ff.sum{l:LA}{vs:List MV}{ns:List Int}(e:dP S l (.list vs))(f:intsOf vs=some ns):ff S (.builtin "sum") [.ref l] (.int ns.sum):=λ_ _ σ _ _ s=>H3.mk (e σ s) f
theorem ff.x6{b:List UInt8}:ff S (.type "bytes") [.bytes b] (.bytes b):=λ_ _ _ _ _ _=>i7.oct
theorem ff.vg{i:Int}(h:Nm (0<=i/\i<=100000)):ff S (.type "bytes") [.int i] (.bytes (List.replicate i.toNat 0)):=λ_ _ _ _ _ _=>i7.int h
theorem ff.oP{l:LA}{b:List UInt8}(e:dP S l (.bW b))(h:Nm (b.length<=100000)):ff S (.type "bytes") [.ref l] (.bytes b):=λ_ _ σ _ _ s=>i7.ba (e σ s) h
noncomputable def l8(v:MV)(p:Bool):Prop:=∀ (loc:Loc)(σ:MH)(Q:Bool->Loc->MH->Prop)(X:Addr->Loc->MH->Prop),Q p loc σ->P.truth v loc σ Q X
theorem l8.ok{v:MV}{p:Bool}(h:l8 v p){loc:Loc}{σ:MH}{Q:Bool->Loc->MH->Prop}{X:Addr->Loc->MH->Prop}(q:Q p loc σ):P.truth v loc σ Q X:=h _ _ _ _ q
theorem l8.bool{p:Bool}:l8 (.bool p) p:=λ_ _ _ _ q=>q
theorem l8.none : l8 .none false:=λ_ _ _ _ q=>q
theorem l8.oct{b:List UInt8}(h:Nm (b.length<=100000)):l8 (.bytes b) (!b.isEmpty):=λ_ _ _ _ q=>⟨h,q⟩
noncomputable def PE(loc:Loc)(S:As)(ir:IR)(v:MV):Prop:=∀ (σ:MH)(n:Nat)(Q:Po)(X:Addr->Loc->MH->Prop),S σ->Q v loc σ->(dn n ir).e loc σ Q X
noncomputable def PL(loc:Loc)(S:As)(ir:IR)(vs:List MV):Prop:=∀ (σ:MH)(n:Nat)(Q:List MV->Loc->MH->Prop)(X:Addr->Loc->MH->Prop),S σ->Q vs loc σ->P.gT (dn n ir).ms loc σ Q X
noncomputable def PB(loc:Loc)(S:As)(ir:IR)(p:Bool):Prop:=∀ (σ:MH)(n:Nat)(Q:Bool->Loc->MH->Prop)(X:Addr->Loc->MH->Prop),S σ->Q p loc σ->(dn n ir).b loc σ Q X
theorem PE.ok{ir:IR}{v:MV}(h:PE loc S ir v){σ:MH}(s:S σ){n:Nat}{Q:Po}{X:Addr->Loc->MH->Prop}(q:Q v loc σ):(dn n ir).e loc σ Q X:=h _ _ _ _ s q
theorem PL.ok{ir:IR}{vs:List MV}(h:PL loc S ir vs){σ:MH}(s:S σ){n:Nat}{Q:List MV->Loc->MH->Prop}{X:Addr->Loc->MH->Prop}(q:Q vs loc σ):P.gT (dn n ir).ms loc σ Q X:=h _ _ _ _ s q
theorem PB.ok{ir:IR}{p:Bool}(h:PB loc S ir p){σ:MH}(s:S σ){n:Nat}{Q:Bool->Loc->MH->Prop}{X:Addr->Loc->MH->Prop}(q:Q p loc σ):(dn n ir).b loc σ Q X:=h _ _ _ _ s q
theorem yM{i:Nat}{v:MV}{σ:MH}{Q:MV->Loc->MH->Prop}{X:Addr->Loc->MH->Prop}(h:loc[i]?=some (some v))(q:Q v loc σ):P.aa i loc σ Q X:=by unfold P.aa;refine ae h▸ ?_;exact q
theorem BS{p q:Bool}{Q:Bool->Loc->MH->Prop}{σ:MH}{A:Prop}(f:Q q loc σ->A)(h:Q (p&&q) loc σ):bif p then A else Q false loc σ:=match p,h with
 |true,h=>f h
 |false,h=>h
section
variable {a b c:IR}{v w u:MV}{l:LA}{x:String}
theorem PE.ag : PE loc S (.ag v) v:=λ_ _ _ _ _ q=>q
theorem PE.glob : PE loc S (.glob x v) v:=λ_ _ _ _ _ q=>q
theorem PE.nil : PE loc S .nil .none:=λ_ _ _ _ _ q=>q
theorem PE.aa{i:Nat}(h:loc[i]?=some (some v)):PE loc S (.aa i) v:=λ_ _ _ X _ q=>yM (X:=X) h q
theorem PE.bin{op:Operator}(h1:PE loc S a v)(h2:PE loc S b w)(h:fE op v w u):PE loc S (.bin op a b) u:=λ_ _ _ _ s q=>h1.ok s (h2.ok s (h.ok q))
theorem PE.cmp{op:CmpOp}{p:Bool}(h1:PE loc S a v)(h2:PE loc S b w)(h:dU S op v w p):PE loc S (.cmp op a b) (.bool p):=λ_ _ _ _ s q=>h1.ok s (h2.ok s (h.ok s q))
theorem PE.am{C:Addr}{fs:List (String×MV)}(h:PE loc S a (.ref l))(o:Obj S l C fs)(h3:tab.am C x=true)(h4:fs.lookup x=some v):PE loc S (.am a x) v:=λσ _ _ _ s q=>(o σ s).elim λ_ e=>h.ok s (.mk e.1 e.2 h3 h4 q)
theorem PE.item(h1:PE loc S a v)(h2:PE loc S b w)(h:zW S v w u):PE loc S (.item a b) u:=λ_ _ _ _ s q=>h1.ok s (h2.ok s (h.ok s q))
theorem PE.call{f:Value}{vs:List MV}(h1:PL loc S a vs)(h:ff S f vs v):PE loc S (.call x f a) v:=λ_ _ _ _ s q=>h1.ok s (h.ok s q)
theorem PE.tup{vs:List MV}(h1:PL loc S a vs)(h:Nm (vs.length<=100000)):PE loc S (.tup a) (.tup vs):=λ_ _ _ _ s q=>h1.ok s ⟨h,q⟩
theorem PE.get{k:Int}{d:List (Int×MV)}(h1:PE loc S a (.ref l))(h2:dP S l (.bS d))(h3:PE loc S b (.int k))(e:(d.lookup k).getD .none=v):PE loc S (.aO a "get" (.cons b .nil)) v:=λσ _ _ _ s q=>h1.ok s (.dI (h2 σ s) rfl (h3.ok s (sZ.one (h2 σ s) (e▸q))))
theorem PE.Mw{k:Int}{d:List (Int×MV)}(h1:PE loc S a (.ref l))(h2:dP S l (.bS d))(h3:PE loc S b (.int k))(h4:PE loc S c u)(e:(d.lookup k).getD u=v):PE loc S (.aO a "get" (.cons b (.cons c .nil))) v:=λσ _ _ _ s q=>h1.ok s (.dI (h2 σ s) rfl (h3.ok s (h4.ok s (sZ.two (h2 σ s) (e▸q)))))
theorem PE.Mp{p q:Bool}(h1:PE loc S a (.bool p))(h2:PE loc S b (.bool q)):PE loc S (.and a b) (.bool (p&&q)):=λ_ _ Q _ s g=>h1.ok s (by cases p;exact g;exact h2.ok s g)
theorem PE.ky{o1 o2:CmpOp}{p q:Bool}(h1:PE loc S a u)(h2:PE loc S b v)(h3:PE loc S c w)(h:dU S o1 u v p)(h':dU S o2 v w q):PE loc S (.ky o1 o2 a b c) (.bool (p&&q)):=λ_ _ Q _ s g=>h1.ok s (h2.ok s (h.ok s (by cases p;exact g;exact h3.ok s (h'.ok s g))))
theorem PE.x9{d:List UInt8}{i j:Option Int}(h1:PE loc S a (.bytes d))(h2:PE loc S b u)(h3:PE loc S c v)(e:eY u i)(f:eY v j)(h:Nm (d.length<=100000)):PE loc S (.slice a b c) (.bytes (cut d i j)):=λ_ _ _ _ s q=>h1.ok s (h2.ok s (h3.ok s ⟨_,_,e,f, .oct h q⟩))
theorem PE.Mv{i:Nat}(h:loc[i]?=some (some (.bool false)))(h1:PE loc S b v):PE loc S (.ite (.aa i) a b) v:=λ_ n Q X s q=>yM (X:=X) (Q:=λv l s=>P.truth v l s (λc l s=>bif c then _ else (dn n _).e l s Q X) X) h (h1.ok s q)
theorem PE.MC{y:List UInt8}(h:PE loc S a (.bytes y))(h1:PE loc S b v):PE loc S (.ite (.iq "str" a) c b) v:=λ_ _ _ _ s q=>h.ok s (.oct (h1.ok s q))
theorem PL.nil : PL loc S .nil []:=λ_ _ _ _ _ q=>q
theorem PL.cons{vs:List MV}(h1:PE loc S a v)(h2:PL loc S b vs):PL loc S (.cons a b) (v::vs):=λ_ _ _ _ s q=>h1.ok s (h2.ok s q)
section
variable {p q:Bool}
theorem PB.cmp{op:CmpOp}(h1:PE loc S a v)(h2:PE loc S b w)(h:dU S op v w p):PB loc S (.cmp op a b) p:=λ_ _ _ _ s q=>h1.ok s (h2.ok s (h.ok s q))
theorem PB.ky{o1 o2:CmpOp}(h1:PE loc S a u)(h2:PE loc S b v)(h3:PE loc S c w)(h:dU S o1 u v p)(h':dU S o2 v w q):PB loc S (.ky o1 o2 a b c) (p&&q):=λ_ _ _ _ s g=>h1.ok s (h2.ok s (h.ok s (BS (λg=>h3.ok s (h'.ok s g)) g)))
theorem PB.not(h:PB loc S a p):PB loc S (.not a) (!p):=λ_ _ _ _ s q=>h.ok s q
theorem PB.and(h1:PB loc S a p)(h2:PB loc S b q):PB loc S (.and a b) (p&&q):=λ_ _ _ _ s g=>h1.ok s (BS (λg=>h2.ok s g) g)
theorem PB.or(h1:PB loc S a p)(h2:PB loc S b q):PB loc S (.or a b) (p||q):=λ_ _ _ _ s g=>h1.ok s (match p,g with
 |true,g=>g
 |false,g=>h2.ok s g)
theorem PB.aa{i:Nat}(h:PE loc S (.aa i) v)(t:l8 v p):PB loc S (.aa i) p:=λ_ n _ _ s q=>h.ok s (n:=n) (t.ok q)
theorem PB.am(h:PE loc S (.am a x) v)(t:l8 v p):PB loc S (.am a x) p:=λ_ _ _ _ s q=>h.ok s (t.ok q)
theorem PB.item(h:PE loc S (.item a b) v)(t:l8 v p):PB loc S (.item a b) p:=λ_ _ _ _ s q=>h.ok s (t.ok q)
theorem PB.isI{i:Int}(h:PE loc S a (.int i)):PB loc S (.iq "int" a) true:=λ_ _ _ _ s q=>h.ok s (.int q)
theorem PB.Mt(h:PB loc S a p)(e:p=false){σ:MH}(s:S σ){n:Nat}{Q:Bool->Loc->MH->Prop}{X:Addr->Loc->MH->Prop}(q:Q false loc σ):(dn n (.and a b)).b loc σ Q X:=by
 subst e;exact h.ok s q
end
end
end
noncomputable def We{α:Type}(E:Addr->As->Prop)(S:As)(loc:Loc)(R:α->As->Prop)(m:P α):Prop:=
 ∀σ,S σ->∀ (Q:α->Loc->MH->Prop)(X:Addr->Loc->MH->Prop),(∀a σ' S',S' σ'->R a S'->Q a loc σ')->(∀C l σ' S',S' σ'->E C S'->X C l σ')->m loc σ Q X
noncomputable def Wp{α:Type}(E:Addr->As->Prop)(S:As)(loc:Loc)(T:α->Loc->As->Prop)(m:P α):Prop:=
 ∀σ,S σ->∀ (Q:α->Loc->MH->Prop)(X:Addr->Loc->MH->Prop),(∀f l σ' S',S' σ'->T f l S'->Q f l σ')->(∀C l σ' S',S' σ'->E C S'->X C l σ')->m loc σ Q X
noncomputable def Ct(E:Addr->As->Prop)(R:MV->As->Prop)(S:As)(a:Addr)(n:Nat)(args:List MV):Prop:=
 ∀σ,S σ->∀ (Q:MV->MH->Prop)(X:Addr->MH->Prop),(∀v σ' S',S' σ'->R v S'->Q v σ')->(∀C σ' S',S' σ'->E C S'->X C σ')->kY tab n a args σ Q X
inductive pQ{α:Type}(p q:α->Prop):Prop
 |mk {a} (h:p a)(k:q a)
structure Br(p:Bool)(A B:Prop):Prop where
 t : p=true->A
 f : p=false->B
noncomputable def L7(S:As)(l:LA)(x:String)(f:Value):Prop:=∀σ,S σ->∀ (loc:Loc)(Q:Value->Loc->MH->Prop),Q f loc σ->qh tab.toTb x loc σ Q (.ref l)
noncomputable def xZ(n:Nat)(b:IR)(T:MF->Loc->As->Prop)(E:Addr->As->Prop)(f:MF)(l:Loc)(S:As):Prop:=match f with
 | .next=>Wp E S l T (dn n b).s
 |f=>T f l S
inductive HR : Operator->Int->Int->Int->Prop where
 |add {i j}:HR .Add i j (i+j)
 |sub {i j}:HR .Sub i j (i - j)
inductive Ft : MO->String->String->Prop where
 |list {vs x id} (h:nM x=some id):Ft (.list vs) x id
 |ba {b x id} (h:tB x=some id):Ft (.bW b) x id
inductive uB(w:MV):MO->MV->MO->Prop where
 |list {k:Int} {vs} (h:Nm (0<=k/\k < vs.length/\vs.length<=100000)):uB w (.list vs) (.int k) (.list (vs.set k.toNat w))
 |ba {k x:Int} {b} (e:w= .int x)(h:Nm (0<=k/\k < b.length/\b.length<=100000/\0<=x/\x < 256)):uB w (.bW b) (.int k) (.bW (b.set k.toNat x.toNat.toUInt8))
 |dI {k es} (h:Nm (es.length<=100000)):uB w (.bS es) (.int k) (.bS (gW es k w))
 |dS {x es} (h:Nm (es.length<=100000)):uB w (.dD es) (.str x) (.dD (gW es x w))
section
variable {n:Nat}{loc loc':Loc}{S S' S1:As}{a b c t e o es:IR}{i:Nat}{f:Addr}{vs:List MV}{v w:MV}{p:Bool}{l:LA}{C:Addr}{fs:List (String×MV)}{x y:String}{R:MV->As->Prop}{T:MF->Loc->As->Prop}{E:Addr->As->Prop}
theorem bq(h:PE loc S a v)(q:R v S):We E S loc R (dn n a).e:=λσ s _ _ k _=>h.ok s (k v σ S s q)
theorem tX{α:Type}{m:P α}{R:α->As->Prop}(h:∀σ,S σ->S1 σ)(g:We E S1 loc R m):We E S loc R m:=λσ s=>g σ (h σ s)
theorem fM{α:Type}{m:P α}{T:α->Loc->As->Prop}(h:∀σ,S σ->S1 σ)(g:Wp E S1 loc T m):Wp E S loc T m:=λσ s=>g σ (h σ s)
theorem pW{args:List MV}(h:∀σ,S σ->S1 σ)(g:Ct E R S1 f n args):Ct E R S f n args:=λσ s=>g σ (h σ s)
theorem lG{op:Operator}(h:We E S loc (λv S1=>We E S1 loc (λw S2=>pQ (fE op v w) λu=>R u S2) (dn n b).e) (dn n a).e):We E S loc R (dn n (.bin op a b)).e:=
 λσ s Q X k x=>h σ s _ X (λ_ σ1 _ s1 g=>g σ1 s1 _ X (λ_ σ2 S2 s2 zz=>(by obtain⟨h,g⟩:=zz;exact h.ok (k _ σ2 S2 s2 g))) x) x
theorem u8(h:We E S loc (λv S1=>We E S1 loc (λw S2=>pQ (zW S2 v w) λu=>R u S2) (dn n b).e) (dn n a).e):We E S loc R (dn n (.item a b)).e:=
 λσ s Q X k x=>h σ s _ X (λ_ σ1 _ s1 g=>g σ1 s1 _ X (λ_ σ2 S2 s2 zz=>(by obtain⟨h,g⟩:=zz;exact h.ok s2 (k _ σ2 S2 s2 g))) x) x
theorem og{op:CmpOp}(h:We E S loc (λv S1=>We E S1 loc (λw S2=>pQ (dU S2 op v w) λu=>R (.bool u) S2) (dn n b).e) (dn n a).e):We E S loc R (dn n (.cmp op a b)).e:=
 λσ s Q X k x=>h σ s _ X (λ_ σ1 _ s1 g=>g σ1 s1 _ X (λ_ σ2 S2 s2 zz=>(by obtain⟨h,g⟩:=zz;exact h.ok s2 (k _ σ2 S2 s2 g))) x) x
theorem cm{R:List MV->As->Prop}(q:R [] S):We E S loc R (P.gT (dn n .nil).ms):=λσ s _ _ k _=>k _ σ S s q
theorem bk{R:List MV->As->Prop}(h:We E S loc (λv S1=>We E S1 loc (λvs S2=>R (v::vs) S2) (P.gT (dn n b).ms)) (dn n a).e):We E S loc R (P.gT (dn n (.cons a b)).ms):=
 λσ s Q X k x=>h σ s _ X (λ_ σ1 _ s1 g=>g σ1 s1 _ X (λ_ σ2 S2 s2 g=>k _ σ2 S2 s2 g) x) x
theorem c7{R:List MV->As->Prop}(h:PL loc S es vs)(q:R vs S):We E S loc R (P.gT (dn n es).ms):=λσ s _ _ k _=>h.ok s (k _ σ S s q)
theorem cV{f:Value}(h:We E S loc (λvs S1=>We E S1 loc R (eM n f vs)) (P.gT (dn n es).ms)):We E S loc R (dn n (.call x f es)).e:=
 λσ s Q X k x=>h σ s _ X (λ_ σ1 _ s1 g=>g σ1 s1 Q X k x) x
theorem er(h:Ct E R S f n vs):We E S loc R (eM n (.ref f) vs):=λσ s Q X k x=>h σ s (λv σ'=>Q v loc σ') (λC σ'=>X C loc σ') k λC σ' S' s' e=>x C loc σ' S' s' e
theorem cr(h:PL loc S es vs)(g:Ct E R S f n vs):We E S loc R (dn n (.call x (.ref f) es)).e:=cV (c7 h (er g))
theorem cM{f:Value}(ho:PE loc S o (.ref l))(m:L7 S l x f)(h:We E S loc (λvs S1=>We E S1 loc R (eM n f (.ref l::vs))) (P.gT (dn n es).ms)):We E S loc R (dn n (.aO o x es)).e:=
 λσ s Q X k x=>ho.ok s (m σ s _ _ (h σ s _ X (λ_ σ1 _ s1 g=>g σ1 s1 Q X k x) x))
theorem mT(o:Obj S l C fs)(h:fs.lookup x=none)(g:tab.aO C x=some f):L7 S l x (.ref f):=λσ s _ _ q=>(by refine aT (o σ s) λ_ e1 e2=> ?_;exact .inst e1 e2 h g q)
theorem gP{id:String}{o:MO}(g:dP S l o)(h:Ft o x id):L7 S l x (.builtin id):=λσ s _ _ q=>by
 cases h with
 |list h=>exact .list (g σ s) h q
 |ba h=>exact .ba (g σ s) h q
theorem bT(ho:PE loc S o (.ref l))(ob:Obj S l C fs)(h3:fs.lookup x=none)(h4:tab.aO C x=some f)(h:PL loc S es vs)(g:Ct E R S f n (.ref l::vs)):We E S loc R (dn n (.aO o x es)).e:=cM ho (mT ob h3 h4) (c7 h (er g))
theorem dz(h:We E S loc (λvs S1=>vs.length<=100000/\pQ (pX S1 (.list vs)) λS2=>∀r,R (.ref r) (S2 r)) (P.gT (dn n es).ms)):We E S loc R (dn n (.list es)).e:=
 λσ s Q X k q=>h σ s _ X (λv σ1 S1 s1 ⟨hl,h,g⟩=>(by refine aT (h σ1 s1) λr hr s2=> ?_;exact⟨hl,r,hr,k _ _ _ s2 (g r)⟩)) q
theorem Mj{f:Value}(h:ff S f vs v)(q:R v S):We E S loc R (eM n f vs):=λσ s _ _ k _=>h.ok s (k v σ S s q)
theorem l7{vs:List MV}(h:dP S l (.list vs))(hl:Nm (vs.length<=100000))(u:Upd S l (.list (vs++[v])) S')(q:R .none S'):We E S loc R (eM n (.builtin "list.append") [.ref l,v]):=λσ s _ _ k _=>DT.mk (h σ s) hl (k _ _ S' (u σ s) q)
theorem Ga{bs:List UInt8}{j:Int}(h:dP S l (.bW bs))(hl:Nm (bs.length<=100000/\0<=j/\j < 256))(u:Upd S l (.bW (bs++[j.toNat.toUInt8])) S')(q:R .none S'):We E S loc R (eM n (.builtin "bytearray.append") [.ref l, .int j]):=λσ s _ _ k _=>BN.mk (h σ s) hl (k _ _ S' (u σ s) q)
theorem Ia{bs cs:List UInt8}(h:dP S l (.bW bs))(hl:Nm (bs.length<=100000/\cs.length<=100000))(u:Upd S l (.bW (bs++cs)) S')(q:R .none S'):We E S loc R (eM n (.builtin "bytearray.extend") [.ref l, .bytes cs]):=λσ s _ _ k _=>v6.oct (h σ s) hl (k _ _ S' (u σ s) q)
theorem xz{S':LA->As}(u:pX S (.bW []) S')(q:∀r,R (.ref r) (S' r)):We E S loc R (eM n (.type "bytearray") []):=λσ s _ _ k _=>(by refine aT (u σ s) λr hr s'=> ?_;exact qI.nil hr (k _ _ _ s' (q r)))
theorem HL{bs:List UInt8}{S':LA->As}(hl:Nm (bs.length<=100000))(u:pX S (.bW bs) S')(q:∀r,R (.ref r) (S' r)):We E S loc R (eM n (.type "bytearray") [.bytes bs]):=λσ s _ _ k _=>(by refine aT (u σ s) λr hr s'=> ?_;exact qI.oct hl hr (k _ _ _ s' (q r)))
theorem B4{j:Int}{S':LA->As}(hl:Nm (0<=j/\j<=100000))(u:pX S (.bW (List.replicate j.toNat 0)) S')(q:∀r,R (.ref r) (S' r)):We E S loc R (eM n (.type "bytearray") [.int j]):=λσ s _ _ k _=>(by refine aT (u σ s) λr hr s'=> ?_;exact qI.int hl hr (k _ _ _ s' (q r)))
theorem fg{R:Bool->As->Prop}(h:PB loc S a p)(q:R p S):We E S loc R (dn n a).b:=λσ s _ _ k _=>h.ok s (k p σ S s q)
theorem uC{R:Bool->As->Prop}(h:We E S loc (λp S1=>R (!p) S1) (dn n a).b):We E S loc R (dn n (.not a)).b:=λσ s _ X k x=>h σ s _ X (λ_ σ1 S1 s1 g=>k _ σ1 S1 s1 g) x
theorem Ff{R:Bool->As->Prop}{es:IR}(h:We E S loc (λv S1=>pQ (l8 v) λp=>R p S1) (dn n (.aO o x es)).e):We E S loc R (dn n (.aO o x es)).b:=
 λσ s _ X k x=>h σ s _ X (λ_ σ1 S1 s1 zz=>(by obtain⟨t,g⟩:=zz;exact t.ok (k _ σ1 S1 s1 g))) x
theorem wT{R:Bool->As->Prop}(h:We E S loc (λp S1=>Br p (We E S1 loc R (dn n b).b) (R false S1)) (dn n a).b):We E S loc R (dn n (.and a b)).b:=by
 refine λσ s _ X k x=>h σ s _ X (λp σ1 S1 s1 g=> ?_) x
 cases p
 ·exact k _ σ1 S1 s1 (g.f rfl)
 ·exact g.t rfl σ1 s1 _ X k x
theorem io{R:Bool->As->Prop}{op:CmpOp}(h:We E S loc (λv S1=>We E S1 loc (λw S2=>pQ (dU S2 op v w) λu=>R u S2) (dn n b).e) (dn n a).e):We E S loc R (dn n (.cmp op a b)).b:=
 λσ s Q X k x=>h σ s _ X (λ_ σ1 _ s1 g=>g σ1 s1 _ X (λ_ σ2 S2 s2 zz=>(by obtain⟨h,g⟩:=zz;exact h.ok s2 (k _ σ2 S2 s2 g))) x) x
theorem bR{T:Unit->Loc->As->Prop}(hi:Nat.blt i loc.length=true)(q:T () (loc.set i (some v)) S):Wp E S loc T ((dn n (.aa i)).t v):=λσ s _ _ k _=>⟨aj hi,k () _ σ S s q⟩
theorem cX{T:Unit->Loc->As->Prop}(ho:PE loc S o (.ref l))(u:wm S l x v S')(q:T () loc S'):Wp E S loc T ((dn n (.am o x)).t v):=
 λσ s _ _ k _=>ho.ok s (by refine iR (u σ s) λ_ _ _ zo3_ s'=> ?_;refine ij zo3_ λe1 e2 e3 e4=> ?_;exact .mk e1 e2 e3 e4 (k () _ _ S' s' q))
theorem GZ{o o':MO}(g:dP S l o)(h:uB v o w o')(u:Upd S l o' S'){σ:MH}(s:S σ){Q:Unit->Loc->MH->Prop}(q:∀σ',S' σ'->Q () loc σ'):iO v loc σ Q (.ref l) w:=by
 have q:=q _ (u σ s)
 cases h with
 |list h=>exact .list (g σ s) h q
 |ba e h=>exact .ba (g σ s) e h q
 |dI h=>exact .dI (g σ s) h q
 |dS h=>exact .dS (g σ s) h q
theorem dW{T:Unit->Loc->As->Prop}{m m':MO}(ho:PE loc S o (.ref l))(hb:PE loc S b w)(g:dP S l m)(h:uB v m w m')(u:Upd S l m' S')(q:T () loc S'):Wp E S loc T ((dn n (.item o b)).t v):=
 λσ s _ _ k _=>ho.ok s (hb.ok s (GZ g h u s λσ' s'=>k () _ _ S' s' q))
theorem nL{T:Unit->Loc->As->Prop}{lo hi:IR}{u z:MV}{j k:Option Int}{bs cs:List UInt8}(ho:PE loc S o (.ref l))(hl:PE loc S lo u)(hh:PE loc S hi z)(c:eY u j)(d:eY z k)(g:dP S l (.bW bs))(h:Nm (bs.length<=100000/\cs.length<=100000))(w:Upd S l (.bW (gd bs j k cs)) S')(q:T () loc S'):Wp E S loc T ((dn n (.slice o lo hi)).t (.bytes cs)):=
 λσ s _ _ kk _=>ho.ok s (hl.ok s (hh.ok s ⟨_,_,c,d, .mk (g σ s) h (kk () _ _ S' (w σ s) q)⟩))
theorem i8{T:Unit->Loc->As->Prop}(q:T () loc S):Wp E S loc T ((dn n .nil).ts []):=λσ s _ _ k _=>k () _ σ S s q
theorem c8{T:Unit->Loc->As->Prop}{vs:List MV}(h:Wp E S loc (λ_ l S1=>Wp E S1 l T ((dn n b).ts vs)) ((dn n a).t v)):Wp E S loc T ((dn n (.cons a b)).ts (v::vs)):=
 λσ s Q X k x=>h σ s _ X (λ_ _ σ1 _ s1 g=>g σ1 s1 Q X k x) x
theorem jg{T:Unit->Loc->As->Prop}{vs:List MV}(e:vs.length=(dn n es).tn)(h:Wp E S loc T ((dn n es).ts vs)):Wp E S loc T ((dn n (.tup es)).t (.tup vs)):=λσ s Q X k x=>⟨e,h σ s Q X k x⟩
theorem bj(q:T .next loc S):Wp E S loc T (dn n .nil).s:=λσ s _ _ k _=>k _ _ σ S s q
theorem cC(h:PE loc S a v)(q:T (.ret v) loc S):Wp E S loc T (dn n (.cons (.ret a) b)).s:=λσ s _ _ k _=>h.ok s (n:=n) (k _ _ σ S s q)
theorem oH(h:PE loc S a v)(d:∀σ,S σ->S1 σ)(q:T (.ret v) loc S1):Wp E S loc T (dn n (.cons (.ret a) b)).s:=λσ s _ _ k _=>h.ok s (n:=n) (k _ _ σ S1 (d σ s) q)
theorem eX(h:We E S loc (λv S1=>T (.ret v) loc S1) (dn n a).e):Wp E S loc T (dn n (.cons (.ret a) b)).s:=λσ s _ X k x=>h σ s _ X (λ_ σ1 S1 s1 g=>k _ _ σ1 S1 s1 g) x
theorem x5(q:T (.ret .none) loc S):Wp E S loc T (dn n (.cons .A8 b)).s:=λσ s _ _ k _=>k _ _ σ S s q
theorem GH(q:T .brk loc S):Wp E S loc T (dn n (.cons .brk b)).s:=λσ s _ _ k _=>k _ _ σ S s q
theorem u9(q:E C S):Wp E S loc T (dn n (.cons (.raise x C y) b)).s:=λσ s _ _ _ x=>x _ _ σ S s q
theorem bY(h:We E S loc (λ_ S1=>Wp E S1 loc T (dn n b).s) (dn n a).e):Wp E S loc T (dn n (.cons (.expr a) b)).s:=λσ s Q X k x=>h σ s _ X (λ_ σ1 _ s1 g=>g σ1 s1 Q X k x) x
theorem gy(h:PE loc S a v)(hi:Nat.blt i loc.length=true)(g:Wp E S (loc.set i (some v)) T (dn n b).s):Wp E S loc T (dn n (.cons (.asg (.aa i) a) b)).s:=λσ s Q X k x=>h.ok s ⟨aj hi,g σ s Q X k x⟩
theorem de(hi:Nat.blt i loc.length=true)(h:We E S loc (λv S1=>Wp E S1 (loc.set i (some v)) T (dn n b).s) (dn n a).e):Wp E S loc T (dn n (.cons (.asg (.aa i) a) b)).s:=
 λσ s Q X k x=>h σ s _ X (λ_ σ1 _ s1 g=>⟨aj hi,g σ1 s1 Q X k x⟩) x
theorem Bb(h:PE loc S a v)(ho:PE loc S o (.ref l))(u:wm S l x v S')(g:Wp E S' loc T (dn n b).s):Wp E S loc T (dn n (.cons (.asg (.am o x) a) b)).s:=
 λσ s Q X k q=>h.ok s (ho.ok s (by refine iR (u σ s) λ_ _ _ e s'=> ?_;exact .mk e.1 e.2.1 e.2.2.1 e.2.2.2 (g _ s' Q X k q)))
theorem ct(h:We E S loc (λv S1=>Wp E S1 loc (λ_ l S2=>Wp E S2 l T (dn n b).s) ((dn n t).t v)) (dn n a).e):Wp E S loc T (dn n (.cons (.asg t a) b)).s:=
 λσ s Q X k x=>h σ s _ X (λ_ σ1 _ s1 g=>g σ1 s1 _ X (λ_ _ σ2 _ s2 g=>g σ2 s2 Q X k x) x) x
theorem jE{op:Operator}{i j r:Int}(ho:PE loc S o (.ref l))(ob:Obj S l C fs)(h3:tab.am C x=true)(h6:fs.lookup x=some (.int i))(h:PE loc S e (.int j))(hr:HR op i j r)(u:wm S l x (.int r) S')(g:Wp E S' loc T (dn n b).s):Wp E S loc T (dn n (.cons (.aug o x op e) b)).s:=by
 intro σ s Q X k q
 refine aT (ob σ s) λD e1 e2=> ?_
 refine iR (u σ s) λ_ _ _ zo3_ s'=> ?_;refine ij zo3_ λf1 f2 f3 f4=> ?_
 refine ho.ok s (.mk e1 e2 h3 h6 (h.ok s ?_))
 have m:=qs.mk (okA:=tab.am) (loc:=loc) (Q:=λ_ l1 σ1=>(dn n b).s l1 σ1 Q X) f1 f2 f3 f4 (g _ s' Q X k q)
 induction hr with
 |add=>exact .add m
 |sub=>exact .sub m
theorem ql{Q:MF->Loc->MH->Prop}{X:Addr->Loc->MH->Prop}(k:∀f l σ' S',S' σ'->T f l S'->Q f l σ')(x:∀C l σ' S',S' σ'->E C S'->X C l σ')(f:MF)(l:Loc)(σ':MH)(S':As)(s:S' σ')(g:xZ n b T E f l S') :
  (λf l s=>match f with | .next=>(dn n b).s l s Q X | f=>Q f l s : MF->Loc->MH->Prop) f l σ':=by
 cases f with
 |next=>exact g σ' s Q X k x
 |_=>exact k _ l σ' S' s g
theorem s7(h:We E S loc (λp S1=>Br p (Wp E S1 loc (xZ n b T E) (dn n a).s) (Wp E S1 loc (xZ n b T E) (dn n c).s)) (dn n t).b):Wp E S loc T (dn n (.cons (.dH t a c) b)).s:=by
 intro σ s Q X k x
 refine h σ s _ X (λp σ1 S1 s1 g=> ?_) x
 cases p
 ·exact g.f rfl σ1 s1 _ X (ql k x) x
 ·exact g.t rfl σ1 s1 _ X (ql k x) x
theorem w7(h:PB loc S t p)(g1:p=true->Wp E S loc (xZ n b T E) (dn n a).s)(g2:p=false->Wp E S loc (xZ n b T E) (dn n c).s):Wp E S loc T (dn n (.cons (.dH t a c) b)).s:=s7 (fg h ⟨g1,g2⟩)
theorem iG(h:PB loc S t p)(g1:p=true->Wp E S loc (xZ n b T E) (dn n a).s)(g2:p=false->Wp E S loc T (dn n b).s):Wp E S loc T (dn n (.cons (.dH t a .nil) b)).s:=w7 h g1 λq=>bj (g2 q)
theorem gE(h:We E S loc (λp S1=>Br p (Wp E S1 loc (xZ n b T E) (dn n a).s) (Wp E S1 loc T (dn n b).s)) (dn n t).b):Wp E S loc T (dn n (.cons (.dH t a .nil) b)).s:=
 s7 λσ s Q X k x=>h σ s Q X (λp σ1 S1 s1 g=>k p σ1 S1 s1 ⟨g.t,λq=>bj (g.f q)⟩) x
theorem jy(h:PB loc S t p)(e:p=true)(g:Wp E S loc (xZ n b T E) (dn n a).s):Wp E S loc T (dn n (.cons (.dH t a c) b)).s:=w7 h (λ_=>g) λq=>nomatch e.symm.trans q
theorem cO(h:PB loc S t p)(e:p=false)(g:Wp E S loc T (dn n b).s):Wp E S loc T (dn n (.cons (.dH t a .nil) b)).s:=w7 h (λq=>nomatch e.symm.trans q) λ_=>bj g
theorem Ix{k:Int}{ps:List (Int×MV)}(ho:PE loc S o (.ref l))(hi:PE loc S c (.int k))(e:dP S l (.bS ps))(h:Nm (ps.length<=100000/\ps.any (λe=>e.1=k)=true))(u:Upd S l (.bS (C1 ps k)) S')(g:Wp E S' loc T (dn n b).s):Wp E S loc T (dn n (.cons (.del o c) b)).s:=
 λσ s Q X k x=>ho.ok s (hi.ok s (.dI (e σ s) h (g _ (u σ s) Q X k x)))
theorem IC{k:Int}(ho:PE loc S o (.ref l))(hi:PE loc S c (.int k))(e:dP S l (.list vs))(h:Nm (0<=k/\k < vs.length/\vs.length<=100000))(u:Upd S l (.list (vs.eraseIdx k.toNat)) S')(g:Wp E S' loc T (dn n b).s):Wp E S loc T (dn n (.cons (.del o c) b)).s:=
 λσ s Q X k x=>ho.ok s (hi.ok s (.list (e σ s) h (g _ (u σ s) Q X k x)))
theorem Dl(h:PB loc S t p)(e:p=false)(g:Wp E S loc T (dn n b).s):Wp E S loc T (dn n (.cons (.dH (.and t c) a .nil) b)).s:=s7 (λσ s _ _ k _=>h.Mt e s (k _ σ S s ⟨λq=>(aE q).elim,λ_=>bj g⟩))
theorem t8{k a ar nl:Nat}{dm args:List MV}{ir:IR}(h:tab.fn a=some (ar,nl,dm,ir))(hl:(Nat.ble args.length ar&&Nat.ble ar (args.length+dm.length))=true)
  (hb:Wp E S ((args++dm.drop (dm.length - (ar - args.length))).map some++List.replicate (nl - ar) none) (λf _ S'=>R (f0 f) S') (dn k ir).s):Ct E R S a (k+1) args:=by
 intro σ s Q X k x
 dsimp only[kY];rw[h];exact⟨⟨aj (an.mp hl).1,aj (an.mp hl).2⟩,hb σ s _ _ (λ_ _=>k _) λC _=>x C⟩
noncomputable def HO(S:As)(C:Addr)(S':LA->LA->As):Prop:=∀σ,S σ->∃l d,(¬σ.us l/\¬σ.us d/\l≠d)/\S' l d ((σ.new d (.ns [])).new l (.inst C d))
theorem im{k C init:Addr}{args:List MV}{S':LA->LA->As}(h1:tab.fn C=none)(h2:tab.cls C=some init)(nw:HO S C S')(g:∀l d,Ct E (λv S1=>v= .none/\R (.ref l) S1) (S' l d) init k (.ref l::args)):Ct E R S C (k+1) args:=by
 intro σ s Q X kk x
 dsimp only[kY];refine ae h1▸ ?_;dsimp only;rw[h2]
 refine eA (nw σ s) λl d hn s'=> ?_
 exact⟨l,d,hn,g l d _ s' _ X (λv σ' S' s' zz=>by obtain⟨e,q⟩:=zz;subst e;exact kk _ _ _ s' q) x⟩
theorem dh{k a nl:Nat}{x0:MV}{ir:IR}(h:tab.fn a=some (1,nl,[],ir))(hb:Wp E S (some x0::List.replicate (nl - 1) none) (λf _ S'=>R (f0 f) S') (dn k ir).s):Ct E R S a (k+1) [x0]:=t8 h rfl hb
theorem df{k a nl:Nat}{x0 x1:MV}{ir:IR}(h:tab.fn a=some (2,nl,[],ir))(hb:Wp E S (some x0::some x1::List.replicate (nl - 2) none) (λf _ S'=>R (f0 f) S') (dn k ir).s):Ct E R S a (k+1) [x0,x1]:=t8 h rfl hb
theorem fH{k a nl:Nat}{x0 x1 x2:MV}{ir:IR}(h:tab.fn a=some (3,nl,[],ir))(hb:Wp E S (some x0::some x1::some x2::List.replicate (nl - 3) none) (λf _ S'=>R (f0 f) S') (dn k ir).s):Ct E R S a (k+1) [x0,x1,x2]:=t8 h rfl hb
theorem k9{k a nl:Nat}{x0 x1 x2 x3:MV}{ir:IR}(h:tab.fn a=some (4,nl,[],ir))(hb:Wp E S (some x0::some x1::some x2::some x3::List.replicate (nl - 4) none) (λf _ S'=>R (f0 f) S') (dn k ir).s):Ct E R S a (k+1) [x0,x1,x2,x3]:=t8 h rfl hb
end
noncomputable def rO(S:As)(it:It)(r:Option (MV×It)):Prop:=∀σ,S σ->Nx σ it r
noncomputable def bd(J:Loc->As->Prop)(T:MF->Loc->As->Prop)(f:MF)(l:Loc)(S:As):Prop:=match f with
 | .next=>J l S
 | .cont=>J l S
 | .brk=>T .next l S
 | .ret v=>T (.ret v) l S
noncomputable abbrev Wf(n:Nat)(t b:IR)(N:Nat)(it:It)(loc:Loc)(S:As)(T:MF->Loc->As->Prop)(E:Addr->As->Prop):Prop:=Wp E S loc T (P.yc (dn n t).t (dn n b).s (P.ret .next) N it)
inductive Fo(n:Nat)(tt:Bool)(t b:IR)(it:It)(loc:Loc)(S:As)(T:MF->Loc->As->Prop)(E:Addr->As->Prop):Prop
 |mk (N:Nat)(h:(!it.dT||tt)=true)(g:Wf n t b N it loc S T E)
section
variable {n:Nat}{loc:Loc}{S:As}{a b c t i:IR}{l:LA}{vs:List MV}{v:MV}{T:MF->Loc->As->Prop}{E:Addr->As->Prop}{R:It->As->Prop}{tt:Bool}
theorem lI{it:Nat->It}{L:Nat}{I:Nat->Loc->As->Prop}
  (step:∀i loc S,i < L->I i loc S->pQ (λv=>rO S (it i) (some (v,it (i+1)))) λv=>Wp E S loc (λ_ l S1=>Wp E S1 l (bd (I (i+1)) T) (dn n b).s) ((dn n t).t v))
  (stop:∀loc S,I L loc S->rO S (it L) none/\T .next loc S):∀ (k i:Nat)(loc:Loc)(S:As),i+k=L->I i loc S->Wf n t b (k+1) (it i) loc S T E
 |0,i,loc,S,e,h=>λσ s Q X k x=>by
  subst e
  exact .stop ((stop loc S h).1 σ s) (k _ _ σ S s (stop loc S h).2)
 |k+1,i,loc,S,e,h=>λσ s Q X kk x=>by
  have ⟨h1,g⟩:=step i loc S (e▸Nat.lt_add_of_pos_right (Nat.succ_pos k)) h
  refine .turn (h1 σ s) (g σ s _ X (λ_ l1 σ1 S1 s1 g=>g σ1 s1 _ X (λf l2 σ2 S2 s2 g=> ?_) x) x)
  cases f with
  |next=>exact lI step stop k (i+1) l2 S2 ((Nat.succ_add_eq_add_succ i k).trans e) g σ2 s2 Q X kk x
  |cont=>exact lI step stop k (i+1) l2 S2 ((Nat.succ_add_eq_add_succ i k).trans e) g σ2 s2 Q X kk x
  |brk=>exact kk _ _ σ2 S2 s2 g
  |ret v=>exact kk _ _ σ2 S2 s2 g
theorem s0(h:We E S loc (λit S1=>Fo n tt t b it loc S1 (xZ n c T E) E) (dn n i).it):Wp E S loc T (dn n (.cons (.fR tt t i b) c)).s:=λσ s Q X k x=>by
 refine h σ s _ X (λit σ1 S1 s1 ⟨N,h,g⟩=>⟨λq=> ?_,N,g σ1 s1 _ X (ql k x) x⟩) x
 replace h:=q▸h;exact h
theorem dj{it:Nat->It}{L:Nat}{I:Nat->Loc->As->Prop}(h:We E S loc (λi0 S1=>i0=it 0/\I 0 loc S1) (dn n i).it)(hn:(!(it 0).dT||tt)=true)
  (step:∀i loc S,i < L->I i loc S->pQ (λv=>rO S (it i) (some (v,it (i+1)))) λv=>Wp E S loc (λ_ l S1=>Wp E S1 l (bd (I (i+1)) (xZ n c T E)) (dn n b).s) ((dn n t).t v))
  (stop:∀loc S,I L loc S->rO S (it L) none/\Wp E S loc T (dn n c).s):Wp E S loc T (dn n (.cons (.fR tt t i b) c)).s:=
 s0 λσ s Q X k x=>h σ s Q X (λi0 σ1 S1 s1 zz=>(by refine dw zz λe g=> ?_;exact k i0 σ1 S1 s1 (e▸ .mk (L+1) hn (lI step stop L 0 loc S1 (bZ L) g)))) x
theorem jh(h:PE loc S a (.ref l))(e:dP S l (.list vs))(q:R (.lst l 0) S):We E S loc R (dn n (.iter a)).it:=λσ s _ _ k _=>h.ok s (.lst (e σ s) (k _ σ S s q))
theorem H7{b:List UInt8}(h:PE loc S a (.bytes b))(q:R (.rF b 0) S):We E S loc R (dn n (.iter a)).it:=λσ s _ _ k _=>h.ok s (.rF (k _ σ S s q))
theorem ES(h:We E S loc (λv S1=>pQ (λl=>v= .ref l) λl=>pQ (λvs=>dP S1 l (.list vs)) λ_=>R (.lst l 0) S1) (dn n a).e):We E S loc R (dn n (.iter a)).it:=
 λσ s _ X k x=>h σ s _ X (λv σ1 S1 s1 zz=>by obtain⟨e,e1,q⟩:=zz;subst e;exact .lst (e1 σ1 s1) (k _ σ1 S1 s1 q)) x
theorem nJ(h:PE loc S a (.ref l))(e:dP S l (.list vs))(p:Nm (vs.length<=100000))(q:R (.nT l 0) S):We E S loc R (dn n (.enum a)).it:=λσ s _ _ k _=>h.ok s (.mk (e σ s) p (k _ σ S s q))
theorem IP(h:We E S loc (λv S1=>pQ (λl=>v= .ref l) λl=>pQ (λvs=>dP S1 l (.list vs)/\vs.length<=100000) λvs=>R (.rev l vs.length) S1) (dn n a).e):We E S loc R (dn n (.rev a)).it:=
 λσ s _ X k x=>h σ s _ X (λv σ1 S1 s1 zz=>by obtain⟨e,e1,q⟩:=zz;subst e;exact .mk (e1.1 σ1 s1) e1.2 (k _ σ1 S1 s1 q)) x
theorem iX{j:Int}(h:PL loc S a [.int j])(p:Nm (-(2^60)<=j/\j < 2^60))(q:R (.jK 0 (if 0 < j then j - 0 else 0) 1) S):We E S loc R (dn n (.range a)).it:=λσ s _ _ k _=>h.ok s (.one p (k _ σ S s q))
theorem yT{i j:Int}(h:PL loc S a [.int i, .int j])(p:Nm (-(2^60)<=i/\i < 2^60/\ -(2^60)<=j/\j < 2^60))(q:R (.jK i (if i < j then j - i else 0) 1) S):We E S loc R (dn n (.range a)).it:=λσ s _ _ k _=>h.ok s (.two p (k _ σ S s q))
theorem Fj{i j m:Int}(h:PL loc S a [.int i, .int j, .int m])(p:Nm (-(2^60)<=i/\i < 2^60/\ -(2^60)<=j/\j < 2^60/\0 < m/\m < 2^60))(q:R (.jK i (if i < j then (j - i - 1) / m+1 else 0) m) S):We E S loc R (dn n (.range a)).it:=λσ s _ _ k _=>h.ok s (.three p (k _ σ S s q))
theorem ik{i:Nat}(e:dP S l (.list vs))(g:vs[i]?=some v):rO S (.lst l i) (some (v, .lst l (i+1))):=λσ s=> .lst (e σ s) g
theorem fj(e:dP S l (.list vs)):rO S (.lst l vs.length) none:=λσ s=> .La (e σ s) (List.getElem?_eq_none (aG _))
theorem rh{i:Nat}(e:dP S l (.list vs))(g:vs[i]?=some v):rO S (.nT l i) (some (.tup [.int i,v], .nT l (i+1))):=λσ s=> .nT (e σ s) g
theorem nA(e:dP S l (.list vs)):rO S (.nT l vs.length) none:=λσ s=> .K1 (e σ s) (List.getElem?_eq_none (aG _))
noncomputable def g6(x d:Int)(L:Nat)(i:Nat):It:= .jK (x+i * d) (L - i : Nat) d
theorem t9{x d:Int}{L i:Nat}(h:i < L):rO S (g6 x d L i) (some (.int (x+i * d),g6 x d L (i+1))):=λσ s=>by
 have:=Nx.jK (σ:=σ) (x:=x+i * d) (left:=(L - i : Nat)) (step:=d) (aX.mpr (Nat.sub_pos_of_lt h))
 rwa [show x+i * d+d=x+(i+1 : Nat) * d from (Int.add_assoc ..).trans (ah (x+·) ((ah (i * d+·) (Int.one_mul d).symm).trans (Int.add_mul i 1 d).symm)),HU h] at this
theorem gu{x d:Int}{L:Nat}:rO S (g6 x d L L) none:=λσ s=> .K2 (by refine ae (Nat.sub_self ..)▸ ?_;decide)
noncomputable def Wn(loc:Loc)(S:As)(b t:IR)(k:Nat)(E:Addr->As->Prop)(n:Nat)(T:MF->Loc->As->Prop):Prop:=Wp E S loc T (P.rt (dn n t).b (dn n b).s (P.ret .next) k)
theorem i1{k:Nat}(h:We E S loc (λp S1=>Br p (Wp E S1 loc (bd (λl S=>Wn l S b t k E n T) T) (dn n b).s) (T .next loc S1)) (dn n t).b):Wn loc S b t (k+1) E n T:=by
 refine λσ s Q X kk x=>h σ s _ X (λp σ1 S1 s1 g=> ?_) x
 cases p
 ·exact kk _ _ σ1 S1 s1 (g.f rfl)
 ·refine g.t rfl σ1 s1 _ X (λf l2 σ2 S2 s2 g=> ?_) x
  cases f with
  |next=>exact g σ2 s2 Q X kk x
  |cont=>exact g σ2 s2 Q X kk x
  |brk=>exact kk _ _ σ2 S2 s2 g
  |ret v=>exact kk _ _ σ2 S2 s2 g
theorem pS(k:Nat)(h:Wn loc S b t k E n (xZ n c T E)):Wp E S loc T (dn n (.cons (.gS t b) c)).s:=λσ s Q X kk x=>⟨k,h σ s _ X (ql kk x) x⟩
theorem Fi{J J':Loc->As->Prop}(h:∀l S,J l S->J' l S){f:MF}{l:Loc}{S:As}(g:bd J T f l S):bd J' T f l S:=by
 cases f with
 |next=>exact h _ _ g
 |cont=>exact h _ _ g
 |brk=>exact g
 |ret v=>exact g
theorem vW{I:Nat->Loc->As->Prop}(k:Nat)(h:I k loc S)(h0:∀loc S,¬I 0 loc S)
  (step:∀k loc S,I (k+1) loc S->We E S loc (λp S1=>Br p (Wp E S1 loc (bd (I k) (xZ n c T E)) (dn n b).s) (Wp E S1 loc T (dn n c).s)) (dn n t).b):Wp E S loc T (dn n (.cons (.gS t b) c)).s:=by
 have all : ∀k loc S,I k loc S->Wn loc S b t k E n (xZ n c T E):=by
  intro k
  induction k with
  |zero=>exact λloc S h=>(h0 loc S h).elim
  |succ k ih=>exact λloc S h=>i1 λσ s Q X kk x=>step k loc S h σ s Q X (λp σ1 S1 s1 g=>kk p σ1 S1 s1 ⟨λe σ s Q X kk x=>g.t e σ s Q X (λf l σ' S' s' g=>kk f l σ' S' s' (Fi ih g)) x,g.f⟩) x
 exact pS k (all k loc S h)
noncomputable def zE(cmap:List (Option Nat))(loc:Loc):Bool:=cmap.all λo=>match o with
 |none=>true
 |some j=>match loc[j]? with
  |some (some _)=>true
  |_=>false
theorem zg{cmap:List (Option Nat)}(h:zE cmap loc=true):oz cmap loc:=λi j e=>by
 have:=List.all_eq_true.mp h _ (au e)
 dsimp only at this
 split at this
 ·exact⟨_,‹_›⟩
 ·cases this
noncomputable abbrev Ej : Addr->As->Prop:=λ_ _=>False
theorem n5{tg ifs el:IR}{it:Nat->It}{L:Nat}{I:Nat->List MV->Loc->As->Prop}{D:List MV->As->Prop}
  (step:∀i acc loc S,i < L->I i acc loc S->acc.length<=100000/\pQ (λv=>rO S (it i) (some (v,it (i+1)))) λv=>Wp Ej S loc (λ_ l S1=>We Ej S1 l (λb S2=>Br b (We Ej S2 l (λy S3=>I (i+1) (acc++[y]) l S3) (dn n el).e) (I (i+1) acc l S2)) (dn n ifs).c) ((dn n tg).t v))
  (stop:∀acc loc S,I L acc loc S->rO S (it L) none/\D acc S):∀ (k i:Nat)(acc:List MV)(loc:Loc)(S:As),i+k=L->I i acc loc S->Wp Ej S loc (λacc _ S=>D acc S) (P.lE (dn n tg).t (dn n ifs).c (dn n el).e (k+1) (it i) acc)
 |0,i,acc,loc,S,e,h=>λσ s Q X k x=>by
  subst e
  exact .stop ((stop acc loc S h).1 σ s) (k _ _ σ S s (stop acc loc S h).2)
 |k+1,i,acc,loc,S,e,h=>λσ s Q X kk x=>by
  have ⟨hl,h1,g⟩:=step i acc loc S (e▸Nat.lt_add_of_pos_right (Nat.succ_pos k)) h
  have X' : ∀ {C l σ' S'},S' σ'->Ej C S'->X C l σ':=λ_ h=>h.elim
  refine .turn (h1 σ s) ⟨hl,g σ s _ X (λ_ l1 σ1 S1 s1 g=>g σ1 s1 _ X (λb σ2 S2 s2 g=> ?_) λ_ _ _ _=>X') λ_ _ _ _=>X'⟩
  cases b
  ·exact n5 step stop k (i+1) acc l1 S2 ((Nat.succ_add_eq_add_succ i k).trans e) (g.f rfl) σ2 s2 Q X kk x
  ·exact g.t rfl σ2 s2 _ X (λy σ3 S3 s3 g=>n5 step stop k (i+1) _ l1 S3 ((Nat.succ_add_eq_add_succ i k).trans e) g σ3 s3 Q X kk x) λ_ _ _ _=>X'
theorem fT{R:MV->As->Prop}{cn:List Str}{cmap:List (Option Nat)}{tg ifs el:IR}{it:Nat->It}{L:Nat}{I:Nat->List MV->Loc->As->Prop}(h:We E S loc (λi0 S1=>i0=it 0/\I 0 [] (eS cmap loc) S1) (dn n i).it)(hn:((!(it 0).dT||tt)&&(it 0).plain&&zE cmap loc)=true)
  (step:∀i acc loc S,i < L->I i acc loc S->acc.length<=100000/\pQ (λv=>rO S (it i) (some (v,it (i+1)))) λv=>Wp Ej S loc (λ_ l S1=>We Ej S1 l (λb S2=>Br b (We Ej S2 l (λy S3=>I (i+1) (acc++[y]) l S3) (dn n el).e) (I (i+1) acc l S2)) (dn n ifs).c) ((dn n tg).t v))
  (stop:∀acc loc S,I L acc loc S->rO S (it L) none/\pQ (pX S (.list acc)) λS'=>∀r,R (.ref r) (S' r)):We E S loc R (dn n (.comp cn cmap tt i tg ifs el)).e:=by
 have hm:=an.mp (an.mp hn).1
 refine λσ s Q X k x=>h σ s _ X (λi0 σ1 S1 s1 ⟨e,g⟩=> ?_) x
 subst e
 refine⟨λq=> ?_,hm.2,zg (an.mp hn).2,L+1,n5 step stop L 0 [] _ S1 (bZ L) g σ1 s1 _ _ (λacc l σ' S' s' ⟨nw,q⟩=>(by refine aT (nw σ' s') λr hr s2=> ?_;exact⟨r,hr,k _ _ _ s2 (q r)⟩)) λ_ _ _ _ _ h=>h⟩
 have:=hm.1;replace this:=q▸this;exact this
theorem fS{R:Bool->As->Prop}(q:R true S):We E S loc R (dn n .nil).c:=λσ s _ _ k _=>k true σ S s q
theorem tW{R:Bool->As->Prop}(h:We E S loc R (dn n a).b):We E S loc R (dn n (.cons a .nil)).c:=h
inductive JH(S:As)(R:MV->As->Prop):MV->MV->Prop
 |mk {k l vs ws S'} (e:dP S k (.list vs))(f:dP S l (.list ws))(h:vs.length+ws.length<=100000)(nw:pX S (.list (vs++ws)) S')(q:∀r,R (.ref r) (S' r)):JH S R (.ref k) (.ref l)
theorem tS{R:MV->As->Prop}(h:We E S loc (λv S1=>We E S1 loc (λw S2=>JH S2 R v w) (dn n b).e) (dn n a).e):We E S loc R (dn n (.bin .Add a b)).e:=
 λσ s Q X k x=>h σ s _ X (λ_ σ1 _ s1 g=>g σ1 s1 _ X (λ_ σ2 S2 s2 g=>by
  cases g with | mk e f h nw q=>exact (by refine aT (nw σ2 s2) λr hr s3=> ?_;exact .K4 (e σ2 s2) (f σ2 s2) h hr (k _ _ _ s3 (q r)))) x) x
theorem FR{R:MV->As->Prop}{S':LA->As}(e:dP S l (.list vs))(h:vs.length<=1000)(nw:pX S (.list vs) S')(q:∀r,R (.ref r) (S' r)):We E S loc R (eM n (.type "list") [.ref l]):=λσ s _ _ k _=>(by refine aT (nw σ s) λr hr s2=> ?_;exact wW.mk (e σ s) h hr (k _ _ _ s2 (q r)))
theorem n6{R:MV->As->Prop}{ns:List Int}(e:dP S l (.list vs))(h:vs.length<=100000)(f:intsOf vs=some ns)(g:∀n∈ns,0<=n/\n < 256)(q:R (.bytes (ns.map λn=>n.toNat.toUInt8)) S):We E S loc R (eM n (.type "bytes") [.ref l]):=λσ s _ _ k _=>i7.list (e σ s) h f g (k _ _ S s q)
end
noncomputable abbrev Cell:=LA×MO
structure Zs(Z:List Cell)(σ:MH):Prop where
 get : ∀p∈Z,σ.get p.1=some p.2/\σ.us p.1
 nd : (Z.map (·.1)).Nodup
 fr : ∃N,∀i,N<=i->¬σ.us (.tm i)
section
variable {Z Z':List Cell}{σ:MH}{l d:LA}{o o':MO}{C:Addr}
theorem Zs.perm(h:Zs Z σ)(e:Z.Perm Z'):Zs Z' σ:=⟨λp m=>h.get p (e.mem_iff.mpr m),(e.map _).nodup_iff.mp h.nd,h.fr⟩
theorem Zs.sub(h:Zs Z σ)(e:Z'.Sublist Z):Zs Z' σ:=⟨λp m=>h.get p (e.mem m),h.nd.sublist (e.map _),h.fr⟩
theorem Zs.upd(h:Zs ((l,o)::Z) σ):Zs ((l,o')::Z) (σ.set l o'):=by
 refine⟨λp m=> ?_,h.nd,h.fr⟩
 refine Or.elim (aK.mp m) (λe=> ?_) λm=> ?_
 ·subst e;exact⟨if_pos rfl,(h.get _ (.head _)).2⟩
 ·have:=h.get p (.tail _ m)
  exact⟨(if_neg λe=>(List.nodup_cons.mp h.nd).1 (cq.mpr ⟨p,m,e⟩)).trans this.1,this.2⟩
theorem Zs.put(h:Zs Z σ){N:Nat}(hN:∀i,N<=i->¬σ.us (.tm i)):Zs ((.tm N,o)::Z) (σ.new (.tm N) o):=by
 have ne : ∀p∈Z,p.1≠ .tm N:=λp m e=>hN N (aG _) (e▸(h.get p m).2)
 refine⟨λp m=> ?_,List.nodup_cons.mpr ⟨λm=>(by obtain⟨p,m,e⟩:=cq.mp m;exact ne p m e),h.nd⟩,N+1,λi hi u=>u.elim (λe=> ?_) (hN i (ad (Nat.le_add_right_of_le (aG _)) hi))⟩
 ·rcases aK.mp m with e | m
  ·subst e;exact⟨if_pos rfl, .inl rfl⟩
  ·exact⟨(if_neg (ne p m)).trans (h.get p m).1, .inr (h.get p m).2⟩
 ·cases e;exact absurd hi (Nat.not_succ_le_self _)
theorem Zs.new : pX (Zs Z) o λr=>Zs ((r,o)::Z):=λ_ h=>(by obtain⟨N,hN⟩:=h.fr;exact⟨.tm N,hN N (aG _),h.put hN⟩)
theorem tE : ∀ {Z:List Cell}{i:Nat}{p q:Cell},Z[i]?=some p->∃Y,Z.Perm (p::Y)/\(Z.set i q).Perm (q::Y)
 | [],_,_,_,e=>nomatch e
 |a::Z,0,_,_,e=>by cases e;exact⟨Z, .refl _, .refl _⟩
 |a::Z,i+1,p,q,e=>(by refine aT (tE (Z:=Z) (q:=q) e) λY h1 h2=> ?_;exact⟨a::Y,(h1.cons a).trans (.swap ..),(h2.cons a).trans (.swap ..)⟩)
theorem Zs.set{i:Nat}(e:Z[i]?=some (l,o)):Upd (Zs Z) l o' (Zs (Z.set i (l,o'))):=λσ h=>
 let ⟨_,h1,h2⟩:=tE e;(h.perm h1).upd.perm h2.symm
theorem Zs.Jt{i:Nat}{p q:Cell}(h:Zs (q::Z) σ)(e:Z[i]?=some p):Zs (Z.set i q) σ:=by
 refine aT (tE (q:=q) e) λY h1 h2=> ?_
 exact ((h.perm (h1.cons q)).sub (.cons_cons q (.cons p (.refl Y)))).perm h2.symm
end
structure yl where
 l : LA
 d : LA
 r : LA
noncomputable def dk{β:Type}(f:Int->β)(g:β->MV)(ks:List Int):List (Int×MV):=ks.map λk=>(k,g (f k))
structure En where
 a : Nat->LA
 nb : Int
structure Lo(g:En) where
 kk : List Int
 e : Int->List UInt8
 lk : List Int
 d : Int->List UInt8
 un : LA
 ch : List (Int×List UInt8)
 wr : Int
 fl : Int
 row : List Int
 ks : List Int
 bn : Int->yl
 hold : Option Int
 pins : List Int
 c : Int->List UInt8
 hits : Int
 rd : Int
 cw : Int
 nm : LA
 nums : List Int
 nt : LA
 nd : List Int
 calls : Int
 D9 : Int
noncomputable abbrev zeros : List UInt8:=List.replicate 64 0
noncomputable def lN(p:Int×List UInt8):MV:= .tup [.int p.1, .bytes p.2]
noncomputable abbrev yl.ref(x:yl):MV:= .ref x.l
noncomputable def iA(p:Bool):Int:=bif p then 1 else 0
section
variable {g:En}(h:Lo g)
noncomputable abbrev Lo.a(h:Lo g):Nat->LA:=g.a
noncomputable abbrev Lo.nb(h:Lo g):Int:=g.nb
noncomputable def Lo.nsD : List (String×MV):=[("blocks", .int h.nb),("size", .int 64),("kept", .ref (h.a 2)),("latest", .ref (h.a 3)),("unflushed", .ref h.un),("writes", .int h.wr),("flushes", .int h.fl),("last", .none),("last_flush", .none),("is_dead", .bool false)]
noncomputable def Lo.Lf : List (String×MV):=[("disk", .ref (h.a 0)),("most", .int 14),("size", .int 64),("row", .ref (h.a 7)),("by_number", .ref (h.a 8)),("hits", .int h.hits),("reads", .int h.rd),("writes", .int h.cw)]
noncomputable def Lo.My : List (String×MV):=[("cache", .ref (h.a 5)),("start", .int 2),("size", .int 10),("places", .int 9),("most", .int 9),("each", .int 9),("numbers", .ref h.nm),("noted", .ref h.nt),("calls", .int h.calls),("commits", .int h.D9)]
noncomputable def Lo.Ef(n:Int):List (String×MV):=[("number", .int n),("data", .ref (h.bn n).r),("holders", .int (iA (h.hold==some n))),("pins", .int (iA (h.pins.contains n)))]
noncomputable def Lo.buf(n:Int):List Cell:=[((h.bn n).l, .inst gA (h.bn n).d),((h.bn n).d, .ns (h.Ef n)),((h.bn n).r, .bW (h.c n))]
noncomputable def Lo.refs : List MV:=h.row.map λn=>(h.bn n).ref
noncomputable def Lo.pO : List (Int×MV):=dk h.bn yl.ref h.ks
noncomputable def Lo.noted : List (Int×MV):=h.nd.zipIdx.map λp=>(p.1, .int p.2)
noncomputable def Lo.objs : List Cell:=[(h.a 0, .inst jB (h.a 1)),(h.a 1, .ns h.nsD),(h.a 2, .bS (dk h.e .bytes h.kk)),(h.a 3, .bS (dk h.d .bytes h.lk)),(h.un, .list (h.ch.map lN)),(h.a 5, .inst lM (h.a 6)),(h.a 6, .ns h.Lf),(h.a 7, .list h.refs),(h.a 8, .bS h.pO),
 (h.a 9, .inst eP (h.a 10)),(h.a 10, .ns h.My),(h.nm, .list (h.nums.map .int)),(h.nt, .bS h.noted)]
noncomputable def Lo.fF : List Cell:=h.row.flatMap h.buf
noncomputable def Lw(F:List Cell):As:=Zs (h.objs++(F++h.fF))
noncomputable abbrev Lo.Ng : Lo g:={ h with wr:=h.wr+1 }
noncomputable abbrev Lo.K5 : Lo g:={ h with fl:=h.fl+1 }
noncomputable abbrev Lo.K8(k:List Int)(e:Int->List UInt8):Lo g:={ h with kk:=k,e:=e }
noncomputable abbrev Lo.Lp(k:List Int)(d:Int->List UInt8):Lo g:={ h with lk:=k,d:=d }
noncomputable abbrev Lo.MT(u:List (Int×List UInt8)):Lo g:={ h with ch:=u }
noncomputable abbrev Lo.Hj(l:LA):Lo g:={ h with un:=l,ch:=[] }
noncomputable abbrev Lo.KW : Lo g:={ h with hits:=h.hits+1 }
noncomputable abbrev Lo.Jx : Lo g:={ h with rd:=h.rd+1 }
noncomputable abbrev Lo.Ms : Lo g:={ h with cw:=h.cw+1 }
noncomputable abbrev Lo.Hh(b:List Int):Lo g:={ h with ks:=b }
noncomputable abbrev Lo.rz(b:List Int):Lo g:={ h with row:=b }
noncomputable abbrev Lo.kz(k:Int):Lo g:={ h with calls:=k }
noncomputable abbrev Lo.Mq : Lo g:={ h with D9:=h.D9+1 }
noncomputable abbrev Lo.Hi(k:List Int):Lo g:={ h with nums:=k }
noncomputable abbrev Lo.K9(k:List Int):Lo g:={ h with nd:=k }
noncomputable abbrev Lo.Ec(l:LA):Lo g:={ h with nm:=l,nums:=[] }
noncomputable abbrev Lo.MU(l:LA):Lo g:={ h with nt:=l,nd:=[] }
end
noncomputable def upd{α:Type}(f:Int->α)(n:Int)(v:α)(m:Int):α:=if m=n then v else f m
noncomputable abbrev Lo.pq{g:En}(h:Lo g)(o:Option Int):Lo g:={ h with hold:=o }
noncomputable abbrev Lo.ru{g:En}(h:Lo g)(p:List Int):Lo g:={ h with pins:=p }
noncomputable abbrev Lo.tu{g:En}(h:Lo g)(n:Int)(x:yl):Lo g:={ h with bn:=upd h.bn n x }
noncomputable abbrev Lo.cB{g:En}(h:Lo g)(n:Int)(v:List UInt8):Lo g:={ h with c:=upd h.c n v }
structure Vw where
 kk : List Int
 e : Int->List UInt8
 lk : List Int
 d : Int->List UInt8
 un : LA
 ch : List (Int×List UInt8)
 pins : List Int
 c : Int->List UInt8
 nm : LA
 nums : List Int
 nt : LA
 nd : List Int
 calls : Int
noncomputable def Lo.vw{g:En}(h:Lo g):Vw:=⟨h.kk,h.e,h.lk,h.d,h.un,h.ch,h.pins,h.c,h.nm,h.nums,h.nt,h.nd,h.calls⟩
structure Lo.Ok{g:En}(h:Lo g):Prop where
 nd : h.row.Nodup
 ks : h.ks.Perm h.row
 jK : ∀n∈h.row,0<=n/\n < h.nb
 most : h.row.length<=14
 pin : ∀n∈h.pins,n∈h.row
 D7 : h.pins.Nodup
 pl : h.pins.length<=9
 sI : ∀n,h.hold=some n->n∈h.row
 cl : ∀n,n∉h.pins->h.hold≠some n->h.c n=h.d n
 Em : ∀n,n∉h.lk->h.d n=zeros
 len : ∀n,(h.d n).length=64/\(h.c n).length=64
inductive LF{g:En}(h:Lo g):LA->MO->Prop where
 |kept : LF h (h.a 2) (.bS (dk h.e .bytes h.kk))
 |Ji : LF h (h.a 3) (.bS (dk h.d .bytes h.lk))
 |un : LF h h.un (.list (h.ch.map lN))
 |row : LF h (h.a 7) (.list h.refs)
 |pO : LF h (h.a 8) (.bS h.pO)
 |nm : LF h h.nm (.list (h.nums.map .int))
 |nt : LF h h.nt (.bS h.noted)
inductive LO{g:En}(h:Lo g):LA->Addr->List (String×MV)->Prop where
 |d : LO h (h.a 0) jB h.nsD
 |c : LO h (h.a 5) lM h.Lf
 |j : LO h (h.a 9) eP h.My
section
variable {g:En}{h h':Lo g}{F F':List Cell}{l D:LA}{o o':MO}{C:Addr}{fs:List (String×MV)}{i:Nat}{n:Int}
theorem Zs.has{Z:List Cell}(m:(l,o)∈Z):dP (Zs Z) l o:=λ_ s=>(s.get _ m).1
theorem Zs.obj{Z:List Cell}(m:(l, .inst C D)∈Z)(m':(D, .ns fs)∈Z):Obj (Zs Z) l C fs:=λ_ s=>⟨D,(s.get _ m).1,(s.get _ m').1⟩
theorem Lw.has(m:LF h l o):dP (Lw h F) l o:=by
 refine Zs.has (bJ _ ?_)
 induction m with
 |kept=>exact au (i:=2) rfl
 |Ji=>exact au (i:=3) rfl
 |un=>exact au (i:=4) rfl
 |row=>exact au (i:=7) rfl
 |pO=>exact au (i:=8) rfl
 |nm=>exact au (i:=11) rfl
 |nt=>exact au (i:=12) rfl
theorem Lw.obj(m:LO h l C fs):Obj (Lw h F) l C fs:=by
 induction m with
 |d=>exact Zs.obj (D:=h.a 1) (au (i:=0) rfl) (au (i:=1) rfl)
 |c=>exact Zs.obj (D:=h.a 6) (au (i:=5) rfl) (au (i:=6) rfl)
 |j=>exact Zs.obj (D:=h.a 10) (au (i:=9) rfl) (au (i:=10) rfl)
theorem Lw.cH(e:F[i]?=some (l,o)):dP (Lw h F) l o:=Zs.has (bx _ (bJ _ (au e)))
theorem Lw.kx(e:F[i]?=some (l, .inst C D))(e':F[i+1]?=some (D, .ns fs)):Obj (Lw h F) l C fs:=Zs.obj (bx _ (bJ _ (au e))) (bx _ (bJ _ (au e')))
theorem eR{p:Cell}(m:n∈h.row)(e:p∈h.buf n):p∈h.objs++(F++h.fF):=bx _ (bx _ (List.mem_flatMap.mpr ⟨n,m,e⟩))
theorem Lw.gh(m:n∈h.row):Obj (Lw h F) (h.bn n).l gA (h.Ef n):=Zs.obj (eR m (.head _)) (eR m (.tail _ (.head _)))
theorem Lw.hasB(m:n∈h.row):dP (Lw h F) (h.bn n).r (.bW (h.c n)):=Zs.has (eR m (.tail _ (.tail _ (.head _))))
theorem Lw.Nj(m:n∈h.row):Us (Lw h F) (h.bn n).l:=λ_ s=>(s.get _ (eR m (.head _))).2
theorem Lw.ya(e:h.objs[i]?=some (l,o))(e':h'.objs=h.objs.set i (l,o'))(b:h'.fF=h.fF):Upd (Lw h F) l o' (Lw h' F):=λσ s=>by
 have:=Zs.set (o':=o') (i:=i) ((cY (bh.mp e).1).trans e) σ s
 rw[List.set_append_left _ _ (bh.mp e).1,<-e',<-b] at this
 exact this
theorem Lw.Mo{x:String}{v:MV}(e:h.objs[i]?=some (l, .inst C D))(e1:h.objs[i+1]?=some (D, .ns fs))(e2:(tab.am C x&&Nat.ble fs.length 100)=true)(e':h'.objs=h.objs.set (i+1) (D, .ns (gM x v fs)))(b:h'.fF=h.fF):wm (Lw h F) l x v (Lw h' F):=λσ s=>
 ⟨C,D,fs,⟨(s.get _ (bJ _ (au e))).1,(s.get _ (bJ _ (au e1))).1,(an.mp e2).1,aj (an.mp e2).2⟩,Lw.ya e1 e' b σ s⟩
theorem Lw.Lm{x:String}{v:MV}(e':h'.objs=h.objs.set 1 (h.a 1, .ns (gM x v h.nsD)))(b:h'.fF=h.fF)(e2:tab.am jB x=true):wm (Lw h F) (h.a 0) x v (Lw h' F):=Lw.Mo (i:=0) rfl rfl (by refine ae e2▸ ?_;rfl) e' b
theorem Lw.Jk{x:String}{v:MV}(e':h'.objs=h.objs.set 6 (h.a 6, .ns (gM x v h.Lf)))(b:h'.fF=h.fF)(e2:tab.am lM x=true):wm (Lw h F) (h.a 5) x v (Lw h' F):=Lw.Mo (i:=5) rfl rfl (by refine ae e2▸ ?_;rfl) e' b
theorem Lw.Jm{x:String}{v:MV}(e':h'.objs=h.objs.set 10 (h.a 10, .ns (gM x v h.My)))(b:h'.fF=h.fF)(e2:tab.am eP x=true):wm (Lw h F) (h.a 9) x v (Lw h' F):=Lw.Mo (i:=9) rfl rfl (by refine ae e2▸ ?_;rfl) e' b
theorem Lw.yb{x:String}{r:LA}{j:Nat}{q:Cell}(e:h.objs[i]?=some (l, .inst C D))(e1:h.objs[i+1]?=some (D, .ns fs))(e2:(tab.am C x&&Nat.ble fs.length 100)=true)(e3:(h.objs.set (i+1) (D, .ns (gM x (.ref r) fs)))[j]?=some q)
  (e':h'.objs=(h.objs.set (i+1) (D, .ns (gM x (.ref r) fs))).set j (r,o))(b:h'.fF=h.fF):wm (Lw h ((r,o)::F)) l x (.ref r) (Lw h' F):=λσ s=>by
 have g:=λ{p:Cell}(m:p∈h.objs)=>(Zs.get (Z:=h.objs++((r,o)::F++h.fF)) s p (bJ _ m)).1
 refine⟨C,D,fs,⟨g (au e),g (au e1),(an.mp e2).1,aj (an.mp e2).2⟩, ?_⟩
 have hi:=(bh.mp e1).1
 have:=(Zs.set (o':= .ns (gM x (.ref r) fs)) (i:=i+1) ((cY hi).trans e1) σ s)
 rw[List.set_append_left _ _ hi] at this
 have hj:=(bh.mp e3).1
 have:=(this.perm List.perm_middle).Jt (i:=j) ((cY hj).trans e3)
 rw[List.set_append_left _ _ hj,<-e',<-b] at this
 exact this
theorem Lw.perm{σ:MH}(s:Lw h F σ)(e:F.Perm F'):Lw h F' σ:=Zs.perm s (.append_left _ (.append_right _ e))
theorem Lw.sub{σ:MH}(s:Lw h F σ)(e:F'.Sublist F):Lw h F' σ:=Zs.sub s (.append (.refl _) (.append e (.refl _)))
theorem Lw.new : pX (Lw h F) o λr=>Lw h ((r,o)::F):=λσ s=>(by obtain⟨r,hr,s'⟩:=Zs.new σ s;exact⟨r,hr,s'.perm List.perm_middle.symm⟩)
theorem Zs.pN{Z:List Cell}:HO (Zs Z) C λl d=>Zs ((l, .inst C d)::(d, .ns [])::Z):=λσ s=>by
 obtain⟨N,hN⟩:=s.fr
 have hN' : ∀i,N+1<=i->¬(σ.new (.tm N) (.ns [])).us (.tm i):=λi hi u=>u.elim (λe=>by cases e;exact absurd hi (Nat.not_succ_le_self _)) (hN i (ad (Nat.le_add_right_of_le (aG _)) hi))
 exact⟨.tm (N+1), .tm N,⟨hN _ (a9 N 1),hN _ (aG _),λe=>by cases e⟩,(s.put (o:= .ns []) hN).put hN'⟩
theorem Lw.pN : HO (Lw h F) C λl d=>Lw h ((l, .inst C d)::(d, .ns [])::F):=λσ s=>(by refine eA (Zs.pN (C:=C) σ s) λl d hr s'=> ?_;exact⟨l,d,hr,s'.perm (((List.perm_middle.trans (List.perm_middle.cons _)).symm))⟩)
theorem Lw.jJ(e:F[i]?=some (l,o))(e':F'=F.set i (l,o')):Upd (Lw h F) l o' (Lw h F'):=λσ s=>by
 have hi:=(bh.mp e).1
 have:=Zs.set (o':=o') (i:=i) ((cY hi).trans e) σ (Zs.perm s (dK.trans (.of_eq (aH ..))))
 rw[List.set_append_left _ _ hi,<-e',<-aH] at this
 exact this.perm dK
theorem Lw.kT{x:String}{v:MV}{j:Nat}(e:F[i]?=some (l, .inst C D))(e1:F[j]?=some (D, .ns fs))(e2:(tab.am C x&&Nat.ble fs.length 100)=true)(e':F'=F.set j (D, .ns (gM x v fs))):wm (Lw h F) l x v (Lw h F'):=λσ s=>
 ⟨C,D,fs,⟨Lw.cH e σ s,Lw.cH e1 σ s,(an.mp e2).1,aj (an.mp e2).2⟩,Lw.jJ e1 e' σ s⟩
end
section
variable {g:En}{h h':Lo g}{F F':List Cell}{n:Int}{x:String}{v:MV}
theorem AH(nd:h.row.Nodup)(m:n∈h.row)(e:h'.row=h.row)(k:∀m,m≠n->h'.buf m=h.buf m):∃Y,h.fF.Perm (h.buf n++Y)/\h'.fF.Perm (h'.buf n++Y):=by
 refine⟨(h.row.erase n).flatMap h.buf,(List.perm_cons_erase m).flatMap_right _, ?_⟩
 unfold Lo.fF
 rw[e]
 refine ((List.perm_cons_erase m).flatMap_right _).trans (.append_left _ (.of_eq ?_))
 exact ah List.flatten (List.map_congr_left λy hy=>k y λq=>(nd.not_mem_erase (q▸hy)))
theorem Lw.setB{i:Nat}{l:LA}{o o':MO}(nd:h.row.Nodup)(m:n∈h.row)(eo:h'.objs=h.objs)(e:h'.row=h.row)(k:∀m,m≠n->h'.buf m=h.buf m)(g:(h.buf n)[i]?=some (l,o))(g':h'.buf n=(h.buf n).set i (l,o')):Upd (Lw h F) l o' (Lw h' F):=λσ s=>by
 refine aT (AH nd m e k) λY p p'=> ?_
 have hi:=(bh.mp g).1
 have:=Zs.set (o':=o') (i:=i) ((cY hi).trans g) σ (Zs.perm s (((List.Perm.append_left _ (.append_left _ p)).trans (.of_eq (aH ..).symm)).trans ((dK).trans (.of_eq (aH ..)))))
 rw[List.set_append_left _ _ hi,<-g',<-eo] at this
 exact this.perm (((List.Perm.of_eq (aH ..).symm).trans dK).trans ((List.Perm.of_eq (aH ..)).trans (.append_left _ (.append_left _ p'.symm))))
theorem Lw.Jc(nd:h.row.Nodup)(m:n∈h.row)(eo:h'.objs=h.objs)(e:h'.row=h.row)(k:∀m,m≠n->h'.buf m=h.buf m)(g':h'.buf n=(h.buf n).set 1 ((h.bn n).d, .ns (gM x v (h.Ef n))))(e2:tab.am gA x=true):wm (Lw h F) (h.bn n).l x v (Lw h' F):=λσ s=>
 ⟨gA,(h.bn n).d,h.Ef n,⟨(s.get _ (eR m (.head _))).1,(s.get _ (eR m (.tail _ (.head _)))).1,e2,aj rfl⟩,Lw.setB nd m eo e k (i:=1) rfl g' σ s⟩
theorem Lw.GC{b:List UInt8}(nd:h.row.Nodup)(m:n∈h.row):Upd (Lw h F) (h.bn n).r (.bW b) (Lw (h.cB n b) F):=
 Lw.setB nd m rfl rfl (λm q=>by unfold Lo.buf;refine ae (show (h.cB n b).c m=h.c m from if_neg q)▸ ?_;rfl) (i:=2) rfl (by unfold Lo.buf;refine ae (show (h.cB n b).c n=b from if_pos rfl)▸ ?_;rfl)
theorem Lw.D8(m:n∈h.row){vs:List MV}(hv:vs=(h.row.erase n).map λn=>(h.bn n).ref):Upd (Lw h F) (h.a 7) (.list vs) (Lw (h.rz (h.row.erase n)) (h.buf n++F)):=λσ s=>by
 have:=Zs.set (i:=7) (o':= .list vs) rfl σ s
 exact this.perm ((List.Perm.of_eq (by rw[hv];rfl)).trans (.append_left (h.rz (h.row.erase n)).objs (((List.Perm.append_left F (show h.fF.Perm (h.buf n++(h.rz (h.row.erase n)).fF) from (List.perm_cons_erase m).flatMap_right _)).trans (.of_eq (aH ..).symm)).trans (.append_right _ dK))))
theorem Lw.DZ{vs:List MV}(hv:vs=h.refs++[(h.bn n).ref]):Upd (Lw h (h.buf n++F)) (h.a 7) (.list vs) (Lw (h.rz (h.row++[n])) F):=λσ s=>by
 have:=Zs.set (i:=7) (o':= .list vs) rfl σ s
 have e : (h.objs++(h.buf n++F++h.fF)).set 7 (h.a 7, .list vs)=(h.rz (h.row++[n])).objs++(h.buf n++F++h.fF):=by
  rw[(show vs=(h.row++[n]).map λn=>(h.bn n).ref by refine (hv).trans ?_;rw[aY];rfl)];rfl
 rw[e] at this
 refine this.perm (.append_left _ ?_)
 rw[aH]
 refine dK.trans (.trans (.of_eq (aH ..)) (.append_left _ (.of_eq ?_)))
 show h.row.flatMap h.buf++h.buf n=(h.row++[n]).flatMap h.buf
 rw[List.flatMap_append,List.flatMap_singleton]
end
end Internal
namespace Internal
open PySem PyProof.Rows PySem.W
inductive Fr(p:List (Option MV))(n:Nat):Loc->Prop
 |mk (x:Nat->Option MV):Fr p n (p++(List.range n).map x)
theorem Fr.of{p:List (Option MV)}{n:Nat}{loc:Loc}(e:loc.take p.length=p)(l:(loc.drop p.length).length=n):Fr p n loc:=by
 have : loc=p++(List.range n).map λi=>(loc.drop p.length).getD i none:=by
  refine (List.take_append_drop p.length loc).symm.trans (congr (ah _ e) (List.ext_getElem (by refine (l).trans ?_;rw[aq,d8]) λi h h'=> ?_))
  rw[List.getElem_map,List.getElem_range,aR,ay h];rfl
 refine ae this▸ ?_;exact .mk _
section
variable {m:Nat}{g:En}{h:Lo g}{F:List Cell}{R:MV->As->Prop}{E:Addr->As->Prop}{n:Int}
theorem je{S:As}{l:LA}{fs:List (String×MV)}(o:Obj S l jB fs)(e:fs.lookup "is_dead" = some (.bool false)) (q:R .none S):Ct E R S 899 (m+1) [.ref l]:=
 dh lH (cO (.am (.am (.aa rfl) o rfl e) .bool) rfl (bj q))
theorem vV{nb:Int}(b:0<=n/\n < nb):(!true|| !(decide (0<=n)&&decide (n < nb)))=false:=by rw[aZ b.1,aZ b.2];rfl
theorem ye{S:As}{l:LA}{fs:List (String×MV)}{nb:Int}(o:Obj S l jB fs)(e:fs.lookup "blocks" = some (.int nb)) (b:0<=n/\n < nb)(q:R .none S):Ct E R S 906 (m+1) [.ref l, .int n]:=
 df lW (cO (.or (.not (.isI (.aa rfl))) (.not (.ky .ag (.aa rfl) (.am (.aa rfl) o rfl e) .le .lt))) (vV b) (bj q))
theorem EF(b:0<=n/\n < h.nb)(q:R .none (Lw h F)):Ct E R (Lw h F) 782 (m+1) [.ref (h.a 5), .int n]:=by
 refine df kJ ?_
 have:=vV b
 refine cO (.or (.not (.isI (.aa rfl))) (.not (.ky .ag (.aa rfl) (.am (.am (.aa rfl) (Lw.obj .c) rfl rfl) (Lw.obj .d) rfl rfl) .le .lt))) this (bj ?_)
 exact q
theorem n4{β:Type}{f:Int->β}{g:β->MV}{ks:List Int}:(dk f g ks).lookup n=if n∈ks then some (g (f n)) else none:=by
 induction ks with
 |nil=>rfl
 |cons k ks ih=>
  show (match n==k with | true=>some (g (f k)) | false=>(dk f g ks).lookup n)=_
  refine ae ih▸ ?_
  by_cases q : n=k
  ·subst q;rw[beq_self_eq_true,if_pos aV]
  ·rw[beq_eq_false_iff_ne.mpr q]
   by_cases p : n∈ks
   ·refine ((if_pos p)).trans ?_;rw[if_pos (aB _ p)]
   ·refine ((if_neg p)).trans ?_;exact ae (if_neg λm=>p ((aK.mp m).resolve_left q))▸rfl
theorem HB(b:0<=n/\n < h.nb)(q:R (((dk h.d .bytes h.lk).lookup n).getD (.bytes zeros)) (Lw h F)):Ct E R (Lw h F) 913 (m+2) [.ref (h.a 0), .int n]:=by
 refine df tI ?_
 refine bY (bT (.aa rfl) (Lw.obj .d) rfl rfl .nil ?_)
 refine je (Lw.obj .d) rfl ?_
 refine bY (bT (.aa rfl) (Lw.obj .d) rfl rfl (.cons (.aa rfl) .nil) ?_)
 refine ye (Lw.obj .d) rfl b ?_
 refine cC (.Mw (.am (.aa rfl) (Lw.obj .d) rfl rfl) (Lw.has .Ji) (.aa rfl) (.call (.cons (.am (.aa rfl) (Lw.obj .d) rfl rfl) .nil) (.vg (by unfold Nm;decide))) rfl) ?_
 exact q
noncomputable def ins(ks:List Int)(n:Int):List Int:=if n∈ks then ks else ks++[n]
theorem xG{β:Type}{f:Int->β}{g:β->MV}{ks:List Int}:(dk f g ks).any (λe=>e.1=n)=decide (n∈ks):=by
 rw[dk,List.any_map];refine eu.mpr ?_;refine (List.any_eq_true).trans ?_;rw[decide_eq_true_iff]
 exact⟨λzz=>(by refine aT zz λx m e=> ?_;exact aF e▸m),λm=>⟨n,m,aZ rfl⟩⟩
theorem qc{β:Type}{f:Int->β}{g:β->MV}{ks:List Int}{v:β}:gW (dk f g ks) n (g v)=dk (upd f n v) g (ins ks n):=by
 delta gW ins
 refine ae xG▸ ?_
 by_cases q : n∈ks
 ·refine ((if_pos (aZ q))).trans ?_;rw[if_pos q];rw[dk];refine (List.map_map).trans ?_
  refine List.map_congr_left λk _=> ?_
  by_cases e : k=n
  ·subst e;exact (if_pos rfl).trans (by rw[upd,if_pos rfl])
  ·exact (if_neg e).trans (by rw[upd,if_neg e])
 ·refine ((if_neg (λe=>q (aF e)))).trans ?_;rw[if_neg q,dk,dk,aY]
  refine congr (ah _ (List.map_congr_left λk m=> ?_)) (by rw[List.map_singleton,upd,if_pos rfl])
  rw[upd,if_neg λe : k=n=>q (e▸m)]
noncomputable abbrev Lo.wrote{g:En}(h:Lo g)(n:Int)(o:List UInt8):Lo g:=(h.Ng.Lp (ins h.lk n) (upd h.d n o)).MT (h.ch++[(n,o)])
theorem Lw.Jr{o:List UInt8}:Upd (Lw h F) (h.a 3) (.bS (gW (dk h.d .bytes h.lk) n (.bytes o))) (Lw (h.Lp (ins h.lk n) (upd h.d n o)) F):=Lw.ya (i:=3) rfl (by rw[qc];rfl) rfl
theorem Lw.Lk{o:List UInt8}:Upd (Lw h F) h.un (.list (h.ch.map lN++[.tup [.int n, .bytes o]])) (Lw (h.MT (h.ch++[(n,o)])) F):=Lw.ya (i:=4) rfl (by rw[show h.ch.map lN++[.tup [.int n, .bytes o]]=(h.ch++[(n,o)]).map lN from (aY (f:=lN) (l₂:=[(n,o)])).symm];rfl) rfl
structure Vw.Sz(v:Vw):Prop where
 lk : v.lk.length<=1000
 un : v.ch.length<=1000
structure Dd where
 kk : List Int
 e : Int->List UInt8
 lk : List Int
 d : Int->List UInt8
 un : LA
 ch : List (Int×List UInt8)
 wr : Int
 fl : Int
noncomputable def Dd.ns(v:Dd)(nb:Int)(ak al:LA):List (String×MV):=[("blocks", .int nb),("size", .int 64),("kept", .ref ak),("latest", .ref al),("unflushed", .ref v.un),("writes", .int v.wr),("flushes", .int v.fl),("last", .none),("last_flush", .none),("is_dead", .bool false)]
noncomputable abbrev Dd.put(v:Dd)(n:Int)(o:List UInt8):Dd:={ v with wr:=v.wr+1,lk:=ins v.lk n,d:=upd v.d n o,ch:=v.ch++[(n,o)] }
noncomputable abbrev Dd.keep(v:Dd)(k:List Int)(e:Int->List UInt8):Dd:={ v with kk:=k,e:=e }
noncomputable abbrev Dd.vq(v:Dd)(i:Nat):Dd:=v.keep (((v.ch.take i).map (·.1)).foldl ins v.kk) ((v.ch.take i).foldl (λf p=>upd f p.1 p.2) v.e)
noncomputable abbrev Dd.fld(v:Dd)(r:LA):Dd:={ { v with fl:=v.fl+1 }.vq v.ch.length with un:=r,ch:=[] }
structure El(nb:Int)(a ak al:LA)(T:Dd->As):Prop where
 ob : ∀v,Obj (T v) a jB (v.ns nb ak al)
 kept : ∀v,dP (T v) ak (.bS (dk v.e .bytes v.kk))
 Ji : ∀v,dP (T v) al (.bS (dk v.d .bytes v.lk))
 un : ∀v,dP (T v) v.un (.list (v.ch.map lN))
 Mr : ∀v i,wm (T v) a "writes" (.int i) (T { v with wr:=i })
 Mx : ∀v i,wm (T v) a "flushes" (.int i) (T { v with fl:=i })
 Jl : ∀v n o,Upd (T v) al (.bS (gW (dk v.d .bytes v.lk) n (.bytes o))) (T { v with lk:=ins v.lk n,d:=upd v.d n o })
 Eg : ∀v n o,Upd (T v) ak (.bS (gW (dk v.e .bytes v.kk) n (.bytes o))) (T (v.keep (ins v.kk n) (upd v.e n o)))
 Mu : ∀v n o,Upd (T v) v.un (.list (v.ch.map lN++[.tup [.int n, .bytes o]])) (T { v with ch:=v.ch++[(n,o)] })
 Hj : ∀v,∃S',pX (T v) (.list []) S'/\∀r,wm (S' r) a "unflushed" (.ref r) (T { v with un:=r,ch:=[] })
noncomputable abbrev Lo.dd{g:En}(h:Lo g):Dd:=⟨h.kk,h.e,h.lk,h.d,h.un,h.ch,h.wr,h.fl⟩
theorem El.lw : El g.nb (g.a 0) (g.a 2) (g.a 3) λv=>Lw ({ h with kk:=v.kk,e:=v.e,lk:=v.lk,d:=v.d,un:=v.un,ch:=v.ch,wr:=v.wr,fl:=v.fl }:Lo g) F where
 ob v:=Lw.obj .d
 kept v:=Lw.has .kept
 Ji v:=Lw.has .Ji
 un v:=Lw.has .un
 Mr v i:=Lw.Lm rfl rfl rfl
 Mx v i:=Lw.Lm rfl rfl rfl
 Jl v n o:=Lw.Jr
 Eg v n o:=Lw.ya (i:=2) rfl (by exact ae qc▸rfl) rfl
 Mu v n o:=Lw.Lk
 Hj v:=⟨_,Lw.new,λr=>Lw.yb (i:=0) (j:=4) rfl rfl rfl rfl rfl rfl⟩
theorem uf{nb:Int}{a ak al:LA}{T:Dd->As}(D:El nb a ak al T){v:Dd}{o:List UInt8}(b:0<=n/\n < nb)(ho:o.length=64)(z:v.lk.length<=1000/\v.ch.length<=1000)(q:R .none (T (v.put n o))):Ct E R (T v) 920 (m+2) [.ref a, .int n, .bytes o]:=by
 refine fH r6 (bY (bT (.aa rfl) (D.ob v) rfl rfl .nil (je (D.ob v) rfl (bY (bT (.aa rfl) (D.ob v) rfl rfl (.cons (.aa rfl) .nil) (ye (D.ob v) rfl b ?_))))))
 refine cO (.cmp (.call (.cons (.aa rfl) .nil) (.x7 (ho▸aj rfl))) (.am (.aa rfl) (D.ob v) rfl rfl) .ne) (by refine ae ho▸ ?_;rfl) (Dl (.cmp (.am (.aa rfl) (D.ob v) rfl rfl) .ag .vn) rfl ?_)
 refine jE (.aa rfl) (D.ob v) rfl rfl .ag .add (D.Mr v _) ?_
 refine ct (bq (.call (.cons (.aa rfl) .nil) .x6) (dW (.am (.aa rfl) (D.ob { v with wr:=v.wr+1 }) rfl rfl) (.aa rfl) (D.Ji { v with wr:=v.wr+1 }) (.dI (show (dk v.d MV.bytes v.lk).length<=100000 by rw[dk,aq];exact ad z.1 (by decide))) (D.Jl _ n o) ?_))
 exact bY (cM (.am (.aa rfl) (D.ob { v with wr:=v.wr+1,lk:=ins v.lk n,d:=upd v.d n o }) rfl rfl) (gP (D.un _) (.list rfl)) (c7 (.cons (.tup (.cons (.aa rfl) (.cons (.call (.cons (.aa rfl) .nil) .x6) .nil)) (aj rfl)) .nil) (l7 (D.un _) (show (v.ch.map lN).length<=100000 by rw[aq];exact ad z.2 (by decide)) (D.Mu _ n o) (bj q))))
end
section
variable {m:Nat}{g:En}{h:Lo g}{F:List Cell}{R:MV->As->Prop}{E:Addr->As->Prop}{n:Int}
noncomputable abbrev Lo.vq{g:En}(h:Lo g)(i:Nat):Lo g:=h.K8 (((h.ch.take i).map (·.1)).foldl ins h.kk) ((h.ch.take i).foldl (λf p=>upd f p.1 p.2) h.e)
theorem yX{ks:List Int}:(ins ks n).length<=ks.length+1:=by unfold ins;split<;>simp
theorem uN{ns ks:List Int}:(ns.foldl ins ks).length<=ks.length+ns.length:=by
 induction ns generalizing ks with
 |nil=>exact aG _
 |cons a ns ih=>exact ad (ih (ks:=ins ks a)) (ad (bD (yX (n:=a) (ks:=ks)) _) (aw (Nat.add_right_comm ..)))
theorem LV{v:Dd}{i:Nat}{o:List UInt8}(g:v.ch[i]?=some (n,o)):v.vq (i+1)=(v.vq i).keep (ins (v.vq i).kk n) (upd (v.vq i).e n o):=by
 dsimp only[Dd.vq]
 refine ae bV▸ae g▸ae aY▸ae List.foldl_append▸ ?_;exact ah _ List.foldl_append
theorem zi{nb:Int}{a ak al:LA}{T:Dd->As}(D:El nb a ak al T){v:Dd}(z:v.ch.length<=1000/\v.kk.length<=1000)(q:∀r,R .none (T (v.fld r))):Ct E R (T v) 934 (m+2) [.ref a]:=by
 refine dh sq (bY (bT (.aa rfl) (D.ob v) rfl rfl .nil (je (D.ob v) rfl (Dl (.cmp (.am (.aa rfl) (D.ob v) rfl rfl) .ag .vn) rfl (jE (.aa rfl) (D.ob v) rfl rfl .ag .add (D.Mx v _) ?_)))))
 generalize hv : ({ v with fl:=v.fl+1 }:Dd)=u
 have q : ∀r,R .none (T { u.vq u.ch.length with un:=r,ch:=[] }):=hv▸q
 refine dj (it:=λi=> .lst u.un i) (L:=u.ch.length) (I:=λi loc S=>Fr [some (.ref a)] 2 loc/\S=T (u.vq i)) (jh (.am (.aa rfl) (D.ob u) rfl rfl) (D.un u) ⟨rfl, .of rfl rfl,rfl⟩) rfl ?_ ?_
 ·rintro i loc S hi ⟨⟨x⟩,rfl⟩
  obtain⟨⟨b,o⟩,e⟩ : ∃p,u.ch[i]?=some p:=⟨_,ay hi⟩
  refine .mk (ik (D.un (u.vq i)) (by refine (bc).trans ?_;exact ah _ e)) (jg rfl (c8 (bR rfl (c8 (bR rfl (i8 ?_))))))
  have z1 : (dk (u.vq i).e MV.bytes (u.vq i).kk).length<=100000:=by
   refine ae (aq ..)▸ ?_
   have:=uN (ns:=(u.ch.take i).map (·.1)) (ks:=u.kk)
   rw[aq,bK] at this
   exact ad this (have z:u.ch.length<=1000/\u.kk.length<=1000:=hv▸z;ad (bF z.2 (ad (Nat.min_le_right ..) z.1)) (by decide))
  exact ct (bq (.aa rfl) (dW (.am (.aa rfl) (D.ob _) rfl rfl) (.aa rfl) (D.kept _) (.dI z1) (D.Eg _ b o) (bj ⟨.of rfl rfl,by rw[LV (v:=u) e]⟩)))
 ·rintro loc S ⟨⟨x⟩,rfl⟩
  refine aT (D.Hj (u.vq u.ch.length)) λS' nw st=> ?_
  refine⟨?_,ct (dz (cm ⟨bC _,nw,λr=>cX (.aa rfl) (st r) (bj (q r))⟩))⟩
  have:=fj (D.un (u.vq u.ch.length));rwa [aq] at this
theorem H2(e:h.hold=some n){l:LA}:(!decide (l=l)||iA (h.hold==some n)==0)=false:=by rw[aZ rfl,e,beq_self_eq_true];rfl
theorem uz(k:n∈h.ks):(h.pO.lookup n).getD .none= .ref (h.bn n).l:=by rw[Lo.pO,n4,if_pos k];rfl
theorem hB(r:n∈h.row)(k:n∈h.ks)(e:h.hold=some n)(q:R .none (Lw h F)):Ct E R (Lw h F) 789 (m+1) [.ref (h.a 5), .ref (h.bn n).l]:=by
 refine df lJ ?_
 have ob:=Lw.gh (F:=F) r
 refine cO (.or (.cmp (.get (.am (.aa rfl) (Lw.obj .c) rfl rfl) (Lw.has .pO) (.am (.aa rfl) ob rfl rfl) (uz k)) (.aa rfl) (.Mz ob (Lw.Nj r))) (.cmp (.am (.aa rfl) ob rfl rfl) .ag .lD)) (H2 e) (bj ?_)
 exact q
theorem EK{p:Bool}(h:p=false):iA p+1=iA true:=by refine ae h▸ ?_;rfl
theorem KG(nd:h.row.Nodup)(r:n∈h.row)(k:n∈h.ks)(e:h.hold=some n)(p:n∉h.pins)(q:R .none (Lw (h.ru (h.pins++[n])) F)):Ct E R (Lw h F) 817 (m+2) [.ref (h.a 5), .ref (h.bn n).l]:=by
 refine df uj ?_
 refine bY (bT (.aa rfl) (Lw.obj .c) rfl rfl (.cons (.aa rfl) .nil) ?_)
 refine hB r k e ?_
 have:=Lw.gh (F:=F) r
 refine' jE (x := "pins") ?_ this rfl rfl ?_ .add (Lw.Jc (h':=h.ru (h.pins++[n])) nd r rfl rfl ?_ ?_ rfl) (bj q)
 ·exact .aa rfl
 ·exact .ag
 ·intro y hy
  dsimp only[Lo.buf,Lo.Ef]
  exact ae (show (h.pins++[n]).contains y=h.pins.contains y by simp[hy])▸rfl
 ·dsimp only[Lo.buf,Lo.Ef]
  rw[show (h.pins++[n]).contains n=true by simp]
  rw[<-EK (p:=h.pins.contains n) (by simp[p])];rfl
theorem I6(r:n∈h.row)(q:R (.bool (iA (h.hold==some n)==0&&iA (h.pins.contains n)==0)) (Lw h F)):Ct E R (Lw h F) 684 (m+1) [.ref (h.bn n).l]:=by
 refine dh mJ ?_
 have:=Lw.gh (F:=F) r
 refine cC (.Mp (.cmp (.am (.aa rfl) this rfl rfl) .ag .lD) (.cmp (.am (.aa rfl) this rfl rfl) .ag .lD)) ?_
 exact q
theorem wb(r:n∈h.row)(ln:(h.c n).length=64)(q:R (.bytes (h.c n)) (Lw h F)):Ct E R (Lw h F) 691 (m+1) [.ref (h.bn n).l]:=by
 refine dh n0 ?_
 refine cC (.call (.cons (.am (.aa rfl) (Lw.gh r) rfl rfl) .nil) (.oP (Lw.hasB r) (by unfold Nm;exact ad (aw ln) (by decide)))) ?_
 exact q
theorem xm(b c:List UInt8):gd b none none c=c:=by simp[gd]
theorem Lw.D0{b c:List UInt8}(nd:h.row.Nodup)(r:n∈h.row):Upd (Lw h F) (h.bn n).r (.bW (gd b none none c)) (Lw (h.cB n c) F):=(xm b c).symm▸Lw.GC nd r
theorem H0{o:List UInt8}(nd:h.row.Nodup)(r:n∈h.row)(ln:(h.c n).length=64)(lo:o.length=64)(q:R .none (Lw (h.cB n o) F)):Ct E R (Lw h F) 719 (m+1) [.ref (h.bn n).l, .bytes o]:=by
 refine df qt ?_
 have : ((o.length : Int) != (h.c n).length)=false:=by rw[lo,ln];rfl
 refine cO (.cmp (.call (.cons (.aa rfl) .nil) (.x7 (by unfold Nm;exact ad (aw lo) (by decide)))) (.call (.cons (.am (.aa rfl) (Lw.gh (F:=F) r) rfl rfl) .nil) (.len (Lw.hasB (F:=F) r) .ba (by unfold Nm;exact ad (aw ln) (by decide)))) .ne) this ?_
 refine ct (bq (.aa rfl) (nL (.am (.aa rfl) (Lw.gh (F:=F) r) rfl rfl) .nil .nil .no .no (Lw.hasB (F:=F) r) (by unfold Nm;exact⟨ad (aw ln) (by decide),ad (aw lo) (by decide)⟩) (Lw.D0 (b:=h.c n) (c:=o) nd r) ?_))
 exact bj q
theorem Fv(nd:h.row.Nodup)(r:n∈h.row)(ln:(h.c n).length=64)(q:R .none (Lw (h.cB n zeros) F)):Ct E R (Lw h F) 726 (m+1) [.ref (h.bn n).l]:=by
 refine dh pD ?_
 have : (List.replicate ((h.c n).length : Int).toNat (0:UInt8)).length=64:=by rw[List.length_replicate,ln];rfl
 refine ct (bq (.call (.cons (.call (.cons (.am (.aa rfl) (Lw.gh (F:=F) r) rfl rfl) .nil) (.len (Lw.hasB (F:=F) r) .ba (by unfold Nm;exact ad (aw ln) (by decide)))) .nil) (.vg (by unfold Nm;exact⟨bA _,bp (aW.mpr (aw ln)) (by decide)⟩))) (nL (.am (.aa rfl) (Lw.gh (F:=F) r) rfl rfl) .nil .nil .no .no (Lw.hasB (F:=F) r) (by unfold Nm;exact⟨ad (aw ln) (by decide),ad (aw this) (by decide)⟩) (Lw.D0 (b:=h.c n) (c:=List.replicate ((h.c n).length : Int).toNat 0) nd r) ?_))
 rw[ln];exact bj q
end
section
variable {m:Nat}{g:En}{h:Lo g}{F:List Cell}{R:MV->As->Prop}{E:Addr->As->Prop}{n:Int}
theorem qV : ∀ {l:List Int}{i:Nat},l.Nodup->l[i]?=some n->l.eraseIdx i=l.erase n
 |a::l,0,_,e=>by cases e;exact (List.erase_cons_head ..).symm
 |a::l,i+1,nd,e=>by
  have q:=List.nodup_cons.mp nd
  refine (List.eraseIdx_cons_succ).trans ?_;rw[List.erase_cons_tail (by rw[eI];exact λz=>q.1 (z▸au e))];exact ah _ (qV q.2 e)
theorem i6{α β:Type}{f:α->β}:∀ {l:List α}{i:Nat},(l.map f).eraseIdx i=(l.eraseIdx i).map f
 | [],_=>rfl
 |a::l,0=>rfl
 |a::l,i+1=>ah (f a::·) (i6 (l:=l) (i:=i))
theorem Fe{β:Type}{f:Int->β}{g:β->MV}{ks:List Int}(nd:ks.Nodup):C1 (dk f g ks) n=dk f g (ks.erase n):=by
 refine (List.filter_map).trans ?_;refine ae (nd.erase_eq_filter n)▸ ?_;exact ah (List.map _) (List.filter_congr λk _=>by refine eu.mpr ?_;simp)
theorem Lo.Ok.yd(O:h.Ok)(r:n∈h.row):n∈h.ks:=O.ks.mem_iff.mpr r
theorem Lo.Ok.KZ(O:h.Ok):h.pO.length<=100000:=by rw[Lo.pO,dk,aq,O.ks.length_eq];exact ad O.most (by decide)
theorem Lo.Ok.A5(O:h.Ok):h.refs.length<=100000:=by rw[Lo.refs,aq];exact ad O.most (by decide)
theorem FY(O:h.Ok)(p:n∈h.pins)(q:R .none (Lw (h.ru (h.pins.erase n)) F)):Ct E R (Lw h F) 824 (m+1) [.ref (h.a 5), .int n]:=by
 refine df qB ?_
 have r:=O.pin _ p
 have e1 : iA (h.pins.contains n)=1:=by refine (ah _ (bX.mpr p)).trans ?_;rfl
 have : (M5 (.ref (h.bn n).l)||iA (h.pins.contains n)==0)=false:=by rw[e1];rfl
 refine gy (.get (.am (.aa rfl) (Lw.obj .c) rfl rfl) (Lw.has .pO) (.aa rfl) (uz (O.yd r))) rfl (cO (.or (.cmp (.aa rfl) .ag .is) (.cmp (.am (.aa rfl) (Lw.gh r) rfl rfl) .ag .lD)) this ?_)
 refine' jE (x := "pins") ?_ (Lw.gh (F:=F) r) rfl rfl ?_ .sub (Lw.Jc (h':=h.ru (h.pins.erase n)) O.nd r rfl rfl ?_ ?_ rfl) ?_
 ·exact .aa rfl
 ·exact .ag
 ·intro y hy
  dsimp only[Lo.buf,Lo.Ef]
  exact ae (show (h.pins.erase n).contains y=h.pins.contains y by rw[eu,bX,bX,List.mem_erase_of_ne hy])▸rfl
 ·dsimp only[Lo.buf,Lo.Ef]
  refine ae (show (h.pins.erase n).contains n=false from Bool.eq_false_iff.mpr λq=>O.D7.not_mem_erase (bX.mp q))▸ae e1▸ ?_;rfl
 ·exact bj q
noncomputable abbrev Lo.less{g:En}(h:Lo g)(n:Int):Lo g:=(h.Hh (h.ks.erase n)).rz (h.row.erase n)
theorem Lw.Hf{ks:List Int}:Upd (Lw h F) (h.a 8) (.bS (dk h.bn yl.ref ks)) (Lw (h.Hh ks) F):=Lw.ya (i:=8) rfl rfl rfl
theorem Kl{p:Bool}:(iA p==0)= !p:=by cases p<;>rfl
theorem yq : (iA (h.hold==some n)==0&&iA (h.pins.contains n)==0)=true↔h.hold≠some n/\n∉h.pins:=by rw[Kl,Kl];simp
theorem vK(O:h.Ok)(hh:h.hold=none)(q0:h.row.length < 14->R .none (Lw h F))(q:∀n∈h.row,n∉h.pins->R .none (Lw (h.less n) F)):Ct E R (Lw h F) 803 (m+2) [.ref (h.a 5)]:=by
 refine dh lR ?_
 have e0 : h.refs.length=h.row.length:=aq ..
 refine' w7 ?t1 ?t2 ?t3
 case t1=>exact .cmp (.call (.cons (.am (.aa rfl) (Lw.obj .c) rfl rfl) .nil) (.len (Lw.has .row) .list (by exact Lo.Ok.A5 O))) (.am (.aa rfl) (Lw.obj .c) rfl rfl) .lt
 case t2=>intro e;rw[decide_eq_true_iff,e0] at e;exact x5 (q0 (by exact aX.mp e))
 intro e
 rw[decide_eq_false_iff_not] at e
 refine bj ?_
 refine dj (it:=λi=> .nT (h.a 7) i) (L:=h.refs.length) (I:=λi loc S=>(∀y∈h.row.take i,y∈h.pins)/\∃x y,loc=[some (.ref (h.a 5)),x,y]/\S=Lw h F) ?_ rfl ?_ ?_
 ·refine' nJ ?_ (Lw.has .row) O.A5 ⟨rfl,(λ_ m=>by cases m),_,_,rfl,rfl⟩
  exact .am (.aa rfl) (Lw.obj .c) rfl rfl
 ·rintro i loc S hi ⟨hp,x,y,rfl,rfl⟩
  replace hi:=e0▸hi
  have g : h.row[i]?=some h.row[i]:=ay hi
  revert g
  generalize h.row[i]=n
  intro g
  have r:=au g
  refine .mk (rh (Lw.has .row) (by rw[Lo.refs,bc];exact ah _ g)) (jg rfl (c8 (bR rfl (c8 (bR rfl (i8 ?_))))))
  refine s7 (Ff (bT (by exact .aa rfl) (Lw.gh (F:=F) r) rfl rfl (by exact .nil) (I6 r (.mk .bool ⟨λe=> ?_,λe=> ?_⟩))))
  ·have fr:=(yq.mp e).2
   refine' Ix (ps:=h.pO) ?_ ?_ (Lw.has .pO) ⟨O.KZ,(show (dk h.bn yl.ref h.ks).any (λe=>e.1=n)=true by rw[xG];exact aZ (O.yd r))⟩ (by rw[Lo.pO,Fe (O.ks.nodup_iff.mpr O.nd)];exact Lw.Hf) ?_
   ·exact .am (.aa rfl) (Lw.obj .c) rfl rfl
   ·exact .am (.aa rfl) (Lw.gh (F:=F) r) rfl rfl
   refine' IC (vs:=h.refs) ?_ ?_ (Lw.has (h:=h.Hh (h.ks.erase n)) .row) ⟨bA i,by rw[e0];exact aX.mpr hi,O.A5⟩ (Lw.D8 (n:=n) (h:=h.Hh (h.ks.erase n)) r (by rw[Lo.refs,i6,Int.toNat_natCast];exact ah _ (qV O.nd g))) ?_
   ·exact .am (.aa rfl) (Lw.obj .c) rfl rfl
   ·exact .aa rfl
   exact fM (S1:=Lw (h.less n) F) (λσ s=>Lw.sub s (List.sublist_append_right ..)) (x5 (q n r fr))
  ·refine bj (bj ⟨λy hy=> ?_,_,_,rfl,rfl⟩)
   rw[bV,g] at hy
   refine Or.elim (bI.mp hy) (λhy=> ?_) λhy=> ?_
   ·exact hp y hy
   ·cases av.mp hy
    exact Decidable.byContradiction λz=>aE (e.symm.trans (yq.mpr ⟨by rw[hh];exact nofun,z⟩))
 ·rintro loc S ⟨hp,_⟩
  rw[e0,List.take_length] at hp
  exact absurd (cU (aW.mpr (ad (aw e0) (ad (List.Nodup.length_le_of_subset O.nd hp) O.pl))) (by decide)) e
end
section
variable {m:Nat}{g:En}{h:Lo g}{F:List Cell}{R:MV->As->Prop}{E:Addr->As->Prop}{n:Int}
theorem Ij{l d:LA}{o:List UInt8}(lo:o.length=64)
  (q:∀r,R .none (Lw h ((r, .bW o)::(l, .inst gA d)::(d, .ns [("number", .int n),("data", .ref r),("holders", .int 0),("pins", .int 0)])::F))) :
  Ct E R (Lw h ((l, .inst gA d)::(d, .ns [])::F)) 677 (m+1) [.ref l, .int n, .bytes o]:=by
 refine fH qi ?_
 refine Bb (.aa rfl) (.aa rfl) (Lw.kT (i:=0) (j:=1) rfl rfl rfl rfl) ?_
 refine ct (cV (c7 (vs:=[.bytes o]) (by exact .cons (.aa rfl) .nil) (HL (by exact id (by unfold Nm;exact ad (aw lo) (by decide))) Lw.new λr=> ?_)))
 refine' cX ?t1 (Lw.kT (i:=1) (j:=2) rfl rfl rfl rfl) ?_
 case t1=>exact .aa rfl
 refine Bb .ag (.aa rfl) (Lw.kT (i:=1) (j:=2) rfl rfl rfl rfl) ?_
 refine Bb .ag (.aa rfl) (Lw.kT (i:=1) (j:=2) rfl rfl rfl rfl) ?_
 exact bj (q r)
theorem ED{α β:Type}{f:Int->α}{g:α->β}{x:α}{ns:List Int}(h:n∉ns):(ns.map λk=>g (upd f n x k))=ns.map λk=>g (f k):=
 List.map_congr_left λk m=>by exact ah _ (if_neg λe:k=n=>h (e▸m))
theorem Lw.adopt{l d r:LA}(r0:n∉h.row)(k0:n∉h.ks)(hh:h.hold=none)(p:n∉h.pins){σ:MH}
  (s:Lw h ((r, .bW (h.c n))::(l, .inst gA d)::(d, .ns [("number", .int n),("data", .ref r),("holders", .int 0),("pins", .int 0)])::F) σ):Lw (h.tu n ⟨l,d,r⟩) ((h.tu n ⟨l,d,r⟩).buf n++F) σ:=by
 have e4 : (h.tu n ⟨l,d,r⟩).fF=h.fF:=ah List.flatten (List.map_congr_left λk m=>by
  delta Lo.buf Lo.Ef;exact ae (show (h.tu n ⟨l,d,r⟩).bn k=h.bn k from if_neg λe : k=n=>r0 (e▸m))▸rfl)
 have e5 : (h.tu n ⟨l,d,r⟩).buf n=[(l, .inst gA d),(d, .ns [("number", .int n),("data", .ref r),("holders", .int 0),("pins", .int 0)]),(r, .bW (h.c n))]:=by
  delta Lo.buf Lo.Ef
  refine ae (show (h.tu n ⟨l,d,r⟩).bn n=⟨l,d,r⟩ from if_pos rfl)▸ae (show (h.tu n ⟨l,d,r⟩).hold=none from hh)▸ae (show (h.tu n ⟨l,d,r⟩).pins.contains n=false from Bool.eq_false_iff.mpr λq=>p (bX.mp q))▸ ?_;rfl
 unfold Lw
 rw[(show (h.tu n ⟨l,d,r⟩).objs=h.objs by dsimp only[Lo.objs];refine ae (show (h.tu n ⟨l,d,r⟩).refs=h.refs from ED (g:=yl.ref) r0)▸ae (show (h.tu n ⟨l,d,r⟩).pO=h.pO from List.map_congr_left λk m=>ah (λx:yl=>(k,x.ref)) (if_neg λe:k=n=>k0 (e▸m)))▸ ?_;rfl),e4,e5]
 exact Zs.perm s (.append_left _ ((List.Perm.swap ..).trans ((List.Perm.swap ..).cons _)))
theorem Lw.KU{x:yl}(k0:n∉h.ks)(e:h.bn n=x):Upd (Lw h F) (h.a 8) (.bS (gW h.pO n x.ref)) (Lw (h.Hh (h.ks++[n])) F):=by
 have : gW h.pO n x.ref=dk h.bn yl.ref (h.ks++[n]):=by
  delta gW Lo.pO
  refine ae xG▸ ?_;refine ((if_neg λq=>k0 (aF q))).trans ?_;rw[dk,dk,aY,<-e];rfl
 refine ae this▸ ?_;exact Lw.Hf
noncomputable abbrev Lo.Lz{g:En}(h:Lo g)(n:Int)(x:yl):Lo g:=(((h.tu n x).Jx).Hh (h.ks++[n])).rz (h.row++[n])
theorem Lo.Ok.less(O:h.Ok)(hh:h.hold=none)(p:n∉h.pins):(h.less n).Ok where
 nd:=O.nd.erase n
 ks:=O.ks.erase n
 jK y m:=O.jK y (List.mem_of_mem_erase m)
 most:=ad (List.length_erase_le ..) O.most
 pin y m:=(List.mem_erase_of_ne λe : y=n=>p (e▸m)).mpr (O.pin y m)
 D7:=O.D7
 pl:=O.pl
 sI y e:=nomatch hh.symm.trans e
 cl:=O.cl
 Em:=O.Em
 len:=O.len
theorem Lo.Ok.Lz{x:yl}(O:h.Ok)(hh:h.hold=none)(r:n∉h.row)(b:0<=n/\n < h.nb)(ln:h.row.length < 14):(h.Lz n x).Ok where
 nd:=List.nodup_append.mpr ⟨O.nd,List.nodup_cons.mpr ⟨List.not_mem_nil,List.nodup_nil⟩,λa m b m' e=>r (by cases av.mp m';exact e▸m)⟩
 ks:=O.ks.append_right _
 jK y m:=(bI.mp m).elim (O.jK y) λm=>by cases av.mp m;exact b
 most:=by refine ae aA▸ ?_;exact ln
 pin y m:=bJ _ (O.pin y m)
 D7:=O.D7
 pl:=O.pl
 sI y e:=nomatch hh.symm.trans e
 cl:=O.cl
 Em:=O.Em
 len:=O.len
theorem Lo.Ok.hold{o:Option Int}(O:h.Ok)(a:∀n,o=some n->n∈h.row)(c:∀n,n∉h.pins->o≠some n->h.c n=h.d n):(h.pq o).Ok:={ O with sI:=a,cl:=c }
theorem Lo.Ok.hit(O:h.Ok):h.KW.Ok:={ O with }
theorem Lo.Ok.read(O:h.Ok):((dk h.d MV.bytes h.lk).lookup n).getD (.bytes zeros)= .bytes (h.d n):=by
 rw[n4];split
 ·rfl
 ·rename_i q;refine ae (O.Em n q)▸ ?_;rfl
theorem Lw.Lc(O:h.Ok)(r:n∈h.row){o:Option Int}{v:MV}(e:h.hold=none/\o=some n∨h.hold=some n/\o=none)(hv:v= .int (iA (o==some n))):wm (Lw h F) (h.bn n).l "holders" v (Lw (h.pq o) F):=by
 refine Lw.Jc O.nd r rfl rfl (λy hy=> ?_) ?_ rfl
 ·dsimp only[Lo.buf,Lo.Ef]
  have : (o==some y)=(h.hold==some y):=by rcases e with ⟨a,b⟩ | ⟨a,b⟩<;>refine ae a▸ae b▸ ?_<;>simp[Ne.symm hy]
  exact ae this▸rfl
 ·refine ae hv▸ ?_;rfl
theorem Bu(O:h.Ok)(hh:h.hold=none)(r:n∈h.row){loc:Loc}(e:loc[2]?=some (some (.ref (h.bn n).l)))(q:R (.ref (h.bn n).l) (Lw (h.pq (some n)) F)) :
  Wp E (Lw h F) loc (λf _ S=>R (f0 f) S) (dn m (.cons (.aug (.aa 2) "holders" .Add (.ag (.int 1))) (.cons (.ret (.aa 2)) .nil))).s:=by
 refine jE (x := "holders") (.aa e) (Lw.gh r) rfl rfl .ag .add (Lw.Lc O r (.inl ⟨hh,rfl⟩) ?_) (cC (.aa e) q)
 refine ae hh▸ ?_;rw[beq_self_eq_true];rfl
theorem Cz(O:h.Ok)(hh:h.hold=none)(b:0<=n/\n < h.nb)(q:∀h' : Lo g,h'.Ok->h'.hold=some n->h'.vw=h.vw->R (.ref (h'.bn n).l) (Lw h' F)):Ct E R (Lw h F) 796 (m+3) [.ref (h.a 5), .int n]:=by
 refine df tV ?_
 refine bY (bT (.aa rfl) (Lw.obj .c) rfl rfl (.cons (.aa rfl) .nil) ?_)
 refine EF b ?_
 by_cases r : n∈h.row
 ·have:=uz (O.yd r)
  refine gy (.get (.am (.aa rfl) (Lw.obj .c) rfl rfl) (Lw.has .pO) (.aa rfl) this) rfl ?_
  refine' w7 ?t1 ?t2 ?t3
  case t1=>exact .cmp (.aa rfl) .ag .is
  case t2=>exact nofun
  intro _
  refine jE (.aa rfl) (Lw.obj .c) rfl rfl .ag (by constructor) (Lw.Jk (h':=h.KW) rfl rfl rfl) ?_
  refine bj (Bu O.hit hh r rfl (q _ (O.hit.hold (λ_ e=> ?_) λy p _=>O.cl y p ?_) rfl rfl))
  ·cases e;exact r
  ·rw[hh];exact nofun
 ·have k0 : n∉h.ks:=λk=>r (O.ks.mem_iff.mp k)
  have : (h.pO.lookup n).getD .none= .none:=by rw[Lo.pO,n4,if_neg k0];rfl
  have fin : ∀h1 : Lo g,h1.Ok->h1.hold=none->n∉h1.row->h1.row.length < 14->h1.vw=h.vw->∀ {loc},loc=[some (.ref (h.a 5)),some (.int n),some .none]->Wp E (Lw h1 F) loc (xZ (m+2) (.cons (.aug (.aa 2) "holders" .Add (.ag (.int 1))) (.cons (.ret (.aa 2)) .nil)) (λf _ S=>R (f0 f) S) E) (dn (m+2) (.cons (.asg (.aa 2) (.call "Buffer" (.ref 757) (.cons (.aa 1) (.cons (.aO (.am (.aa 0) "disk") "read" (.cons (.aa 1) .nil)) .nil)))) (.cons (.aug (.aa 0) "reads" .Add (.ag (.int 1))) (.cons (.asg (.item (.am (.aa 0) "by_number") (.aa 1)) (.aa 2)) (.cons (.expr (.aO (.am (.aa 0) "row") "append" (.cons (.aa 2) .nil))) .nil))))).s:=by
   intro h1 O1 hh1 r1 ln v loc el
   subst el
   refine de rfl (cV (bk (bq (.aa rfl) (bk ?_))))
   refine bT (.am (.aa rfl) (Lw.obj .c) rfl rfl) (Lw.obj .d) rfl rfl (.cons (.aa rfl) .nil) ?_
   refine HB b ?_
   refine ae O1.read▸ ?_
   refine cm (er (im rfl rfl Lw.pN λl d=>Ij (O1.len n).1 λr=>⟨rfl, ?_⟩))
   rw[<-O1.cl n (λp=>r1 (O1.pin _ p)) (by refine ae hh1▸ ?_;exact nofun)]
   refine fM (S1:=Lw (h1.tu n ⟨l,d,r⟩) ((h1.tu n ⟨l,d,r⟩).buf n++F)) (λ_ s=>Lw.adopt r1 (λk=>r1 (O1.ks.mem_iff.mp k)) hh1 (λp=>r1 (O1.pin _ p)) s) ?_
   refine jE (.aa rfl) (Lw.obj .c) rfl rfl .ag (by constructor) (Lw.Jk (h':=(h1.tu n ⟨l,d,r⟩).Jx) rfl rfl rfl) ?_
   have eb : (h1.tu n ⟨l,d,r⟩).bn n=⟨l,d,r⟩:=if_pos rfl
   have z1 : (h1.tu n ⟨l,d,r⟩).Jx.pO.length<=100000:=by have:=O1.KZ;dsimp only[Lo.pO,dk] at this ⊢;rwa [aq] at this ⊢
   refine' ct (bq (.aa rfl) (dW ?y1 (.aa rfl) (Lw.has .pO) (.dI z1) (Lw.KU (h:=(h1.tu n ⟨l,d,r⟩).Jx) (λk=>r1 (O1.ks.mem_iff.mp k)) eb) ?_))
   case y1=>exact .am (.aa rfl) (Lw.obj .c) rfl rfl
   refine bY ?_
   refine' cM ?y2 (gP (Lw.has (h:=(h1.tu n ⟨l,d,r⟩).Jx.Hh (h1.ks++[n])) .row) (.list rfl)) (c7 ?y3 (l7 (Lw.has .row) (by have:=O1.A5;dsimp only[Lo.refs] at this ⊢;rwa [aq] at this ⊢) (Lw.DZ (h:=(h1.tu n ⟨l,d,r⟩).Jx.Hh (h1.ks++[n])) (by rw[eb])) ?_))
   case y2=>exact .am (.aa rfl) (Lw.obj .c) rfl rfl
   case y3=>exact .cons (.aa rfl) .nil
   have mn : n∈h1.row++[n]:=bx _ (av.mpr rfl)
   refine bj (Bu (O1.Lz (x:=⟨l,d,r⟩) hh1 r1 b ln) hh1 mn (ah (λx:yl=>some (some (MV.ref x.l))) eb.symm) (q _ ((O1.Lz (x:=⟨l,d,r⟩) hh1 r1 b ln).hold (λy e=> ?_) λy p _=>O1.cl y p ?_) rfl v))
   ·cases e;exact mn
   ·rw[hh1];exact nofun
  refine gy (.get (.am (.aa rfl) (Lw.obj .c) rfl rfl) (Lw.has .pO) (.aa rfl) this) rfl (jy (.cmp (.aa rfl) .ag .is) rfl (bY (bT (.aa rfl) (Lw.obj .c) rfl rfl .nil ?_)))
  refine vK O hh (λln=>fin h O hh r ln rfl rfl) λy ry py=>fin (h.less y) (O.less hh py) hh (λq=>r (List.mem_of_mem_erase q)) ?_ rfl rfl
  refine ae (List.length_erase_of_mem ry)▸ ?_
  exact aC (Nat.pred_lt (Nat.ne_of_gt (List.length_pos_of_mem ry))) O.most
end
section
variable {m:Nat}{g:En}{h:Lo g}{F:List Cell}{R:MV->As->Prop}{E:Addr->As->Prop}{n:Int}{loc:Loc}
theorem Lw.inj{σ:MH}(s:Lw h F σ){k:Int}(r:n∈h.row)(rk:k∈h.row)(e:(h.bn k).l=(h.bn n).l):k=n:=by
 have e3:=(aP (((s.get _ (eR rk (aB _ (aV ..)))).1).symm.trans ((ah σ.get (by injection ((aP (((s.get _ (eR rk (aV ..))).1).symm.trans ((ah σ.get e).trans ((s.get _ (eR r (aV ..))).1))))))).trans ((s.get _ (eR r (aB _ (aV ..)))).1))))
 injection e3 with e3
 injection e3 with e3
 injection e3 with _ e3
 injection e3
theorem Lw.remove(O:h.Ok)(r:n∈h.row)(q:R .none (Lw (h.rz (h.row.erase n)) (h.buf n++F))):We E (Lw h F) loc R (eM m (.builtin "list.remove") [.ref (h.a 7), .ref (h.bn n).l]):=by
 intro σ s Q X k x
 obtain⟨i,hi,e⟩:=List.getElem_of_mem r
 have hl : h.refs.length=h.row.length:=aq ..
 refine DX.mk (C:=gA) (db:=(h.bn n).d) (j:=i) ((Lw.has .row) σ s) O.A5 rfl (λv mv=> ?_) (s.get _ (eR r (aV ..))).1 ?_ (k _ _ _ (Lw.D8 r (by rw[Lo.refs];refine (i6).trans ?_;exact ah _ (qV O.nd (by refine ((ay hi)).trans ?_;exact ah _ e))) σ s) q)
 ·refine aT (cq.mp mv) λy my zr2_=> ?_;subst zr2_
  exact⟨_,_,rfl,(s.get _ (eR my (aV ..))).1⟩
 ·refine List.findIdx?_eq_some_iff_getElem.mpr ?_
  have nth : ∀j (hj:j < h.row.length),pU (h.bn n).l (h.refs[j]'(hl.symm▸hj))=true->h.row[j]=n:=λj hj t=>by
   rw[show h.refs[j]'(hl.symm▸hj)=(h.bn h.row[j]).ref from List.getElem_map ..] at t
   exact Lw.inj s r (List.getElem_mem hj) (aF t)
  refine⟨hl.symm▸hi, ?_,λj hj t=> ?_⟩
  ·refine (ah _ (show h.refs[i]'(hl.symm▸hi)=(h.bn h.row[i]).ref from List.getElem_map ..)).trans ?_;refine ae e▸ ?_;exact aZ rfl
  ·exact bw hj ((List.getElem_inj O.nd).mp ((nth j (cG hj hi) t).trans e.symm))
theorem Lo.Ok.turn(O:h.Ok)(r:n∈h.row):(h.rz (h.row.erase n++[n])).Ok:=by
 have p : (h.row.erase n++[n]).Perm h.row:=dK.trans (List.perm_cons_erase r).symm
 exact { O with nd:=p.symm.nodup_iff.mp O.nd,ks:=O.ks.trans p.symm,jK:=λy m=>O.jK y (p.mem_iff.mp m),most:=p.length_eq▸O.most,pin:=λy m=>p.mem_iff.mpr (O.pin y m),sI:=λy e=>p.mem_iff.mpr (O.sI y e) }
theorem oO(O:h.Ok)(hh:h.hold=some n)(hc:n∉h.pins->h.c n=h.d n)(q:∀h' : Lo g,h'.Ok->h'.hold=none->h'.vw=h.vw->R .none (Lw h' F)):Ct E R (Lw h F) 810 (m+2) [.ref (h.a 5), .ref (h.bn n).l]:=by
 have r:=O.sI n hh
 refine df nY ?_
 refine bY (bT (.aa rfl) (Lw.obj .c) rfl rfl (.cons (.aa rfl) .nil) ?_)
 refine hB r (O.yd r) hh ?_
 refine jE (x := "holders") (.aa rfl) (Lw.gh r) rfl rfl .ag .sub (Lw.Lc O r (.inr ⟨hh,rfl⟩) (by rw[hh,beq_self_eq_true];rfl)) ?_
 have O1 : (h.pq none).Ok:=O.hold nofun λy p _=>(Decidable.em (y=n)).elim (λe=>e▸hc (e▸p)) λe=>O.cl y p (by refine ae hh▸ ?_;exact λq=>e (aP q).symm)
 have ob:=Lw.gh (h:=h.pq none) (F:=F) r
 refine jy (.cmp (.am (.aa rfl) ob rfl rfl) .ag .lD) rfl (bY ?_)
 refine' cM ?y1 (gP (Lw.has (h:=h.pq none) .row) (.list rfl)) (c7 ?y2 (Lw.remove O1 r ?_))
 case y1=>exact .am (.aa rfl) (Lw.obj .c) rfl rfl
 case y2=>exact .cons (.aa rfl) .nil
 refine bY ?_
 refine' cM ?y3 (gP (Lw.has (h:=(h.pq none).rz (h.row.erase n)) .row) (.list rfl)) (c7 ?y4 (l7 (Lw.has .row) (ad (aw (aq ..)) (ad (List.length_erase_le (a:=n) (l:=h.row)) (ad (aw (aq ..).symm) O.A5))) (Lw.DZ (h:=(h.pq none).rz (h.row.erase n)) (n:=n) rfl) ?_))
 case y3=>exact .am (.aa rfl) (Lw.obj .c) rfl rfl
 case y4=>exact .cons (.aa rfl) .nil
 exact bj (bj (q _ (O1.turn r) rfl rfl))
theorem Gv(O:h.Ok)(hh:h.hold=some n)(z:h.vw.Sz)(q:R .none (Lw (h.wrote n (h.c n)).Ms F)):Ct E R (Lw h F) 831 (m+3) [.ref (h.a 5), .ref (h.bn n).l]:=by
 have r:=O.sI n hh
 refine df qz ?_
 refine bY (bT (.aa rfl) (Lw.obj .c) rfl rfl (.cons (.aa rfl) .nil) ?_)
 refine hB r (O.yd r) hh ?_
 refine bY ?_
 refine' cM ?y1 (mT (Lw.obj .d) rfl rfl) (bk (bq ?y2 (bk ?_)))
 case y1=>exact .am (.aa rfl) (Lw.obj .c) rfl rfl
 case y2=>exact .am (.aa rfl) (Lw.gh (F:=F) r) rfl rfl
 refine bT (.aa rfl) (Lw.gh (F:=F) r) rfl rfl .nil ?_
 refine wb r (O.len n).2 (cm (er (uf (El.lw (h:=h)) (v:=h.dd) (O.jK n r) (O.len n).2 ⟨z.lk,z.un⟩ ?_)))
 refine jE (.aa rfl) (Lw.obj .c) rfl rfl .ag (by constructor) (Lw.Jk (h':=(h.wrote n (h.c n)).Ms) rfl rfl rfl) ?_
 exact bj q
theorem F6(z:h.ch.length<=1000/\h.kk.length<=1000)(q:∀r,R .none (Lw ((h.K5.vq h.ch.length).Hj r) F)):Ct E R (Lw h F) 838 (m+3) [.ref (h.a 5)]:=by
 refine dh rr ?_
 refine bY (bT (.am (.aa rfl) (Lw.obj .c) rfl rfl) (Lw.obj .d) rfl rfl .nil ?_)
 refine zi (El.lw (h:=h)) (v:=h.dd) z λr=> ?_
 refine bj ?_
 exact q r
theorem Lo.Ok.clean{h':Lo g}(O':h'.Ok)(v:h'.vw=h.vw)(hh:h.hold=none)(O:h.Ok)(p:n∉h'.pins):h'.c n=h'.d n:=by
 have:=O.cl n (by refine ae (show h.pins=h'.pins from (ah Vw.pins v).symm)▸ ?_;exact p) (by refine ae hh▸ ?_;exact nofun)
 exact (show h.d=h'.d from (ah Vw.d v).symm)▸(show h.c=h'.c from (ah Vw.c v).symm)▸this
theorem DG(O:h.Ok)(hh:h.hold=none)(b:0<=n/\n < h.nb)(q:∀h' : Lo g,h'.Ok->h'.hold=none->h'.vw=h.vw->R (.bytes (h.c n)) (Lw h' F)):Ct E R (Lw h F) 845 (m+4) [.ref (h.a 5), .int n]:=by
 refine df sH ?_
 refine de rfl (bT (.aa rfl) (Lw.obj .c) rfl rfl (.cons (.aa rfl) .nil) ?_)
 refine Cz O hh b λh1 O1 hh1 v1=> ?_
 have r:=O1.sI n hh1
 refine de rfl (bT (.aa rfl) (Lw.gh (F:=F) r) rfl rfl .nil ?_)
 refine wb r (O1.len n).2 ?_
 refine bY (bT (.aa rfl) (Lw.obj .c) rfl rfl (.cons (.aa rfl) .nil) ?_)
 refine oO O1 hh1 (λp=> ?_) λh2 O2 hh2 v2=> ?_
 ·exact O1.clean v1 hh O p
 refine cC (.aa rfl) ?_
 refine ae (show h1.c n=h.c n from congrFun (ah Vw.c v1) n)▸ ?_
 exact q h2 O2 hh2 (v2.trans v1)
theorem Lo.Ok.cB(O:h.Ok)(hh:h.hold=some n){o:List UInt8}(lo:o.length=64):(h.cB n o).Ok:=
 { O with cl:=λy p e=>(if_neg λq:y=n=>e (q▸hh)).trans (O.cl y p e),len:=λy=>⟨(O.len y).1,by show (upd h.c n o y).length=64;unfold upd;split;exact lo;exact (O.len y).2⟩ }
theorem yV{ks:List Int}{y:Int}(q:y∉ins ks n):y≠n/\y∉ks:=by unfold ins at q;split at q<;>simp_all;rintro rfl;contradiction
theorem Lo.Ok.wrote(O:h.Ok):(h.wrote n (h.c n)).Ms.Ok:=
 { O with cl:=λy p e=>(by show h.c y=upd h.d n (h.c n) y;unfold upd;split;(rename_i q;exact ah _ q);exact O.cl y p e),Em:=λy q=>(if_neg (yV q).1).trans (O.Em y (yV q).2),len:=λy=>⟨by show (upd h.d n (h.c n) y).length=64;unfold upd;split;exact (O.len n).2;exact (O.len y).1,(O.len y).2⟩ }
noncomputable def Vw.wO(v:Vw)(n:Int)(o:List UInt8):Vw:={ v with c:=upd v.c n o,d:=upd v.d n o,lk:=ins v.lk n,ch:=v.ch++[(n,o)] }
theorem xv(O:h.Ok)(hh:h.hold=none)(b:0<=n/\n < h.nb){o:List UInt8}(lo:o.length=64)(z:h.vw.Sz)(q:∀h' : Lo g,h'.Ok->h'.hold=none->h'.vw=h.vw.wO n o->R .none (Lw h' F)):Ct E R (Lw h F) 852 (m+4) [.ref (h.a 5), .int n, .bytes o]:=by
 refine fH sg ?_
 refine de rfl (bT (.aa rfl) (Lw.obj .c) rfl rfl (.cons (.aa rfl) .nil) ?_)
 refine Cz O hh b λh1 O1 hh1 v1=> ?_
 have r:=O1.sI n hh1
 refine bY (bT (.aa rfl) (Lw.gh (F:=F) r) rfl rfl (.cons (.aa rfl) .nil) ?_)
 refine H0 O1.nd r (O1.len n).2 lo ?_
 refine bY (bT (.aa rfl) (Lw.obj .c) rfl rfl (.cons (.aa rfl) .nil) ?_)
 refine Gv (O1.cB hh1 lo) hh1 (by rw[<-v1] at z;exact⟨z.lk,z.un⟩) ?_
 refine bY (bT (.aa rfl) (Lw.obj .c) rfl rfl (.cons (.aa rfl) .nil) ?_)
 refine oO ((O1.cB hh1 lo).wrote (n:=n)) hh1 (λ_=>(if_pos rfl).symm) λh2 O3 hh2 v2=> ?_
 refine bj ?_
 refine q h2 O3 hh2 (v2.trans ?_)
 exact ae (show (h1.cB n o).c n=o from if_pos rfl)▸v1▸rfl
end
theorem vL(x y k:Nat)(h:x < 2^k):x &&& (y * 2^k)=0:=by
 apply Nat.eq_of_testBit_eq
 intro i
 refine (Nat.testBit_and ..).trans ?_;rw[Nat.zero_testBit]
 by_cases q : i < k
 ·refine (ah _ (Nat.testBit_mul_two_pow ..)).trans ?_;refine ae (bz (Nat.not_le.mpr q))▸ ?_;exact Bool.and_false _
 ·rw[Nat.testBit_lt_two_pow (aC h (Nat.pow_le_pow_right (by decide) (Nat.le_of_not_lt q)))];rfl
theorem CK(x y k:Nat)(h:x < 2^k):Builtin.bitOr (x:Int) ((y:Int) * 2^k)=((x+y * 2^k : Nat):Int):=by
 rw[bitOr_and,(show ((y:Int) * 2^k)=((y * 2^k : Nat):Int) by rw[Int.natCast_mul,Int.natCast_pow];rfl)]
 have : Builtin.bitAnd (x:Int) ((y * 2^k : Nat):Int)=0:=by
  unfold Builtin.bitAnd
  rw[aZ (bA x),aZ (bA (y * 2^k))]
  show ((((x:Int).toNat &&& ((y * 2^k : Nat):Int).toNat : Nat)):Int)=0
  rw[Int.toNat_natCast,Int.toNat_natCast,vL x y k h];rfl
 rw[this];exact ae ((λ{a b}=>Int.neg_inj.mp) rfl)
noncomputable def wQ(b:List UInt8)(i:Nat):Nat:=(b.getD i 0).toNat+(b.getD (i+1) 0).toNat * 2^8
noncomputable def KK(b:List UInt8)(i:Nat):Nat:=wQ b i+wQ b (i+2) * 2^16
theorem CJ(b:List UInt8)(i:Nat):wQ b i < 2^16:=by
 exact aC (Nat.add_lt_add_of_lt_of_le (b.getD i 0).toNat_lt (Nat.mul_le_mul_right _ (bH (b.getD (i+1) 0).toNat_lt))) (by decide)
noncomputable def vu(b:List UInt8)(i v:Nat):List UInt8:=(b.set i (v % 256).toUInt8).set (i+1) (v / 256 % 256).toUInt8
noncomputable def GP(b:List UInt8)(i v:Nat):List UInt8:=vu (vu b i (v % 65536)) (i+2) (v / 65536 % 65536)
theorem dX(b:List UInt8)(i v:Nat):(vu b i v).length=b.length:=by rw[vu];refine (cL).trans ?_;exact cL
theorem t7(b:List UInt8)(i v:Nat):(GP b i v).length=b.length:=by rw[GP];refine (dX ..).trans ?_;exact (dX ..)
theorem GR(v:Nat):Builtin.bitAnd (v:Int) 255=((v % 256 : Nat):Int):=by rw[bitAnd_m8];exact ae (Nat.ToInt.mod_congr rfl rfl)
theorem Cn(v:Nat):Builtin.bitAnd (v:Int) 65535=((v % 65536 : Nat):Int):=by rw[bitAnd_m16];exact ae (Nat.ToInt.mod_congr rfl rfl)
theorem yC(v k:Nat):(v:Int).fdiv (2^(k:Int).toNat)=((v / 2^k : Nat):Int):=by
 exact (Int.fdiv_eq_ediv_of_nonneg _ (Int.pow_nonneg (by decide)))
inductive GV(S:As):MV->List UInt8->Prop
 |b {b}:GV S (.bytes b) b
 |r {l b} (e:dP S l (.bW b)):GV S (.ref l) b
structure Ba(S:List UInt8->As)(l:LA):Prop where
 has : ∀b,dP (S b) l (.bW b)
 upd : ∀b b',Upd (S b) l (.bW b') (S b')
section
variable {m i:Nat}{S:As}{o:MV}{b:List UInt8}{k j:Int}{R:MV->As->Prop}{E:Addr->As->Prop}
theorem GV.it(h:GV S o b)(i:Nat)(hk:k=i)(hi:i < b.length)(hz:b.length<=100000):zW S o (.int k) (.int (b.getD i 0).toNat):=by
 subst hk
 have z : Nm ((0:Int)<=i/\(i:Int) < b.length/\b.length<=100000):=⟨bA _,aX.mpr hi,hz⟩
 cases h with
 |b=>exact .oct z
 |r e=>exact .ref e (.ba z)
theorem gC(h:GV S o b)(i:Nat)(hk:k=i)(hi:i+1 < b.length)(hz:b.length<=100000)(q:R (.int (wQ b i)) S):Ct E R S 116 (m+1) [o, .int k]:=by
 have:=(b.getD (i+1) 0).toNat_lt
 refine df xO ?_
 refine cC (.bin (.item (.aa rfl) (.aa rfl) (h.it i hk (az (Nat.le_add_right_of_le (aG _)) hi) hz)) (.bin (.item (.aa rfl) (.bin (.aa rfl) .ag .add) (h.it (k:=k+1) (i+1) (ah (·+1) hk) hi hz)) .ag (.shl (by unfold Nm;exact⟨by decide,by decide,aC this (by decide)⟩))) .bor) ?_
 exact (CK _ (b.getD (i+1) 0).toNat 8 (b.getD i 0).toNat_lt).symm▸q
theorem oF(h:GV S o b)(i:Nat)(hk:k=i)(hi:i+3 < b.length)(hz:b.length<=100000)(q:R (.int (KK b i)) S):Ct E R S 123 (m+2) [o, .int k]:=by
 refine df w9 (eX (lG ?_))
 refine cr (.cons (.aa rfl) (.cons (.aa rfl) .nil)) ?_
 refine gC h i hk (az (bb (by decide) _) hi) hz (lG ?_)
 refine cr (.cons (.aa rfl) (.cons (.bin (.aa rfl) .ag .add) .nil)) ?_
 refine gC h (i+2) (ah (·+2) hk) hi hz (bq .ag (.mk (.shl ?_) (.mk .bor ?_)))
 ·have:=CJ b (i+2);exact id (by unfold Nm;exact⟨by decide,by decide,aC this (by decide)⟩)
 ·exact (CK _ (wQ b (i+2)) 16 (CJ b i)).symm▸q
theorem Kv{i u:Nat}(hk:k=i)(hj:j=u)(hi:i < b.length)(hz:b.length<=100000)(hu:u < 256):uB (.int j) (.bW b) (.int k) (.bW (b.set i u.toUInt8)):=by
 subst hk hj;exact .ba (x:=u) rfl ⟨bA _,aX.mpr hi,hz,bA _,aX.mpr hu⟩
variable {T:List UInt8->As}{l:LA}
theorem eU(B:Ba T l)(v:Nat)(i:Nat)(hk:k=i)(hj:j=v)(hi:i+1 < b.length)(hz:b.length<=100000)(q:R .none (T (vu b i v))):Ct E R (T b) 130 (m+1) [.ref l, .int k, .int j]:=by
 subst hj
 refine fH wL ?_
 refine' ct (bq ?t1 (dW (.aa rfl) (.aa rfl) (B.has b) (Kv hk (GR v) (az (Nat.le_add_right_of_le (aG _)) hi) hz (Nat.mod_lt _ (by decide))) (B.upd _ _) ?_))
 case t1=>exact .bin (.aa rfl) .ag .band
 refine' ct (bq ?t2 (dW (.aa rfl) ?t3 (B.has _) (Kv (k:=k+1) (i:=i+1) (ah (·+1) hk) ((ah (Builtin.bitAnd · 255) (yC v 8)).trans (GR _)) (by rw[cL];exact hi) (by rw[cL];exact hz) (Nat.mod_lt _ (by decide))) (B.upd _ _) (bj q)))
 case t2=>exact .bin (.bin (.aa rfl) .ag (.shr (Int.zero_le_ofNat 8))) .ag .band
 case t3=>exact .bin (.aa rfl) .ag .add
theorem jc(B:Ba T l)(v:Nat)(i:Nat)(hk:k=i)(hj:j=v)(hi:i+3 < b.length)(hz:b.length<=100000)(q:R .none (T (GP b i v))):Ct E R (T b) 137 (m+2) [.ref l, .int k, .int j]:=by
 subst hj
 refine fH vG ?_
 refine bY (cr (.cons (.aa rfl) (.cons (.aa rfl) (.cons (.bin (.aa rfl) .ag .band) .nil))) ?_)
 refine eU B (v % 65536) i hk (Cn v) (az (bb (by decide) _) hi) hz ?_
 refine bY (cr (.cons (.aa rfl) (.cons (.bin (.aa rfl) .ag .add) (.cons (.bin (.bin (.aa rfl) .ag (.shr (by unfold Nm;exact Int.zero_le_ofNat 16))) .ag .band) .nil))) ?_)
 refine eU B (v / 65536 % 65536) (i+2) (ah (·+2) hk) ((ah (Builtin.bitAnd · 65535) (yC v 16)).trans (Cn _)) (by rw[dX];exact hi) (by rw[dX];exact hz) ?_
 refine bj ?_
 exact q
end
noncomputable def by4(z:Int)(n:Nat):List Int:=(List.range n).map λj : Nat=>Builtin.bitAnd (z.fdiv (2^(8 * (j:Int)).toNat)) 255
theorem Ik{z:Int}{n:Nat}:∀x∈by4 z n,0<=x/\x < 256:=λx m=>let ⟨_,_,e⟩:=cq.mp m;by
 refine e▸ ?_;refine ae (bitAnd_m8 ..)▸ ?_;exact⟨Int.emod_nonneg _ (by decide),Int.emod_lt_of_pos _ (by decide)⟩
theorem LJ : ∀L : Nat,L < 10->L<=100000/\decide (4 * ((L:Int)+1) > 64)=false/\((4:Int).natAbs < 2^32/\((L:Int)+1).natAbs < 2^32):=by decide +kernel
theorem L8 : ∀j : Nat,j < 4->((8:Int).natAbs < 2^32/\(j:Int).natAbs < 2^32)/\0<=8 * (j:Int):=by decide +kernel
theorem Mh : ∀i : Nat,i < 11->4 * i<=100000:=by decide +kernel
theorem LX : ∀b : Nat,b < 44->b<=100000/\(0<=64 - (b:Int)/\64 - (b:Int)<=100000)/\(64 - (b:Int)).toNat=64 - b/\b+(64 - b)=64:=by decide +kernel
section
variable {m:Nat}{g:En}{h:Lo g}{F:List Cell}{R:MV->As->Prop}{E:Addr->As->Prop}{n:Int}{loc:Loc}
theorem gO : ∀ {xs:List Int},intsOf (xs.map .int)=some xs
 | []=>rfl
 |x::xs=>by show (intsOf (xs.map .int)).map (x::·)=_;rw[gO];rfl
theorem kF{L i:Nat}{S:As}(h:i < L):rO S (g6 0 1 L i) (some (.int i,g6 0 1 L (i+1))):=by
 have:=t9 (S:=S) (x:=0) (d:=1) h
 rwa [Int.mul_one,Int.zero_add] at this
theorem Iw{l:LA}{ns:List Int}(e:∀F',F.Sublist F'->dP (Lw h F') l (.list (ns.map .int)))(hn:ns.length<=9)(q:∀o,o.length=64->R (.bytes o) (Lw h F)):Ct E R (Lw h F) 981 (m+1) [.ref l, .int 64]:=by
 refine df qp ?_
 have lm : (ns.map MV.int).length=ns.length:=aq ..
 refine ie (LJ _ (Nat.lt_succ_of_le hn)) λa0 a1 a2=> ?_
 have l0 : (ns.map MV.int).length<=100000:=lm▸a0
 have : decide (4 * (((ns.map MV.int).length : Int)+1) > 64)=false:=lm▸a1
 refine cO (.cmp (.bin .glob (.bin (.call (.cons (.aa rfl) .nil) (.len (e F (.refl _)) .list (by assumption))) .ag .add) (.mul (by exact And.comm.mp (id (And.symm (lm▸a2)))))) (.aa rfl) .gt) this (de rfl ?_)
 refine cV (cm (xz Lw.new λr0=> ?_))
 have e1:=e ((r0, .bW [])::F) (.cons _ (.refl _))
 refine s0 (ES (tS (dz (c7 (vs:=[.int (ns.map MV.int).length]) (.cons (.call (.cons (.aa rfl) .nil) (.len e1 .list l0)) .nil) ⟨aj rfl,Lw.new,λr1=> ?_⟩))))
 have e2:=e ((r1, .list [.int (ns.map MV.int).length])::(r0, .bW [])::F) (.cons _ (.cons _ (.refl _)))
 refine cV (c7 (vs:=[.ref l]) (.cons (.aa rfl) .nil) (FR e2 (lm▸ad hn (by decide)) Lw.new λr2=> ?_))
 refine .mk (Lw.cH (i:=1) rfl) (Lw.cH (i:=0) rfl) (lm▸ad (bb hn 1) (by decide)) Lw.new λr3=> .mk rfl (.mk (Lw.cH (i:=0) rfl) ?_)
 generalize hz : ((ns.map MV.int).length : Int)::ns=zs
 have hl : zs.length < 11:=by refine hz▸ ?_;exact Nat.succ_lt_succ (Nat.lt_succ_of_le hn)
 refine ae (show [MV.int (ns.map MV.int).length]++ns.map MV.int=zs.map .int by refine hz▸ ?_;rfl)▸ ?_
 refine .mk (zs.length+1) rfl (fM (S1:=Lw h ((r3, .list (zs.map .int))::(r0, .bW [])::F)) (λ_ s=>Lw.sub s (.cons_cons _ (.cons _ (.cons _ (.refl _))))) (lI (it:=λi=> .lst r3 i)
  (I:=λi loc S=>Fr [some (.ref l),some (.int 64),some (.ref r0)] 1 loc/\∃b : List UInt8,b.length=4 * i/\S=Lw h ((r3, .list (zs.map .int))::(r0, .bW b)::F)) ?_ ?_ _ _ _ _ (bZ _) ⟨.of rfl rfl,_,rfl,rfl⟩))
 ·rintro i loc S hi ⟨⟨x⟩,b,lb,rfl⟩
  obtain⟨z,ez⟩ : ∃z,zs[i]?=some z:=⟨_,ay hi⟩
  refine .mk (ik (v:= .int z) (Lw.cH (i:=0) rfl) (by rw[bc];exact ah _ ez)) (bR rfl (bY ?_))
  refine cM (.aa rfl) (gP (Lw.cH (i:=1) rfl) (.ba rfl)) (bk (cV (bk (fT (it:=g6 0 1 4) (L:=4)
   (I:=λj acc loc S=>acc=(by4 z j).map .int/\(∃y,loc=[y,some (.int z)])/\S=Lw h ((r3, .list (zs.map .int))::(r0, .bW b)::F)) (iX (j:=4) (.cons .glob .nil) (show _/\_ by decide) ⟨rfl,rfl,⟨_,rfl⟩,rfl⟩) rfl ?_ ?_))))
  ·rintro j acc loc S hj ⟨rfl,⟨y,rfl⟩,rfl⟩
   have e1:=L8 j hj
   refine⟨by rw[aq,by4,aq];refine ae d8▸ ?_;exact ad (aL hj) (by decide), .mk (kF hj) (bR rfl (fS ⟨λ_=>bq (.bin (.bin (.aa rfl) (.bin .ag (.aa rfl) (.mul e1.1)) (.shr e1.2)) .ag .band) ⟨?_,⟨_,rfl⟩,rfl⟩,nofun⟩))⟩
   unfold by4;rw[List.range_succ,aY,aY];rfl
  ·rintro acc loc S ⟨rfl,_,rfl⟩
   refine⟨gu, .mk Lw.new λr=>cm (n6 (Lw.cH (i:=0) rfl) (aj rfl) gO Ik (cm ?_))⟩
   have l4:=Mh i (cG hi hl)
   refine Ia (Lw.cH (i:=2) rfl) ⟨lb▸l4,aj rfl⟩ (Lw.jJ (i:=2) rfl rfl) ?_
   refine fM (S1:=Lw h ((r3, .list (zs.map .int))::(r0, .bW (b++(by4 z 4).map λn=>n.toNat.toUInt8))::F)) (λ_ s=>Lw.sub s (.cons _ (.refl _))) (bj ⟨.of rfl rfl,_, ?_,rfl⟩)
   refine (aA).trans ?_;rw[lb];rfl
 ·rintro loc S ⟨⟨x⟩,b,lb,rfl⟩
  refine⟨by have:=fj (Lw.cH (h:=h) (F:=(r3, .list (zs.map .int))::(r0, .bW b)::F) (i:=0) rfl);rwa [aq] at this, ?_⟩
  have h0:=Lw.cH (h:=h) (F:=(r3, .list (zs.map .int))::(r0, .bW b)::F) (i:=1) rfl
  refine ie (LX _ (lb.symm▸Nat.mul_lt_mul_of_pos_left hl (by decide):b.length < 44)) λz0 z1 z2=> ?_
  exact oH (.bin (.call (.cons (.aa rfl) .nil) (.oP h0 z0)) (.call (.cons (.bin (.aa rfl) (.call (.cons (.aa rfl) .nil) (.len h0 .ba z0)) .sub) .nil) (.vg z1)) (.Ed (ad (aw ((ah (b.length+·) (List.length_replicate.trans z2.1)).trans z2.2)) (by decide)))) (λ_ s=>Lw.sub s (.cons _ (.cons _ (.refl _)))) (q (b++List.replicate (64 - (b.length : Int)).toNat 0) (aA.trans ((ah (b.length+·) (List.length_replicate.trans z2.1)).trans z2.2)))
end
section
variable {m:Nat}{g:En}{h h':Lo g}{F:List Cell}{R:MV->As->Prop}{E:Addr->As->Prop}{n:Int}{loc:Loc}{k:Nat}{v:Vw}
theorem H9(l:h.nums.length<=9)(q:R (.int (9 - h.nums.length)) (Lw h F)):Ct E R (Lw h F) 1017 (m+1) [.ref (h.a 9)]:=by
 refine dh pB (cC (.bin (.am (.aa rfl) (Lw.obj .j) rfl rfl) (.call (.cons (.am (.aa rfl) (Lw.obj .j) rfl rfl) .nil) (.len (Lw.has .nm) .list ?_)) .sub) ?_)
 ·rw[aq];exact id (by unfold Nm;exact ad l (by decide))
 ·rw[aq];exact q
theorem yN(hn:h.nums=[])(hc:h.calls=0)(q:R .none (Lw (h.kz 1) F)):Ct E R (Lw h F) 1024 (m+2) [.ref (h.a 9)]:=by
 refine dh oB (gE (uC (Ff ?_)))
 refine bT (.aa rfl) (Lw.obj .j) rfl rfl .nil ?_
 have l0 : (h.nums.map MV.int).length=0:=by refine ae hn▸ ?_;rfl
 have l1 : (h.nums.map MV.int).length<=100000:=by rw[l0];decide
 refine dh kP ?_
 refine cC (.cmp (.bin (.call (.cons (.am (.aa rfl) (Lw.obj .j) rfl rfl) .nil) (.len (Lw.has .nm) .list (by assumption))) (.bin (.bin (.am (.aa rfl) (Lw.obj .j) rfl rfl) .ag .add) (.am (.aa rfl) (Lw.obj .j) rfl rfl) (.mul (by exact And.comm.mp (id (And.symm (by rw[hc];decide)))))) .add) (.am (.aa rfl) (Lw.obj .j) rfl rfl) .le) ?_
 refine .mk .bool ?_
 rw[l0,hc]
 refine⟨nofun,λ_=> ?_⟩
 refine' jE ?t1 (Lw.obj .j) rfl rfl .ag .add (Lw.Jm (h':=h.kz 1) ?t2 rfl rfl) (bj q)
 case t1=>exact .aa rfl
 case t2=>(refine ae hc▸ ?_);rfl
theorem J7(q:R (.bool (decide (2<=n)&&decide (n < 2+10))) (Lw h F)):Ct E R (Lw h F) 1003 (m+1) [.ref (h.a 9), .int n]:=by
 refine df ng ?_
 refine cC (.ky (.am (.aa rfl) (Lw.obj .j) rfl rfl) (.aa rfl) (.bin (.am (.aa rfl) (Lw.obj .j) rfl rfl) (.am (.aa rfl) (Lw.obj .j) rfl rfl) .add) .le .lt) ?_
 exact q
theorem tp : (h.noted.lookup n).isSome=decide (n∈h.nd):=by
 unfold Lo.noted
 generalize 0=i
 induction h.nd generalizing i with
 |nil=>rfl
 |cons x l ih=>
  show (match n==x with | true=>some _ | false=>_ : Option MV).isSome=_
  by_cases q : n=x
  ·subst q;rw[beq_self_eq_true];exact (aZ (aV ..)).symm
  ·refine ae (beq_eq_false_iff_ne.mpr q)▸ ?_
   exact (ih _).trans (decide_eq_decide.mpr ⟨aB _,λm=>(aK.mp m).resolve_left q⟩)
theorem Ag : h.noted.any (λe=>e.1=n)=decide (n∈h.nd):=by
 unfold Lo.noted
 refine (List.any_map).trans ?_;rw[eu];refine (List.any_eq_true).trans ?_;rw[decide_eq_true_iff]
 refine⟨λzz=>(by refine aT zz λx m e=> ?_;exact aF e▸(List.fst_mem_of_mem_zipIdx m)),λm=> ?_⟩
 obtain⟨i,hi,e⟩:=List.getElem_of_mem m
 exact⟨(n,i),List.mem_zipIdx_iff_getElem?.mpr (e▸ay hi),aZ rfl⟩
theorem Lw.Lg(q:n∉h.nd){i:Int}(e:i=h.nd.length):Upd (Lw h F) h.nt (.bS (gW h.noted n (.int i))) (Lw (h.K9 (h.nd++[n])) F):=by
 refine Lw.ya (i:=12) rfl ?_ rfl
 have : (h.K9 (h.nd++[n])).noted=gW h.noted n (.int i):=by
  unfold gW
  rw[Ag,if_neg λz=>q (aF z)]
  skip
  refine (ah _ List.zipIdx_append).trans ?_;refine (aY).trans ?_;rw[e,bZ];rfl
 exact this▸rfl
theorem Lw.GD : Upd (Lw h F) h.nm (.list (h.nums.map MV.int++[.int n])) (Lw (h.Hi (h.nums++[n])) F):=Lw.ya (i:=11) rfl (by rw[<-List.map_singleton,<-aY];rfl) rfl
noncomputable abbrev Lo.rC{g:En}(h:Lo g)(n:Int):Lo g:=((h.ru (ins h.pins n)).K9 (ins h.nd n)).Hi (ins h.nums n)
theorem FZ(O:h.Ok)(hh:h.hold=some n)(hc:h.calls≠0)(hn:n < 2∨12<=n)(e1:h.nd=h.nums)(e2:h.pins=h.nums)(ln:n∈h.nums∨h.nums.length < 9)(q:R .none (Lw (h.rC n) F)):Ct E R (Lw h F) 1031 (m+3) [.ref (h.a 9), .ref (h.bn n).l]:=by
 have r:=O.sI n hh
 refine df oh ?_
 refine cO (.cmp (.am (.aa rfl) (Lw.obj .j) rfl rfl) .ag .lD) (beq_eq_false_iff_ne.mpr hc) ?_
 refine gE (Ff ?_)
 refine bT (.aa rfl) (Lw.obj .j) rfl rfl (.cons (.am (.aa rfl) (Lw.gh (F:=F) r) rfl rfl) .nil) ?_
 refine J7 (.mk .bool ?_)
 rw[(show (decide (2<=n)&&decide (n < 2+10))=false by exact Bool.and_eq_false_iff.mpr (hn.imp (λh=>bz (Int.not_le.mpr h)) λh=>bz (cZ.mpr h)))]
 refine⟨nofun,λ_=> ?_⟩
 refine' iG (.cmp ?t1 ?t2 (.inR (Lw.has .nt) (.dI rfl))) ?t3 ?t4
 case t1=>exact .am (.aa rfl) (Lw.gh (F:=F) r) rfl rfl
 case t2=>exact .am (.aa rfl) (Lw.obj .j) rfl rfl
 case t3=>
  intro e
  have e:=aF (tp.symm.trans e)
  refine bY (bT (.am (.aa rfl) (Lw.obj .j) rfl rfl) (Lw.obj .c) rfl rfl (.cons (.aa rfl) .nil) ?_)
  refine hB r (O.yd r) hh (x5 ?_)
  unfold Lo.rC ins at q
  rw[if_pos e,if_pos (e1▸e : n∈h.nums),if_pos (by refine ae e2▸e1▸ ?_;exact e)] at q
  exact q
 intro e
 have e : n∉h.nd:=br (tp.symm.trans e)
 have en : n∉h.nums:=e1▸e
 have ln:=ln.resolve_left en
 have l1 : (h.nums.map MV.int).length<=100000:=by rw[aq];exact ad (aL ln) (by decide)
 have l2 : decide (((h.nums.map MV.int).length : Int)≥9)=false:=by refine ae (aq ..)▸ ?_;exact bz (Int.not_le.mpr (cU (aW.mpr (bH ln)) (by decide)))
 have l3 : (h.ru (h.pins++[n])).noted.length<=100000:=by dsimp only[Lo.noted];rw[aq,List.length_zipIdx];refine ae e1▸ ?_;exact ad (aL ln) (by decide)
 refine cO (.cmp (.call (.cons (.am (.aa rfl) (Lw.obj .j) rfl rfl) .nil) (.len (Lw.has .nm) .list (by assumption))) (.am (.aa rfl) (Lw.obj .j) rfl rfl) .ge) l2 (bY (bT (.am (.aa rfl) (Lw.obj .j) rfl rfl) (Lw.obj .c) rfl rfl (.cons (.aa rfl) .nil) ?_))
 refine KG O.nd r (O.yd r) hh (by refine ae e2▸ ?_;exact en) ?_
 unfold Lo.rC ins at q
 rw[if_neg e,if_neg en,if_neg (by refine ae e2▸ ?_;exact en)] at q
 refine ct (bq (.call (.cons (.am (.aa rfl) (Lw.obj .j) rfl rfl) .nil) (.len (Lw.has .nm) .list (by assumption))) (dW (.am (.aa rfl) (Lw.obj .j) rfl rfl) (.am (.aa rfl) (Lw.gh (h:=h.ru (h.pins++[n])) (F:=F) r) rfl rfl) (Lw.has .nt) (uB.dI (by assumption)) (Lw.Lg (h:=h.ru (h.pins++[n])) e (i:=(h.nums.map MV.int).length) (by refine (ah _ (aq ..)).trans ?_;exact ae e1▸rfl)) ?_))
 refine bY ?_
 refine cM (.am (.aa rfl) (Lw.obj .j) rfl rfl) (gP (Lw.has .nm) (Ft.list rfl)) (c7 (.cons (.am (.aa rfl) (Lw.gh (h:=(h.ru (h.pins++[n])).K9 (h.nd++[n])) (F:=F) r) rfl rfl) .nil) (l7 (Lw.has .nm) (by assumption) (Lw.GD (h:=(h.ru (h.pins++[n])).K9 (h.nd++[n])) (n:=n)) ?_))
 exact bj q
end
noncomputable abbrev Le(S S':As):Prop:=∀σ,S σ->S' σ
noncomputable def Vs{g:En}(P:Lo g->Prop)(F:List Cell):As:=λσ=>∃h,P h/\Lw h F σ
structure Ck where
 c : Int->List UInt8
 ns : List Int
 k : Int
structure Ck.Ok(g:En)(s:Ck):Prop where
 nb : g.nb<=21/\17<=g.nb
 nd : s.ns.Nodup
 rg : ∀n∈s.ns,12<=n/\n < g.nb
 ln : s.ns.length<=9
structure Cv(g:En)(s:Ck)(ps:List Int)(i:Nat)(w:List Int)(v:Vw):Prop where
 c : ∀n,12<=n->v.c n=s.c n
 ns : v.nums=s.ns
 nd : v.nd=s.ns
 pins : v.pins=ps
 k : v.calls=s.k
 sk : (v.ch.map (·.1)).foldl ins v.kk=v.lk
 se : v.ch.foldl (λf p=>upd f p.1 p.2) v.e=v.d
 ln : v.lk.Nodup
 lr : ∀n∈v.lk,0<=n/\n < g.nb
 kl : v.kk.length<=100
 un : v.ch.length<=i
 wr : ∀n∈w,v.c n=v.d n
structure Pc{g:En}(s:Ck)(ps:List Int)(i:Nat)(w:List Int)(nm:LA)(h:Lo g):Prop where
 ok : h.Ok
 hh : h.hold=none
 cv : Cv g s ps i w h.vw
 nm : h.nm=nm
section
variable {m i:Nat}{g:En}{h:Lo g}{F:List Cell}{R:MV->As->Prop}{T:MF->Loc->As->Prop}{E:Addr->As->Prop}{n:Int}{loc:Loc}{s:Ck}{P:Lo g->Prop}{S:As}{ps w:List Int}{v:Vw}{o:List UInt8}{a:Addr}{args:List MV}{nm l:LA}
theorem e9(e:Le S (Vs P F))(q:∀h,P h->Ct E R (Lw h F) a m args):Ct E R S a m args:=λσ s=>let ⟨h,p,s⟩:=e σ s;q h p σ s
theorem dR{α:Type}{p:_root_.Internal.P α}{T:α->Loc->As->Prop}(e:Le S (Vs P F))(q:∀h,P h->Wp E (Lw h F) loc T p):Wp E S loc T p:=λσ s=>let ⟨h,p,s⟩:=e σ s;q h p σ s
theorem Vs.at(p:P h):Le (Lw h F) (Vs P F):=λ_ s=>⟨h,p,s⟩
theorem oJ{ks:List Int}(h:ks.Nodup):(ins ks n).Nodup:=by
 unfold ins;split
 ·exact h
 ·exact List.nodup_append.mpr ⟨h,List.nodup_cons.mpr ⟨List.not_mem_nil,List.nodup_nil⟩,λa m b m' e=>‹n∉ks› (by cases av.mp m';exact e▸m)⟩
theorem qd{ks:List Int}{y:Int}(q:y∈ins ks n):y=n∨y∈ks:=by
 unfold ins at q;split at q
 ·exact .inr q
 ·exact (bI.mp q).elim .inr λq=> .inl (av.mp q)
theorem BJ{f d:Int->List UInt8}{k:Int}(h:k≠n->f k=d k):upd f n o k=upd d n o k:=by unfold upd;split;rfl;exact h ‹_›
theorem LY{ks:List Int}(k:ks.Nodup)(b:∀n∈ks,0<=n/\n < g.nb)(nb:g.nb<=21):ks.length<=100:=
 ad (k.length_le_of_subset (l₂:=(List.range 100).map Int.ofNat) λx m=>cq.mpr ⟨x.toNat,List.mem_range.mpr (by exact aC ((Int.toNat_lt (b x m).1).mpr (aN (b x m).2 nb)) (by decide)),Int.toNat_of_nonneg (b x m).1⟩) (by exact aG _)
theorem Cv.DY(C:Cv g s ps i w v)(b:0<=n/\n < g.nb)(ho:12<=n->o=s.c n):Cv g s ps (i+1) (w++[n]) (v.wO n o):=
 { C with
  c:=λk q=>by show upd v.c n o k=_;unfold upd;split;(rename_i e;exact e▸ho (e▸q));exact C.c k q
  sk:=by show ((v.ch++[(n,o)]).map _).foldl _ _=_;refine (ah _ aY).trans ?_;refine (List.foldl_append).trans ?_;exact ah (ins · n) C.sk
  se:=by show (v.ch++[(n,o)]).foldl _ _=_;refine (List.foldl_append).trans ?_;exact ah (upd · n o) C.se
  ln:=oJ C.ln
  lr:=λk q=>(qd q).elim (λe=>e▸b) (C.lr k)
  un:=by show (v.ch++[(n,o)]).length<=_;rw[aA];exact Nat.succ_le_succ C.un
  wr:=λk q=>BJ λz=>C.wr k ((bI.mp q).resolve_right λq=>z (av.mp q)) }
theorem Cv.Lq(C:Cv g s ps i w v):Cv g s ps i [] v:={ C with wr:=nofun }
theorem Cv.sz(C:Cv g s ps i w v)(S:s.Ok g)(hi:i<=100):v.Sz:=⟨ad (LY C.ln C.lr S.nb.1) (by decide),ad C.un (ad hi (by decide))⟩
theorem Cv.flush{r:LA}(C:Cv g s ps i w h.vw)(S:s.Ok g):Cv g s ps 0 w ((h.K5.vq h.ch.length).Hj r).vw:=by
 have e1 : (h.K5.vq h.ch.length).kk=h.lk:=by show ((h.ch.take _).map _).foldl _ _=_;refine ae List.take_length▸ ?_;exact C.sk
 exact { C with sk:=e1,se:=(by show (h.ch.take _).foldl _ _=_;refine (ah _ List.take_length).trans ?_;exact C.se),kl:=ad (aw (ah List.length e1)) (LY C.ln C.lr S.nb.1),un:=aG _ }
theorem Lo.Ok.flush{r:LA}(O:h.Ok):((h.K5.vq h.ch.length).Hj r).Ok:={ O with }
theorem Pc.flush{r:LA}(p:Pc s ps i w nm h)(S:s.Ok g):Pc s ps 0 w nm ((h.K5.vq h.ch.length).Hj r):=⟨p.ok.flush,p.hh,p.cv.flush S,p.nm⟩
theorem Pc.DY{h':Lo g}(p:Pc s ps i w nm h)(O:h'.Ok)(hh:h'.hold=none)(e:h'.vw=h.vw.wO n o)(b:0<=n/\n < g.nb)(ho:12<=n->o=s.c n):Pc s ps (i+1) (w++[n]) nm h':=
 ⟨O,hh,e▸p.cv.DY b ho,(ah Vw.nm e).trans p.nm⟩
theorem Pc.nums(p:Pc s ps i w nm h):dP (Lw h F) nm (.list (s.ns.map .int)):=by refine p.nm▸(show h.nums=s.ns from p.cv.ns)▸ ?_;exact Lw.has .nm
theorem Vs.nums(e:Le S (Vs (Pc (g:=g) s ps i w nm) F)):dP S nm (.list (s.ns.map .int)):=λσ z=>(by refine aT (e σ z) λ_ p z=> ?_;exact p.nums σ z)
theorem cz(p:Pc s ps i w nm h)(S:s.Ok g)(hi:i<=100):h.ch.length<=1000/\h.kk.length<=1000:=⟨(p.cv.sz S hi).un,ad p.cv.kl (by decide)⟩
theorem u6(S:s.Ok g)(p:Pc s ps i w nm h)(hi:i<=100){b:IR}(q:∀S',Le S' (Vs (Pc (g:=g) s ps 0 w nm) F)->Wp E S' loc T (dn (m+3) b).s)(h0:loc[0]?=some (some (.ref (g.a 9)))):Wp E (Lw h F) loc T (dn (m+3) (.cons (.expr (.aO (.am (.aa 0) "cache") "flush" .nil)) b)).s:=
 bY (bT (.am (.aa h0) (Lw.obj .j) rfl rfl) (Lw.obj .c) rfl rfl .nil (F6 (cz p S hi) λ_=>q _ (Vs.at (p.flush S))))
theorem xh(Z:s.Ok g)(e:Le S (Vs (Pc (g:=g) s s.ns 0 [] nm) F))(q:∀S',Le S' (Vs (Pc (g:=g) s s.ns 0 [] nm) F)->R .none S'):Ct E R S 1052 (m+5) [.ref (g.a 9)]:=by
 refine e9 e λh p=>dh kR ?_
 refine dj (it:=λi=> .nT nm i) (L:=s.ns.length) (I:=λi loc S=>∃x y,loc=[some (.ref (g.a 9)),x,y]/\Le S (Vs (Pc (g:=g) s s.ns i [] nm) F)) ?_ rfl ?_ ?_
 ·exact nJ (.am (.aa rfl) (Lw.obj .j) rfl (ah (λl=>some (MV.ref l)) p.nm)) p.nums (by have:=Z.ln;refine ae (aq ..)▸ ?_;exact ad this (by decide)) ⟨rfl,_,_,rfl,Vs.at p⟩
 ·rintro i loc S hi ⟨x,y,rfl,e⟩
  obtain⟨n,g'⟩ : ∃n,s.ns[i]?=some n:=⟨_,ay hi⟩
  have b:=Z.rg n (au g')
  refine .mk (rh (Vs.nums e) (by refine (bc).trans ?_;exact ah _ g')) (jg rfl (c8 (bR rfl (c8 (bR rfl (i8 (dR e λh p=> ?_)))))))
  have hl:=Z.ln
  have ec:=p.cv.c n b.1
  refine' bY (cM ?y1 (mT (Lw.obj .c) rfl rfl) (bk (bq ?y2 (bk ?_))))
  case y1=>exact .am (.aa rfl) (Lw.obj .j) rfl rfl
  case y2=>exact .bin (.bin (.am (.aa rfl) (Lw.obj .j) rfl rfl) .ag .add) (.aa rfl) .add
  refine bT (.am (.aa rfl) (Lw.obj .j) rfl rfl) (Lw.obj .c) rfl rfl (.cons (.aa rfl) .nil) ?_
  have b1 : 0<=n/\n < g.nb:=by exact⟨bp (by decide) b.1,b.2⟩
  have b2 : (0:Int)<=2+1+i/\(2:Int)+1+i < g.nb:=⟨Int.add_nonneg (by decide) (bA _),aN (Int.add_lt_add_left (aX.mpr (aC hi hl)) 3) (bp (by decide) Z.nb.2)⟩
  refine DG p.ok p.hh b1 λh1 O1 hh1 v1=>cm (er (xv O1 hh1 b2 (p.ok.len n).2 (v1▸p.cv.sz Z (ad (ad (aL hi) hl) (by decide))) λh2 O2 hh2 v2=>bj ⟨_,_,rfl,Vs.at ?_⟩))
  have p2:=p.DY O2 hh2 (v2.trans (ah (Vw.wO · (2+1+(i:Int)) (h.c n)) v1)) b2 (λz=>absurd z (Int.not_le.mpr (Int.add_lt_add_left (aX.mpr (aC hi hl)) 3)))
  exact { p2 with cv:=p2.cv.Lq }
 ·rintro loc S ⟨x,y,rfl,e⟩
  exact⟨by have:=nA (Vs.nums e);exact (aq ..)▸this,dR e λh p=>u6 Z p (ad Z.ln (by decide)) (λS' e'=>bj (q S' e')) rfl⟩
theorem mM(Z:s.Ok g)(p:Pc s ps 0 w nm h){l:LA}{xs:List Int}(e:∀F',F.Sublist F'->dP (Lw h F') l (.list (xs.map .int)))(hx:xs.length<=9)(q:∀S',Le S' (Vs (Pc (g:=g) s ps 0 w nm) F)->R .none S'):Ct E R (Lw h F) 1059 (m+5) [.ref (g.a 9), .ref l]:=by
 refine df jI ?_
 refine' bY (cM ?y1 (mT (Lw.obj .c) rfl rfl) (bk (bq ?y2 (bk (cr ?y3 (Iw e hx λo lo=> ?_))))))
 case y1=>exact .am (.aa rfl) (Lw.obj .j) rfl rfl
 case y2=>exact .am (.aa rfl) (Lw.obj .j) rfl rfl
 case y3=>exact .cons (.aa rfl) (.cons (.am (.am (.aa rfl) (Lw.obj .j) rfl rfl) (Lw.obj .c) rfl rfl) .nil)
 have b2 : (0:Int)<=2/\(2:Int) < g.nb:=by have:=Z.nb;exact⟨by decide,aN (by decide) this.2⟩
 refine cm (er (xv p.ok p.hh b2 lo (p.cv.sz Z (by decide)) λh2 O2 hh2 v2=> ?_))
 exact u6 Z (p.DY O2 hh2 v2 b2 (λz=>absurd z (by decide))) (by decide) (λS' e'=>bj (q S' λσ z=>(by refine aT (e' σ z) λh p z=> ?_;exact⟨h,{ p with cv:={ p.cv with wr:=λk m=>p.cv.wr k (bJ _ m) } },z⟩))) rfl
theorem AF(Z:s.Ok g)(p:Pc s s.ns 0 [] nm h)(q:∀S',Le S' (Vs (Pc (g:=g) s s.ns 0 s.ns nm) F)->R .none S'):Ct E R (Lw h F) 1066 (m+5) [.ref (g.a 9), .ref nm, .bool false]:=by
 refine fH lT ?_
 refine dj (it:=λi=> .nT nm i) (L:=s.ns.length) (I:=λi loc S=>∃x y z,loc=[some (.ref (g.a 9)),some (.ref nm),some (.bool false),x,y,z]/\Le S (Vs (Pc (g:=g) s s.ns i (s.ns.take i) nm) F)) ?_ rfl ?_ ?_
 ·exact nJ (.aa rfl) p.nums (by have:=Z.ln;refine ae (aq ..)▸ ?_;exact ad this (by decide)) ⟨rfl,_,_,_,rfl,Vs.at p⟩
 ·rintro i loc S hi ⟨x,y,z,rfl,e⟩
  obtain⟨n,g'⟩ : ∃n,s.ns[i]?=some n:=⟨_,ay hi⟩
  refine .mk (rh (Vs.nums e) (by refine (bc).trans ?_;exact ah _ g')) (jg rfl (c8 (bR rfl (c8 (bR rfl (i8 (dR e λh p=> ?_)))))))
  have hl:=Z.ln
  have b1 : 0<=n/\n < g.nb:=by exact⟨bp (by decide) (Z.rg n (au g')).1,(Z.rg n (au g')).2⟩
  refine de rfl (bT (.am (.aa rfl) (Lw.obj .j) rfl rfl) (Lw.obj .c) rfl rfl (.cons (.Mv rfl (.aa rfl)) .nil) ?_)
  refine DG p.ok p.hh b1 λh1 O1 hh1 v1=> ?_
  refine bY (bT (.am (.aa rfl) (Lw.obj .j) rfl rfl) (Lw.obj .c) rfl rfl (.cons (.aa rfl) (.cons (.aa rfl) .nil)) ?_)
  refine xv O1 hh1 b1 (p.ok.len n).2 (v1▸p.cv.sz Z (ad (ad (aL hi) hl) (by decide))) λh2 O2 hh2 v2=>bj ⟨_,_,_,rfl,Vs.at ?_⟩
  rw[bV];refine ae g'▸ ?_
  exact p.DY O2 hh2 (v2.trans (ah (Vw.wO · n (h.c n)) v1)) b1 (p.cv.c n)
 ·rintro loc S ⟨x,y,z,rfl,e⟩
  refine⟨by have:=nA (Vs.nums e);exact (aq ..)▸this,dR e λh p=>u6 Z p (ad Z.ln (by decide)) (λS' e'=>bj (q S' ?_)) rfl⟩
  rwa [List.take_length] at e'
end
structure Jn{g:En}(s:Ck)(o:Option Int)(h:Lo g):Prop where
 ok : h.Ok
 hh : h.hold=o
 cv : Cv g s s.ns 0 [] h.vw
noncomputable abbrev Js(g:En)(s:Ck)(F:List Cell):As:=Vs (Jn (g:=g) s none) F
section
variable {m i:Nat}{g:En}{h:Lo g}{F:List Cell}{R:MV->As->Prop}{T:MF->Loc->As->Prop}{E:Addr->As->Prop}{n:Int}{loc:Loc}{s:Ck}{P:Lo g->Prop}{S:As}{ps w:List Int}{v:Vw}{o:List UInt8}{a:Addr}{args:List MV}{nm l:LA}
theorem Pc.Ld(p:Pc s (n::ps) i w nm h)(b:n∈w):Pc s ps i w nm (h.ru (h.pins.erase n)):=by
 have O:=p.ok
 refine⟨{ O with pin:=λy q=>O.pin y (List.mem_of_mem_erase q),D7:=O.D7.erase n,pl:=ad (List.length_erase_le ..) O.pl,cl:=λy q r=> ?_ },p.hh,{ p.cv with pins:=(by refine ae (show h.pins=n::ps from p.cv.pins)▸ ?_;exact (List.erase_cons_head ..)) },p.nm⟩
 by_cases z : y=n
 ·exact z▸p.cv.wr n b
 ·exact O.cl y (λm=>q ((List.mem_erase_of_ne z).mpr m)) r
theorem CM(Z:s.Ok g)(e:Le S (Vs (Pc (g:=g) s s.ns 0 [] nm) F))(q:∀S',Le S' (Js g { s with ns:=[] } F)->R .none S'):Ct E R S 1045 (m+6) [.ref (g.a 9)]:=by
 refine e9 e λh p=>dh nO ?_
 refine bY (bT (.aa rfl) (Lw.obj .j) rfl rfl .nil ?_)
 refine xh Z (Vs.at p) λS e=>dR e λh p=> ?_
 have lst : ∀ {h:Lo g} {w},Pc s s.ns 0 w nm h->∀ {F},PE [some (MV.ref (g.a 9)),none] (Lw h F) (.am (.aa 0) "numbers") (.ref nm):=λp _=> .am (.aa rfl) (Lw.obj .j) rfl (ah (λl=>some (MV.ref l)) p.nm)
 refine bY (bT (.aa rfl) (Lw.obj .j) rfl rfl (.cons (lst p) .nil) (mM Z p (λF' _=>p.nums) Z.ln λS e=>dR e λh p=> ?_))
 refine bY (bT (.aa rfl) (Lw.obj .j) rfl rfl (.cons (lst p) (.cons .ag .nil)) (AF Z p λS e=>dR e λh p=> ?_))
 refine bY (cM (.aa rfl) (mT (Lw.obj .j) rfl rfl) (bk (dz (cm ⟨bC _,Lw.new,λr=>cm (er (mM Z p (xs:=[]) (λF' sb=> ?_) (bC _) λS e=> ?_))⟩))))
 ·exact Zs.has (bx _ (bJ _ (sb.mem (aV ..))))
 have e : Le S (Vs (Pc (g:=g) s s.ns 0 s.ns nm) F):=λσ z=>(by refine aT (e σ z) λh p z=> ?_;exact⟨h,p,Lw.sub z (.cons _ (.refl _))⟩)
 refine dj (it:=λi=> .lst nm i) (L:=s.ns.length) (I:=λi loc S=>∃x,loc=[some (.ref (g.a 9)),x]/\Le S (Vs (Pc (g:=g) s (s.ns.drop i) 0 s.ns nm) F)) ?_ rfl ?_ ?_
 ·exact λσ z=>(by refine aT (e σ z) λh p z'=> ?_;exact jh (lst p) p.nums ⟨rfl,_,rfl,Vs.at p⟩ σ z')
 ·rintro i loc S hi ⟨x,rfl,e⟩
  obtain⟨n,g'⟩ : ∃n,s.ns[i]?=some n:=⟨_,ay hi⟩
  have m':=au g'
  rw[List.drop_eq_getElem_cons hi,(List.getElem_eq_iff hi).mpr g'] at e
  refine .mk (ik (Vs.nums e) (by refine (bc).trans ?_;exact ah _ g')) (bR rfl (dR e λh p=> ?_))
  refine bY (bT (.am (.aa rfl) (Lw.obj .j) rfl rfl) (Lw.obj .c) rfl rfl (.cons (.aa rfl) .nil) ?_)
  exact FY p.ok (show n∈h.vw.pins from p.cv.pins▸aV ..) (bj ⟨_,rfl,Vs.at (p.Ld m')⟩)
 ·rintro loc S ⟨x,rfl,e⟩
  refine⟨by have:=fj (Vs.nums e);exact (aq ..)▸this, ?_⟩
  rw[List.drop_length] at e
  refine dR e λh p=>ct (dz (cm ⟨bC _,Lw.new,λr=> ?_⟩))
  refine' cX (.aa rfl) (Lw.yb (h':=h.Ec r) (i:=9) (j:=11) rfl rfl rfl rfl rfl rfl) (ct ?_)
  refine λσ z Q X k x=>let ⟨r2,hr,z⟩:=Lw.new (o:= .bS []) σ z;⟨r2,_,⟨hr, .inl rfl⟩,k _ _ _ z ?_⟩
  refine' cX (.aa rfl) (Lw.yb (h':=(h.Ec r).MU r2) (i:=9) (j:=12) rfl rfl rfl rfl rfl rfl) ?_
  refine jE (.aa rfl) (Lw.obj .j) rfl rfl .ag (by constructor) (Lw.Jm (h':=((h.Ec r).MU r2).Mq) rfl rfl rfl) ?_
  exact bj (q _ (Vs.at ⟨{ p.ok with },p.hh,{ p.cv.Lq with ns:=rfl,nd:=rfl }⟩))
theorem GG(Z:s.Ok g)(hk:s.k=1)(e:Le S (Js g s F))(q:∀S',Le S' (Js g { s with ns:=[],k:=0 } F)->R .none S'):Ct E R S 1038 (m+7) [.ref (g.a 9)]:=by
 refine e9 e λh p=>dh qC ?_
 refine cO (.cmp (.am (.aa rfl) (Lw.obj .j) rfl rfl) .ag .lD) (by refine ae (show h.calls=1 from p.cv.k.trans hk)▸ ?_;rfl) ?_
 refine' jE (.aa rfl) (Lw.obj .j) rfl rfl .ag .sub (Lw.Jm (h':=h.kz 0) ?t2 rfl rfl) ?_
 case t2=>(refine ae (show h.calls=1 from p.cv.k.trans hk)▸ ?_);rfl
 have p0 : Jn { s with k:=0 } none (h.kz 0):=⟨{ p.ok with },p.hh,{ p.cv with k:=rfl }⟩
 refine gE (wT (fg (p:=true) (.cmp (.am (.aa rfl) (Lw.obj .j) rfl rfl) .ag .lD) ⟨λ_=>io (bq (.am (.aa rfl) (Lw.obj .j) rfl rfl) (dz (cm ⟨bC _,Lw.new,λr=> ?_⟩))),nofun⟩))
 have hn : dP (Lw (h.kz 0) ((r, .list [])::F)) h.nm (.list (s.ns.map .int)):=by refine ((p.cv.ns))▸ ?_;exact Lw.has .nm
 refine .mk (.Jy hn (Lw.cH (i:=0) rfl) ?_) ⟨λb=> ?_,λb=> ?_⟩
 ·cases s.ns<;>rfl
 ·refine bY (bT (.aa rfl) (Lw.obj .j) rfl rfl .nil ?_)
  exact CM (s:={ s with k:=0 }) ⟨Z.nb,Z.nd,Z.rg,Z.ln⟩ (λσ z=>⟨_,⟨p0.ok,p0.hh,p0.cv,rfl⟩,Lw.sub z (.cons _ (.refl _))⟩) λS' e=>bj (bj (q S' e))
 ·refine bj (q _ λσ z=>⟨_, ?_,Lw.sub z (.cons _ (.refl _))⟩)
  refine (show s.ns=[] by revert b;cases s.ns;exact λ_=>rfl;exact nofun)▸ ?_;exact p0
end
structure Jh{g:En}(s:Ck)(n:Int)(h:Lo g):Prop where
 j : Jn s (some n) h
 cl : n∉h.pins->h.c n=h.d n
structure Zo(g:En)(X:List Int)(s:Ck):Prop where
 ok : s.Ok g
 sub : ∀n∈s.ns,n∈12::14::17::X
 xl : X.length<=6
 k : s.k=1
noncomputable abbrev Ck.put(s:Ck)(n:Int)(b:List UInt8):Ck:={ s with c:=upd s.c n b }
noncomputable abbrev Ck.note(s:Ck)(n:Int):Ck:={ s with ns:=ins s.ns n }
noncomputable abbrev Ck.set(s:Ck)(n:Int)(b:List UInt8):Ck:=(s.put n b).note n
section
variable {m i:Nat}{g:En}{h:Lo g}{F:List Cell}{R:MV->As->Prop}{T:MF->Loc->As->Prop}{E:Addr->As->Prop}{n:Int}{loc:Loc}{s:Ck}{S:As}{b:List UInt8}{X:List Int}
theorem BK(e:Le S (Js g s F))(r:12<=n/\n < g.nb)(q:∀h : Lo g,Jh s n h->R (.ref (h.bn n).l) (Lw h F)):Ct E R S 796 (m+3) [.ref (g.a 5), .int n]:=
 e9 e λ_ p=>Cz p.ok p.hh (by show 0<=n/\n < g.nb;exact⟨bp (by decide) r.1,r.2⟩) λh1 O1 hh1 v1=>q h1 ⟨⟨O1,hh1,v1▸p.cv⟩,O1.clean v1 p.hh p.ok⟩
theorem oM(p:Jh s n h)(q:∀S',Le S' (Js g s F)->R .none S'):Ct E R (Lw h F) 810 (m+2) [.ref (g.a 5), .ref (h.bn n).l]:=
 oO p.j.ok p.j.hh p.cl λh1 O1 hh1 v1=>q _ (Vs.at ⟨O1,hh1,v1▸p.j.cv⟩)
theorem Jn.put(p:Jn s (some n) h)(l:b.length=64):Jn (s.put n b) (some n) (h.cB n b):=
 ⟨p.ok.cB p.hh l,p.hh,{ p.cv with c:=λk r=>by show upd _ _ _ _=upd _ _ _ _;unfold upd;split;rfl;exact p.cv.c k r,wr:=nofun }⟩
theorem vJ(Z:Zo g X s)(r:12<=n/\n < g.nb)(x:n∈12::14::17::X):n∈s.ns∨s.ns.length < 9:=by
 by_cases q : n∈s.ns
 ·exact .inl q
 ·have:=(List.nodup_cons.mpr ⟨q,Z.ok.nd⟩).length_le_of_subset (l₂:=12::14::17::X) λy m=>(aK.mp m).elim (λe=>e▸x) (Z.sub y)
  have:=Z.xl;rw[cy,cy,cy,cy] at *;exact .inr (Nat.lt_of_succ_lt_succ (az (by assumption) (Nat.succ_lt_succ (Nat.succ_lt_succ (Nat.succ_lt_succ (Nat.lt_succ_of_le (by assumption)))))))
theorem Zo.put(Z:Zo g X s):Zo g X (s.put n b):=⟨⟨Z.ok.nb,Z.ok.nd,Z.ok.rg,Z.ok.ln⟩,Z.sub,Z.xl,Z.k⟩
theorem Zo.note(Z:Zo g X s)(r:12<=n/\n < g.nb)(x:n∈12::14::17::X):Zo g X (s.note n):=by
 refine⟨⟨Z.ok.nb,oJ Z.ok.nd,λy q=>(qd q).elim (λe=>e▸r) (Z.ok.rg y), ?_⟩,λy q=>(qd q).elim (λe=>e▸x) (Z.sub y),Z.xl,Z.k⟩
 show (ins s.ns n).length<=9
 rcases vJ Z r x with q | q
 ·unfold ins;refine ae (if_pos q)▸ ?_;exact Z.ok.ln
 ·exact ad yX q
theorem Zo.set(Z:Zo g X s)(r:12<=n/\n < g.nb)(x:n∈12::14::17::X):Zo g X (s.set n b):=Z.put.note r x
theorem F4(p:Jn s (some n) h)(Z:Zo g X s)(r:12<=n/\n < g.nb)(x:n∈12::14::17::X)(q:Jh (s.note n) n (h.rC n)->R .none (Lw (h.rC n) F)):Ct E R (Lw h F) 1031 (m+3) [.ref (g.a 9), .ref (h.bn n).l]:=by
 have e1 : h.nums=s.ns:=p.cv.ns
 have e3 : h.pins=s.ns:=p.cv.pins
 have ns : n∈ins h.pins n:=by unfold ins;split;assumption;exact bx _ (av.mpr rfl)
 refine FZ p.ok p.hh (by refine ae (show h.calls=s.k from p.cv.k)▸ae Z.k▸ ?_;decide) (.inr r.1) (p.cv.nd.trans e1.symm) (e3.trans e1.symm) (e1▸vJ Z r x) (q ⟨⟨?_,p.hh, ?_⟩,λz=>(z ns).elim⟩)
 ·have O:=p.ok
  have sb : ∀y,y∈h.pins->y∈ins h.pins n:=λy m=>by unfold ins;split;exact m;exact bJ _ m
  exact { O with pin:=λy m=>(qd m).elim (λz=>z▸O.sI n p.hh) (O.pin y),D7:=oJ O.D7,pl:=by show (ins h.pins n).length<=9;refine ae e3▸ ?_;exact (Z.note r x).ok.ln,cl:=λy m z=>O.cl y (λw=>m (sb y w)) z }
 ·have C:=p.cv
  exact { C with ns:=ah (ins · n) e1,nd:=ah (ins · n) p.cv.nd,pins:=ah (ins · n) e3 }
theorem JG{b':List UInt8}:(h.cB n b).cB n b'=h.cB n b':=ah (λc=>({ h with c:=c }:Lo g)) (funext λk=>by show upd (upd h.c n b) n b' k=upd h.c n b' k;unfold upd;split<;>rfl)
theorem Er : h.cB n (h.c n)=h:=ah (λc=>({ h with c:=c }:Lo g)) (funext λk=>by unfold upd;split;(rename_i e;exact ae e▸rfl);rfl)
theorem MI : Le (Lw h F) (Lw (h.cB n (h.c n)) F):=λ_ s=>Er.symm▸s
theorem MP(nd:h.row.Nodup)(r:n∈h.row):Ba (λb=>Lw (h.cB n b) F) (h.bn n).r:=
 ⟨λb=>by have:=Lw.hasB (h:=h.cB n b) (F:=F) r;rwa [show (h.cB n b).c n=b from if_pos rfl] at this,λb b'=>by have:=Lw.GC (h:=h.cB n b) (F:=F) (b:=b') nd r;rwa [JG] at this⟩
end
noncomputable def Au(nb:Int):List (String×MV):=[("block", .int 64),("blocks", .int nb),("inodes", .int 4),("log", .int 10),("direct", .int 2),("row", .int 24),("rows", .int 2),("indirect", .int 16),("log_start", .int 2),("inode_start", .int 12),("bitmap_start", .int 14),("data_start", .int 15)]
noncomputable def KM(g:En):List (String×MV):=[("journal", .ref (g.a 9)),("cache", .ref (g.a 5)),("super", .ref (g.a 13)),("table", .ref (g.a 17))]
noncomputable def MD(g:En)(l sz:Nat):List (String×MV):=[("nodes", .ref (g.a 15)),("number", .int 1),("holders", .int 1),("kind", .int 1),("major", .int 0),("minor", .int 0),("links", .int l),("size", .int sz),("places", .ref (g.a 20))]
noncomputable def ed(n:Nat):MV:= .int n
noncomputable def Up(g:En)(l sz:Nat)(ps:List Nat)(F:List Cell):List Cell:=(g.a 13, .inst eG (g.a 14))::(g.a 14, .ns (Au g.nb))::(g.a 15, .inst jX (g.a 16))::(g.a 16, .ns (KM g))::(g.a 17, .bS [(1, .ref (g.a 18))])::
 (g.a 18, .inst lg (g.a 19))::(g.a 19, .ns (MD g l sz))::(g.a 20, .list (ps.map ed))::(g.a 21, .inst oN (g.a 22))::(g.a 22, .ns [("nodes", .ref (g.a 15))])::F
inductive UO(g:En)(l sz:Nat):LA->Addr->List (String×MV)->Prop where
 |p : UO g l sz (g.a 13) eG (Au g.nb)
 |n : UO g l sz (g.a 15) jX (KM g)
 |d : UO g l sz (g.a 18) lg (MD g l sz)
 |w : UO g l sz (g.a 21) oN [("nodes", .ref (g.a 15))]
section
variable {m i:Nat}{g:En}{h:Lo g}{F:List Cell}{R:MV->As->Prop}{T:MF->Loc->As->Prop}{E:Addr->As->Prop}{n:Int}{loc:Loc}{s:Ck}{S:As}{b:List UInt8}{X:List Int}{l sz:Nat}{ps:List Nat}{x:LA}{C:Addr}{fs:List (String×MV)}
theorem Lw.up(u:UO g l sz x C fs):Obj (Lw h (Up g l sz ps F)) x C fs:=by
 induction u with
 |p=>exact Lw.kx (i:=0) rfl rfl
 |n=>exact Lw.kx (i:=2) rfl rfl
 |d=>exact Lw.kx (i:=5) rfl rfl
 |w=>exact Lw.kx (i:=8) rfl rfl
theorem Lw.Lr : dP (Lw h (Up g l sz ps F)) (g.a 20) (.list (ps.map ed)):=Lw.cH (i:=7) rfl
variable {a b:IR}{v:MV}{k:Nat}{G:List Cell}
noncomputable abbrev xu : IR:= .am (.aa 0) "cache"
noncomputable abbrev xL(x:String):IR:= .am (.am (.aa 0) "super") x
theorem du{y:String}(h0:loc[0]?=some (some (.ref (g.a 15))))(e:(Au g.nb).lookup y=some v)(e2:tab.am eG y=true):PE loc (Lw h (Up g l sz ps F)) (xL y) v:= .am (.am (.aa h0) (Lw.up .n) rfl rfl) (Lw.up .p) e2 e
theorem eF(hk:loc[k]?=some (some (.ref (h.bn n).l)))(p:Jn s (some n) h):PE loc (Lw h G) (.am (.aa k) "data") (.ref (h.bn n).r):= .am (.aa hk) (Lw.gh (p.ok.sI n p.hh)) rfl rfl
theorem has_data(p:Jn s (some n) h)(e:12<=n){d:List UInt8}(hd:s.c n=d):dP (Lw h G) (h.bn n).r (.bW d):=by refine hd▸(show h.c n=s.c n from p.cv.c n e)▸ ?_;exact Lw.hasB (p.ok.sI n p.hh)
theorem mV(e:Le S (Js g s (Up g l sz ps F)))(h0:loc[0]?=some (some (.ref (g.a 15))))(ha:∀h : Lo g,PE loc (Lw h (Up g l sz ps F)) a (.int n))(r:12<=n/\n < g.nb)(hi:Nat.blt k loc.length=true)
  (q:∀h : Lo g,Jh s n h->Wp E (Lw h (Up g l sz ps F)) (loc.set k (some (.ref (h.bn n).l))) T (dn (m+3) b).s):Wp E S loc T (dn (m+3) (.cons (.asg (.aa k) (.aO xu "get" (.cons a .nil))) b)).s:=
 dR e λh p=>de hi (bT (.am (.aa h0) (Lw.up .n) rfl rfl) (Lw.obj .c) rfl rfl (.cons (ha h) .nil) (BK (Vs.at p) r q))
theorem yS(p:Jn s (some n) h)(Z:Zo g X s)(r:12<=n/\n < g.nb)(x:n∈12::14::17::X)(h0:loc[0]?=some (some (.ref (g.a 15))))(hk:loc[k]?=some (some (.ref (h.bn n).l)))
  (q:Jh (s.note n) n (h.rC n)->Wp E (Lw (h.rC n) (Up g l sz ps F)) loc T (dn (m+3) b).s):Wp E (Lw h (Up g l sz ps F)) loc T (dn (m+3) (.cons (.expr (.aO (.am (.aa 0) "journal") "write" (.cons (.aa k) .nil))) b)).s:=
 bY (bT (.am (.aa h0) (Lw.up .n) rfl rfl) (Lw.obj .j) rfl rfl (.cons (.aa hk) .nil) (F4 p Z r x q))
theorem o5(p:Jh s n h)(h0:loc[0]?=some (some (.ref (g.a 15))))(hk:loc[k]?=some (some (.ref (h.bn n).l)))
  (q:∀S',Le S' (Js g s (Up g l sz ps F))->Wp E S' loc T (dn (m+2) b).s):Wp E (Lw h (Up g l sz ps F)) loc T (dn (m+2) (.cons (.expr (.aO xu "release" (.cons (.aa k) .nil))) b)).s:=
 bY (bT (.am (.aa h0) (Lw.up .n) rfl rfl) (Lw.obj .c) rfl rfl (.cons (.aa hk) .nil) (oM p q))
theorem u5{d:List UInt8}(p:Jn (s.put n d) (some n) h)(Z:Zo g X s)(r:12<=n/\n < g.nb)(x:n∈12::14::17::X)(h0:loc[0]?=some (some (.ref (g.a 15))))(hk:loc[k]?=some (some (.ref (h.bn n).l)))
  (q:∀S',Le S' (Js g (s.set n d) (Up g l sz ps F))->Wp E S' loc T (dn (m+3) b).s) :
  Wp E (Lw h (Up g l sz ps F)) loc T (dn (m+3) (.cons (.expr (.aO (.am (.aa 0) "journal") "write" (.cons (.aa k) .nil))) (.cons (.expr (.aO xu "release" (.cons (.aa k) .nil))) b))).s:=
 yS p Z.put r x h0 hk λp=>o5 p h0 hk q
theorem gw{y:String}{f:Addr}{vs:List MV}{es:IR}(h0:loc[0]?=some (some (.ref (g.a 15))))(h3:(Au g.nb).lookup y=none)(h4:tab.aO eG y=some f)(hl:PL loc (Lw h (Up g l sz ps F)) es vs)(q:Ct E R (Lw h (Up g l sz ps F)) f m (.ref (g.a 13)::vs)) :
  We E (Lw h (Up g l sz ps F)) loc R (dn m (.aO (.am (.aa 0) "super") y es)).e:=bT (.am (.aa h0) (Lw.up .n) rfl rfl) (Lw.up .p) h3 h4 hl q
theorem fL{y:String}{f:Addr}{vs:List MV}{es:IR}(h0:loc[0]?=some (some (.ref (g.a 15))))(h3:(KM g).lookup y=none)(h4:tab.aO jX y=some f)(hl:PL loc (Lw h (Up g l sz ps F)) es vs)(q:Ct E R (Lw h (Up g l sz ps F)) f m (.ref (g.a 15)::vs)) :
  We E (Lw h (Up g l sz ps F)) loc R (dn m (.aO (.aa 0) y es)).e:=bT (.aa h0) (Lw.up .n) h3 h4 hl q
theorem t3{c d f:Nat}{u w x:MV}(h1:Nat.blt c loc.length=true)(h2:Nat.blt d loc.length=true)(h3:Nat.blt f loc.length=true){T:Unit->Loc->As->Prop}(q:T () (((loc.set c (some u)).set d (some w)).set f (some x)) S) :
  Wp E S loc T ((dn m (.tup (.cons (.aa c) (.cons (.aa d) (.cons (.aa f) .nil))))).t (.tup [u,w,x])):=
 jg rfl (c8 (bR h1 (c8 (bR (by exact ae cL▸(by assumption)) (c8 (bR (by rwa [cL,cL]) (i8 q)))))))
theorem t2{c d:Nat}{u w:MV}(h1:Nat.blt c loc.length=true)(h2:Nat.blt d loc.length=true){T:Unit->Loc->As->Prop}(q:T () ((loc.set c (some u)).set d (some w)) S) :
  Wp E S loc T ((dn m (.tup (.cons (.aa c) (.cons (.aa d) .nil)))).t (.tup [u,w])):=
 jg rfl (c8 (bR h1 (c8 (bR (by exact ae cL▸(by assumption)) (i8 q)))))
end
noncomputable def f9 : List UInt8->Nat->List Nat->List UInt8
 |b,_,[]=>b
 |b,a,v::vs=>f9 (vu b a v) (a+2) vs
noncomputable def hw(v:Nat):List Nat:=[v % 65536,v / 65536 % 65536]
theorem iM : ∀ {b:List UInt8}{a:Nat}{vs:List Nat},(f9 b a vs).length=b.length
 |_,_,[]=>rfl
 |b,a,v::vs=>(iM (b:=vu b a v) (a:=a+2) (vs:=vs)).trans (dX ..)
theorem q5 : ∀ {b:List UInt8}{a:Nat}{vs ws:List Nat},f9 b a (vs++ws)=f9 (f9 b a vs) (a+2 * vs.length) ws
 |_,_,[],_=>rfl
 |b,a,v::vs,ws=>by refine (ah _ List.cons_append).trans ?_;rw[f9];refine (q5).trans ?_;rw[cy];exact ah (f9 _ · _) (Nat.add_right_comm a 2 (2 * vs.length))
theorem Cj{ps:List Nat}:(ps.flatMap hw).length=2 * ps.length:=by
 induction ps with
 |nil=>rfl
 |cons p ps ih=>((refine (ah _ List.flatMap_cons).trans ?_);refine (aA).trans ?_;refine (ah _ ih).trans ?_;rw[cy]);exact Nat.add_comm 2 _
theorem Hz{b:List UInt8}{a i p:Nat}{ps:List Nat}(e:ps[i]?=some p):GP (f9 b a ((ps.take i).flatMap hw)) (a+4 * i) p=f9 b a ((ps.take (i+1)).flatMap hw):=by
 rw[bV,e,List.flatMap_append,q5,Cj,bK,Nat.min_eq_left (by exact Nat.le_of_succ_le ((bh.mp e).1))]
 rw[show a+2 * (2 * i)=a+4 * i from ah (a+·) (Nat.mul_assoc 2 2 i).symm];rfl
noncomputable def jw(l sz:Nat)(ps:List Nat):List Nat:=[1,0,0,l]++hw sz++ps.flatMap hw
section
variable {m i:Nat}{g:En}{h:Lo g}{F:List Cell}{R:MV->As->Prop}{T:MF->Loc->As->Prop}{E:Addr->As->Prop}{n:Int}{loc:Loc}{s:Ck}{S:As}{b:List UInt8}{X:List Int}{l sz:Nat}{ps:List Nat}{x:LA}{C:Addr}{fs:List (String×MV)}
theorem tT(ob:Obj S x eG (Au n))(q:R (.tup [.int 12, .int 24]) S):Ct E R S 194 (m+1) [.ref x, .int 1]:=
 df pI (cC (v:= .tup [.int 12, .int 24]) (.tup (.cons (v:= .int 12) (.bin (.am (.aa rfl) ob rfl rfl) (.bin (.aa rfl) (.am (.aa rfl) ob rfl rfl) (.fdiv (show (2:Int)≠0/\(1:Int).natAbs < 2^60/\(2:Int).natAbs < 2^60 by decide))) .add) (.cons (v:= .int 24) (.bin (.bin (.aa rfl) (.am (.aa rfl) ob rfl rfl) (.mod (show (2:Int)≠0 by decide))) (.am (.aa rfl) ob rfl rfl) (.mul (show (1:Int).natAbs < 2^32/\(24:Int).natAbs < 2^32 by decide))) .nil)) (aj rfl)) q)
theorem Bp(q:R (.tup [.int 12, .int 24]) (Lw h (Up g l sz ps F))):Ct E R (Lw h (Up g l sz ps F)) 194 (m+1) [.ref (g.a 13), .int 1]:=tT (Lw.up .p) q
theorem Aj(nd:h.row.Nodup)(r:n∈h.row)(hb:b.length=64)(hp:ps.length=3)(q:R .none (Lw (h.cB n (f9 b 24 (jw l sz ps))) (Up g l sz ps F))) :
  Ct E R (Lw (h.cB n b) (Up g l sz ps F)) 241 (m+3) [.ref (g.a 18), .ref (h.bn n).r, .int 24]:=by
 have B:=MP (F:=Up g l sz ps F) nd r
 refine fH pF ?_
 refine bY (cr (.cons (.aa rfl) (.cons (.aa rfl) (.cons (.am (.aa rfl) (Lw.up .d) rfl rfl) .nil))) ?_)
 refine eU B 1 24 rfl rfl (Nat.lt_of_lt_of_eq (by decide) hb.symm) (ad (aw hb) (by decide)) ?_
 refine bY (cr (.cons (.aa rfl) (.cons (.bin (.aa rfl) .ag .add) (.cons (.am (.aa rfl) (Lw.up .d) rfl rfl) .nil))) ?_)
 refine eU B 0 26 rfl rfl (by rw[dX];exact Nat.lt_of_lt_of_eq (by decide) hb.symm) (by rw[dX];exact ad (aw hb) (by decide)) ?_
 refine bY (cr (.cons (.aa rfl) (.cons (.bin (.aa rfl) .ag .add) (.cons (.am (.aa rfl) (Lw.up .d) rfl rfl) .nil))) ?_)
 refine eU B 0 28 rfl rfl (by simp only[dX];exact Nat.lt_of_lt_of_eq (by decide) hb.symm) (by simp only[dX];exact ad (aw hb) (by decide)) ?_
 refine bY (cr (.cons (.aa rfl) (.cons (.bin (.aa rfl) .ag .add) (.cons (.am (.aa rfl) (Lw.up .d) rfl rfl) .nil))) ?_)
 refine eU B l 30 rfl rfl (by simp only[dX];exact Nat.lt_of_lt_of_eq (by decide) hb.symm) (by simp only[dX];exact ad (aw hb) (by decide)) ?_
 refine bY (cr (.cons (.aa rfl) (.cons (.bin (.aa rfl) .ag .add) (.cons (.am (.aa rfl) (Lw.up .d) rfl rfl) .nil))) ?_)
 refine jc B sz 32 rfl rfl (by simp only[dX];exact Nat.lt_of_lt_of_eq (by decide) hb.symm) (by simp only[dX];exact ad (aw hb) (by decide)) ?_
 refine ae (show GP (vu (vu (vu (vu b 24 1) 26 0) 28 0) 30 l) 32 sz=f9 b 24 ([1,0,0,l]++hw sz) from rfl)▸ ?_
 have l0 : (f9 b 24 ([1,0,0,l]++hw sz)).length=64:=iM.trans hb
 unfold jw at q
 rw[q5] at q
 revert q l0
 generalize f9 b 24 ([1,0,0,l]++hw sz)=b
 intro q hb
 refine dj (it:=λi=> .nT (g.a 20) i) (L:=ps.length) (I:=λi loc S=>∃x y,loc=[some (.ref (g.a 18)),some (.ref (h.bn n).r),some (.int 24),x,y]/\S=Lw (h.cB n (f9 b 36 ((ps.take i).flatMap hw))) (Up g l sz ps F)) ?_ rfl ?_ ?_
 ·exact nJ (.am (.aa rfl) (Lw.up .d) rfl rfl) Lw.Lr (by rw[aq,hp];exact id (aj rfl)) ⟨rfl,_,_,rfl,rfl⟩
 ·rintro i loc S hi ⟨x,y,rfl,rfl⟩
  have e:=ay hi
  refine .mk (rh Lw.Lr (by refine (bc).trans ?_;exact ah _ e)) (jg rfl (c8 (bR rfl (c8 (bR rfl (i8 ?_))))))
  refine bY (cr (.cons (.aa rfl) (.cons (.bin (.bin (.aa rfl) .glob .add) (.bin .ag (.aa rfl) (.mul (And.comm.mp (id (And.symm (by exact⟨by decide,az (ad (aL hi) (aw hp)) (by decide)⟩)))))) .add) (.cons (.aa rfl) .nil))) ?_)
  refine jc B ps[i] (36+4 * i) (Int.mem_toNat?.mp rfl) rfl (by refine ae iM▸ ?_;exact Nat.lt_of_lt_of_eq (az (bD (bF (aG _) (dq _ (ad (aL hi) (aw hp)))) _) (by decide)) hb.symm) (by rw[iM];exact ad (aw hb) (by decide)) ?_
  refine ae (Hz e)▸ ?_
  refine bj ?_
  exact⟨_,_,rfl,rfl⟩
 ·rintro loc S ⟨x,y,rfl,rfl⟩
  refine⟨by have:=nA (S:=Lw (h.cB n (f9 b 36 ((ps.take ps.length).flatMap hw))) (Up g l sz ps F)) (Lw.Lr (ps:=ps));rwa [aq] at this,bj ?_⟩
  refine ae List.take_length▸ ?_;exact q
theorem wn(hp:ps.length=3)(Z:Zo g X s)(e:Le S (Js g s (Up g l sz ps F)))(q:(s.c 12).length=64->∀S',Le S' (Js g (s.set 12 (f9 (s.c 12) 24 (jw l sz ps))) (Up g l sz ps F))->R .none S') :
  Ct E R S 347 (m+4) [.ref (g.a 15), .ref (g.a 18)]:=by
 refine e9 e λh p=>df pJ ?_
 have r12 : (12:Int)<=12/\12 < g.nb:=⟨by decide,by have:=Z.ok.nb;exact aN (by decide) this.2⟩
 refine ct (gw rfl rfl rfl (.cons (.am (.aa rfl) (Lw.up .d) rfl rfl) .nil) (Bp (t2 rfl rfl (mV (Vs.at p) rfl (λ_=> .aa rfl) r12 rfl λh p=> ?_))))
 have ec:=p.j.cv.c 12 (by decide)
 have el : (h.c 12).length=64:=(p.j.ok.len 12).2
 refine bY (bT (.aa rfl) (Lw.up .d) rfl rfl (.cons (eF rfl p.j) (.cons (.aa rfl) .nil)) (pW MI (Aj p.j.ok.nd (p.j.ok.sI 12 p.j.hh) el hp ?_)))
 rw[show h.c 12=s.c 12 from ec] at *
 exact u5 (p.j.put (iM.trans el)) Z r12 (aV ..) rfl rfl λS' e=>bj (q el S' e)
end
noncomputable def bm(t:Nat):List UInt8:=(List.range 64).map λi=>((2^(15+t) - 1) / 2^(8 * i) % 256).toUInt8
noncomputable def CY(j:Nat):Int:=((15+j) / 8 : Nat)
noncomputable def Af(j:Nat):Int:=(2^((15+j) % 8):Nat)
theorem ke{t:Nat}:(bm t).length=64:=by rfl
theorem IT : ∀j : Fin 6,(Int.fdiv (Int.fdiv (15+j.val : Nat) (2^(3:Int).toNat)) 64=0/\Int.fmod (Int.fdiv (15+j.val : Nat) (2^(3:Int).toNat)) 64=CY j.val)/\(1 * 2^(Builtin.bitAnd ((15+j.val : Nat):Int) 7).toNat : Int)=Af j.val/\0<=Builtin.bitAnd ((15+j.val : Nat):Int) 7/\Builtin.bitAnd ((15+j.val : Nat):Int) 7<=1000/\(Int.fdiv (15+j.val : Nat) (2^(3:Int).toNat)).natAbs < 2^60:=by decide +kernel
theorem xI : ∀t : Fin 7,∀j : Fin 6,(Builtin.bitAnd ((bm t.val).getD (CY j.val).toNat 0).toNat (Af j.val)==0)=decide (t.val<=j.val)/\CY j.val < 64/\0<=CY j.val:=by decide +kernel
theorem HF : ∀t : Fin 6,Builtin.bitOr ((bm t.val).getD (CY t.val).toNat 0).toNat (Af t.val) < 256/\0<=Builtin.bitOr ((bm t.val).getD (CY t.val).toNat 0).toNat (Af t.val)/\(bm t.val).set (CY t.val).toNat (Builtin.bitOr ((bm t.val).getD (CY t.val).toNat 0).toNat (Af t.val)).toNat.toUInt8=bm (t.val+1):=by decide +kernel
section
variable {m i t j:Nat}{g:En}{h:Lo g}{F:List Cell}{R:MV->As->Prop}{T:MF->Loc->As->Prop}{E:Addr->As->Prop}{n:Int}{loc:Loc}{s:Ck}{S:As}{X:List Int}{l sz:Nat}{ps:List Nat}{a b:IR}
theorem Dt(h:We E S loc (λv S1=>pQ (l8 v) λp=>Br p (We E S1 loc R (dn m b).e) (R v S1)) (dn m a).e):We E S loc R (dn m (.and a b)).e:=by
 refine λσ s Q X k x=>h σ s _ X (λv σ1 S1 s1 ⟨t,g⟩=>t.ok ?_) x
 rename_i p
 cases p
 ·exact k _ _ S1 s1 (g.f rfl)
 ·exact g.t rfl σ1 s1 Q X k x
theorem L9{v:MV}{vs:List MV}(h:Nat.ble vs.length 1000=true):zW S (.tup (v::vs)) (.int 0) v:= .tup ⟨by decide,aX.mpr (Nat.zero_lt_succ _),ad (Nat.succ_le_succ (aj h)) (by decide)⟩ rfl
theorem EZ(h:We E S loc (λv S1=>pQ (λvs=>v= .tup vs/\(Nat.ble 1 vs.length&&Nat.ble vs.length 100000)=true) λvs=>R (.tup (vs.drop 1)) S1) (dn m a).e):We E S loc R (dn m (.slice a (.ag (.int 1)) .nil)).e:=
 λσ s Q X k x=>h σ s _ X (λv σ1 S1 s1 zz=>by obtain⟨e,q⟩:=zz;obtain⟨rfl,e⟩:=e;have e:=an.mp e;exact⟨_,_, .int 1, .no, .tup rfl rfl ⟨aj e.1,aj e.2⟩ (k _ _ S1 s1 q)⟩) x
theorem jS(hj:j < 6)(q:R (.tup [.int 14, .int (CY j), .int (Af j)]) (Lw h (Up g l sz ps F))):Ct E R (Lw h (Up g l sz ps F)) 201 (m+1) [.ref (g.a 13), .int (15+j : Nat)]:=by
 refine ie (IT ⟨j,hj⟩) λzo0_ e3 e4=> ?_;have e2:=zo0_.2
 rw[<-e2,<-e3,show (14:Int)=14+Int.fdiv (Int.fdiv (15+j : Nat) (2^(3:Int).toNat)) 64 by refine ae zo0_.1▸ ?_;rfl] at q
 refine df pA ?_
 refine gy (.bin (.aa rfl) .ag (.shr (by exact Int.zero_le_ofNat 3))) rfl (cC (.tup (.cons (.bin (.am (.aa rfl) (Lw.up .p) rfl rfl) (.bin (.aa rfl) (.am (.aa rfl) (Lw.up .p) rfl rfl) (.fdiv (by exact And.symm ((λ{a b}=>And.comm.mp) (⟨by decide,e4.2.2,by decide⟩))))) .add) (.cons (.bin (.aa rfl) (.am (.aa rfl) (Lw.up .p) rfl rfl) (.mod (by unfold Nm;decide))) (.cons (.bin .ag (.bin (.aa rfl) .ag .band) (.shl (by exact And.symm ((λ{a b}=>And.comm.mp) (⟨e4.1,e4.2.1,by decide⟩))))) .nil))) (aj rfl)) ?_)
 exact q
theorem wX{r:LA}(e:dP (Lw h (Up g l sz ps F)) r (.bW (bm t)))(ht:t < 7)(nb:(15+t : Nat)<=g.nb/\g.nb<=21)(q:R (.int (15+t : Nat)) (Lw h (Up g l sz ps F))) :
  Ct E R (Lw h (Up g l sz ps F)) 382 (m+2) [.ref (g.a 15), .ref r, .int 14, .int 15]:=by
 refine k9 mW (vW (I:=λk loc S=>∃j,(j+k=t+1/\j<=t)/\Fr [some (.ref (g.a 15)),some (.ref r),some (.int 14),some (.int (15+j : Nat))] 3 loc/\S=Lw h (Up g l sz ps F)) (t+1) ⟨0,⟨bZ _,bC _⟩, .of rfl rfl,rfl⟩ (λ_ _ zz=>(by refine aT zz λ_ zo1_ _=> ?_;refine dw zo1_ λa b=> ?_;exact Nat.not_succ_le_self _ (ad (aw a.symm) b))) ?_)
 rintro k loc S ⟨j,⟨hk,hj⟩,⟨x⟩,rfl⟩
 refine fg (.cmp (.aa rfl) (du rfl rfl rfl) .lt) ⟨λb=> ?_,λb=> ?_⟩
 ·have j6 : j < 6:=iV (n:=15) (aX.mp (aN (aF b) nb.2))
  refine dw (xI ⟨t,ht⟩ ⟨j,j6⟩) λe1 e2=> ?_
  refine ct (gw rfl rfl rfl (.cons (.aa rfl) .nil) (jS j6 (t3 rfl rfl rfl (iG (.or (.cmp (.aa rfl) (.aa rfl) .ne) (.cmp (.bin (.item (.aa rfl) (.aa rfl) (.ref e (.ba ⟨e2.2,ke▸e2.1,ke▸aj rfl⟩))) (.aa rfl) .band) .ag .lD)) (λb=> ?_) λb=> ?_))))
  ·obtain rfl : j=t:=Nat.le_antisymm hj (aF (e1.symm.trans b))
   exact cC (.aa rfl) q
  ·have b:=Nat.lt_of_not_le (br (e1.symm.trans b))
   exact gy (.bin (.aa rfl) .ag .add) rfl (bj ⟨j+1,⟨(Nat.succ_add_eq_add_succ ..).trans hk,b⟩, .of rfl rfl,rfl⟩)
 ·obtain rfl : j=t:=Nat.le_antisymm hj (Nat.le_of_add_le_add_left (a:=15) (aW.mp (bp nb.1 (cZ.mp (br b)))))
  exact cC (.aa rfl) q
theorem Gr(Z:Zo g X s)(r:12<=n/\n < g.nb)(x:n∈12::14::17::X)(e:Le S (Js g s (Up g l sz ps F)))(q:∀S',Le S' (Js g (s.set n zeros) (Up g l sz ps F))->R .none S'):Ct E R S 389 (m+4) [.ref (g.a 15), .int n]:=by
 refine df ka (mV e rfl (λ_=> .aa rfl) r rfl λh p=> ?_)
 exact bY (bT (.aa rfl) (Lw.gh (p.j.ok.sI n p.j.hh)) rfl rfl .nil (Fv p.j.ok.nd (p.j.ok.sI n p.j.hh) (p.j.ok.len n).2 (u5 (p.j.put rfl) Z r x rfl rfl λS' e=>bj (q S' e))))
theorem jf(Z:Zo g X s)(hc:s.c 14=bm t)(ht:t < 6)(nb:(15+t : Nat)<=g.nb)(x:((15+t : Nat):Int)∈12::14::17::X)(e:Le S (Js g s (Up g l sz ps F)))
  (q:(15+t : Nat) < g.nb->∀S',Le S' (Js g ((s.set 14 (bm (t+1))).set (15+t : Nat) zeros) (Up g l sz ps F))->R (.int (15+t : Nat)) S')(q':(15+t : Nat)=g.nb->∀S',Le S' (Js g s (Up g l sz ps F))->E qa S') :
  Ct E R S 375 (m+5) [.ref (g.a 15)]:=by
 have n21:=Z.ok.nb
 have r14 : (12:Int)<=14/\14 < g.nb:=by exact⟨by decide,aN (by decide) n21.2⟩
 have lt : ∀ {h:Lo g}{v:Nat}{L:Loc},L[0]?=some (some (.ref (g.a 15)))->L[1]?=some (some (.int v))->PE L (Lw h (Up g l sz ps F)) (.cmp .Lt (.aa 1) (xL "blocks")) (.bool (decide ((v:Int) < g.nb))):=λa b=> .cmp (.aa b) (du a rfl rfl) .lt
 have ltb : ∀ {h:Lo g}{v:Nat}{L:Loc},L[0]?=some (some (.ref (g.a 15)))->L[1]?=some (some (.int v))->PB L (Lw h (Up g l sz ps F)) (.cmp .Lt (.aa 1) (xL "blocks")) (decide ((v:Int) < g.nb)):=λa b=> .cmp (.aa b) (du a rfl rfl) .lt
 refine e9 e λh p=>dh kQ (gy (du rfl rfl rfl) rfl (pS 2 (i1 (fg (ltb (v:=15) rfl rfl) ⟨λ_=> ?_,λb=>absurd (br b) (λh=>h (aN (by decide) n21.2))⟩))))
 refine de rfl (u8 (gw rfl rfl rfl (.cons (.aa rfl) .nil) (jS (j:=0) (by decide) (bq .ag (.mk (L9 rfl) (mV (Vs.at p) rfl (λ_=> .aa rfl) r14 rfl λh p=> ?_))))))
 have hb:=has_data (G:=Up g l sz ps F) p.j (by decide) hc
 refine de rfl (fL rfl rfl rfl (.cons (eF rfl p.j) (.cons (.aa rfl) (.cons (.aa rfl) .nil))) (wX hb (Nat.lt_succ_of_lt ht) ⟨nb,n21.1⟩ (de rfl (Dt (bq (lt rfl rfl) (.mk .bool ⟨λb=> ?_,λb=> ?_⟩))))))
 ·have b:=aF b
  refine og (u8 (gw rfl rfl rfl (.cons (.aa rfl) .nil) (jS ht (bq .ag (.mk (L9 rfl) (bq (.aa rfl) (.mk .lD ?_)))))))
  refine jy (.aa (.aa rfl) .bool) rfl (ct (EZ (gw rfl rfl rfl (.cons (.aa rfl) .nil) (jS ht (.mk ⟨rfl,rfl⟩ (t2 rfl rfl ?_))))))
  refine dw (xI ⟨t,Nat.lt_succ_of_lt ht⟩ ⟨t,ht⟩) λe1 e2=> ?_
  refine ie (HF ⟨t,ht⟩) λe3 e4 e5=> ?_
  have ix : 0<=CY t/\CY t < (bm t).length/\(bm t).length<=100000:=by rw[ke];exact⟨e2.2,e2.1,by decide⟩
  refine ct (bq (.bin (.item (eF rfl p.j) (.aa rfl) (.ref hb (.ba ix))) (.aa rfl) .bor) (dW (eF rfl p.j) (.aa rfl) hb (.ba rfl ⟨ix.1,ix.2.1,ix.2.2,e4,e3⟩) (Lw.GC p.j.ok.nd (p.j.ok.sI 14 p.j.hh)) ?_))
  refine ae e5▸ ?_
  refine yS (p.j.put ke) Z.put r14 (aB _ (aV ..)) rfl rfl λp=>bj (o5 p rfl rfl λS' e=>jy (.aa (.aa rfl) .bool) rfl (dR e λh p=> ?_))
  exact bY (fL rfl rfl rfl (.cons (.aa rfl) .nil) (Gr (Z.set r14 (aB _ (aV ..))) ⟨bp (by decide) (aW.mpr (a9 15 t)),b⟩ x (Vs.at p) λS' e=>cC (.aa rfl) (q b S' e)))
 ·have b':=br b
  exact cO (.aa (.aa rfl) .bool) b (o5 p rfl rfl λS' e=>cO (.aa (.aa rfl) .bool) b (bj (dR e λh p=>i1 (T:=_) (fg (ltb rfl rfl) ⟨λb=>absurd (aF b) b',λ_=>u9 (q' (Int.le_antisymm nb (cZ.mp b')) _ (Vs.at p))⟩))))
end
section
variable {m i t j N:Nat}{g:En}{h:Lo g}{F:List Cell}{R:MV->As->Prop}{T:MF->Loc->As->Prop}{E:Addr->As->Prop}{n:Int}{loc:Loc}{s:Ck}{S:As}{X:List Int}{l sz:Nat}{ps:List Nat}{a b:IR}
theorem r7(hc:s.c 14=bm t)(ht:t<=N)(nb:g.nb=(15+N : Nat)/\1<=N/\N<=6)(e:Le S (Js g s (Up g l sz ps F)))(q:∀S',Le S' (Js g s (Up g l sz ps F))->R (.int (N - t : Nat)) S') :
  Ct E R S 403 (m+4) [.ref (g.a 15)]:=by
 have n60 : (15:Int) < g.nb/\g.nb - 15=(N:Nat)/\g.nb < 2^60/\ -(2^60)<=g.nb:=by rw[nb.1];exact⟨aX.mpr (Nat.lt_add_of_pos_right nb.2.1),(ah (λz:Nat=>(z:Int) - 15) (Nat.add_comm 15 N)).trans (Int.add_sub_cancel N 15),cU (aW.mpr (bb nb.2.2 15)) (by decide),bp (by decide) (bA _)⟩
 refine e9 e λh p=>dh ku (gy .ag rfl ?_)
 refine dj (it:=g6 15 1 N) (L:=N) (I:=λi loc S=>Fr [some (.ref (g.a 15)),some (.int (i - t : Nat))] 5 loc/\Le S (Js g s (Up g l sz ps F))) ?_ rfl ?_ ?_
 ·refine yT (.cons (du rfl rfl rfl) (.cons (du rfl rfl rfl) .nil)) ⟨by decide,by decide,n60.2.2.2,n60.2.2.1⟩ ⟨?_, .of (by refine ae (Nat.zero_sub ..)▸ ?_;rfl) rfl,Vs.at p⟩
  refine ae (if_pos n60.1)▸ae n60.2.1▸ ?_;rfl
 ·rintro i loc S hi ⟨⟨x⟩,e⟩
  refine dw (xI ⟨t,az (ad ht nb.2.2) (by decide)⟩ ⟨i,(aC hi nb.2.2)⟩) λe1 e2=> ?_
  refine .mk (t9 hi) ((show (15:Int)+i * 1=(15+i : Nat) by exact ah _ (Int.mul_one ..))▸bR rfl (dR e λh p=> ?_))
  refine ct (gw rfl rfl rfl (.cons (.aa rfl) .nil) (jS (aC hi nb.2.2) (t3 rfl rfl rfl (mV (Vs.at p) rfl (λ_=> .aa rfl) (⟨by decide,nb.1▸aX.mpr (aC (by decide) (a9 15 N))⟩) rfl λh p=> ?_))))
  refine iG (.cmp (.bin (.item (eF rfl p.j) (.aa rfl) (.ref (has_data p.j (by decide) hc) (.ba ⟨e2.2,ke▸e2.1,ke▸aj rfl⟩))) (.aa rfl) .band) .ag .lD) (λb=> ?_) λb=> ?_
  ·have b:=aF (e1.symm.trans b)
   exact gy (.bin (.aa rfl) .ag .add) rfl (bj (o5 p rfl rfl λS' e=>bj ⟨.of (by rw[Nat.succ_sub b];rfl) rfl,e⟩))
  ·have b:=br (e1.symm.trans b)
   exact o5 p rfl rfl λS' e=>bj ⟨.of (by rw[Nat.sub_eq_zero_of_le (Nat.lt_of_not_le b),<-Nat.sub_eq_zero_of_le (Nat.le_of_not_le b)];rfl) rfl,e⟩
 ·rintro loc S ⟨⟨x⟩,e⟩
  exact⟨gu,cC (.aa rfl) (q S e)⟩
end
noncomputable def pl(t:Nat):List Nat:=[if 0 < t then 15 else 0,if 1 < t then 16 else 0,if 2 < t then 17 else 0]
noncomputable def wG(t:Nat):List UInt8:=GP (GP zeros 0 (if 3 < t then 18 else 0)) 4 (if 4 < t then 19 else 0)
noncomputable def need(i:Nat):Nat:=if i < 2 then i+1 else i+2
noncomputable def lL(i:Nat):Nat:=if i < 2 then 15+i else 16+i
structure Wo(t:Nat)(D:Nat->List UInt8)(s:Ck):Prop where
 b : s.c 14=bm t
 n : 3<=t->s.c 17=wG t
 d : ∀i,i < 4->need i<=t->s.c (lL i)=D i
noncomputable abbrev Ck.tk(s:Ck)(t:Nat):Ck:=(s.set 14 (bm (t+1))).set (15+t : Nat) zeros
theorem Hm : ∀ {t:Nat}(i:Fin 3),(pl t)[i.val]?=some (if i.val < t then 15+i.val else 0):=by intro t i;rcases (by decide:∀i : Fin 3,i=0∨i=1∨i=2) i with rfl | rfl | rfl<;>rfl
theorem IO : ∀ (i:Fin 3),(pl i.val).set i.val (15+i.val)=pl (i.val+1):=by decide +kernel
theorem FU{t:Nat}(h:3<=t):pl (t+1)=pl t:=by unfold pl;simp only[show 0 < t+1/\0 < t/\1 < t+1/\1 < t/\2 < t+1/\2 < t by exact⟨Nat.lt_succ_of_le (ad (by decide) h),aC (by decide) h,Nat.lt_succ_of_le (ad (by decide) h),aC (by decide) h,Nat.lt_succ_of_le (ad (by decide) h),aC (by decide) h⟩,if_true]
theorem wI : ∀t < 7,∀i < 2,KK (wG t) (4 * i)=(if 3+i < t then 18+i else 0)/\(wG t).length=64:=by decide +kernel
theorem Fk : ∀i : Nat,i < 2->((4:Int).natAbs < 2^32/\(i:Int).natAbs < 2^32)/\4 * i+3 < 64:=by decide +kernel
theorem Db : ∀i < 2,GP (wG (3+i)) (4 * i) (18+i)=wG (4+i):=by decide +kernel
theorem om{α:Type}{f:Int->α}{n k:Int}{v:α}(h:k≠n):upd f n v k=f k:=if_neg h
theorem CQ{α:Type}{f:Int->α}{n:Int}{v:α}:upd f n v n=v:=if_pos rfl
section
variable {m i t j N:Nat}{g:En}{h:Lo g}{F:List Cell}{R:MV->As->Prop}{T:MF->Loc->As->Prop}{E:Addr->As->Prop}{n:Int}{loc:Loc}{s:Ck}{S:As}{X:List Int}{l sz:Nat}{ps:List Nat}{a b:IR}{D:Nat->List UInt8}{k:Bool}
theorem Hs{k:Int}:(s.tk t).c k=if k=(15+t : Nat) then zeros else if k=14 then bm (t+1) else s.c k:=rfl
theorem Wo.tk{s':Ck}(W:Wo t D s)(hz:∀i,i < 4->need i=t+1->D i=zeros)(hs:∀k,k=17∨s'.c k=(s.tk t).c k)(n:3<=t+1->s'.c 17=wG (t+1)):Wo (t+1) D s' where
 b:=by rw[(hs 14).resolve_left (by decide),Hs];exact (if_neg (Int.ne_of_lt (aN (by decide) (aW.mpr (a9 15 t)))))
 n:=n
 d i hi h:=by
  have : lL i≠17/\(lL i=15+t/\need i=t+1∨lL i≠15+t/\lL i≠14/\need i<=t):=by unfold lL need at *;split at h<;>simp only[*,if_true,if_false]<;>lia
  refine ((hs (lL i:Nat)).resolve_left λe=>this.1 (Int.ofNat.inj e)).trans ?_;refine (Hs).trans ?_
  rcases this.2 with ⟨e,e'⟩ | ⟨e,e2,e3⟩
  ·refine ae e▸ae (if_pos rfl)▸ ?_;exact (hz i hi e').symm
  ·refine ((if_neg (by exact Nat.ToInt.of_diseq rfl rfl e))).trans ?_;refine ((if_neg (by exact Nat.ToInt.of_diseq rfl rfl e2))).trans ?_;exact W.d i hi e3
theorem Zo.tk(Z:Zo g X s)(b:((15+t : Nat):Int) < g.nb)(x:((15+t : Nat):Int)∈12::14::17::X):Zo g X (s.tk t):=
 (Z.set ⟨by decide,by have:=Z.ok.nb;exact aN (by decide) this.2⟩ (aB _ (aV ..))).set ⟨bp (by decide) (aW.mpr (a9 15 t)),b⟩ x
theorem Lw.Jp{v:Nat}:Upd (Lw h (Up g l sz ps F)) (g.a 20) (.list ((ps.map ed).set i (ed v))) (Lw h (Up g l sz (ps.set i v) F)):=Lw.jJ (i:=7) rfl (by unfold Up;refine ae List.map_set▸ ?_;rfl)
theorem xM(nb:g.nb=(15+N : Nat)/\t<=N)(W:Wo t D s)(h3:3<=t/\t < 6)(hi:i < 2)(hk:3+i < t)(e:Le S (Js g s (Up g l sz (pl t) F)))(q:∀S',Le S' (Js g s (Up g l sz (pl t) F))->R (.int (18+i : Nat)) S'):Ct E R S 417 (m+6) [.ref (g.a 15), .int 17, .int i, .bool k]:=by
 refine dw (wI t (Nat.lt_succ_of_lt h3.2) i hi) λe1 e2=> ?_
 refine k9 f8 (mV e rfl (λ_=> .aa rfl) (⟨by decide,nb.1▸aX.mpr ((aC (by decide) (bb (ad h3.1 nb.2) 15)))⟩) rfl λh p=> ?_)
 refine de rfl (cr (.cons (eF rfl p.j) (.cons (.bin .ag (.aa rfl) (.mul ((Fk i hi).1))) .nil)) (oF (.r (has_data p.j (by decide) (W.n h3.1))) (4 * i) rfl (e2▸((Fk i hi).2)) (e2▸by decide) ?_))
 refine ae e1▸ae (if_pos hk)▸ ?_
 exact o5 p rfl rfl λS' e=>cO (.and (.cmp (.aa rfl) .ag .lD) (.aa (.aa rfl) .bool)) (ah (·&&k) (beq_eq_false_iff_ne.mpr λz=>absurd (Int.ofNat.inj z) (Nat.ne_of_gt (aC (by decide) (a9 18 i))))) (cC (.aa rfl) (q S' e))
theorem FX(Z:Zo g X s)(nb:g.nb=(15+N : Nat)/\3+i<=N)(W:Wo (3+i) D s)(hi:i < 2)(hx:((18+i : Nat):Int)∈X)(hz:D (i+2)=zeros)(e:Le S (Js g s (Up g l sz (pl (3+i)) F)))
  (q:∀s' S',4+i<=N->Zo g X s'->Wo (4+i) D s'->Le S' (Js g s' (Up g l sz (pl (4+i)) F))->R (.int (18+i : Nat)) S')
  (q':3+i=N->∀S',Le S' (Js g s (Up g l sz (pl (3+i)) F))->E qa S'):Ct E R S 417 (m+6) [.ref (g.a 15), .int 17, .int i, .bool true]:=by
 have h3 : 3<=3+i:=a9 3 i
 have h36 : 3+i < 6:=Nat.add_lt_add_left (Nat.lt_succ_of_lt hi) 3
 have r17 : (12:Int)<=17/\17 < g.nb:=⟨by decide,nb.1▸aX.mpr ((aC (by decide) (bb (ad h3 nb.2) 15)))⟩
 refine dw (wI (3+i) (Nat.lt_succ_of_lt h36) i hi) λe1 e2=> ?_
 have t1:=(Fk i hi).1;have t2:=(Fk i hi).2
 refine k9 f8 (mV e rfl (λ_=> .aa rfl) r17 rfl λh p=> ?_)
 refine de rfl (cr (.cons (eF rfl p.j) (.cons (.bin .ag (.aa rfl) (.mul t1)) .nil)) (oF (.r (has_data p.j (by decide) (W.n h3))) (4 * i) rfl (e2▸t2) (e2▸by decide) ?_))
 refine ae e1▸ae (if_neg (Nat.lt_irrefl _))▸ ?_
 refine o5 p rfl rfl λS' e=> ?_
 have ex : ((15+(3+i):Nat):Int)=(18+i : Nat):=ah Nat.cast (Nat.add_assoc 15 3 i).symm
 have x1 : ((15+(3+i):Nat):Int)∈12::14::17::X:=ex▸aB _ (aB _ (aB _ hx))
 refine jy (.and (.cmp (.aa rfl) .ag .lD) (.aa (.aa rfl) .bool)) rfl (dR e λh p=>de rfl (fL rfl rfl rfl .nil (jf Z W.b h36 (nb.1▸aW.mpr (bb nb.2 15)) x1 (Vs.at p) (λhb S' e=> ?_) λhb S' e=>q' (Nat.add_left_cancel (Int.ofNat.inj (hb.trans nb.1))) S' e)))
 refine mV e rfl (λ_=> .aa rfl) r17 rfl λh p=> ?_
 have ec : h.c 17=wG (3+i):=(p.j.cv.c 17 (by decide)).trans (by refine (Hs).trans ?_;rw[if_neg (ex▸λe=>absurd (Int.ofNat.inj e) (bw (aC (by decide:17 < 18) (a9 18 i))))];exact W.n h3)
 refine bY (cr (.cons (eF rfl p.j) (.cons (.bin .ag (.aa rfl) (.mul t1)) (.cons (.aa rfl) .nil))) (pW (MI (n:=17)) ?_))
 refine ae ec▸ ?_
 refine jc (MP p.j.ok.nd (p.j.ok.sI 17 p.j.hh)) (18+i) (4 * i) rfl ex (e2▸t2) (e2▸by decide) ?_
 refine ae (Db i hi)▸ ?_
 have x17 : (17:Int)∈12::14::17::X:=aB _ (aB _ (aV ..))
 refine u5 (p.j.put ((t7 ..).trans (t7 ..))) (Z.tk hb x1) r17 x17 rfl rfl λS' e=> ?_
 have qq:=q ((s.tk (3+i)).set 17 (wG (4+i))) S' (ad (aw (Nat.add_right_comm 3 1 i)) (iV (aX.mp (nb.1▸hb)))) ((Z.tk hb x1).set r17 x17) ?_ ?_
 ·rw[<-ex] at qq
  exact bj (cC (.aa rfl) qq)
 ·have e4 : 4+i=3+i+1:=Nat.add_right_comm 3 1 i
  refine ae e4▸ ?_
  refine W.tk (λj hj hn=> ?_) (λk=>(Decidable.em (k=17)).imp_right λq=>om q) λ_=>by show upd (s.tk (3+i)).c 17 _ 17=_;exact CQ
  have:=(by decide +kernel : ∀i : Nat,i < 2->∀j : Nat,j < 4->need j=3+i+1->j=i+2) i hi j hj hn
  exact this▸hz
 ·have e4 : 4+i=3+i+1:=Nat.add_right_comm 3 1 i;refine e4.symm▸ae (FU h3)▸ ?_;exact e4▸e
end
noncomputable def IR.tl : IR->IR
 | .cons _ b=>b
 |_=> .fail
section
variable {m i j t N:Nat}{g:En}{h:Lo g}{F:List Cell}{R:MV->As->Prop}{T:MF->Loc->As->Prop}{E:Addr->As->Prop}{n:Int}{loc:Loc}{s:Ck}{S:As}{X:List Int}{l sz:Nat}{ps:List Nat}{a b:IR}{D:Nat->List UInt8}{k:Bool}
theorem PE.eq{v w:MV}(h:PE loc S a v)(e:v=w):PE loc S a w:=e▸h
theorem gJ(hi:i < 3)(h1:loc[1]?=some (some (.ref (g.a 18))))(ha:PE loc (Lw h (Up g l sz (pl t) F)) a (.int i)):PE loc (Lw h (Up g l sz (pl t) F)) (.item (.am (.aa 1) "places") a) (ed (if i < t then 15+i else 0)):=
 .item (.am (.aa h1) (Lw.up .d) rfl rfl) ha (.ref Lw.Lr (.list ⟨bA _,aX.mpr hi,aj rfl⟩ (by rw[bc];exact ah _ (Hm ⟨i,hi⟩))))
theorem wB(hi:i < 3)(h1:loc[1]?=some (some (.ref (g.a 18))))(ha:PE loc (Lw h (Up g l sz (pl i) F)) a (.int i)){T:Unit->Loc->As->Prop}(q:T () loc (Lw h (Up g l sz (pl (i+1)) F))) :
  Wp E (Lw h (Up g l sz (pl i) F)) loc T ((dn m (.item (.am (.aa 1) "places") a)).t (.int (15+i : Nat))):=
 dW (.am (.aa h1) (Lw.up .d) rfl rfl) ha Lw.Lr (.list ⟨bA _,aX.mpr hi,aj rfl⟩) (IO ⟨i,hi⟩▸Lw.Jp) q
theorem xQ(q:R (.int 18) (Lw h (Up g l sz ps F))):Ct E R (Lw h (Up g l sz ps F)) 166 (m+1) [.ref (g.a 13)]:=
 dh kg (cC (.bin (.am (.aa rfl) (Lw.up .p) rfl rfl) (.am (.aa rfl) (Lw.up .p) rfl rfl) .add) ((q)))
theorem Kj : ∀j : Nat,j < 2->need (j+2)=4+j/\lL (j+2)=18+j/\((j+2 : Nat):Int) - 2=j/\¬((j+2 : Nat):Int)≥18:=by decide +kernel
theorem q6(nb:g.nb=(15+N : Nat)/\t<=N)(h6:t < 6)(W:Wo t D s)(hi:i < 4)(hn:need i<=t)(e:Le S (Js g s (Up g l sz (pl t) F)))(q:∀S',Le S' (Js g s (Up g l sz (pl t) F))->R (.int (lL i:Nat)) S'):Ct E R S 410 (m+7) [.ref (g.a 15), .ref (g.a 18), .int i, .bool k]:=by
 refine e9 e λh p=>k9 g5 (gy (du rfl rfl rfl) rfl ?_)
 refine Or.elim (Nat.lt_or_ge i 2) (λi2=> ?_) λi2=> ?_
 ·have eb : lL i=15+i:=if_pos i2
  have en : need i=i+1:=if_pos i2
  have i3 : i < 3:=Nat.lt_succ_of_lt i2
  rw[eb] at q
  rw[en] at hn
  have it : i < t:=hn
  have pp : ∀ {L:Loc},L[1]?=some (some (.ref (g.a 18)))->L[2]?=some (some (.int i))->PE L (Lw h (Up g l sz (pl t) F)) (.item (.am (.aa 1) "places") (.aa 2)) (.int (15+i : Nat)):=λa b=>PE.eq (gJ i3 a (.aa b)) (ah ed (if_pos it))
  exact jy (.cmp (.aa rfl) (.aa rfl) .lt) (aZ (aX.mpr i2)) (cO (.and (.cmp (pp rfl rfl) .ag .lD) (.aa (.aa rfl) .bool)) (ah (·&&k) (beq_eq_false_iff_ne.mpr λz=>absurd (Int.ofNat.inj z) (Nat.ne_of_gt (aC (by decide) (a9 15 i))))) (cC (pp rfl rfl) (q _ (Vs.at p))))
 ·obtain⟨j,rfl⟩ : ∃j,i=j+2:=⟨i - 2,(Nat.sub_add_cancel i2).symm⟩
  have j2 : j < 2:=Nat.lt_of_add_lt_add_right hi
  refine ij (Kj j j2) λen eb ej eg=> ?_
  rw[en] at hn
  rw[eb] at q
  have t3 : 3+j < t:=aC (az (aw (Nat.add_comm 3 j)) (Nat.add_comm 4 j▸Nat.lt_succ_self _)) hn
  have t2 : 2 < t:=az (ad (by decide) (a9 3 j)) t3
  have pp : ∀ {L:Loc},L[1]?=some (some (.ref (g.a 18)))->L[4]?=some (some (.int 2))->PE L (Lw h (Up g l sz (pl t) F)) (.item (.am (.aa 1) "places") (.aa 4)) (.int 17):=λa b=>PE.eq (gJ (i:=2) (by decide) a (.aa b)) (ah ed (if_pos t2))
  refine cO (.cmp (.aa rfl) (.aa rfl) .lt) (bz (cZ.mpr (aW.mpr i2))) (gE (io (bq (.aa rfl) (gw rfl rfl rfl .nil (xQ (.mk .ge ⟨λb=>absurd (aF b) eg,λ_=> ?_⟩))))))
  exact cO (.cmp (pp rfl rfl) .ag .lD) rfl (eX (fL rfl rfl rfl (.cons (pp rfl rfl) (.cons (PE.eq (.bin (.aa rfl) (.aa rfl) .sub) (ah MV.int ej)) (.cons (.aa rfl) .nil))) (xM nb W ⟨t2,h6⟩ j2 t3 (Vs.at p) q)))
theorem xr(Z:Zo g X s)(nb:g.nb=(15+N : Nat)/\t<=N)(h6:t < 6)(W:Wo t D s)(hi:i < 4)(hk:need i<=t∨k=true/\(t=i/\i < 3∨t=i+1/\2<=i)/\((lL i:Nat):Int)∈X/\D i=zeros)
  (e:Le S (Js g s (Up g l sz (pl t) F)))(q:∀s' t' S',(need i<=t/\t'=t∨(t < need i/\need i<=N)/\t'=need i)->Zo g X s'->Wo t' D s'->Le S' (Js g s' (Up g l sz (pl t') F))->R (.int (lL i:Nat)) S')
  (q':N < need i->∀s' S',Zo g X s'->Wo N D s'->Le S' (Js g s' (Up g l sz (pl N) F))->E qa S'):Ct E R S 410 (m+7) [.ref (g.a 15), .ref (g.a 18), .int i, .bool k]:=by
 refine Or.elim (Decidable.em (need i<=t)) (λhn=> ?_) λhn=> ?_
 ·exact q6 nb h6 W hi hn e λS' e=>q s t S' (.inl ⟨hn,rfl⟩) Z W e
 obtain⟨rfl,ht,hx,hz⟩:=hk.resolve_left hn
 have n2:=Z.ok.nb
 refine e9 e λh p=>k9 g5 (gy (du rfl rfl rfl) rfl ?_)
 refine Or.elim (Nat.lt_or_ge i 2) (λi2=> ?_) λi2=> ?_
 ·have en : need i=i+1:=if_pos i2
  have eb : lL i=15+i:=if_pos i2
  have i3 : i < 3:=Nat.lt_succ_of_lt i2
  obtain rfl : t=i:=ht.elim And.left λh=>absurd i2 (iw.mpr h.2)
  rw[en] at q q';rw[eb] at q hx
  have hb : ((15+t : Nat):Int) < g.nb:=aN (aX.mpr (Nat.add_lt_add_left i2 15)) n2.2
  have x:=aB 12 (aB 14 (aB 17 hx))
  refine jy (.cmp (.aa rfl) (.aa rfl) .lt) (aZ (aX.mpr i2)) (jy (.and (.cmp (PE.eq (gJ i3 rfl (.aa rfl)) (ah ed (if_neg (Nat.lt_irrefl _)))) .ag .lD) (.aa (.aa rfl) .bool)) rfl ?_)
  refine ct (fL rfl rfl rfl .nil (jf Z W.b h6 (Int.le_of_lt hb) x (Vs.at p) (λ_ S' e=>dR e λh p=>wB i3 rfl (.aa rfl) (bj (cC (PE.eq (gJ i3 rfl (.aa rfl)) (ah ed (if_pos (Nat.lt_succ_self t)))) ?_))) λhb'=>absurd hb (hb'▸Int.lt_irrefl _)))
  exact q _ (t+1) _ (.inr ⟨⟨Nat.lt_succ_self t,(iV (aX.mp (nb.1▸hb)))⟩,rfl⟩) (Z.tk hb x) (W.tk (λj hj hn=>((by decide +kernel : ∀t : Nat,t < 2->∀j : Nat,j < 4->need j=t+1->j=t) t i2 j hj hn)▸hz) (λ_=> .inr rfl) λh=>absurd i2 (iw.mpr (Nat.le_of_succ_le_succ h))) (Vs.at p)
 ·obtain⟨j,rfl⟩ : ∃j,i=j+2:=⟨i - 2,(Nat.sub_add_cancel i2).symm⟩
  have j2 : j < 2:=Nat.lt_of_add_lt_add_right hi
  refine ij (Kj j j2) λen eb ej eg=> ?_
  rw[en] at q q' hn;rw[eb] at q hx
  refine cO (.cmp (.aa rfl) (.aa rfl) .lt) (bz (cZ.mpr (aW.mpr i2))) ?_
  refine gE (io (bq (.aa rfl) (gw rfl rfl rfl .nil (xQ (.mk .ge ⟨λb=>absurd (aF b) eg,λ_=> ?_⟩)))))
  have fin : ∀ {s' S' loc},t < 4+j->3+j<=N->Zo g X s'->Wo (3+j) D s'->Le S' (Js g s' (Up g l sz (pl (3+j)) F))->Fr [some (.ref (g.a 15)),some (.ref (g.a 18)),some (.int (j+2 : Nat)),some (.bool true),some (.int 2)] 0 loc->Wp E S' loc (λf _ S=>R (f0 f) S) (dn (m+6) fw.tl.tl.tl.tl).s:=by
   rintro s' S' _ h1 h5 Z' W' e ⟨_⟩
   exact dR e λh p=>eX (fL rfl rfl rfl (.cons (PE.eq (gJ (i:=2) (by decide) rfl (.aa rfl)) (ah ed (if_pos (aC (by decide) (a9 3 j))))) (.cons (PE.eq (.bin (.aa rfl) (.aa rfl) .sub) (ah MV.int ej)) (.cons (.aa rfl) .nil)))
    (FX Z' ⟨nb.1,h5⟩ W' j2 hx hz (Vs.at p) (λs'' S'' a=>q s'' (4+j) S'' (.inr ⟨⟨h1,a⟩,rfl⟩)) λb S'' e=>q' (az (aw b.symm) (Nat.add_lt_add_right (by decide) _)) s' S'' Z' (b▸W') (b▸e)))
  rcases Nat.lt_or_ge 2 t with t3 | t3
  ·obtain rfl : t=3+j:=ht.elim (λh=>absurd t3 (iw.mpr (h.1▸bH h.2))) λh=>h.1.trans (Nat.add_comm j 3)
   exact cO (.cmp (PE.eq (gJ (i:=2) (by decide) rfl (.aa rfl)) (ah ed (if_pos t3))) .ag .lD) rfl (fin (Nat.lt_of_not_le hn) nb.2 Z W (Vs.at p) (.of rfl rfl))
  ·obtain⟨rfl,rfl⟩ : t=2/\j=0:=ht.elim (λh=>have e : j=0:=Nat.le_zero.mp (Nat.le_of_add_le_add_right (bH h.2));⟨h.1.trans (ah (·+2) e),e⟩) λh=>absurd (ad (Nat.le_add_left 3 j) (h.1▸t3)) (by decide)
   refine jy (.cmp (gJ (i:=2) (by decide) rfl (.aa rfl)) .ag .lD) rfl (cO (.not (.aa (.aa rfl) .bool)) rfl ?_)
   have x : ((15+2 : Nat):Int)∈12::14::17::X:=aB _ (aB _ (aV ..))
   refine ct (fL rfl rfl rfl .nil (jf (t:=2) Z W.b h6 n2.2 x (Vs.at p) (λhb S' e=>dR e λh p=>wB (i:=2) (by decide) rfl (.aa rfl) (bj ?_)) λhb S' e=> ?_))
   ·exact fin (Nat.lt_of_not_le hn) (iV (aX.mp (nb.1▸hb))) (Z.tk hb x) (W.tk (λj hj hn=>absurd hn ((by decide +kernel : ∀j : Nat,j < 4->need j≠2+1) j hj)) (λ_=> .inr rfl) λ_=>rfl) (Vs.at p) (.of rfl rfl)
   ·obtain rfl : N=2:=Nat.add_left_cancel (Int.ofNat.inj (hb.trans nb.1)).symm
    exact q' (by decide) s S' Z W e
end
noncomputable def cat(D:Nat->List UInt8):List UInt8:=D 0++(D 1++(D 2++D 3))
theorem wH{D:Nat->List UInt8}(hD:∀i,(D i).length=64){i:Nat}(h:i < 4):∃r,(cat D).drop (64 * i)=D i++r:=by
 rcases (by decide:∀i < 4,i=0∨i=1∨i=2∨i=3) i h with rfl | rfl | rfl | rfl
 ·exact⟨_,rfl⟩
 ·exact⟨_,List.drop_left' (hD 0)⟩
 ·exact⟨D 3,by unfold cat;refine (aH ..)▸ ?_;exact List.drop_left' (by refine (aA).trans ?_;rw[hD,hD])⟩
 ·exact⟨[],by unfold cat;rw[<-aH,<-aH,cK];exact List.drop_left' (by refine (aA).trans ?_;rw[aA,hD,hD,hD])⟩
theorem Bm{D:Nat->List UInt8}(hD:∀i,(D i).length=64){i p:Nat}(hi:i < 4)(hp:p<=64):(cat D).take (64 * i)++(D i).take p=(cat D).take (64 * i+p):=by
 refine cN (wH hD hi) λr e=> ?_
 rw[List.take_add,e,List.take_append_of_le_length (hD i▸hp)]
theorem Kw : ∀p : Nat,p<=64->(clipAt 64 (0:Int)=0)/\clipAt 64 (p:Int)=p:=by decide +kernel
theorem EG{b:List UInt8}{p:Nat}(hb:b.length=64)(hp:p<=64):cut b (some 0) (some (p:Int))=b.take p:=by
 show (b.drop (clipAt b.length 0)).take (clipAt b.length p - clipAt b.length 0)=_
 refine ae hb▸ ?_;rw[(Kw p hp).2];rfl
theorem JV : ∀i < 4,(((64 * i : Nat):Int).fmod 64=0/\((64 * i : Nat):Int).fdiv 64=i)/\((64:Int)≠0/\((64 * i : Nat):Int).natAbs < 2^60/\(64:Int).natAbs < 2^60)/\15<=lL i/\lL i < 15+need i:=by decide +kernel
noncomputable def Hv(sz i:Nat):Nat:=min 64 (sz - 64 * i)
theorem LL : ∀sz : Nat,sz<=256->∀i < 4,64 * i < sz->(if (sz:Int) - (64 * i : Nat) < 64 - 0 then (sz:Int) - (64 * i : Nat) else 64 - 0)=Hv sz i/\Hv sz i<=64/\(64 * i+Hv sz i=64 * (i+1)/\64 * i+Hv sz i<=sz∨64 * i+Hv sz i=sz):=by decide +kernel
theorem DR{i t N:Nat}{g:En}(nb:g.nb=(15+N : Nat)/\t<=N)(hi:i < 4)(h:need i<=t):12<=((lL i:Nat):Int)/\((lL i:Nat):Int) < g.nb:=by
 refine ij (JV i hi) λ_ _ a b=> ?_
 exact⟨aW.mpr (ad (by decide) a),nb.1▸aX.mpr (aC b (bb (ad h nb.2) 15))⟩
section
variable {m i j t N:Nat}{g:En}{h:Lo g}{F:List Cell}{R:MV->As->Prop}{T:MF->Loc->As->Prop}{E:Addr->As->Prop}{n:Int}{loc:Loc}{s:Ck}{S:As}{X:List Int}{l sz:Nat}{ps:List Nat}{a b lo hi:IR}{D:Nat->List UInt8}{k:Bool}{x:LA}{bs cs:List UInt8}
theorem AK{u z:MV}{i j:Option Int}{S':LA->As}(ho:PE loc S a (.ref x))(hl:PE loc S lo u)(hh:PE loc S hi z)(c:eY u i)(d:eY z j)(e:dP S x (.bW bs))(hb:bs.length<=100000)(nw:pX S (.bW (cut bs i j)) S')(q:∀r,R (.ref r) (S' r)):We E S loc R (dn m (.slice a lo hi)).e:=
 λσ s _ _ k _=>ho.ok s (hl.ok s (hh.ok s ((by refine aT (nw σ s) λr hr s'=> ?_;exact⟨_,_,c,d, .ba (e σ s) hb hr (k _ _ _ s' (q r))⟩))))
theorem EV{S':As}{r:LA}(e:dP S r (.bW bs))(f:dP S x (.bW cs))(hl:bs.length<=100000/\cs.length<=100000)(u:Upd S r (.bW (bs++cs)) S')(q:R .none S'):We E S loc R (eM m (.builtin "bytearray.extend") [.ref r, .ref x]):=
 λσ s _ _ k _=>v6.ba (e σ s) (f σ s) hl (k _ _ S' (u σ s) q)
theorem Ho(nb:g.nb=(15+N : Nat)/\t<=N)(h6:t < 6)(W:Wo t D s)(hD:∀i,(D i).length=64)(hs:sz<=256)(hz:∀i,64 * i < sz->need i<=t)(e:Le S (Js g s (Up g l sz (pl t) F)))(q:∀S',Le S' (Js g s (Up g l sz (pl t) F))->R (.bytes ((cat D).take sz)) S') :
  Ct E R S 424 (m+8) [.ref (g.a 15), .ref (g.a 18), .int 0, .int sz]:=by
 refine e9 e λh pj=>k9 rU (cO (.or (.cmp (.aa rfl) .ag .lt) (.cmp (.aa rfl) .ag .lt)) (bz (cZ.mpr (bA sz))) ?_)
 refine gy (PE.eq (.call (.cons (.am (.aa rfl) (Lw.up .d) rfl rfl) (.cons (.bin (.aa rfl) (.aa rfl) .add) .nil)) .min) (ah MV.int ((if_neg (Int.zero_add _▸Int.lt_irrefl _)).trans (Eq.refl (sz:Int))))) rfl ?_
 refine de rfl (cV (cm (xz Lw.new λr=>pS 5 ?_)))
 have lt : ∀ {o},((cat D).take o).length<=100000:=λ{o}=>ad (List.length_take_le' ..) (by unfold cat;simp only[aA,hD];decide)
 have fin : ∀ {S loc o},o=sz->Fr [some (.ref (g.a 15)),some (.ref (g.a 18)),some (.int o),some (.int sz),some (.int sz),some (.ref r)] 4 loc->Le S (Js g s (Up g l sz (pl t) ((r, .bW ((cat D).take o))::F)))->Wp E S loc (λf _ S=>R (f0 f) S) (dn (m+7) (.cons (.ret (.call "bytes" (.type "bytes") (.cons (.aa 5) .nil))) .nil)).s:=by
  rintro S _ _ rfl ⟨_⟩ e
  exact dR e λh p=>oH (.call (.cons (.aa rfl) .nil) (.oP (Lw.cH (i:=10) rfl) lt)) (λ_ s=>Lw.sub (Lw.perm s (List.perm_middle (l₁:=Up g l _ (pl t) []) (l₂:=F))) (.cons _ (.refl _))) (q _ (Vs.at p))
 suffices all : ∀ (k i o:Nat)(loc:Loc)(S:As),i+k=4->(o=64 * i/\o<=sz∨o=sz)->Fr [some (.ref (g.a 15)),some (.ref (g.a 18)),some (.int o),some (.int sz),some (.int sz),some (.ref r)] 4 loc->Le S (Js g s (Up g l sz (pl t) ((r, .bW ((cat D).take o))::F)))->Wn loc S _ _ (k+1) E (m+7) _ from
  all 4 0 0 _ _ rfl (.inl ⟨rfl,bC _⟩) (.of rfl rfl) λσ s=>⟨h,pj,Lw.perm s (List.perm_middle (l₁:=Up g l sz (pl t) []) (l₂:=F)).symm⟩
 intro k
 induction k with
 |zero=>
  intro i o loc S hk ho hf e
  obtain rfl : i=4:=hk
  obtain rfl : o=sz:=ho.elim (λzz=>(by refine dw zz λa b=> ?_;exact Nat.le_antisymm b (a▸hs))) id
  have hf':=hf
  cases hf'
  exact i1 (fg (.cmp (.aa rfl) (.aa rfl) .lt) ⟨λb=>absurd (aF b) (Int.lt_irrefl _),λb=>fin rfl hf e⟩)
 |succ k ih=>
  intro i o loc S hk ho hf e
  have hf':=hf
  cases hf'
  refine i1 (fg (.cmp (.aa rfl) (.aa rfl) .lt) ⟨λb=>dR e λh p'=> ?_,λb=>fin (ho.elim (λh=>Nat.le_antisymm h.2 (aW.mp (cZ.mp (br b)))) id) hf e⟩)
  have b:=aX.mp (aF b)
  refine dw (ho.resolve_right (bw b)) λzr0_ _=> ?_;subst zr0_
  have hi4 : i < 4:=Nat.lt_of_mul_lt_mul_left (aC b hs)
  have hn:=hz i b
  refine ie (JV i hi4) λzo0_ t1 _=> ?_;have e2:=zo0_.2
  refine ie (LL sz hs i hi4 b) λep hp hp2=> ?_
  have hb:=DR nb hi4 hn
  refine gy (PE.eq (.bin (.aa rfl) (du rfl rfl rfl) (.mod t1.1)) (ah MV.int zo0_.1)) rfl ?_
  refine gy (PE.eq (.call (.cons (.bin (du rfl rfl rfl) (.aa rfl) .sub) (.cons (.bin (.aa rfl) (.aa rfl) .sub) .nil)) .min) (ah MV.int ep)) rfl ?_
  refine de rfl (fL rfl rfl rfl (.cons (.aa rfl) (.cons (PE.eq (.bin (.aa rfl) (du rfl rfl rfl) (.fdiv t1)) (ah MV.int e2)) (.cons .ag .nil))) ?_)
  refine q6 nb h6 W hi4 hn (Vs.at p') λS' e'=> ?_
  refine s7 (fg (.cmp (.aa rfl) .ag .lD) ⟨λb=>absurd ((eq_of_beq b).symm▸hb.1) (by decide),λ_=>mV e' rfl (λ_=> .aa rfl) hb rfl λh p1=> ?_⟩)
  refine bY (cM (.aa rfl) (gP (Lw.cH (i:=10) rfl) (.ba rfl)) (bk (AK (i:=some 0) (j:=some ((Hv sz i:Nat):Int)) (eF rfl p1.j) (.aa rfl) (PE.eq (.bin (.aa rfl) (.aa rfl) .add) (ah MV.int (Int.zero_add _))) (.int 0) (.int _) (has_data p1.j hb.1 (W.d i hi4 hn)) (hD i▸by decide) Lw.new λx=>cm ?_)))
  refine EV (Lw.cH (i:=11) rfl) (Lw.cH (i:=0) rfl) ⟨lt,ad (y6 ..) (hD i▸by decide)⟩ (Lw.jJ (i:=11) rfl rfl) ?_
  refine fM (S1:=Lw h (Up g l sz (pl _) ((r, .bW ((cat D).take (64 * i+Hv sz i)))::F))) (λ_ s=>Lw.sub ((EG (hD i) hp▸Bm hD hi4 hp)▸s) (.cons _ (.refl _))) ?_
  exact o5 p1 rfl rfl λS' e=>bj (gy (.bin (.aa rfl) (.aa rfl) .add) rfl (bj (ih (i+1) _ _ _ ((Nat.succ_add_eq_add_succ ..).trans hk) hp2 (.of rfl rfl) e)))
end
inductive Hd(C:Addr)(q:MV->Prop):List (String×Addr×MV)->Prop
 |hit {x D v r} (e:tab.nU C D=some true)(h:q v):Hd C q ((x,D,v)::r)
 |next {x D v r} (e:tab.nU C D=some false)(h:Hd C q r):Hd C q ((x,D,v)::r)
noncomputable def Cb(D:Nat->List UInt8)(r:Nat)(b:List UInt8)(j:Nat):List UInt8:=if j=r / 4 then (D (r / 4)).take (16 * (r % 4))++b++(D (r / 4)).drop (16 * (r % 4)+16) else D j
theorem JN : ∀r < 16,(((16 * r : Nat):Int).fmod 64=(16 * (r % 4):Nat)/\((16 * r : Nat):Int).fdiv 64=(r / 4 : Nat))/\((64:Int)≠0/\((16 * r : Nat):Int).natAbs < 2^60/\(64:Int).natAbs < 2^60)/\(if (16:Int) - 0 < 64 - (16 * (r % 4):Nat) then (16:Int) - 0 else 64 - (16 * (r % 4):Nat))=16/\r / 4 < 4:=by decide +kernel
theorem LG : ∀k < 4,clipAt 64 ((16 * k : Nat):Int)=16 * k/\clipAt 64 (((16 * k : Nat):Int)+16)=16 * k+16/\max (16 * k) (16 * k+16)=16 * k+16:=by decide +kernel
theorem BZ : ∀i < 4,lL i≠14/\lL i≠17/\lL i≠12/\∀j < 4,lL j=lL i->j=i:=by decide +kernel
theorem xy{d b:List UInt8}(hd:d.length=64){k:Nat}(hk:k < 4):gd d (some ((16 * k : Nat):Int)) (some (((16 * k : Nat):Int)+16)) b=d.take (16 * k)++b++d.drop (16 * k+16):=by
 refine ie (LG k hk) λe1 e2 e3=> ?_
 show d.take (clipAt d.length _)++b++d.drop (max (clipAt d.length _) (clipAt d.length _))=_
 exact ae hd▸ae e1▸ae e2▸ae e3▸rfl
theorem G6{b:List UInt8}(hb:b.length=16):cut b (some 0) (some (0+16))=b:=by
 show (b.drop (clipAt b.length 0)).take (clipAt b.length 16 - clipAt b.length 0)=_
 refine ae hb▸ ?_;exact cF (aw hb)
theorem FS{d b:List UInt8}(hd:d.length=64)(hb:b.length=16){k:Nat}(hk:k < 4):(d.take (16 * k)++b++d.drop (16 * k+16)).length=64:=by
 refine (aA).trans ?_;rw[aA,bK];refine (ah _ List.length_drop).trans ?_;refine ae hd▸ae hb▸ ?_;exact (by decide:∀k : Nat,k < 4->min (16 * k) 64+16+(64 - (16 * k+16))=64) k hk
section
variable {m i j t N r:Nat}{g:En}{h:Lo g}{F:List Cell}{R:MV->As->Prop}{T:MF->Loc->As->Prop}{E:Addr->As->Prop}{n:Int}{loc:Loc}{s:Ck}{S:As}{X:List Int}{l sz:Nat}{ps:List Nat}{a b c:IR}{D:Nat->List UInt8}{k:Bool}{x:LA}{bs cs d:List UInt8}
theorem Hd.ok{C:Addr}{q:MV->Prop}{hs:List (String×Addr×MV)}{loc:Loc}{σ:MH}{Q:MF->Loc->MH->Prop}(h:Hd C q hs)(k:∀v,q v->Q (.ret v) loc σ):v9 tab.nU C loc σ Q (hs.map (·.2)):=by
 induction h with
 |hit e h=>exact .hit e (k _ h)
 |next e _ ih=>exact .next e ih
theorem GO{hs:List (String×Addr×MV)}(h:Wp (λC S1=>Hd C (λv=>∀l,T (.ret v) l S1) hs) S loc (xZ m b T E) (dn m a).s):Wp E S loc T (dn m (.cons (.Ea hs a) b)).s:=
 λσ s _ _ k x=>h σ s _ _ (ql k x) λ_ l σ' S1 s1 hd=>hd.ok λv q=>k _ l σ' S1 s1 (q l)
theorem Wo.put(W:Wo t D s)(hi:i < 4):Wo t (λj=>if j=i then d else D j) (s.set (lL i) d):=by
 refine ij (BZ i hi) λh1 h2 _ h3=> ?_
 refine⟨(om λe=>h1 (Int.ofNat.inj e).symm).trans W.b,λh=>(om λe=>h2 (Int.ofNat.inj e).symm).trans (W.n h),λj hj hn=> ?_⟩
 by_cases q : j=i
 ·rw[q,if_pos rfl];exact CQ
 ·rw[if_neg q];exact (om λe=>q (h3 j hj (Int.ofNat.inj e))).trans (W.d j hj hn)
theorem ui(Z:Zo g X s)(nb:g.nb=(15+N : Nat)/\t<=N)(h6:t < 6)(W:Wo t D s)(hD:∀i,(D i).length=64)(hr:r < 16)(hb:bs.length=16)(hx:((lL (r / 4):Nat):Int)∈X)
  (hk:need (r / 4)<=t∨(t=r / 4/\r / 4 < 3∨t=r / 4+1/\2<=r / 4)/\D (r / 4)=zeros)(e:Le S (Js g s (Up g l sz (pl t) F)))
  (q:∀s' t' S',(need (r / 4)<=t/\t'=t∨(t < need (r / 4)/\need (r / 4)<=N)/\t'=need (r / 4))->Zo g X s'->Wo t' (Cb D r bs) s'->Le S' (Js g s' (Up g l sz (pl t') F))->R (.int 16) S')
  (q':N < need (r / 4)->∀s' S',Zo g X s'->Wo N D s'->Le S' (Js g s' (Up g l sz (pl N) F))->R (.int 0) S'):Ct E R S 438 (m+8) [.ref (g.a 15), .ref (g.a 18), .int (16 * r : Nat), .bytes bs, .int 0]:=by
 refine ij (JN r hr) λzo0_ t1 e3 hi=> ?_;have e2:=zo0_.2
 refine t8 kM rfl (dR e λh p=>GO (de rfl (fL rfl rfl rfl (.cons (.aa rfl) (.cons (PE.eq (.bin (.aa rfl) (du rfl rfl rfl) (.fdiv t1)) (ah MV.int e2)) (.cons .ag .nil))) ?_)))
 refine xr Z nb h6 W hi (hk.imp id λz=>⟨rfl,z.1,hx,z.2⟩) (Vs.at p) (λs' t' S' ht Z' W' e=> ?_) λhn s' S' Z' W' e=> .hit rfl λ_=>q' hn s' S' Z' W' e
 have hn : need (r / 4)<=t':=ht.elim (λz=>z.2▸z.1) λz=>aw z.2.symm
 have tN : t'<=N:=ht.elim (λz=>z.2▸nb.2) λz=>z.2▸z.1.2
 have hbk:=DR ⟨nb.1,tN⟩ hi hn
 refine bj (dR e λh p=>gy (PE.eq (.bin (.aa rfl) (du rfl rfl rfl) (.mod t1.1)) (ah MV.int zo0_.1)) rfl ?_)
 refine gy (PE.eq (w:= .int 16) (.call (.cons (.bin (du rfl rfl rfl) (.aa rfl) .sub) (.cons (.bin (.call (.cons (.aa rfl) .nil) (.x7 (hb▸aj rfl))) (.aa rfl) .sub) .nil)) .min) (ah MV.int (by refine ae hb▸ ?_;exact e3))) rfl ?_
 refine mV (Vs.at p) rfl (λ_=> .aa rfl) hbk rfl λh p1=> ?_
 have Jo:=hD (r / 4)
 refine ct (bq (PE.x9 (.aa rfl) (.aa rfl) (.bin (.aa rfl) (.aa rfl) .add) (.int _) (.int _) (hb▸aj rfl)) (nL (eF rfl p1.j) (.aa rfl) (.bin (.aa rfl) (.aa rfl) .add) (.int _) (.int _) (has_data p1.j hbk.1 (W'.d _ hi hn)) ⟨Jo▸aj rfl,by refine ae (G6 hb)▸ ?_;refine ae hb▸ ?_;decide⟩ (Lw.GC p1.j.ok.nd (p1.j.ok.sI _ p1.j.hh)) ?_))
 refine ae (G6 hb)▸ae (xy Jo (Nat.mod_lt _ (by decide)))▸ ?_
 exact u5 (p1.j.put (FS Jo hb (Nat.mod_lt _ (by decide)))) Z' hbk (aB _ (aB _ (aB _ hx))) rfl rfl λS' e=>cC (.aa rfl) (q _ t' S' ht (Z'.set hbk (aB _ (aB _ (aB _ hx)))) (W'.put hi) e)
end
noncomputable def Rw(l sz t:Nat)(s:Ck):Prop:=∃b,b.length=64/\s.c 12=f9 b 24 (jw l sz (pl t))
section
variable {m i j t N r:Nat}{g:En}{h:Lo g}{F:List Cell}{R:MV->As->Prop}{T:MF->Loc->As->Prop}{E:Addr->As->Prop}{n:Int}{loc:Loc}{s:Ck}{S:As}{X:List Int}{l sz:Nat}{ps:List Nat}{a b c:IR}{D:Nat->List UInt8}{k:Bool}{x:LA}{bs cs d:List UInt8}
theorem xo{k:Int}(h:k≠n):(s.set n d).c k=s.c k:=if_neg h
theorem H1 : (s.set n d).c n=d:=if_pos rfl
theorem Wo.up(W:Wo t D s):Wo t D (s.set 12 d):=⟨(xo (by decide)).trans W.b,λh=>(xo (by decide)).trans (W.n h),λi hi hn=>(xo λe=>(BZ i hi).2.2.1 (Int.ofNat.inj e)).trans (W.d i hi hn)⟩
theorem Gl(Z:Zo g X s)(W:Wo t D s)(e:Le S (Js g s (Up g l sz (pl t) F)))(q:∀s' S',Zo g X s'->Wo t D s'->Rw l sz t s'->Le S' (Js g s' (Up g l sz (pl t) F))->R .none S'):Ct E R S 347 (m+4) [.ref (g.a 15), .ref (g.a 18)]:=
 wn rfl Z e λel S' e=>q _ S' (Z.set ⟨by decide,aN (by decide) Z.ok.nb.2⟩ (aV ..)) W.up ⟨s.c 12,el,H1⟩ e
theorem Lw.Lb{v:Nat}:wm (Lw h (Up g l sz ps F)) (g.a 18) "size" (.int v) (Lw h (Up g l v ps F)):=Lw.kT (i:=5) (j:=6) rfl rfl rfl rfl
theorem EE(Z:Zo g X s)(nb:g.nb=(15+N : Nat)/\t<=N)(h6:t < 6)(W:Wo t D s)(hD:∀i,(D i).length=64)(hr:r < 16)(hb:bs.length=16)(hx:((lL (r / 4):Nat):Int)∈X)(hl:s.ns.length<=5)
  (hk:need (r / 4)<=t∨(t=r / 4/\r / 4 < 3∨t=r / 4+1/\2<=r / 4)/\D (r / 4)=zeros)(e:Le S (Js g s (Up g l sz (pl t) F)))
  (q:∀s' t' S',(need (r / 4)<=t/\t'=t∨(t < need (r / 4)/\need (r / 4)<=N)/\t'=need (r / 4))->Zo g X s'->Wo t' (Cb D r bs) s'->Rw l (max sz (16 * r+16)) t' s'->Le S' (Js g s' (Up g l (max sz (16 * r+16)) (pl t') F))->R (.int 16) S')
  (q':N < need (r / 4)->∀s' S',Zo g X s'->Wo N D s'->Rw l sz N s'->Le S' (Js g s' (Up g l sz (pl N) F))->R (.int 0) S'):Ct E R S 431 (m+9) [.ref (g.a 15), .ref (g.a 18), .int (16 * r : Nat), .bytes bs]:=by
 have pl16 : ∀ {L:Loc} {S},L[3]?=some (some (.bytes bs))->PE L S (.call "len" (.builtin "len") (.cons (.aa 3) .nil)) (.int 16):=λa=>PE.eq (.call (.cons (.aa a) .nil) (.x7 (hb▸aj rfl))) (ah MV.int (ah _ hb))
 have t1 : (64:Int).natAbs < 2^32/\(18:Int).natAbs < 2^32:=by decide
 refine e9 e λh p=>k9 qQ (cO (.cmp (.aa rfl) .ag .lt) (bz (cZ.mpr (bA _))) ?_)
 refine gE (io (bq (.bin (.aa rfl) (pl16 rfl) .add) (gw rfl rfl rfl .nil (dh lU (eX (lG (bq (.am (.aa rfl) (Lw.up .p) rfl rfl) (bT (.aa rfl) (Lw.up .p) rfl rfl .nil (xQ (.mk (.mul t1) (.mk .gt ⟨λb=>absurd (aF b) (cZ.mpr (aW.mpr ((ad (bD (dq _ (bH hr)) _) (by decide))))),λ_=> ?_⟩)))))))))))
 have ll : ((s.ns.length : Nat):Int)<=5:=aW.mpr hl
 have en : h.nums=s.ns:=p.cv.ns
 refine gy .ag rfl (pS 2 (i1 (wT (fg (p:=true) (.cmp (.aa rfl) (pl16 rfl) .lt) ⟨λ_=>io (bT (.am (.aa rfl) (Lw.up .n) rfl rfl) (Lw.obj .j) rfl rfl .nil (H9 (en▸Z.ok.ln) (bq .glob (.mk .ge ⟨λ_=> ?_,λb=>absurd (br b) (by lia)⟩)))),nofun⟩))))
 refine de rfl (fL rfl rfl rfl (.cons (.aa rfl) (.cons (PE.eq (.bin (.aa rfl) (.aa rfl) .add) (ah MV.int (Int.add_zero _))) (.cons (.aa rfl) (.cons (.aa rfl) .nil)))) ?_)
 refine ui Z nb h6 W hD hr hb hx hk (Vs.at p) (λs' t' S' ht Z' W' e=> ?_) λhn s' S' Z' W' e=> ?_
 ·refine cO (.cmp (.aa rfl) .ag .lD) rfl (gy (.bin (.aa rfl) (.aa rfl) .add) rfl (bj (i1 (wT (fg (p:=false) (.cmp (.aa rfl) (pl16 rfl) .lt) ⟨nofun,λ_=>⟨nofun,λ_=>dR e λh p=> ?_⟩⟩)))))
  refine iG (.and (.cmp (.aa rfl) .ag .gt) (.cmp (.bin (.aa rfl) (.aa rfl) .add) (.am (.aa rfl) (Lw.up .d) rfl rfl) .gt)) (λb=> ?_) λb=> ?_
  ·have b : sz < 16 * r+16:=aX.mp (aF b)
   refine Bb (v:= .int (16 * r+16 : Nat)) (.bin (.aa rfl) (.aa rfl) .add) (.aa rfl) Lw.Lb (bj (bY (fL rfl rfl rfl (.cons (.aa rfl) .nil) (Gl Z' W' (Vs.at p) λs' S' Z' W' rw e=>cC (.aa rfl) ?_))))
   rw[Nat.max_eq_right (aL b)] at q
   exact q s' t' S' ht Z' W' rw e
  ·have b : 16 * r+16<=sz:=Nat.le_of_not_lt λz=>br b (aX.mpr z)
   refine bY (fL rfl rfl rfl (.cons (.aa rfl) .nil) (Gl Z' W' (Vs.at p) λs' S' Z' W' rw e=>cC (.aa rfl) ?_))
   rw[Nat.max_eq_left b] at q
   exact q s' t' S' ht Z' W' rw e
 ·refine jy (.cmp (.aa rfl) .ag .lD) rfl (GH (dR e λh p=>cO (.and (.cmp (.aa rfl) .ag .gt) (.cmp (.bin (.aa rfl) (.aa rfl) .add) (.am (.aa rfl) (Lw.up .d) rfl rfl) .gt)) rfl ?_))
  exact bY (fL rfl rfl rfl (.cons (.aa rfl) .nil) (Gl Z' W' (Vs.at p) λs' S' Z' W' rw e=>cC (.aa rfl) (q' hn s' S' Z' W' rw e)))
theorem BB{vs:List MV}(e:Le S (Vs (Jn (g:=g) s none) (Up g l sz ps F)))(hv:∃u v,vs=[u,v])(q:∀h : Lo g,Jn s none h->Ct E R (Lw h (Up g l sz ps F)) 431 m (.ref (g.a 15):: .ref (g.a 18)::vs)):Ct E R S 262 (m+1) (.ref (g.a 18)::vs):=by
 refine fv hv λu v zr2_=> ?_;subst zr2_
 exact e9 e λh p=>fH rQ (eX (bT (.am (.aa rfl) (Lw.up .d) rfl rfl) (Lw.up .n) rfl rfl (.cons (.aa rfl) (.cons (.aa rfl) (.cons (.aa rfl) .nil))) (q h p)))
end
noncomputable def JY(k:Nat):List UInt8:=(97+k).toUInt8::List.replicate (k * 5 % 14) 46
noncomputable def gV : Nat->List UInt8
 |0=>[46]
 |1=>[46,46]
 |k+2=>JY k
noncomputable def m7(k:Nat):Nat:=max 1 k
noncomputable abbrev Slot:=Option Nat
noncomputable def kO : Slot->List UInt8
 |none=>List.replicate 16 0
 |some k=>(m7 k).toUInt8::0::(gV k++List.replicate (14 - (gV k).length) 0)
noncomputable def HA : Slot->Nat
 |none=>0
 |some k=>m7 k
noncomputable def I3 : Slot->List UInt8
 |none=>[]
 |some k=>gV k
theorem AW : ∀k < 22,gd (vu (List.replicate 16 0) 0 (m7 k)) (some 2) (some (2+(gV k).length)) (gV k)=kO (some k)/\(gV k).length<=14/\(gV k).length≠0/\cut (gV k) none (some 14)=gV k:=by decide +kernel
theorem J2 : ∀k < 22,(kO (some k)).length=16/\wQ (kO (some k)) 0=m7 k/\(cut (kO (some k)) (some 2) (some 16)).takeWhile (· != 0)=gV k/\(cut (kO (some k)) (some 2) (some 16)).length=14:=by decide +kernel
theorem xA : ∀j < 22,∀k < 22,gV j=gV k->j=k:=by decide +kernel
theorem Df{o:Slot}(h:∀k,o=some k->k < 22):(kO o).length=16/\wQ (kO o) 0=HA o/\(cut (kO o) (some 2) (some 16)).takeWhile (· != 0)=I3 o/\(cut (kO o) (some 2) (some 16)).length=14:=by
 cases o with
 |none=>decide +kernel
 |some k=>exact J2 k (h k rfl)
section
variable {m i j t N r:Nat}{g:En}{h:Lo g}{F:List Cell}{R:MV->As->Prop}{T:MF->Loc->As->Prop}{E:Addr->As->Prop}{n:Int}{loc:Loc}{s:Ck}{S:As}{X:List Int}{l sz:Nat}{ps:List Nat}{a b c:IR}{D:Nat->List UInt8}{k:Nat}{x:LA}{bs cs d:List UInt8}
theorem DI(hb:bs.length<=100000)(q:R (.bytes bs) S):Ct E R S 464 (m+1) [.bytes bs]:=dh tO (cC (.MC (.aa rfl) (.call (.cons (.aa rfl) .nil) .x6)) q)
theorem zU{u z:MV}{i j:Option Int}{lo hi:IR}(h:We E S loc (λv S1=>v= .bytes bs/\PE loc S1 lo u/\PE loc S1 hi z/\R (.bytes (cut bs i j)) S1) (dn m a).e)(c:eY u i)(d:eY z j)(hb:bs.length<=100000):We E S loc R (dn m (.slice a lo hi)).e:=
 λσ s Q X k x=>h σ s _ X (λ_ σ1 S1 s1 zz=>(by refine ij zz λe hl hh q=> ?_;exact e▸hl.ok s1 (hh.ok s1 ⟨_,_,c,d, .oct hb (k _ _ _ s1 q)⟩))) x
theorem G7(hk:k < 22)(q:R (.bytes (gV k)) S):Ct E R S 471 (m+2) [.bytes (gV k)]:=by
 refine ij (AW k hk) λ_ e2 _ e4=> ?_
 exact dh wE (eX (zU (cr (.cons (.aa rfl) .nil) (DI (ad e2 (by decide)) ⟨rfl, .nil, .glob,e4.symm▸q⟩)) .no (.int 14) (ad e2 (by decide))))
theorem M9{S:List UInt8->List Cell->As}{r:LA}(hS:∀b F,S b F=Lw h ((r, .bW b)::F)):Ba (λb=>S b F) r:=⟨λb=>by rw[hS];exact Lw.cH (i:=0) rfl,λb b'=>by rw[hS,hS];exact Lw.jJ (i:=0) rfl rfl⟩
theorem zM(hk:k < 22)(q:R (.bytes (kO (some k))) (Lw h F)):Ct E R (Lw h F) 485 (m+2) [.int (m7 k:Nat), .bytes (gV k)]:=by
 refine ie (AW k hk) λe1 e2 _=> ?_
 refine df xF (de rfl (cV (c7 (.cons .glob .nil) (B4 (show _/\_ by decide) Lw.new λr=> ?_))))
 have B : Ba (λb=>Lw h ((r, .bW b)::F)) r:=M9 λ_ _=>rfl
 refine bY (cr (.cons (.aa rfl) (.cons .ag (.cons (.aa rfl) .nil))) (eU B (b:=List.replicate 16 0) (m7 k) 0 rfl rfl (by decide) (by decide) ?_))
 refine ct (bq (.aa rfl) (nL (.aa rfl) .ag (.bin .ag (.call (.cons (.aa rfl) .nil) (.x7 (ad e2 (by decide)))) .add) (.int 2) (.int _) (Lw.cH (i:=0) rfl) ⟨(show (vu (List.replicate 16 0) 0 (m7 k)).length=16 from dX ..)▸aj rfl,ad e2 (by decide)⟩ (Lw.jJ (i:=0) rfl rfl) ?_))
 refine ae e1▸ ?_
 exact oH (.call (.cons (.aa rfl) .nil) (.oP (Lw.cH (i:=0) rfl) ((J2 k hk).1▸aj rfl))) (λ_ s=>Lw.sub s (.cons _ (.refl _))) q
theorem IK{v:UInt8}(e:bs[i]?=some v):rO S (.rF bs i) (some (.int v.toNat, .rF bs (i+1))):=λσ s=> .rF e
theorem Go : rO S (.rF bs bs.length) none:=λσ s=> .Lh (List.getElem?_eq_none (aG _))
theorem BW{p:UInt8->Bool}:∀ {bs:List UInt8}{i:Nat}{v:UInt8},bs[i]?=some v->(∀y∈bs.take i,p y=true)->(p v=false->bs.takeWhile p=bs.take i)/\(p v=true->∀y∈bs.take (i+1),p y=true)
 |c::bs,0,v,e,_=>by cases e;exact⟨λq=>List.takeWhile_cons_of_neg (by refine ae q▸ ?_;decide),λq y m=>by cases av.mp (List.take_succ_cons▸m);exact q⟩
 |c::bs,i+1,v,e,h=>by
  have ⟨a,b⟩:=BW (bs:=bs) (i:=i) e λy m=>h y (aB _ m)
  have hc:=h c (aV ..)
  exact⟨λq=>by rw[List.takeWhile_cons_of_pos hc];exact ah _ (a q),λq y m=>by refine Or.elim (aK.mp m) (λz=> ?_) λm=> ?_;exact z▸hc;exact b q y m⟩
theorem AQ(hb:bs.length<=100000)(hc:(cut bs (some 2) (some 16)).length<=100)(q:R (.bytes ((cut bs (some 2) (some 16)).takeWhile (· != 0))) (Lw h F)):Ct E R (Lw h F) 492 (m+1) [.bytes bs]:=by
 refine dh wU (de rfl (cV (cm (xz Lw.new λr=> ?_))))
 generalize hcs : cut bs (some 2) (some 16)=cs at q hc
 have fin : ∀ {i loc},cs.takeWhile (· != 0)=cs.take i->Fr [some (.bytes bs),some (.ref r)] 1 loc->Wp E (Lw h ((r, .bW (cs.take i))::F)) loc (λf _ S=>R (f0 f) S) (dn m (.cons (.ret (.call "bytes" (.type "bytes") (.cons (.aa 1) .nil))) .nil)).s:=by
  rintro i _ e ⟨x⟩
  exact oH (.call (.cons (.aa rfl) .nil) (.oP (Lw.cH (i:=0) rfl) (ad (List.length_take_le' ..) (ad hc (by decide))))) (λ_ s=>Lw.sub s (.cons _ (.refl _))) (e▸q)
 refine dj (it:= .rF cs) (L:=cs.length) (I:=λi loc S=>(∀y∈cs.take i,(y != 0)=true)/\Fr [some (.bytes bs),some (.ref r)] 1 loc/\S=Lw h ((r, .bW (cs.take i))::F)) (H7 (hcs▸ .x9 (.aa rfl) .ag .glob (.int 2) (.int 16) hb) ⟨rfl,nofun, .of rfl rfl,rfl⟩) rfl ?_ ?_
 ·rintro i loc S hi ⟨hy,hf,rfl⟩
  obtain⟨v,e⟩ : ∃v,cs[i]?=some v:=⟨_,ay hi⟩
  cases hf
  refine .mk (IK e) (bR rfl (iG (.cmp (.aa rfl) .ag .lD) (λb=>GH (fin ((BW e hy).1 ?_) (.of rfl rfl))) λb=> ?_))
  ·have b:=eq_of_beq b;refine bne_eq_false_iff_eq.mpr ?_;exact UInt8.toNat_inj.mp (Int.ofNat.inj b)
  ·refine bY (cM (.aa rfl) (gP (Lw.cH (i:=0) rfl) (.ba rfl)) (c7 (.cons (.aa rfl) .nil) (Ga (Lw.cH (i:=0) rfl) ⟨ad (List.length_take_le' ..) (ad hc (by decide)),bA _,aX.mpr v.toNat_lt⟩ (Lw.jJ (i:=0) rfl rfl) (bj ⟨(BW e hy).2 ?_, .of rfl rfl, ?_⟩))))
   ·refine bne_iff_ne.mpr ?_;rintro rfl;exact absurd b (by decide)
   ·rw[bV,e];rw[Int.toNat_natCast,show v.toNat.toUInt8=v from UInt8.ofNat_toNat];rfl
 ·rintro loc S ⟨hy,hf,rfl⟩
  rw[List.take_length] at hy
  exact⟨Go,fin (by rw[List.take_length];have:=List.takeWhile_append_of_pos (l₂:=[]) hy;rwa [cK,List.takeWhile_nil,cK] at this) hf⟩
end
noncomputable def rowsOf(sl:List Slot)(j:Nat):List UInt8:=kO (sl.getD j none)
noncomputable def nR(ro:Nat->List UInt8)(i:Nat):List UInt8:=ro (4 * i)++(ro (4 * i+1)++(ro (4 * i+2)++ro (4 * i+3)))
noncomputable abbrev DS(sl:List Slot):Nat->List UInt8:=nR (rowsOf sl)
noncomputable def gY(sl:List Slot)(r:Nat)(o:Slot):List Slot:=if r < sl.length then sl.set r o else sl++[o]
noncomputable def lf(L t:Nat):Bool:=(List.range 4).all λi=>decide (4 * i < L)==decide (need i<=t)
theorem CA : ∀t < 6,∀L < 15,lf L t=true->∀i < 4,4 * i < L->need i<=t:=by decide +kernel
set_option synthInstance.maxSize 2000 in
set_option synthInstance.maxHeartbeats 400000 in
theorem Dk : ∀t < 6,∀L < 15,∀r < 14,lf L t=true/\r<=L->(need (r / 4)<=t∨(t=r / 4/\r / 4 < 3∨t=r / 4+1/\2<=r / 4)/\L<=4 * (r / 4))/\(¬need (r / 4)<=t∨lf (max L (r+1)) t=true)/\(¬t < need (r / 4)∨lf (max L (r+1)) (need (r / 4))=true/\need (r / 4) < 6):=by decide +kernel
set_option synthInstance.maxSize 2000 in
set_option synthInstance.maxHeartbeats 400000 in
theorem Dz : ∀t < 6,∀L < 15,∀r < 14,∀N < 7,lf L t=true/\r<=L/\t<=N/\N < need (r / 4)->lf L N=true/\N < 6:=by decide +kernel
theorem Kg{a b c d x:List UInt8}(ha:a.length=16)(hb:b.length=16)(hc:c.length=16)(hd:d.length=16):∀ {k:Nat},k < 4->
  (a++(b++(c++d))).take (16 * k)++x++(a++(b++(c++d))).drop (16 * k+16)=(if 0=k then x else a)++((if 1=k then x else b)++((if 2=k then x else c)++(if 3=k then x else d)))
 |0,_=>ah (x++·) (List.drop_left' ha)
 |1,_=>by rw[show 16 * 1+16=a.length+16 by rw[ha],List.drop_length_add_append,List.drop_left' hb,List.take_left' ha];exact (aH ..)
 |2,_=>by rw[show 16 * 2+16=a.length+(b.length+16) by rw[ha,hb],List.drop_length_add_append,List.drop_length_add_append,List.drop_left' hc,show 16 * 2=a.length+16 by rw[ha],List.take_length_add_append,List.take_left' hb,aH];exact (aH ..)
 |3,_=>by rw[show 16 * 3+16=a.length+(b.length+(c.length+16)) by rw[ha,hb,hc],List.drop_length_add_append,List.drop_length_add_append,List.drop_length_add_append,List.drop_of_length_le (aw hd),show 16 * 3=a.length+(b.length+16) by rw[ha,hb],List.take_length_add_append,List.take_length_add_append,List.take_left' hc,cK,aH];exact ah _ (aH ..)
theorem Mg{a b c d r:List UInt8}(ha:a.length=16)(hb:b.length=16)(hc:c.length=16)(hd:d.length=16):∀ {k:Nat},k < 4->((a++(b++(c++d))++r).drop (16 * k)).take 16=if k=0 then a else if k=1 then b else if k=2 then c else d
 |0,_=>by refine (ah _ (aH ..)).trans ?_;exact List.take_left' ha
 |1,_=>by rw[aH];refine (ah _ (List.drop_left' ha)).trans ?_;refine (ah _ (aH ..)).trans ?_;exact List.take_left' hb
 |2,_=>by rw[aH,aH,show 16 * 2=a.length+16 by rw[ha],List.drop_length_add_append];refine (ah _ (List.drop_left' hb)).trans ?_;refine (ah _ (aH ..)).trans ?_;exact List.take_left' hc
 |3,_=>by rw[aH,aH,aH,show 16 * 3=a.length+(b.length+16) by rw[ha,hb],List.drop_length_add_append];refine (ah _ (List.drop_length_add_append ..)).trans ?_;refine (ah _ (List.drop_left' hc)).trans ?_;exact List.take_left' hd
set_option synthInstance.maxSize 2000 in
set_option synthInstance.maxHeartbeats 400000 in
theorem q4 : ∀r < 16,∀i < 4,(i=r / 4->r % 4 < 4/\(4 * i=r↔0=r % 4)/\(4 * i+1=r↔1=r % 4)/\(4 * i+2=r↔2=r % 4)/\(4 * i+3=r↔3=r % 4))/\(i≠r / 4->4 * i≠r/\4 * i+1≠r/\4 * i+2≠r/\4 * i+3≠r):=by decide +kernel
section
variable {sl:List Slot}{r i j L t:Nat}{o:Slot}{ro:Nat->List UInt8}{x:List UInt8}
theorem uy(h:∀j,(ro j).length=16):(nR ro i).length=64:=by unfold nR;refine (aA).trans ?_;refine (ah _ aA).trans ?_;rw[aA,h,h,h,h]
theorem BG(h:∀j,(ro j).length=16)(hr:r < 16)(hi:i < 4):Cb (nR ro) r x i=nR (λj=>if j=r then x else ro j) i:=by
 refine dw (q4 r hr i hi) λa b=> ?_
 unfold Cb
 by_cases q : i=r / 4
 ·refine Hy (a q) λc e0 e1 e2 e3=> ?_
  refine ((if_pos q)).trans ?_;refine q▸ ?_;unfold nR
  refine ((Kg (h _) (h _) (h _) (h _) c)).trans ?_;simp only[e0,e1,e2,e3]
 ·refine ij (b q) λe0 e1 e2 e3=> ?_
  refine ((if_neg q)).trans ?_;unfold nR;simp only[if_neg e0,if_neg e1,if_neg e2,if_neg e3]
theorem qM(h:∀k,some k∈sl->k < 22):(rowsOf sl j).length=16:=
 (Df λk e=>by
  replace e:=aR▸e
  cases q : sl[j]? with
  |none=>(replace e:=q▸e);cases e
  |some y=>rw[q] at e;exact h k (e▸au q)).1
theorem B9(hr:r<=sl.length):(gY sl r o).getD j none=if j=r then o else sl.getD j none:=by
 unfold gY;refine (aR).trans ?_;rw[aR]
 split
 ·rw[List.getElem?_set];by_cases q : j=r
  ·rw[if_pos q.symm,if_pos q,if_pos ‹r < sl.length›];rfl
  ·rw[if_neg (Ne.symm q),if_neg q]
 ·have e : sl.length=r:=Nat.le_antisymm (Nat.le_of_not_lt ‹_›) hr
  by_cases q : j=r
  ·refine ae (if_pos q)▸ae q▸e▸ae (List.getElem?_append_right (aG _))▸ ?_;refine ae (Nat.sub_self ..)▸ ?_;rfl
  ·rw[if_neg q]
   refine Or.elim (Nat.lt_or_gt_of_ne q) (λz=> ?_) λz=> ?_
   ·rw[cY (e▸z)]
   ·rw[List.getElem?_eq_none (by refine ae aA▸ae e▸ ?_;exact z),List.getElem?_eq_none (e▸aL z)]
theorem jU(hr:r<=sl.length):(gY sl r o).length=max sl.length (r+1):=by
 unfold gY;split
 ·refine (cL).trans ?_;rw[Nat.max_eq_left ‹_›]
 ·rw[Nat.le_antisymm hr (Nat.le_of_not_lt ‹_›)];refine (aA).trans ?_;rw[Nat.max_eq_right (cT _)];rfl
theorem qm{k:Nat}(h:some k∈gY sl r o):some k∈sl∨some k=o:=by
 unfold gY at h;split at h
 ·exact List.mem_or_eq_of_mem_set h
 ·exact (bI.mp h).imp_right av.mp
theorem FI(h:∀k,some k∈sl->k < 22)(hr:r < 16)(hr':r<=sl.length)(hi:i < 4):Cb (DS sl) r (kO o) i=DS (gY sl r o) i:=by
 refine ((BG (λj=>qM h) hr hi)).trans ?_
 have : rowsOf (gY sl r o)=λj=>if j=r then kO o else rowsOf sl j:=funext λj=>by unfold rowsOf;refine (ah _ (B9 hr')).trans ?_;exact apply_ite kO ..
 unfold DS;rw[this]
theorem EY(h:sl.length<=4 * i):DS sl i=zeros:=by
 have e : ∀j,sl.length<=j->rowsOf sl j=List.replicate 16 0:=λj q=>by unfold rowsOf;refine (ah _ aR).trans ?_;refine ae (List.getElem?_eq_none q)▸ ?_;rfl
 delta DS nR;refine ae (e _ h)▸ae (e _ (cE h))▸ae (e _ (cE (cE h)))▸ae (e _ (cE (cE (cE h))))▸ ?_;rfl
theorem Ml : ∀L < 15,∀j < L,16 * L - 16 * j=16+(16 * L - 16 * j - 16)/\clipAt (16 * L) (0+(j:Int) * 16)=16 * j/\clipAt (16 * L) (0+(j:Int) * 16+16)=16 * j+16/\16 * j=64 * (j / 4)+16 * (j % 4)/\j / 4 < 4/\j % 4 < 4/\(if j % 4=0 then 4 * (j / 4) else if j % 4=1 then 4 * (j / 4)+1 else if j % 4=2 then 4 * (j / 4)+2 else 4 * (j / 4)+3)=j/\16 * L<=256:=by decide +kernel
theorem yQ{D:Nat->List UInt8}(hD:∀i,(D i).length=64):(cat D).length=256:=by unfold cat;refine (aA).trans ?_;refine (ah _ aA).trans ?_;rw[aA,hD,hD,hD,hD]
theorem E3(h:∀k,some k∈sl->k < 22)(hL:sl.length < 15)(hj:j < sl.length):cut ((cat (DS sl)).take (16 * sl.length)) (some (0+(j:Int) * 16)) (some (0+(j:Int) * 16+16))=kO (sl.getD j none):=by
 obtain⟨e0,e1,e2,e3,e4,e5,e6,e7⟩:=Ml _ hL j hj
 have hl:=λ{j}=>qM (j:=j) h
 show (List.drop (clipAt _ _) _).take (clipAt _ _ - clipAt _ _)=_
 rw[(show ((cat (DS sl)).take (16 * sl.length)).length=16 * sl.length by refine (bK).trans ?_;refine (ah _ (yQ λi=>uy λj=>hl)).trans ?_;exact Nat.min_eq_left e7),e1,e2,Nat.add_sub_cancel_left];refine (ah _ List.drop_take).trans ?_;refine (List.take_take).trans ?_;rw[e0,Nat.min_eq_left (a9 ..),e3,<-List.drop_drop]
 refine cN (wH (D:=DS sl) (λi=>uy λj=>hl) e4) λr e=> ?_
 rw[e];delta DS nR
 refine ((Mg hl hl hl hl e5)).trans ?_
 show _=rowsOf sl j
 conv=>rhs;rw[<-e6]
 rw[apply_ite (rowsOf sl),apply_ite (rowsOf sl),apply_ite (rowsOf sl)]
end
structure Wd(g:En)(N:Nat)(sl:List Slot)(t:Nat)(s:Ck):Prop where
 nb : g.nb=(15+N : Nat)/\t<=N
 n7 : N < 7
 h6 : t < 6
 w : Wo t (DS sl) s
 rw : Rw 1 (16 * sl.length) t s
 tok : ∀k,some k∈sl->k < 22
 len : sl.length < 15
 pr : lf sl.length t=true
noncomputable abbrev gR(g:En)(sl:List Slot)(t:Nat)(F:List Cell):List Cell:=Up g 1 (16 * sl.length) (pl t) F
theorem H6 : ∀L < 15,∀r < 14,max (16 * L) (16 * r+16)=16 * max L (r+1)/\max L (r+1) < 15:=by decide +kernel
noncomputable def Ch(o:Slot)(i:Nat):MV:= .tup [.int (16 * i : Nat), .int (HA o:Nat), .bytes (I3 o)]
noncomputable def fG(sl:List Slot):List MV:=sl.mapIdx λi o=>Ch o i
theorem JW : ∀L < 15,(if (0:Int) < (16 * L : Nat) - 16+1 then ((16 * L : Nat) - 16+1 - 0 - 1) / 16+1 else 0 : Int)=(L - 0 : Nat)/\ -(2^60 : Int)<=(16 * L : Nat) - 16+1/\(16 * L : Nat) - 16+1 < (2^60 : Int)/\16 * L<=256:=by decide +kernel
section
variable {m i j t N r:Nat}{g:En}{h:Lo g}{F:List Cell}{R:MV->As->Prop}{T:MF->Loc->As->Prop}{E:Addr->As->Prop}{n:Int}{loc:Loc}{s:Ck}{S:As}{X:List Int}{l sz:Nat}{ps:List Nat}{a b c:IR}{D:Nat->List UInt8}{k:Nat}{x:LA}{bs cs d:List UInt8}{sl:List Slot}{o:Slot}
theorem Wd.x8(w:Wd g N sl t s):∀k,sl.getD j none=some k->k < 22:=λk e=>by
 replace e:=aR▸e
 cases q : sl[j]? with
 |none=>(replace e:=q▸e);cases e
 |some y=>rw[q] at e;exact w.tok k (e▸au q)
theorem Wd.Jo(w:Wd g N sl t s)(i:Nat):(DS sl i).length=64:=uy λ_=>qM w.tok
theorem yx(w:Wd g N sl t s)(Z:Zo g X s)(hr:r < 14)(hr':r<=sl.length)(ho:∀k,o=some k->k < 22)(hx:((lL (r / 4):Nat):Int)∈X)(hl:s.ns.length<=5)(e:Le S (Js g s (gR g sl t F)))
  (q:∀s' t' S',(need (r / 4)<=t/\t'=t∨(t < need (r / 4)/\need (r / 4)<=N)/\t'=need (r / 4))->Zo g X s'->Wd g N (gY sl r o) t' s'->Le S' (Js g s' (gR g (gY sl r o) t' F))->R (.int 16) S')
  (q':N < need (r / 4)->∀s' S',Zo g X s'->Wd g N sl N s'->Le S' (Js g s' (gR g sl N F))->R (.int 0) S'):Ct E R S 262 (m+10) [.ref (g.a 18), .int (16 * r : Nat), .bytes (kO o)]:=by
 refine ie (Dk t w.h6 _ w.len r hr ⟨w.pr,hr'⟩) λp1 p2 p3=> ?_
 have hk : need (r / 4)<=t∨(t=r / 4/\r / 4 < 3∨t=r / 4+1/\2<=r / 4)/\DS sl (r / 4)=zeros:=p1.imp id λz=>⟨z.1,EY z.2⟩
 refine BB e ⟨_,_,rfl⟩ λh p=>EE Z w.nb w.h6 w.w w.Jo (cG hr (by decide)) (Df ho).1 hx hl hk (Vs.at p) (λs' t' S' ht Z' W' rw e=> ?_) λhn s' S' Z' W' rw e=> ?_
 ·have el:=jU (o:=o) hr'
  rw[((H6 _ w.len r hr).1),<-el] at rw e
  have pr : lf (gY sl r o).length t'=true/\t' < 6:=by
   rw[el]
   exact ht.elim (λz=>z.2▸⟨p2.resolve_left λy=>y z.1,w.h6⟩) λz=>z.2▸p3.resolve_left λy=>y z.1.1
  exact q s' t' S' ht Z' ⟨⟨w.nb.1,(ht.elim (λz=>z.2▸w.nb.2) λz=>z.2▸z.1.2)⟩,w.n7,pr.2,{ W' with d:=λi hi hn=>(W'.d i hi hn).trans (FI w.tok (cG hr (by decide)) hr' hi) },rw,λk hk=>(qm hk).elim (w.tok k) λz=>ho k z.symm,el▸((H6 _ w.len r hr).2),pr.1⟩ e
 ·have pr:=Dz t w.h6 _ w.len r hr N w.n7 ⟨w.pr,hr',w.nb.2,hn⟩
  exact q' hn s' S' Z' ⟨⟨w.nb.1,aG N⟩,w.n7,pr.2,W',rw,w.tok,w.len,pr.1⟩ e
theorem ot(h:We E S loc (λvs S1=>Nat.ble vs.length 1000=true/\R (.tup vs) S1) (P.gT (dn m a).ms)):We E S loc R (dn m (.tup a)).e:=
 λσ s Q X k x=>h σ s _ X (λvs σ1 S1 s1 zz=>(by refine dw zz λe q=> ?_;exact⟨ad (aj e) (by decide),k _ _ S1 s1 q⟩)) x
theorem mX(hi:i < sl.length):(fG sl)[i]?=some (Ch (sl.getD i none) i):=by
 refine (List.getElem?_mapIdx).trans ?_;exact ae aR▸ae (ay hi)▸rfl
theorem fO : (fG sl).length=sl.length:=List.length_mapIdx
theorem Hr(w:Wd g N sl t s)(e:Le S (Js g s (gR g sl t F)))(q:∀S',Le S' (Js g s (gR g sl t F))->R (.bytes ((cat (DS sl)).take (16 * sl.length))) S'):Ct E R S 255 (m+9) [.ref (g.a 18), .int 0, .int (16 * sl.length : Nat)]:=
 e9 e λh p=>fH ue (eX (bT (.am (.aa rfl) (Lw.up .d) rfl rfl) (Lw.up .n) rfl rfl (.cons (.aa rfl) (.cons (.aa rfl) (.cons (.aa rfl) .nil))) (Ho w.nb w.h6 w.w w.Jo (JW _ w.len).2.2.2 (λi hi=>CA t w.h6 _ w.len w.pr i (Nat.lt_of_mul_lt_mul_left (a:=64) (cG hi (aC (Nat.mul_lt_mul_of_pos_left w.len (by decide)) (by decide:16 * 15<=64 * 4)))) (Nat.lt_of_mul_lt_mul_left (a:=16) (az (aw (Nat.mul_assoc 16 4 i).symm) hi))) (Vs.at p) q)))
theorem xW(w:Wd g N sl t s)(e:Le S (Js g s (gR g sl t F)))(q:∀S' r,Le S' (Js g s (gR g sl t ((r, .list (fG sl))::F)))->R (.ref r) S'):Ct E R S 527 (m+10) [.ref (g.a 21), .ref (g.a 18)]:=by
 refine ij (JW _ w.len) λg1 g2 g3 g4=> ?_
 have lX : ((cat (DS sl)).take (16 * sl.length)).length=16 * sl.length:=by refine (bK).trans ?_;refine (ah _ (yQ w.Jo)).trans ?_;exact Nat.min_eq_left g4
 have lX5 : ((cat (DS sl)).take (16 * sl.length)).length<=100000:=by rw[lX];exact ad g4 (by decide)
 refine e9 e λh p=>df mE (bY (bT (.aa rfl) (Lw.up .w) rfl rfl (.cons (.aa rfl) .nil) ?_))
 refine df iJ (gE (uC (Ff (bT (.aa rfl) (Lw.up .d) rfl rfl .nil (dh jR (cC (.cmp (.am (.aa rfl) (Lw.up .d) rfl rfl) .glob .lD) (.mk .bool ⟨nofun,λ_=>bj ?_⟩)))))))
 refine de rfl (bT (.aa rfl) (Lw.up .d) rfl rfl (.cons .ag (.cons (.am (.aa rfl) (Lw.up .d) rfl rfl) .nil)) (Hr w (Vs.at p) λS' e=>dR e λh p=>de rfl (dz (cm ⟨bC _,Lw.new,λr=> ?_⟩))))
 refine fM (S1:=Lw h (gR g sl t ((r, .list ((fG sl).take 0))::F))) (λσ s=>Lw.perm s (List.perm_middle (l₁:=gR g sl t []) (l₂:=F)).symm) ?_
 refine dj (it:=g6 0 16 sl.length) (L:=sl.length) (I:=λj loc S=>Fr [some (.ref (g.a 21)),some (.ref (g.a 18)),some (.bytes ((cat (DS sl)).take (16 * sl.length))),some (.ref r)] 2 loc/\S=Lw h (gR g sl t ((r, .list ((fG sl).take j))::F))) ?_ rfl ?_ ?_
 ·refine Fj (.cons .ag (.cons (PE.eq (.bin (.bin (.call (.cons (.aa rfl) .nil) (.x7 lX5)) .glob .sub) .ag .add) (ah (λx:Nat=>MV.int (x - 16+1)) lX)) (.cons .glob .nil))) ⟨by decide,by decide,g2,g3,by decide,by decide⟩ ⟨ah (It.jK 0 · 16) g1, .of rfl rfl,rfl⟩
 ·rintro j loc S hj ⟨⟨y⟩,rfl⟩
  refine ij (Df (w.x8 (j:=j))) λo1 o2 o3 o4=> ?_
  refine .mk (t9 hj) (bR rfl (gy (PE.eq (.x9 (.aa rfl) (.aa rfl) (.bin (.aa rfl) .glob .add) (.int _) (.int _) lX5) (ah MV.bytes (E3 w.tok w.len hj))) rfl ?_))
  refine bY (cM (.aa rfl) (gP (Lw.cH (i:=10) rfl) (.list rfl)) (bk (ot (bk (bq (.aa rfl) (bk (cr (.cons (.aa rfl) (.cons .ag .nil)) (gC .b 0 rfl (o1▸by decide) (o1▸by decide) (bk (cr (.cons (.aa rfl) .nil) (AQ (o1▸by decide) (o4▸by decide) (cm ⟨rfl,cm ?_⟩))))))))))))
  rw[o2,o3,(show (0:Int)+(j:Int) * 16=(16 * j : Nat) from (Int.zero_add _).trans (ah Nat.cast (Nat.mul_comm j 16)))]
  refine l7 (Lw.cH (i:=10) rfl) (ad (List.length_take_le' ..) (by refine ae fO▸ ?_;exact ad (aL w.len) (by decide))) (Lw.jJ (i:=10) rfl rfl) (bj ⟨.of rfl rfl, ?_⟩)
  rw[bV,mX hj];rfl
 ·rintro loc S ⟨⟨y⟩,rfl⟩
  exact⟨gu,cC (.aa rfl) (q _ r λσ s=>⟨h,p,cF (aw fO)▸s⟩)⟩
end
noncomputable def pM(sl:List Slot):List MV:=sl.filterMap λo=>o.map λk=> .bytes (gV k)
noncomputable def ft : List Slot->Nat->Nat
 |some _::r,a=>ft r (a+1)
 |_,a=>a
inductive Co(n:Nat)(cmap:List (Option Nat))(tt:Bool)(tg ifs el:IR)(loc:Loc)(S:As)(R:MV->As->Prop)(it:It):Prop
 |mk (N:Nat)(hn:((!it.dT||tt)&&it.plain&&zE cmap loc)=true)(g:Wp Ej S (eS cmap loc) (λacc _ S=>pQ (pX S (.list acc)) λS'=>∀r,R (.ref r) (S' r)) (P.lE (dn n tg).t (dn n ifs).c (dn n el).e N it []))
section
variable {m i j t N r:Nat}{g:En}{h:Lo g}{F:List Cell}{R:MV->As->Prop}{T:MF->Loc->As->Prop}{E:Addr->As->Prop}{n:Int}{loc:Loc}{s:Ck}{S:As}{X:List Int}{l sz:Nat}{ps:List Nat}{a b c:IR}{D:Nat->List UInt8}{k:Nat}{x:LA}{bs cs d:List UInt8}{sl:List Slot}{o:Slot}{mo mo':MO}{tt:Bool}
theorem qu{cn:List Str}{cmap:List (Option Nat)}{tg ifs el:IR}(h:We E S loc (λit S1=>Co m cmap tt tg ifs el loc S1 R it) (dn m a).it):We E S loc R (dn m (.comp cn cmap tt a tg ifs el)).e:=by
 refine λσ s Q X k x=>h σ s _ X (λit σ1 S1 s1 ⟨N,hn,g⟩=> ?_) x
 have hm:=an.mp (an.mp hn).1
 refine⟨λq=> ?_,hm.2,zg (an.mp hn).2,N,g σ1 s1 _ _ (λacc l σ' S' s' ⟨nw,q⟩=>(by refine aT (nw σ' s') λr hr s2=> ?_;exact⟨r,hr,k _ _ _ s2 (q r)⟩)) λ_ _ _ _ _ h=>h⟩
 have:=hm.1;replace this:=q▸this;exact this
theorem Vs.cH{P:Lo g->Prop}(e:Le S (Vs P (Up g l sz ps ((x,mo)::F)))):dP S x mo:=λσ z=>(by refine aT (e σ z) λ_ _ z=> ?_;exact Lw.cH (i:=10) rfl σ z)
theorem Vs.newD{P:Lo g->Prop}{q:Cell}(e:Le S (Vs P (Up g l sz ps (q::F)))):pX S mo λr=>Vs P (Up g l sz ps ((r,mo)::F)):=λσ z=>let ⟨h,p,z⟩:=e σ z;let ⟨r,hr,z⟩:=Lw.new (o:=mo) σ z
 ⟨r,hr,h,p,Lw.sub (Lw.perm z (List.perm_middle (l₁:=Up g l sz ps []) (l₂:=q::F)).symm) (.append_left (.cons_cons _ (.cons _ (.refl F))) (Up g l sz ps []))⟩
theorem Vs.less{P:Lo g->Prop}{q:Cell}(e:Le S (Vs P (Up g l sz ps (q::F)))):Le S (Vs P (Up g l sz ps F)):=λσ z=>let ⟨h,p,z⟩:=e σ z;⟨h,p,Lw.sub z (.append_left (.cons _ (.refl F)) (Up g l sz ps []))⟩
theorem DH(w:Wd g N sl t s)(p:Jn s none h)(h0:loc[0]?=some (some (.ref (g.a 21))))(h1:loc[1]?=some (some (.ref (g.a 18)))){R:It->As->Prop}(q:∀S' r,Le S' (Js g s (gR g sl t ((r, .list (fG sl))::F)))->dP S' r (.list (fG sl))->R (.lst r 0) S') :
  We E (Lw h (gR g sl t F)) loc R (dn (m+10) (.iter (.aO (.aa 0) "all_rows" (.cons (.aa 1) .nil)))).it:=
 ES (bT (.aa h0) (Lw.up .w) rfl rfl (.cons (.aa h1) .nil) (xW w (Vs.at p) λS' r e=> .mk rfl (.mk (Vs.cH e) (q S' r e (Vs.cH e)))))
theorem Bj(he:dP S x (.list (fG sl)))(hi:i < sl.length):rO S (.lst x i) (some (Ch (sl.getD i none) i, .lst x (i+1))):=ik he (mX hi)
theorem zj(he:dP S x (.list (fG sl))):rO S (.lst x sl.length) none:=by have:=fj he;exact fO▸this
theorem to(hi:i < sl.length):pM (sl.take (i+1))=pM (sl.take i)++pM [sl.getD i none]:=by
 rw[bV,aR,ay hi];exact List.filterMap_append
theorem ty{o:Slot}:(((HA o:Nat):Int) != 0)=o.isSome:=by
 cases o with
 |none=>rfl
 |some k=>exact bne_iff_ne.mpr λe=>absurd (Int.ofNat.inj e) (Nat.ne_of_gt (aC Nat.zero_lt_one (Nat.le_max_left 1 k)))
theorem zq(w:Wd g N sl t s)(p:Jn s none h)(q:∀S' r,Le S' (Js g s (gR g sl t ((r, .list (pM sl))::F)))->R (.ref r) S'):Ct E R (Lw h (gR g sl t F)) 532 (m+11) [.ref (g.a 21), .ref (g.a 18)]:=by
 refine df qX (eX (qu (DH w p rfl rfl λS' r e he=> .mk (sl.length+1) rfl ?_)))
 refine λσ z Q X k x=>n5 (it:=λi=> .lst r i) (L:=sl.length) (I:=λi acc loc S=>acc=pM (sl.take i)/\Fr [] 3 loc/\S=S') (D:=λacc S=>acc=pM sl/\S=S') ?_ ?_ _ 0 [] _ S' (bZ _) ⟨rfl, .of rfl rfl,rfl⟩ σ z Q X (λacc l σ' S1 z' zz=>(by refine dw zz λe1 e2=> ?_;exact k acc l σ' S1 z' (e1▸ .mk (Vs.newD (e2▸e)) λr=>q _ r λ_ z=>z))) x
 ·rintro i acc loc S hi ⟨rfl,⟨y⟩,rfl⟩
  refine⟨ad (List.length_filterMap_le ..) (ad (List.length_take_le' ..) (ad (aL w.len) (by decide))), .mk (Bj he hi) (t3 rfl rfl rfl (tW (fg (.cmp (.aa rfl) .ag .ne) (by
   refine ae ty▸ae (to hi)▸ ?_
   cases sl.getD i none with
   |none=>exact⟨nofun,λ_=>⟨(cK _).symm, .of rfl rfl,rfl⟩⟩
   |some k=>exact⟨λ_=>bq (.aa rfl) ⟨rfl, .of rfl rfl,rfl⟩,nofun⟩))))⟩
 ·rintro acc loc S ⟨rfl,_,rfl⟩
  exact⟨zj he,by exact ah _ List.take_length,rfl⟩
end
theorem L6 : ∀L < 15,((16 * L : Nat):Int) - Int.fmod (16 * L : Nat) 16=(16 * L : Nat)/\(16:Int)≠0:=by decide +kernel
section
variable {m i j t N r:Nat}{g:En}{h:Lo g}{F:List Cell}{R:MV->As->Prop}{T:MF->Loc->As->Prop}{E:Addr->As->Prop}{n:Int}{loc:Loc}{s:Ck}{S:As}{X:List Int}{l sz:Nat}{ps:List Nat}{a b c:IR}{D:Nat->List UInt8}{k:Nat}{x:LA}{bs cs d:List UInt8}{sl:List Slot}{o:Slot}{mo mo':MO}{tt:Bool}
theorem qN(hk:k < 22)(ho:∀k,o=some k->k < 22):(I3 o==gV k)=decide (o=some k):=by
 cases o with
 |none=>exact eu.mpr ⟨λe=>absurd (ah List.length (eq_of_beq e)) λz=>(AW k hk).2.2.1 z.symm,λe=>absurd (aF e) nofun⟩
 |some j=>exact eu.mpr ⟨λe=>aZ (ah some (xA j (ho j rfl) k hk (eq_of_beq e))),λe=>eI.mpr (ah gV (aP (aF e)))⟩
theorem pi : ∀ {sl:List Slot}{a:Nat},ft sl a<=a+sl.length
 | [],_=>aG _
 |none::_,_=>a9 ..
 |some _::sl,a=>ad (pi (sl:=sl)) (aw (Nat.succ_add_eq_add_succ ..))
theorem s8(hj:j < sl.length)(e:sl.getD j none=o):sl[j]?=some o:=by rw[aR,ay hj] at e;refine ((ay hj)).trans ?_;exact ah some e
theorem IN(w:Wd g N sl t s)(p:Jn s none h)(hk:k < 22)(q:∀j,sl[j]?=some (some k)->(∀i < j,sl[i]?≠some (some k))->∀S',Le S' (Js g s (gR g sl t F))->R (.tup [.int (m7 k:Nat), .int (16 * j : Nat)]) S')
  (q0:some k∉sl->∀S',Le S' (Js g s (gR g sl t F))->R .none S'):Ct E R (Lw h (gR g sl t F)) 539 (m+11) [.ref (g.a 21), .ref (g.a 18), .bytes (gV k)]:=by
 refine fH rY (de rfl (cr (.cons (.aa rfl) .nil) (G7 hk (s0 (DH w p rfl rfl λS' r e he=> .mk (sl.length+1) rfl ?_)))))
 refine lI (it:=λi=> .lst r i) (L:=sl.length) (I:=λi loc S=>(∀j < i,sl[j]?≠some (some k))/\Fr [some (.ref (g.a 21)),some (.ref (g.a 18)),some (.bytes (gV k)),some (.bytes (gV k))] 3 loc/\S=S') ?_ ?_ _ 0 _ S' (bZ _) ⟨nofun, .of rfl rfl,rfl⟩
 ·rintro i loc S hi ⟨hn,⟨y⟩,rfl⟩
  refine .mk (Bj he hi) (t3 rfl rfl rfl (iG (.and (.cmp (.aa rfl) .ag .ne) (.cmp (.aa rfl) (.aa rfl) .eqB)) (λb=> ?_) λb=> ?_))
  ·have b:=an.mp b
   refine ae (aF ((qN hk w.x8).symm.trans b.2))▸ ?_
   exact cC (.tup (.cons (.aa rfl) (.cons (.aa rfl) .nil)) (aj rfl)) (q i (s8 hi (aF ((qN hk w.x8).symm.trans b.2))) hn S (Vs.less e))
  ·refine bj ⟨λj hj=>(Nat.lt_succ_iff_lt_or_eq.mp hj).elim (hn j) λz e=> ?_, .of rfl rfl,rfl⟩
   subst z
   rw[ty,qN hk w.x8,(show sl.getD j none=some k by refine (aR).trans ?_;refine ae e▸ ?_;rfl),aZ rfl] at b
   exact nomatch b
 ·rintro loc S ⟨hn,⟨y⟩,rfl⟩
  exact⟨zj he,cC .ag (q0 (λz=>(by obtain⟨j,hj,e⟩:=List.getElem_of_mem z;exact hn j hj ((ay hj).trans (ah some e)))) S (Vs.less e))⟩
theorem HT(he:dP S x (.list (fG sl)))(hj:j < sl.length):rO S (.rev x (j+1)) (some (Ch (sl.getD j none) j, .rev x j)):=λσ z=> .rev (he σ z) (mX hj)
theorem Ax(hj:j < sl.length):sl.drop j=sl.getD j none::sl.drop (j+1):=by rw[List.drop_eq_getElem_cons hj,aR,ay hj];rfl
theorem w3(w:Wd g N sl t s)(Z:Zo g X s)(p:Jn s none h)(hk:k < 22)(hr:ft sl 0 < 14)(hx:((lL (ft sl 0 / 4):Nat):Int)∈X)(hl:s.ns.length<=5)
  (q:some k∉sl->∀s' t' S',(need (ft sl 0 / 4)<=t/\t'=t∨(t < need (ft sl 0 / 4)/\need (ft sl 0 / 4)<=N)/\t'=need (ft sl 0 / 4))->Zo g X s'->Wd g N (gY sl (ft sl 0) (some k)) t' s'->Le S' (Js g s' (gR g (gY sl (ft sl 0) (some k)) t' F))->R .none S')
  (q1:some k∈sl->∀S',Le S' (Js g s (gR g sl t F))->E Bz S')
  (q2:some k∉sl->N < need (ft sl 0 / 4)->∀s' S',Zo g X s'->Wd g N sl N s'->Le S' (Js g s' (gR g sl N F))->E qa S'):Ct E R (Lw h (gR g sl t F)) 546 (m+12) [.ref (g.a 21), .ref (g.a 18), .bytes (gV k), .int (m7 k:Nat)]:=by
 refine dw (L6 _ w.len) λt1 t2=> ?_
 refine ij (AW k hk) λ_ n2 n3 _=> ?_
 refine k9 rL (de rfl (cr (.cons (.aa rfl) .nil) (G7 hk (cO (.cmp (.call (.cons (.aa rfl) .nil) (.x7 (ad n2 (by decide)))) .ag .lD) (beq_eq_false_iff_ne.mpr λe=>n3 (Int.ofNat.inj e)) ?_))))
 refine gy (PE.eq (.bin (.am (.aa rfl) (Lw.up .d) rfl rfl) (.bin (.am (.aa rfl) (Lw.up .d) rfl rfl) .glob (.mod t2)) .sub) (ah MV.int t1)) rfl ?_
 refine s0 (IP (bT (.aa rfl) (Lw.up .w) rfl rfl (.cons (.aa rfl) .nil) (xW w (Vs.at p) λS' r e=> .mk rfl (.mk ⟨Vs.cH e,fO▸ad (aL w.len) (by decide)⟩ (.mk (sl.length+1) rfl ?_)))))
 rw[fO]
 refine lI (it:=λi=> .rev r (sl.length - i)) (L:=sl.length) (I:=λi loc S=>some k∉sl.drop (sl.length - i)/\Fr [some (.ref (g.a 21)),some (.ref (g.a 18)),some (.bytes (gV k)),some (.int (m7 k:Nat)),some (.bytes (gV k)),some (.int (16 * ft (sl.drop (sl.length - i)) (sl.length - i):Nat))] 3 loc/\S=S') ?_ ?_ _ 0 _ S' (bZ _) ⟨by rw[Nat.sub_zero];refine ae List.drop_length▸ ?_;exact nofun, .of (by rw[Nat.sub_zero,List.drop_length];rfl) rfl,rfl⟩
 ·rintro i loc S hi ⟨hn,⟨y⟩,rfl⟩
  obtain⟨j,e1⟩ : ∃j,sl.length - i=j+1:=⟨_,(Nat.succ_pred_eq_of_pos (Nat.sub_pos_of_lt hi)).symm⟩
  have hj : j < sl.length:=aC (Nat.lt_succ_self j) (ad (aw e1.symm) (Nat.sub_le ..))
  have hd:=Ax hj
  rw[e1] at hn
  refine ae e1▸ae (show sl.length - (i+1)=j by refine (Nat.sub_sub ..)▸ ?_;rw[e1];rfl)▸ ?_
  refine .mk (HT (Vs.cH e) hj) (t3 rfl rfl rfl (w7 (.cmp (.aa rfl) .ag .lD) (λb=>gy (.aa rfl) rfl (bj (bj ?_))) λb=>iG (.cmp (.aa rfl) (.aa rfl) .eqB) (λb2=>u9 (q1 ?_ S (Vs.less e))) λb2=>bj (bj ?_)))
  ·have o1 : sl.getD j none=none:=Option.isSome_eq_false_iff.mp (ty.symm.trans (by rw[bne];exact ah _ b)) |> Option.isNone_iff_eq_none.mp
   rw[o1] at hd
   exact⟨hd▸λz=>(aK.mp z).elim nofun hn, .of (by refine ae hd▸ ?_;rfl) rfl,rfl⟩
  ·exact au (s8 hj (aF ((qN hk w.x8).symm.trans b2)))
  ·have o2:=br ((qN hk w.x8).symm.trans b2)
   cases o1 : sl.getD j none with
   |none=>rw[o1] at b;exact nomatch b
   |some k'=>
    rw[o1] at hd o2
    exact⟨hd▸λz=>(aK.mp z).elim (λz=>o2 z.symm) hn, .of (by rw[hd];rfl) rfl,rfl⟩
 ·rintro loc S ⟨hn,⟨y⟩,rfl⟩
  rw[Nat.sub_self] at hn;replace hn:=List.drop_zero▸hn
  refine⟨?_, ?_⟩
  ·refine ae (Nat.sub_self ..)▸ ?_;exact λσ z=> .KY
  have ef : ft (sl.drop (sl.length - sl.length)) (sl.length - sl.length)=ft sl 0:=by refine ae (Nat.sub_self ..)▸ ?_;rfl
  refine dR (Vs.less e) λh p=>gE (io (cM (.aa rfl) (mT (Lw.up .d) rfl rfl) (bk (bq (.aa (v:= .int (16 * ft sl 0 : Nat)) (by exact ae ef▸rfl)) (bk (cr (.cons (.aa rfl) (.cons (.aa rfl) .nil)) (zM hk (cm (er (yx w Z hr (ad pi (aw (bZ _))) (λ_ z=>by cases z;exact hk) hx hl (Vs.at p) (λs' t' S' ht Z' w' e=> ?_) λh2 s' S' Z' w' e=> ?_))))))))))
  ·exact bq .glob (.mk .lt ⟨nofun,λ_=>bj (q hn s' t' S' ht Z' w' e)⟩)
  ·exact bq .glob (.mk .lt ⟨λ_=>u9 (q2 hn h2 s' S' Z' w' e),nofun⟩)
theorem BH(w:Wd g N sl t s)(Z:Zo g X s)(p:Jn s none h)(hr:r < sl.length/\r < 14)(hx:((lL (r / 4):Nat):Int)∈X)(hl:s.ns.length<=5)
  (q:∀s' S',Zo g X s'->Wd g N (sl.set r none) t s'->Le S' (Js g s' (gR g (sl.set r none) t F))->R .none S'):Ct E R (Lw h (gR g sl t F)) 553 (m+11) [.ref (g.a 21), .ref (g.a 18), .int (16 * r : Nat)]:=by
 have hn : need (r / 4)<=t:=CA t w.h6 _ w.len w.pr (r / 4) ((JN r (cG hr.2 (by decide))).2.2.2) (az (Nat.mul_div_le r 4) hr.1)
 refine fH pL (bY (bT (.aa rfl) (Lw.up .d) rfl rfl (.cons (.aa rfl) (.cons (.call (.cons .glob .nil) (.vg (show _/\_ by decide))) .nil)) (yx (o:=none) w Z hr.2 (aL hr.1) nofun hx hl (Vs.at p) (λs' t' S' ht Z' w' e=>bj ?_) λh2=>absurd (ad hn w.nb.2) (Nat.not_le.mpr h2))))
 refine dw (ht.resolve_right λz=>iw.mpr hn z.1.1) λ_ zr1_=> ?_;subst zr1_
 unfold gY at w' e;rw[if_pos hr.1] at w' e
 exact q s' S' Z' w' e
end
noncomputable def sV : Slot->MV
 |none=> .none
 |some k=> .bytes (gV k)
noncomputable def iZ(sl:List Slot):List MV:=sl.map sV
noncomputable def lp : List (List UInt8×MV):=(List.range 20).map λk=>(gV (k+2), .int (2+k : Nat))
noncomputable def xT(g:En)(N t:Nat)(x:LA):List (String×MV):=[("slots", .ref x),("blocks", .ref (g.a 24)),("names", .bool (decide (3<=t))),("free", .int (N - t : Nat)),("numbers", .ref (g.a 25))]
noncomputable def rR(n:Nat):List MV:=(List.range n).map ed
noncomputable def Ow(g:En)(N:Nat)(sl:List Slot)(nb t:Nat)(x:LA)(F:List Cell):List Cell:=(g.a 23, .dD (xT g N t x))::(g.a 24, .list (rR nb))::(g.a 25, .iS lp)::(x, .list (iZ sl))::F
noncomputable def Gz : Nat->MV
 |0=> .str "bits"
 |1=> .str "names"
 |2=> .str "row"
 |i+3=> .int i
theorem LP : ∀k : Nat,k < 20->((0:Int)<=97+k/\(97:Int)+k < 256)/\((k:Int).natAbs < 2^32/\(5:Int).natAbs < 2^32)/\(0<=((k:Int) * 5).fmod 14/\((k:Int) * 5).fmod 14<=1000)/\[((97:Int)+k).toNat.toUInt8]++(List.replicate (((k:Int) * 5).fmod 14).toNat [(46:UInt8)]).flatten=gV (k+2):=by decide +kernel
section
variable {m i j t N r nb:Nat}{g:En}{h:Lo g}{F:List Cell}{R:MV->As->Prop}{T:MF->Loc->As->Prop}{E:Addr->As->Prop}{n:Int}{loc:Loc}{s:Ck}{S:As}{X:List Int}{l sz:Nat}{ps nt:List Nat}{a b c:IR}{D:Nat->List UInt8}{k:Nat}{x y:LA}{bs cs d:List UInt8}{sl:List Slot}{o:Slot}{mo mo':MO}{tt:Bool}{v:MV}{vs:List MV}
theorem pY(hk:k < 20)(q:R (.bytes (gV (k+2))) (Lw h F)):Ct E R (Lw h F) 1106 (m+1) [.int k]:=by
 refine ij (LP k hk) λe1 e2 e3 e4=> ?_
 refine dh vA (eX (lG (cV (bk (dz (c7 (vs:=[.int (97+k)]) (.cons (.bin .ag (.aa rfl) .add) .nil) ⟨aj rfl,Lw.new,λr=>cm (n6 (ns:=[97+(k:Int)]) (Lw.cH (i:=0) rfl) (aj rfl) rfl (λn m=>av.mp m▸e1) ?_)⟩))))))
 refine tX (S1:=Lw h F) (λ_ s=>Lw.sub s (.cons _ (.refl _))) (bq (v:= .bytes (List.replicate (((k:Int) * 5).fmod 14).toNat [(46:UInt8)]).flatten) (.bin .ag (.bin (.bin (.aa rfl) .ag (.mul e2)) .ag (.mod (show (14:Int)≠0 by decide))) (.GA ⟨e3.1,e3.2,by decide,nofun⟩)) (.mk (.Ed ?_) (e4.symm▸q)))
 exact aA▸e4.symm▸ad (AW (k+2) (Nat.add_lt_add_right hk 2)).2.1 (by decide)
theorem nX(h:We E S loc (λp S1=>Br p (We E S1 loc R (dn m b).e) (We E S1 loc R (dn m c).e)) (dn m a).b):We E S loc R (dn m (.ite a b c)).e:=by
 refine λσ s Q X k x=>h σ s _ X (λp σ1 S1 s1 g=> ?_) x
 cases p
 ·exact g.f rfl σ1 s1 Q X k x
 ·exact g.t rfl σ1 s1 Q X k x
theorem Up.own(hi:(Ow g N sl nb t x F)[i]?=some (y,mo)):dP (Lw h (Up g l sz ps (Ow g N sl nb t x F))) y mo:=Lw.cH (i:=i+10) hi
theorem dO{w:MV}{K:String}(h0:loc[j]?=some (some (.ref (g.a 23))))(e:(xT g N t x).lookup K=some w):PE loc (Lw h (Up g l sz ps (Ow g N sl nb t x F))) (.item (.aa j) (.ag (.str K))) w:=
 .item (.aa h0) .ag (.ref (Up.own (i:=0) rfl) (.dS e))
end
noncomputable abbrev Bk(g:En)(l sz:Nat)(ps:List Nat)(N:Nat)(sl:List Slot)(nb t:Nat)(x y:LA)(nt:List Nat)(F:List Cell):List Cell:=Up g l sz ps (Ow g N sl nb t x ((y, .list (nt.map Gz))::F))
theorem Ko : ∀nb < 5,∀i : Nat,i < 4->(rR nb).all (λv=>(v.fe (.int i)).isSome)=true/\(rR nb).any (λv=>(v.fe (.int i)).getD false)=decide (i < nb):=by decide +kernel
section
variable {m i j t N r nb:Nat}{g:En}{h:Lo g}{F:List Cell}{R:MV->As->Prop}{T:MF->Loc->As->Prop}{E:Addr->As->Prop}{n:Int}{loc:Loc}{s:Ck}{S:As}{X:List Int}{l sz:Nat}{ps nt:List Nat}{a b c:IR}{D:Nat->List UInt8}{k:Nat}{x y:LA}{bs cs d:List UInt8}{sl:List Slot}{o:Slot}{mo mo':MO}{tt:Bool}{v:MV}{vs:List MV}
theorem rn{tok:Nat}(h2:loc[j]?=some (some (.ref y)))(ha:PE loc (Lw h (Bk g l sz ps N sl nb t x y nt F)) a (Gz tok))(hl:nt.length<=1000)(q:Wp E (Lw h (Bk g l sz ps N sl nb t x y (nt++[tok]) F)) loc T (dn m b).s) :
  Wp E (Lw h (Bk g l sz ps N sl nb t x y nt F)) loc T (dn m (.cons (.expr (.aO (.aa j) "append" (.cons a .nil))) b)).s:=by
 exact bY (cM (.aa h2) (gP (Lw.cH (i:=14) rfl) (.list rfl)) (c7 (.cons ha .nil) (l7 (Lw.cH (i:=14) rfl) (by refine ae (aq ..)▸ ?_;exact ad hl (by decide)) (Lw.jJ (F':=Bk g l sz ps N sl nb t x y (nt++[tok]) F) (i:=14) rfl (by refine ae ((aY (f:=Gz) (l₂:=[tok])).symm)▸ ?_;rfl)) q)))
theorem free_eq(hN:t < N):((N - t : Nat):Int) - 1=(N - (t+1):Nat):=HU hN
theorem Ce(hN:t < N)(h3:decide (3<=t)=decide (3<=t+1)):Upd (Lw h (Up g l sz ps (Ow g N sl nb t x F))) (g.a 23) (.dD (gW (xT g N t x) "free" (.int ((N - t : Nat) - 1)))) (Lw h (Up g l sz ps (Ow g N sl nb (t+1) x F))):=
 Lw.jJ (i:=10) rfl (by rw[free_eq hN];delta Ow xT;refine h3▸ ?_;rfl)
theorem uc : (((N - t : Nat):Int)==0)=decide (N<=t):=decide_eq_decide.mpr (Int.natCast_eq_zero.trans Nat.sub_eq_zero_iff_le)
theorem ER(hb:nb < 5/\i < 4)(hi:i < nb↔need i<=t)(hx:nb<=i->nb=i/\(t=i/\i < 3∨t=i+1/\2<=i))(ht:t<=N/\2<=N)(hl:nt.length<=100)
  (q1:need i<=N->∀e,(∀z∈e,z < 2)->e.length<=4->R (.bool true) (Lw h (Bk g l sz ps N sl (max nb (i+1)) (max t (need i)) x y (nt++e) F)))
  (q2:N < need i->∀e,(∀z∈e,z < 2)->e.length<=4->R (.bool false) (Lw h (Bk g l sz ps N sl nb N x y (nt++e) F))) :
  Ct E R (Lw h (Bk g l sz ps N sl nb t x y nt F)) 1113 (m+1) [.ref (g.a 23), .int i, .ref y]:=by
 refine dw (Ko nb hb.1 i hb.2) λb1 b2=> ?_
 refine fH vf (iG (.cmp (.aa rfl) (dO rfl rfl) (.inR (Up.own (i:=1) rfl) (.list b1))) (λb=> ?_) λb=> ?_)
 ·have b:=aF (b2.symm.trans b)
  have hn:=hi.mp b
  have:=q1 (ad hn ht.1) [] nofun (bC _)
  rw[Nat.max_eq_left b,Nat.max_eq_left hn,cK] at this
  exact cC .ag this
 have b:=Nat.le_of_not_lt (br (b2.symm.trans b))
 obtain⟨rfl,hx⟩:=hx b
 replace q1:=(Nat.max_eq_right (cT nb))▸q1;replace q1:=(Nat.max_eq_right (aL (Nat.lt_of_not_le λz=>Nat.lt_irrefl _ (hi.mpr z))))▸q1
 have fin : ∀ {t e loc},t<=N->need nb=t+1->decide (3<=t)=decide (3<=t+1)->(∀z∈e,z < 2)->e.length<=2->Fr [some (.ref (g.a 23)),some (.int nb),some (.ref y)] 0 loc->Wp E (Lw h (Bk g l sz ps N sl nb t x y (nt++e) F)) loc (λf _ S=>R (f0 f) S) (dn m i9.tl.tl).s:=by
  rintro t e _ tN hn h3 he hle ⟨_⟩
  refine iG (.cmp (dO rfl rfl) .ag .lD) (λb=>cC .ag ?_) λb=> ?_
  ·have b:=aF (uc.symm.trans b)
   obtain rfl:=Nat.le_antisymm tN b
   exact q2 (hn▸Nat.lt_succ_self t) e he (ad hle (by decide))
  have b:=Nat.lt_of_not_le (br (uc.symm.trans b))
  refine ct (bq (.bin (dO rfl rfl) .ag .sub) (dW (.aa rfl) .ag (Up.own (i:=0) rfl) (.dS (aj rfl)) (Ce b h3) ?_))
  refine bY (cM (dO rfl rfl) (gP (Up.own (i:=1) rfl) (.list rfl)) (c7 (.cons (.aa rfl) .nil) (l7 (Up.own (i:=1) rfl) (by unfold rR;rw[aq,d8];exact ad (aL hb.1) (by decide)) (Lw.jJ (F':=Bk g l sz ps N sl (nb+1) (t+1) x y (nt++e) F) (i:=11) rfl (by refine ae (show rR nb++[.int nb]=rR (nb+1) by unfold rR;rw[List.range_succ,aY];rfl)▸ ?_;rfl)) ?_)))
  have hl' : (nt++e).length<=999:=by rw[aA];exact ad (bF hl hle) (by decide)
  have e01 : ∀ {z:Nat}{e:List Nat},(∀z∈e,z < 2)->z < 2->∀w∈e++[z],w < 2:=λhe hz w m=>(bI.mp m).elim (he w) λm=>av.mp m▸hz
  have q1:=q1 (hn▸b)
  replace q1:=hn▸q1
  refine rn (tok:=0) rfl .ag (cE hl') (iG (.cmp (.aa rfl) .ag .gt) (λ_=> ?_) λ_=>cC .ag ?_)
  ·refine rn (tok:=1) rfl .ag (by rw[aA];exact Nat.succ_le_succ hl') (bj (cC .ag ?_))
   have:=q1 (e++[0]++[1]) (e01 (e01 he (by decide)) (by decide)) (by rw[aA];refine ae aA▸ ?_;exact bD hle 2)
   rwa [<-aH,<-aH] at this
  ·have:=q1 (e++[0]) (e01 he (by decide)) (by rw[aA];exact ad (bD hle 1) (by decide))
   rwa [<-aH] at this
 have e0 : nt=nt++[]:=(cK _).symm
 refine iG (.and (.cmp (.aa rfl) .ag .gt) (.not (.item (dO rfl rfl) .bool))) (λb=> ?_) λb=> ?_
 ·have b2:=(an.mp b).2
  obtain⟨rfl,rfl⟩ : nb=2/\t=2:=hx.elim (λh=>have e : nb=2:=Nat.le_antisymm (bH h.2) (aX.mp (aF ((an.mp b).1)));⟨e,h.1.trans e⟩) λh=>absurd (ad (Nat.succ_le_succ h.2) (aw h.1.symm)) (br ((Bool.not_eq_true' _).mp b2))
  refine iG (.cmp (dO rfl rfl) .ag .lD) (λb=>cC .ag ?_) λb=> ?_
  ·have b:=aF (uc.symm.trans b)
   obtain rfl : N=2:=Nat.le_antisymm b ht.2
   have:=q2 (by decide) [] nofun (by decide)
   rwa [<-e0] at this
  have b:=Nat.lt_of_not_le (br (uc.symm.trans b))
  refine ct (bq (.tup (.cons (.bin (dO rfl rfl) .ag .sub) (.cons .ag .nil)) (aj rfl)) (jg rfl (c8 (dW (.aa rfl) .ag (Up.own (i:=0) rfl) (.dS (aj rfl)) (Lw.jJ (i:=10) rfl rfl) (c8 (dW (.aa rfl) .ag (Lw.cH (i:=10) rfl) (.dS (aj rfl)) (Lw.jJ (F':=Bk g l sz ps N sl 2 3 x y nt F) (i:=10) rfl ?_) (i8 ?_)))))))
  ·refine ae (free_eq b)▸ ?_;rfl
  refine rn (tok:=0) rfl .ag (ad hl (by decide)) (rn (tok:=1) rfl .ag (by rw[aA];exact ad (Nat.succ_le_succ hl) (by decide)) (bj ?_))
  refine ae (aH ..)▸ ?_
  exact fin (t:=3) b rfl rfl (by decide) (by decide) (.of rfl rfl)
 ·have b : ¬(1 < nb/\¬3<=t):=λz=>by rw[aZ (show (nb:Int) > 1 from aX.mpr z.1)] at b;replace b:=(bz z.2)▸b;exact nomatch b
  have h4 : need nb=t+1/\(3<=t↔3<=t+1):=hx.elim (λh=>have n2 : nb < 2:=Nat.lt_of_not_le λz=>b ⟨z,Nat.not_le.mpr (h.1▸h.2)⟩;⟨(if_pos n2).trans (ah (·+1) h.1.symm),λz=>absurd z (Nat.not_le.mpr (h.1▸h.2)),λz=>absurd (h.1▸n2 : t < 2) (iw.mpr (Nat.le_of_succ_le_succ z))⟩) λh=>⟨(if_neg (iw.mpr h.2)).trans (ah (·+1) h.1.symm),cE,λ_=>h.1▸Nat.succ_le_succ h.2⟩
  have:=fin (t:=t) (e:=[]) (loc:=[some (.ref (g.a 23)),some (.int nb),some (.ref y)]) ht.1 h4.1 (decide_eq_decide.mpr h4.2) nofun (by decide) (.of rfl rfl)
  exact e0▸this
end
noncomputable def Jv : Nat->Int ⊕ Str
 |0=> .inr (Str.ofString "bits")
 |1=> .inr (Str.ofString "names")
 |2=> .inr (Str.ofString "row")
 |i+3=> .inl i
structure sh(nt:List Nat)(j:Nat):Prop where
 len : nt.length<=6 * j
 sub : ∃Y : List Nat,Y.length<=j/\∀z∈nt,z∈0::1::2::Y
structure Bo(N:Nat)(sl:List Slot)(t:Nat):Prop where
 tok : ∀k,some k∈sl->k < 22
 len : sl.length < 15
 pr : lf sl.length t=true
 tN : t<=N/\2<=N
 h6 : t < 6
noncomputable abbrev mB(L:Nat):Nat:=(L+3) / 4
set_option synthInstance.maxSize 2000 in
set_option synthInstance.maxHeartbeats 400000 in
theorem LU : ∀t < 6,∀L < 15,∀r < 14,lf L t=true/\r<=L->(mB L < 5/\r / 4 < 4)/\(r / 4 < mB L↔need (r / 4)<=t)/\(¬mB L<=r / 4∨mB L=r / 4/\(t=r / 4/\r / 4 < 3∨t=r / 4+1/\2<=r / 4))/\max (mB L) (r / 4+1)=mB (max L (r+1)):=by decide +kernel
theorem Ke : ∀r : Nat,r < 14->(r:Int).fdiv 4=(r / 4 : Nat)/\((4:Int)≠0/\(r:Int).natAbs < 2^60/\(4:Int).natAbs < 2^60):=by decide +kernel
theorem KQ : ∀L < 15,∀r : Nat,r < 14->r<=L->clipAt L (r:Int)=r/\clipAt L ((r:Int)+1)=min (r+1) L:=by decide +kernel
theorem nG{κ:Type} [DecidableEq κ]:∀ (ks acc:List κ),acc.Nodup->(ks.foldl (λacc k=>if k∈acc then acc else acc++[k]) acc).Nodup/\∀x∈ks.foldl (λacc k=>if k∈acc then acc else acc++[k]) acc,x∈acc∨x∈ks
 | [],acc,h=>⟨h,λ_ hx=> .inl hx⟩
 |k::ks,acc,h=>by
  refine ae List.foldl_cons▸ ?_
  by_cases q : k∈acc
  ·rw[if_pos q]
   have:=nG ks acc h
   exact⟨this.1,λx hx=>(this.2 x hx).imp_right (aB _)⟩
  ·rw[if_neg q]
   have:=nG ks (acc++[k]) (List.nodup_append.mpr ⟨h,List.nodup_cons.mpr ⟨List.not_mem_nil,List.nodup_nil⟩,λa ha b hb e=>q (by cases av.mp hb;exact e▸ha)⟩)
   exact⟨this.1,λx hx=>(this.2 x hx).elim (λy=>(bI.mp y).imp_right λz=>by refine ae (av.mp z)▸ ?_;exact aV ..) λy=> .inr (aB _ y)⟩
section
variable {m i j t N r nb:Nat}{g:En}{h:Lo g}{F:List Cell}{R:MV->As->Prop}{T:MF->Loc->As->Prop}{E:Addr->As->Prop}{n:Int}{loc:Loc}{s:Ck}{S:As}{X:List Int}{l sz:Nat}{ps nt:List Nat}{a b c lo hi:IR}{D:Nat->List UInt8}{k:Nat}{x y:LA}{bs cs d:List UInt8}{sl:List Slot}{o:Slot}{mo mo':MO}{tt:Bool}{v:MV}{vs:List MV}
theorem C3 : ∀ {nt:List Nat},lz (nt.map Gz)=some (nt.map Jv)
 | []=>rfl
 |z::nt=>by
  have:=C3 (nt:=nt)
  match z with
  |0=>show (lz (nt.map Gz)).map _=_;refine (ah _ this).trans ?_;rfl
  |1=>show (lz (nt.map Gz)).map _=_;refine (ah _ this).trans ?_;rfl
  |2=>show (lz (nt.map Gz)).map _=_;refine (ah _ this).trans ?_;rfl
  |i+3=>show (lz (nt.map Gz)).map _=_;refine (ah _ this).trans ?_;rfl
theorem sh.met(h:sh nt j):(Internal.met (nt.map Jv)).length<=3+j:=by
 refine aT h.sub λY hY hs=> ?_
 refine ad ((nG (nt.map Jv) [] List.nodup_nil).1.length_le_of_subset (l₂:=(0::1::2::Y).map Jv) λx hx=> ?_) (by refine ae (aq ..)▸ ?_;exact Nat.add_comm 3 j▸bD hY 3)
 refine aT (cq.mp (((nG (nt.map Jv) [] List.nodup_nil).2 x hx).resolve_left nofun)) λz hz e=> ?_
 exact cq.mpr ⟨z,hs z hz,e⟩
theorem sh.more(h:sh nt j){e:List Nat}(he:∀z∈e,z < 3∨z=i)(hl:e.length<=6):sh (nt++e) (j+1):=by
 refine aT h.sub λY hY hs=> ?_
 refine⟨by refine ae aA▸ ?_;exact bF h.len hl,i::Y,Nat.succ_le_succ hY,λz hz=> ?_⟩
 refine Or.elim (bI.mp hz) (λhz=> ?_) λhz=> ?_
 ·have:=hs z hz
  simp only[aK] at this ⊢
  rcases this with z | z | z | z
  ·exact .inl z
  ·exact .inr (.inl z)
  ·exact .inr (.inr (.inl z))
  ·exact .inr (.inr (.inr (.inr z)))
 ·rcases he z hz with q | q
  ·match z,q with
   |0,_=>exact .head _
   |1,_=>exact .tail _ (.head _)
   |2,_=>exact .tail _ (.tail _ (.head _))
  ·exact q▸ .tail _ (.tail _ (.tail _ (.head _)))
theorem xe(hk:k < 22):∀ {sl:List Slot},(∀k,some k∈sl->k < 22)->(iZ sl).all (λv=>(v.fe (.bytes (gV k))).isSome)=true/\(iZ sl).any (λv=>(v.fe (.bytes (gV k))).getD false)=decide (some k∈sl)
 | [],_=>⟨rfl,rfl⟩
 |o::sl,h=>by
  have ⟨a,b⟩:=xe hk (sl:=sl) λk m=>h k (aB _ m)
  refine⟨(List.all_cons ..).trans (an.mpr ⟨?_,a⟩),(List.any_cons ..).trans ?_⟩
  ·cases o<;>rfl
  ·refine (ah _ (show (List.map _ sl).any _=_ from b)).trans ?_;refine eu.mpr ?_;rw[decide_eq_true_iff,aK,Bool.or_eq_true,decide_eq_true_iff]
   refine or_congr ?_ .rfl
   cases o with
   |none=>exact⟨nofun,nofun⟩
   |some j=>exact⟨λe=>ah some (xA j (h j (.head _)) k hk (eq_of_beq e)).symm,λe=>eI.mpr (ah gV (aP e).symm)⟩
theorem mD : ∀ {sl:List Slot}{a:Nat},(iZ sl).all (λv=>(v.fe .none).isSome)=true/\((iZ sl).any (λv=>(v.fe .none).getD false)=true->(iZ sl).findIdx? (λv=>(v.fe .none).getD false)=some (ft sl a - a))/\((iZ sl).any (λv=>(v.fe .none).getD false)=false->ft sl a=a+sl.length)
 | [],_=>⟨rfl,nofun,λ_=>rfl⟩
 |none::sl,a=>⟨(List.all_cons ..).trans (mD (sl:=sl) (a:=0)).1,λ_=>by refine ae (show ft (none::sl) a - a=0 from Nat.sub_self a)▸ ?_;rfl,nofun⟩
 |some k::sl,a=>by
  have ⟨p,q,r⟩:=mD (sl:=sl) (a:=a+1)
  refine⟨(List.all_cons ..).trans p,λh=> ?_,λh=>(r h).trans (Nat.succ_add_eq_add_succ ..)⟩
  have:=q h
  refine (List.findIdx?_cons).trans ?_;rw[show List.map _ sl=iZ sl from rfl,this]
  have hle : a+1<=ft sl (a+1):=by
   clear this q r p h
   generalize a+1=b
   induction sl generalizing b with
   |nil=>exact aG _
   |cons o sl ih=>cases o with
    |none=>exact aG _
    |some k=>exact ad (cT b) (ih (b+1))
  show some (ft sl (a+1) - (a+1)+1)=some (ft sl (a+1) - a)
  exact ah _ (Nat.sub_add_cancel (Nat.sub_pos_of_lt hle))
theorem qj{q:Nat}(e:dP S x (.list vs))(ha:vs.length<=100000/\vs.all (λw=>(w.fe v).isSome)=true)(f:vs.findIdx? (λw=>(w.fe v).getD false)=some q)(k:R (.int q) S):We E S loc R (eM m (.builtin "list.index") [.ref x,v]):=λσ s _ _ kk _=>uk.mk (e σ s) ha f (kk _ _ S s k)
theorem zO(ha:PE loc S a (.ref x))(e:dP S x (.list (nt.map Gz)))(hl:nt.length<=1000)(q:R (.int (met (nt.map Jv)).length) S):We E S loc R (dn m (.mx a)).e:=λσ s _ _ k _=>ha.ok s (.mk (e σ s) C3 (by refine ae (aq ..)▸ ?_;exact hl) (k _ _ S s q))
theorem sY{u z:MV}{i j:Option Int}{S':LA->As}(ho:PE loc S a (.ref x))(hl:PE loc S lo u)(hh:PE loc S hi z)(c:eY u i)(d:eY z j)(e:dP S x (.list vs))(hb:vs.length<=100000)(nw:pX S (.list (cut vs i j)) S')(q:∀r,R (.ref r) (S' r)):We E S loc R (dn m (.slice a lo hi)).e:=
 λσ s _ _ k _=>ho.ok s (hl.ok s (hh.ok s ((by refine aT (nw σ s) λr hr s'=> ?_;exact⟨_,_,c,d, .list (e σ s) hb hr (k _ _ _ s' (q r))⟩))))
theorem Fn(hr:r<=sl.length):(iZ sl).take r++[.bytes (gV k)]++(iZ sl).drop (r+1)=iZ (gY sl r (some k)):=by
 delta gY iZ
 split
 ·rw[List.map_set,List.set_eq_take_append_cons_drop,aq,if_pos ‹_›];refine (aH ..).trans ?_;rfl
 ·have e:=Nat.le_antisymm hr (Nat.le_of_not_lt ‹_›)
  rw[aY,cF (by rw[aq,e];exact aG _)];refine (ah _ (List.drop_of_length_le (by rw[aq,e];exact cT _))).trans ?_;refine (cK ..).trans ?_;rfl
end
section
variable {m i j t N r nb:Nat}{g:En}{h:Lo g}{F:List Cell}{R:MV->As->Prop}{T:MF->Loc->As->Prop}{E:Addr->As->Prop}{n:Int}{loc:Loc}{s:Ck}{S:As}{X:List Int}{l sz:Nat}{ps nt:List Nat}{a b c lo hi:IR}{D:Nat->List UInt8}{k:Nat}{x y:LA}{bs cs d:List UInt8}{sl:List Slot}{o:Slot}{mo mo':MO}{tt:Bool}{v:MV}{vs:List MV}
theorem dY : (iZ sl).length=sl.length:=aq ..
theorem Io(hL:sl.length < 15)(hr:r < 14)(h:r<=sl.length):cut (iZ sl) none (some (r:Int))=(iZ sl).take r:=by
 show ((iZ sl).drop 0).take (clipAt (iZ sl).length r - 0)=_
 exact ae dY▸ae ((KQ _ hL r hr h).1)▸rfl
theorem H4(hL:sl.length < 15)(hr:r < 14)(h:r<=sl.length):cut (iZ sl) (some ((r:Int)+1)) none=(iZ sl).drop (r+1):=by
 show ((iZ sl).drop (clipAt (iZ sl).length ((r:Int)+1))).take ((iZ sl).length - clipAt (iZ sl).length ((r:Int)+1))=_
 refine ae dY▸ae ((KQ _ hL r hr h).2)▸ ?_
 rcases Nat.lt_or_ge r sl.length with q | q
 ·rw[Nat.min_eq_left q];exact cF (by rw[List.length_drop,dY];exact aG _)
 ·rw[Nat.min_eq_right (cE q),Nat.sub_self];exact (List.drop_of_length_le (by rw[dY];exact cE q)).symm
theorem zI{z:LA}{mo:MO}{sl':List Slot}{F:List Cell}{σ:MH}(h1:Lw h ((z, .list (iZ sl'))::Up g l sz ps ((g.a 23, .dD (xT g N t z))::(g.a 24, .list (rR nb))::(g.a 25, .iS lp)::(x,mo)::F)) σ):Lw h (Up g l sz ps (Ow g N sl' nb t z F)) σ:=
 Lw.sub (Lw.perm h1 (List.perm_middle (l₁:=Up g l sz ps [(g.a 23, .dD (xT g N t z)),(g.a 24, .list (rR nb)),(g.a 25, .iS lp)]) (l₂:=(x,mo)::F)).symm) (.append_left (.cons_cons _ (.cons _ (.refl F))) (Up g l sz ps [(g.a 23, .dD (xT g N t z)),(g.a 24, .list (rR nb)),(g.a 25, .iS lp)]))
theorem Fx(B:Bo N sl t)(hk:k < 22)(hr:ft sl 0 < 14)(O:sh nt j)(hj:j<=2)
  (q0:some k∈sl->R (.str "there") (Lw h (Bk g l sz ps N sl (mB sl.length) t x y nt F)))
  (q1:some k∉sl->need (ft sl 0 / 4)<=N->∀nt' x',sh nt' (j+1)->∀S,Le S (Lw h (Bk g l sz ps N (gY sl (ft sl 0) (some k)) (mB (gY sl (ft sl 0) (some k)).length) (max t (need (ft sl 0 / 4))) x' y nt' F))->R (.str "done") S)
  (q2:some k∉sl->N < need (ft sl 0 / 4)->∀nt',sh nt' (j+1)->R (.str "room") (Lw h (Bk g l sz ps N sl (mB sl.length) N x y nt' F))) :
  Ct E R (Lw h (Bk g l sz ps N sl (mB sl.length) t x y nt F)) 1120 (m+2) [.ref (g.a 23), .bytes (gV k), .ref y]:=by
 refine dw (xe hk B.tok) λs1 s2=> ?_
 refine ie (mD (sl:=sl) (a:=0)) λz1 z2 z3=> ?_
 have l5 : (iZ sl).length<=100000:=by refine ae dY▸ ?_;exact ad (aL B.len) (by decide)
 have hle : ft sl 0<=sl.length:=ad pi (aw (bZ _))
 refine ij (LU t B.h6 _ B.len _ hr ⟨B.pr,hle⟩) λhb b1 b2 b3=> ?_
 have f1:=(Ke _ hr).1;have f2:=(Ke _ hr).2
 have nl : nt.length<=12:=ad O.len (dq 6 hj)
 refine fH uM (iG (.cmp (.aa rfl) (dO rfl rfl) (.inR (Up.own (i:=3) rfl) (.list s1))) (λb=>cC .ag (q0 (aF (s2.symm.trans b)))) λb=> ?_)
 refine de rfl (nX (fg (.cmp .ag (dO rfl rfl) (.inR (Up.own (i:=3) rfl) (.list z1))) (p:=(iZ sl).any (λv=>(v.fe .none).getD false)) ?_))
 suffices tgt : Wp E (Lw h (Bk g l sz ps N sl (mB sl.length) t x y nt F)) [some (.ref (g.a 23)),some (.bytes (gV k)),some (.ref y),some (.int (ft sl 0:Nat)),none] (λf _ S=>R (f0 f) S) (dn (m+1) i4.tl.tl).s from
  ⟨λq=>cM (dO rfl rfl) (gP (Up.own (i:=3) rfl) (.list rfl)) (c7 (.cons .ag .nil) (qj (Up.own (i:=3) rfl) ⟨l5,z1⟩ (z2 q) tgt)),
  λq=>bq (PE.eq (.call (.cons (dO rfl rfl) .nil) (.len (Up.own (i:=3) rfl) .list l5)) (ah (λn:Nat=>MV.int n) (dY.trans ((z3 q).trans (bZ _)).symm))) tgt⟩
 revert hr hle b1 b2 b3 hb f1 f2 q1 q2
 generalize ft sl 0=r
 intro hr q1 q2 hle hb b1 b2 b3 f1 f2
 have pd : ∀ {L:Loc} {S},L[3]?=some (some (.int (r:Nat)))->PE L S (.bin .FloorDiv (.aa 3) (.ag (.int 4))) (.int (r / 4 : Nat)):=λa=>PE.eq (.bin (.aa a) .ag (.fdiv f2)) (ah MV.int f1)
 refine de rfl (Dt (og (zO (.aa rfl) (Lw.cH (i:=14) rfl) (ad nl (by decide)) (bq .ag (.mk .le (.mk .bool ⟨λ_=> ?_,λq=>absurd ((aZ (aW.mpr (ad O.met (bb hj 3)))).symm.trans q) nofun⟩))))))
 refine cr (.cons (.aa rfl) (.cons (pd rfl) (.cons (.aa rfl) .nil))) (ER hb b1 (λz=>b2.resolve_left λy=>y z) B.tN (ad nl (by decide)) (λhN e he hl=> ?_) λhN e he hl=> ?_)
 ·have nl2 : (nt++e).length<=16:=by rw[aA];exact bF nl hl
  refine rn (tok:=2) rfl .ag (ad nl2 (by decide)) (cO (.not (.aa (.aa rfl) .bool)) rfl (rn (tok:=r / 4+3) rfl (pd rfl) (by rw[aA];exact ad (Nat.succ_le_succ nl2) (by decide)) ?_))
  have O' : sh (nt++e++[2]++[r / 4+3]) (j+1):=by
   rw[aH,aH]
   refine O.more (i:=r / 4+3) (λz hz=> ?_) (by rw[aA];exact bD hl 2)
   rcases bI.mp hz with q | q
   ·exact .inl (Nat.lt_succ_of_lt (he z q))
   ·refine Or.elim (aK.mp q) (λq=> ?_) λq=> ?_
    ·exact .inl (q▸by decide)
    ·exact .inr (av.mp q)
  refine ae b3▸(jU (o:=some k) hle)▸ ?_
  have l6 : (iZ sl).length<=1000:=by rw[dY];exact ad (aL B.len) (by decide)
  refine ct (tS (tS (sY (i:=none) (j:=some (r:Int)) (dO rfl rfl) .nil (.aa rfl) .no (.int _) (Up.own (i:=3) rfl) l5 Lw.new λr1=>dz (c7 (.cons (.aa rfl) .nil) ⟨aj rfl,Lw.new,λr2=> ?_⟩))))
  refine ae (Io B.len hr hle)▸ ?_
  refine .mk (Lw.cH (i:=1) rfl) (Lw.cH (i:=0) rfl) ((show ∀ {q:List MV},q.length<=50000->∀ {p:List MV},p.length<=50000->p.length+q.length<=100000 from λa _ b=>bF b a) (aj rfl) (ad (ad (List.length_take_le' ..) l6) (by decide))) Lw.new λr3=>sY (i:=some ((r:Int)+1)) (j:=none) (.item (.aa rfl) .ag (.ref (Lw.cH (i:=13) rfl) (.dS rfl))) (.bin (.aa rfl) .ag .add) .nil (.int _) .no (Lw.cH (i:=16) rfl) l5 Lw.new λr4=> ?_
  refine ae (H4 B.len hr hle)▸ ?_
  refine .mk (Lw.cH (i:=1) rfl) (Lw.cH (i:=0) rfl) ((show ∀ {q:List MV},q.length<=50000->∀ {p:List MV},p.length<=50000->p.length+q.length<=100000 from λa _ b=>bF b a) (by rw[List.length_drop];exact ad (Nat.sub_le ..) (ad l6 (by decide))) (by rw[aA];exact ad (bD (ad (List.length_take_le' ..) l6) 1) (by decide))) Lw.new λr5=> ?_
  refine ae (Fn hle)▸ ?_
  refine dW (.aa rfl) .ag (Lw.cH (i:=15) rfl) (.dS (aj rfl)) (Lw.jJ (i:=15) rfl rfl) (cC .ag (q1 (br (s2.symm.trans b)) hN _ r5 O' _ λσ z=>zI (Lw.sub z (.cons_cons _ (.cons _ (.cons _ (.cons _ (.cons _ (.refl _)))))))))
 ·refine rn (tok:=2) rfl .ag (by rw[aA];exact ad (bF nl hl) (by decide)) (jy (.not (.aa (.aa rfl) .bool)) rfl (cC .ag (q2 (br (s2.symm.trans b)) hN _ ?_)))
  refine ae (aH ..)▸ ?_
  exact O.more (i:=0) (λz hz=> .inl ((bI.mp hz).elim (λq=>Nat.lt_succ_of_lt (he z q)) λq=>av.mp q▸by decide)) (by rw[aA];exact ad (bD hl 1) (by decide))
end
noncomputable def ji(N:Nat)(p:List Slot×Nat)(k:Nat):List Slot×Nat:=if some k∈p.1 then p else if need (ft p.1 0 / 4)<=N then (gY p.1 (ft p.1 0) (some k),max p.2 (need (ft p.1 0 / 4))) else (p.1,N)
noncomputable def Gd(N:Nat)(p:List Slot×Nat)(k:Nat):MV:=if some k∈p.1 then .str "there" else if need (ft p.1 0 / 4)<=N then .str "done" else .str "room"
noncomputable def vt(N:Nat):List Slot×Nat->List Nat->List MV
 |_,[]=>[]
 |p,k::ks=>Gd N p k::vt N (ji N p k) ks
section
variable {m i j t N r nb:Nat}{g:En}{h:Lo g}{F:List Cell}{R:MV->As->Prop}{T:MF->Loc->As->Prop}{E:Addr->As->Prop}{n:Int}{loc:Loc}{s:Ck}{S:As}{X:List Int}{l sz:Nat}{ps nt ks:List Nat}{a b c lo hi:IR}{D:Nat->List UInt8}{k:Nat}{x y:LA}{bs cs d:List UInt8}{sl:List Slot}{o:Slot}{mo mo':MO}{tt:Bool}{v:MV}{vs:List MV}{p:List Slot×Nat}{op:CmpOp}
theorem Zo.more{z:Int}(Z:Zo g X s)(h:X.length < 6):Zo g (z::X) s:=⟨Z.ok,λn m=>by
 have:=Z.sub n m
 simp only[aK] at this ⊢
 rcases this with q | q | q | q
 ·exact .inl q
 ·exact .inr (.inl q)
 ·exact .inr (.inr (.inl q))
 ·exact .inr (.inr (.inr (.inr q))),h,Z.k⟩
theorem Zo.len(Z:Zo g X s):s.ns.length<=3+X.length:=ad (Z.ok.nd.length_le_of_subset Z.sub) (aw (Nat.add_comm X.length 3))
theorem Wd.bo(w:Wd g N sl t s)(h2:2<=N):Bo N sl t:=⟨w.tok,w.len,w.pr,⟨w.nb.2,h2⟩,w.h6⟩
theorem Im(w:Wd g N sl t s)(Z:Zo g X s)(hX:X.length<=2)(hk:k < 22)(hL:sl.length < 14)(e:Le S (Js g s (gR g sl t F)))
  (q:∀s' X' S',X'.length=X.length+1->Zo g X' s'->Wd g N (ji N (sl,t) k).1 (ji N (sl,t) k).2 s'->Le S' (Js g s' (gR g (ji N (sl,t) k).1 (ji N (sl,t) k).2 F))->R (Gd N (sl,t) k) S') :
  Ct E R S 1127 (m+13) [.ref (g.a 21), .ref (g.a 18), .bytes (gV k), .int (m7 k:Nat)]:=by
 have Z1:=Z.more (z:=((lL (ft sl 0 / 4):Nat):Int)) (az hX (by decide))
 unfold ji Gd at q
 refine t8 vy rfl (dR e λh p=>GO (bY (bT (.aa rfl) (Lw.up .w) rfl rfl (.cons (.aa rfl) (.cons (.aa rfl) (.cons (.aa rfl) .nil))) (w3 w Z1 p hk (az pi (az (aw (bZ _)) hL)) (.head _) (ad Z.len (bb hX 3)) (λhn s' t' S' ht Z' w' e=> ?_) (λhn S' e=> ?_) λhn h2 s' S' Z' w' e=> ?_))))
 ·have hN : need (ft sl 0 / 4)<=N:=ht.elim (λz=>ad z.1 w.nb.2) λz=>z.1.2
  have et : t'=max t (need (ft sl 0 / 4)):=ht.elim (λz=>z.2.trans (Nat.max_eq_left z.1).symm) λz=>z.2.trans (Nat.max_eq_right (aL z.1.1)).symm
  subst et
  rw[if_neg hn,if_neg hn,if_pos hN] at q;replace q:=(if_pos hN)▸q
  exact bj (cC .ag (q s' _ S' rfl Z' w' e))
 ·rw[if_pos hn] at q;replace q:=(if_pos hn)▸q
  exact .hit rfl λ_=>q s _ S' rfl Z1 w e
 ·rw[if_neg hn,if_neg hn,if_neg (Nat.not_le.mpr h2),if_neg (Nat.not_le.mpr h2)] at q
  exact .next rfl (.hit rfl λ_=>q s' _ S' rfl Z' w' e)
theorem y0 : (ji N p k).1.length<=p.1.length+1:=by
 unfold ji;split
 ·exact cT _
 ·split
  ·skip
   rw[jU (ad pi (aw (bZ _)))];exact Nat.max_le.mpr ⟨cT _,Nat.succ_le_succ (ad pi (aw (bZ _)))⟩
  ·exact cT _
theorem nn : ∀ {ks:List Nat}{p:List Slot×Nat},(ks.foldl (ji N) p).1.length<=p.1.length+ks.length
 | [],_=>aG _
 |k::ks,p=>ad (nn (ks:=ks)) (ad (bD (y0 (N:=N) (k:=k) (p:=p)) ks.length) (aw (Nat.succ_add_eq_add_succ p.1.length ks.length)))
theorem uL : ∀ {ks:List Nat}{p:List Slot×Nat},(vt N p ks).length=ks.length
 | [],_=>rfl
 |_::_,_=>ah Nat.succ uL
theorem zp : ∀ {ks js:List Nat}{p:List Slot×Nat},vt N p (ks++js)=vt N p ks++vt N (ks.foldl (ji N) p) js
 | [],_,_=>rfl
 |_::_,_,_=>ah (_::·) zp
theorem Kf : ∃u,Gd N p k= .str u:=by unfold Gd;split;exact⟨_,rfl⟩;split<;>exact⟨_,rfl⟩
theorem xB : ∀ {ks:List Nat}{p:List Slot×Nat},ga MV.ia (vt N p ks) (vt N p ks)=true/\ph MV.ia (vt N p ks) (vt N p ks)=true
 | [],_=>⟨rfl,rfl⟩
 |k::ks,p=>by
  refine cN (Kf (N:=N) (p:=p) (k:=k)) λu e=> ?_
  have ⟨a,b⟩:=xB (ks:=ks) (p:=ji N p k)
  have : MV.ia (.str u) (.str u)=some true:=ah some (beq_self_eq_true (Str.ofString u))
  dsimp only[vt,ga,ph];refine ae e▸ae this▸ ?_;exact⟨a,b⟩
theorem zk(h:We E S loc (λv S1=>We E S1 loc (λw S2=>pQ (λk=>v.ia w=some k) λk=>R (.bool k) S2) (dn m b).e) (dn m a).e):We E S loc R (dn m (.cmp .Eq a b)).e:=
 λσ s Q X k x=>h σ s _ X (λ_ σ1 _ s1 g=>g σ1 s1 _ X (λ_ σ2 S2 s2 zz=>(by obtain⟨h,g⟩:=zz;exact .eq h (k _ σ2 S2 s2 g))) x) x
end
noncomputable def Kp(sl:List Slot):Prop:=∃r,sl=some 0::some 1::r/\∀k,some k∈r->2<=k
section
variable {m i j t N r nb:Nat}{g:En}{h:Lo g}{F:List Cell}{R:MV->As->Prop}{T:MF->Loc->As->Prop}{E:Addr->As->Prop}{n:Int}{loc:Loc}{s:Ck}{S:As}{X:List Int}{l sz:Nat}{ps nt ks:List Nat}{a b c lo hi:IR}{D:Nat->List UInt8}{k:Nat}{x y:LA}{bs cs d:List UInt8}{sl:List Slot}{o:Slot}{mo mo':MO}{tt:Bool}{v:MV}{vs:List MV}{p:List Slot×Nat}{op:CmpOp}{K:List Nat}
theorem Wd.of{s':Ck}(w:Wd g N sl t s)(e:s'.c=s.c):Wd g N sl t s':={ w with w:=⟨e▸w.w.b,e▸w.w.n,e▸w.w.d⟩,rw:=(by refine aT w.rw λb h1 h2=> ?_;exact⟨b,h1,e▸h2⟩ )}
theorem tF{α:Type}{l:List α}{z:α}(e:l[i]?=some z):l.take (i+1)=l.take i++[z]:=by refine (bV).trans ?_;refine ae e▸ ?_;rfl
theorem tw(e:ks[i]?=some k):vt N p (ks.take (i+1))=vt N p (ks.take i)++[Gd N ((ks.take i).foldl (ji N) p) k]/\(ks.take (i+1)).foldl (ji N) p=ji N ((ks.take i).foldl (ji N) p) k:=by
 rw[tF e,zp,List.foldl_append];exact⟨rfl,rfl⟩
theorem Lw.mid{A B:List Cell}{q:Cell}{σ:MH}(z:Lw h (q::(A++B)) σ):Lw h (A++q::B) σ:=Lw.perm z List.perm_middle.symm
noncomputable abbrev Gj : IR:= .comp ["k", "paths", "root"] [none,some 0,some 1] false (.iter (.aa 9)) (.aa 0) .nil (.call "_law_link" (.ref 1127) (.cons (.aa 1) (.cons (.aa 2) (.cons (.call "_law_name" (.ref 1106) (.cons (.aa 0) .nil)) (.cons (.bin .Add (.ag (.int 2)) (.aa 0)) .nil)))))
noncomputable abbrev FN : IR:= .comp ["k", "own", "noted"] [none,some 2,some 5] false (.iter (.aa 9)) (.aa 0) .nil (.call "_law_given" (.ref 1120) (.cons (.aa 1) (.cons (.call "_law_name" (.ref 1106) (.cons (.aa 0) .nil)) (.cons (.aa 2) .nil))))
noncomputable abbrev tok(K:List Nat):List Nat:=K.map (·+2)
theorem zb(hk:k < 20):(2:Int)+k=(m7 (k+2):Nat):=by unfold m7;exact Int.add_comm 2 k
theorem Ir(w:Wd g N sl t s)(Z:Zo g [] s)(hK:∀k∈K,k < 20)(hc:K.length<=3)(hL:sl.length<=11)(h0:loc[0]?=some (some (.ref (g.a 21))))(h1:loc[1]?=some (some (.ref (g.a 18))))(h9:loc[9]?=some (some (.ref x)))(e:Le S (Js g s (gR g sl t ((x, .list (K.map ed))::F))))
  (q:∀s' S' X' r,Zo g X' s'->Wd g N ((tok K).foldl (ji N) (sl,t)).1 ((tok K).foldl (ji N) (sl,t)).2 s'->Le S' (Js g s' (gR g ((tok K).foldl (ji N) (sl,t)).1 ((tok K).foldl (ji N) (sl,t)).2 ((r, .list (vt N (sl,t) (tok K)))::(x, .list (K.map ed))::F)))->R (.ref r) S') :
  We E S loc R (dn (m+14) Gj).e:=by
 have hd : ∀ {S s sl t},Le S (Js g s (gR g sl t ((x, .list (K.map ed))::F)))->dP S x (.list (K.map ed)):=λe=>Vs.cH e
 refine fT (it:=λi=> .lst x i) (L:=K.length) (I:=λi acc loc S=>acc=vt N (sl,t) ((tok K).take i)/\(∃y,loc=[y,some (.ref (g.a 21)),some (.ref (g.a 18))])/\∃s' X',X'.length=i/\Zo g X' s'/\Wd g N (((tok K).take i).foldl (ji N) (sl,t)).1 (((tok K).take i).foldl (ji N) (sl,t)).2 s'/\Le S (Js g s' (gR g (((tok K).take i).foldl (ji N) (sl,t)).1 (((tok K).take i).foldl (ji N) (sl,t)).2 ((x, .list (K.map ed))::F)))) (jh (.aa h9) (hd e) ⟨rfl,rfl,⟨_,by unfold eS;show [_,(loc[0]?).join,(loc[1]?).join]=_;rw[h0,h1];rfl⟩,s,[],rfl,Z,w,e⟩) ?_ ?_ ?_
 ·exact an.mpr ⟨rfl,by simp only[zE,List.all_cons,List.all_nil,h0,h1];rfl⟩
 ·rintro i acc loc S hi ⟨rfl,⟨y,rfl⟩,s',X',hX,Z',w',e⟩
  obtain⟨k,ek⟩ : ∃k,K[i]?=some k:=⟨_,ay hi⟩
  have hk:=hK k (au ek)
  have ek2 : (tok K)[i]?=some (k+2):=by refine (bc).trans ?_;refine (ah _ ek).trans ?_;rfl
  have e2:=(tw (N:=N) (p:=(sl,t)) ek2).2
  refine ae ((tw (N:=N) (p:=(sl,t)) ek2).1)▸ae e2▸ ?_
  have hi3 : i < 3:=aC hi hc
  have hlen : (((tok K).take i).foldl (ji N) (sl,t)).1.length < 14:=az nn (az (bF hL (List.length_take_le ..)) (Nat.add_lt_add_left hi3 11))
  refine⟨by refine ae uL▸ ?_;exact ad (List.length_take_le ..) (ad (aL hi3) (by decide)), .mk (ik (hd e) (by refine (bc).trans ?_;exact ah _ ek)) (bR rfl (fS ⟨λ_=> ?_,nofun⟩))⟩
  refine λσ z=>let ⟨h,p,z⟩:=e σ z;?_
  refine cV (bk (bq (.aa rfl) (bk (bq (.aa rfl) (bk (cr (.cons (.aa rfl) .nil) (pY hk (c7 (.cons (PE.eq (.bin .ag (.aa rfl) .add) (ah MV.int (zb hk))) .nil) (er (Im w' Z' (hX▸bH hi3) (Nat.add_lt_add_right hk 2) hlen (Vs.at p) λs'' X'' S'' hX2 Z'' w'' e''=>⟨rfl,⟨_,rfl⟩,s'',X'',hX2.trans (ah Nat.succ hX),Z'',w'',e''⟩)))))))))) σ z
 ·rintro acc loc S ⟨rfl,_,s',X',_,Z',w',e⟩
  refine⟨by have:=fj (hd e);exact (aq ..)▸this, ?_⟩
  have : (tok K).take K.length=tok K:=cF (aw (aq ..))
  rw[this] at w' e ⊢
  exact .mk (λσ z=>let ⟨h,p,z⟩:=e σ z;(by obtain⟨r,hr,z⟩:=Lw.new σ z;exact⟨r,hr,(⟨h,p,Lw.mid (A:=gR g _ _ []) z⟩ : Js g s' (gR g _ _ ((r,_)::(x, .list (K.map ed))::F)) _)⟩)) λr=>q s' _ X' r Z' w' λ_ z=>z
theorem HD(B:∀i≤K.length,Bo N (((tok K).take i).foldl (ji N) (sl,t)).1 (((tok K).take i).foldl (ji N) (sl,t)).2)(hK:∀k∈K,k < 20)(hc:K.length<=3)(hL:sl.length<=11)(h2:loc[2]?=some (some (.ref (g.a 23))))(h5:loc[5]?=some (some (.ref y)))(h9:loc[9]?=some (some (.ref x)))
  (hx:∀ {nt sl nb t x'},dP (Lw h (Bk g l sz ps N sl nb t x' y nt F)) x (.list (K.map ed))){x0:LA}
  (q:∀nt x' r S,Le S (Lw h ((r, .list (vt N (sl,t) (tok K)))::Bk g l sz ps N ((tok K).foldl (ji N) (sl,t)).1 (mB ((tok K).foldl (ji N) (sl,t)).1.length) ((tok K).foldl (ji N) (sl,t)).2 x' y nt F))->R (.ref r) S) :
  We E (Lw h (Bk g l sz ps N sl (mB sl.length) t x0 y [] F)) loc R (dn (m+3) FN).e:=by
 refine fT (it:=λi=> .lst x i) (L:=K.length) (I:=λi acc loc S=>acc=vt N (sl,t) ((tok K).take i)/\(∃z,loc=[z,some (.ref (g.a 23)),some (.ref y)])/\∃nt x',sh nt i/\Le S (Lw h (Bk g l sz ps N (((tok K).take i).foldl (ji N) (sl,t)).1 (mB (((tok K).take i).foldl (ji N) (sl,t)).1.length) (((tok K).take i).foldl (ji N) (sl,t)).2 x' y nt F))) (jh (.aa h9) hx ⟨rfl,rfl,⟨_,by unfold eS;show [_,(loc[2]?).join,(loc[5]?).join]=_;rw[h2,h5];rfl⟩,[],x0,⟨aG _,[],aG _,nofun⟩,λ_ z=>z⟩) ?_ ?_ ?_
 ·exact an.mpr ⟨rfl,by simp only[zE,List.all_cons,List.all_nil,h2,h5];rfl⟩
 ·rintro i acc loc S hi ⟨rfl,⟨z,rfl⟩,nt,x',O,e⟩
  obtain⟨k,ek⟩ : ∃k,K[i]?=some k:=⟨_,ay hi⟩
  have ek2 : (tok K)[i]?=some (k+2):=by refine (bc).trans ?_;refine (ah _ ek).trans ?_;rfl
  have hi3 : i < 3:=aC hi hc
  have hlen : (((tok K).take i).foldl (ji N) (sl,t)).1.length < 14:=az nn (az (bF hL (List.length_take_le ..)) (Nat.add_lt_add_left hi3 11))
  have Bi:=B i (aL hi)
  refine ae ((tw (N:=N) (p:=(sl,t)) ek2).1)▸ae ((tw (N:=N) (p:=(sl,t)) ek2).2)▸ ?_
  generalize ((tok K).take i).foldl (ji N) (sl,t)=p at *
  refine⟨(by rw[uL];exact ad (List.length_take_le ..) (ad (aL hi3) (by decide))), .mk (λσ z=>ik hx (by refine (bc).trans ?_;exact ah _ ek) σ (e σ z)) (bR rfl (fS ⟨λ_=> ?_,nofun⟩))⟩
  refine tX e (cV (bk (bq (.aa rfl) (bk (cr (.cons (.aa rfl) .nil) (pY (hK k (au ek)) (c7 (.cons (.aa rfl) .nil) (er (Fx Bi (Nat.add_lt_add_right (hK k (au ek)) 2) (az pi (az (aw (bZ _)) hlen)) O (bH hi3) (λa=> ?_) (λa b nt' x'' O' S e'=> ?_) λa b nt' O'=> ?_)))))))))
  ·delta ji Gd;rw[if_pos a,if_pos a];exact⟨rfl,⟨_,rfl⟩,nt,x',⟨ad O.len (dq 6 (cT i)),(by refine aT O.sub λY h1 h2=> ?_;exact⟨Y,cE h1,h2⟩)⟩,λ_ z=>z⟩
  ·delta ji Gd;refine ae (if_neg a)▸ae (if_neg a)▸ae (if_pos b)▸ae (if_pos b)▸ ?_;exact⟨rfl,⟨_,rfl⟩,nt',x'',O',e'⟩
  ·delta ji Gd;refine ae (if_neg a)▸ae (if_neg a)▸ae (if_neg (Nat.not_le.mpr b))▸ae (if_neg (Nat.not_le.mpr b))▸ ?_;exact⟨rfl,⟨_,rfl⟩,nt',x',O',λ_ z=>z⟩
 ·rintro acc loc S ⟨rfl,_,nt,x',O,e⟩
  refine⟨by have:=fj (λσ z=>hx σ (e σ z));exact (aq ..)▸this, ?_⟩
  have : (tok K).take K.length=tok K:=cF (aw (aq ..))
  rw[this] at e ⊢
  exact .mk (λσ z=>Lw.new σ (e σ z)) λr=>q nt x' r _ λ_ z=>z
end
theorem LS{n:Nat}:((n:Int).fdiv 3).fmod 20=(n / 3 % 20 : Nat)/\(n:Int).fmod 3=(n % 3 : Nat)/\((n:Int).fdiv 60).fmod 3=(n / 60 % 3 : Nat):=by
 simp only[Int.fdiv_eq_ediv_of_nonneg _ (show (0:Int)<=3 by decide),Int.fdiv_eq_ediv_of_nonneg _ (show (0:Int)<=60 by decide),Int.fmod_eq_emod_of_nonneg _ (show (0:Int)<=3 by decide),Int.fmod_eq_emod_of_nonneg _ (show (0:Int)<=20 by decide)]
 exact⟨rfl,rfl,rfl⟩
theorem LD{a b:Int}:(MV.tup [.int a, .int b]).ia (.tup [.int a, .int b])=some true:=by
 show some ((a==a)&&((b==b)&&true))=_
 rw[beq_self_eq_true,beq_self_eq_true];rfl
section
variable {m i j t N r nb n:Nat}{g:En}{h:Lo g}{F:List Cell}{R:MV->As->Prop}{T:MF->Loc->As->Prop}{E:Addr->As->Prop}{loc:Loc}{s:Ck}{S:As}{X:List Int}{l sz:Nat}{ps nt ks:List Nat}{a b c lo hi:IR}{D:Nat->List UInt8}{k:Nat}{x y:LA}{bs cs d:List UInt8}{sl:List Slot}{o:Slot}{mo mo':MO}{tt:Bool}{v:MV}{vs:List MV}{p:List Slot×Nat}{op:CmpOp}{K:List Nat}
theorem Bo.stp(B:Bo N p.1 p.2)(hN:N < 7)(hk:k < 22)(hL:p.1.length < 14):Bo N (Internal.ji N p k).1 (Internal.ji N p k).2:=by
 have hf : ft p.1 0<=p.1.length:=ad pi (aw (bZ _))
 have hr : ft p.1 0 < 14:=az hf hL
 refine ie (Dk _ B.h6 _ B.len _ hr ⟨B.pr,hf⟩) λ_ p2 p3=> ?_
 unfold Internal.ji
 split
 ·exact B
 ·split
  ·rename_i h
   refine⟨λj hj=>(qm hj).elim (B.tok j) λz=>aP z▸hk,(jU (o:=some k) hf)▸(H6 _ B.len _ hr).2,(jU (o:=some k) hf)▸ ?_,⟨Nat.max_le.mpr ⟨B.tN.1,h⟩,B.tN.2⟩, ?_⟩
   ·rcases Nat.lt_or_ge p.2 (need (ft p.1 0 / 4)) with z | z
    ·rw[Nat.max_eq_right (aL z)];exact (p3.resolve_left λy=>y z).1
    ·rw[Nat.max_eq_left z];exact p2.resolve_left λy=>y z
   ·rcases Nat.lt_or_ge p.2 (need (ft p.1 0 / 4)) with z | z
    ·rw[Nat.max_eq_right (aL z)];exact (p3.resolve_left λy=>y z).2
    ·rw[Nat.max_eq_left z];exact B.h6
  ·have:=Dz _ B.h6 _ B.len _ hr N hN ⟨B.pr,hf,B.tN.1,Nat.lt_of_not_le ‹_›⟩
   exact⟨B.tok,B.len,this.1,⟨aG _,B.tN.2⟩,this.2⟩
theorem Bo.fold(hN:N < 7):∀ {ks:List Nat}{p:List Slot×Nat},Bo N p.1 p.2->(∀k∈ks,k < 22)->p.1.length+ks.length<=14->Bo N (ks.foldl (Internal.ji N) p).1 (ks.foldl (Internal.ji N) p).2
 | [],_,B,_,_=>B
 |k::ks,p,B,hk,hL=>Bo.fold hN (ks:=ks) (p:=Internal.ji N p k) (B.stp hN (hk k (.head _)) (aC (Nat.lt_add_of_pos_right (Nat.succ_pos ks.length)) hL)) (λj m=>hk j (.tail _ m)) (ad (bD (y0 (N:=N) (k:=k) (p:=p)) ks.length) (ad (aw (Nat.succ_add_eq_add_succ p.1.length ks.length)) hL))
theorem Dy : ∀ {sl:List Slot}{a b:Nat},ft sl (a+b)=ft sl a+b
 | [],_,_=>rfl
 |none::_,_,_=>rfl
 |some _::sl,a,b=>by show ft sl (a+b+1)=ft sl (a+1)+b;refine (Dy (sl:=sl))▸ ?_;exact ah _ (Nat.add_right_comm ..)
theorem Kp.stp(h:Kp p.1):Kp (Internal.ji N p (k+2)).1:=by
 refine aT h λr e hr=> ?_
 unfold Internal.ji
 split
 ·exact⟨r,e,hr⟩
 ·split
  ·rw[e]
   show Kp (gY (some 0::some 1::r) (ft r (0+2)) _)
   refine ae Dy▸ ?_
   refine⟨gY r (ft r 0) (some (k+2)), ?_,λj hj=>(qm hj).elim (hr j) λz=>aP z▸Nat.le_add_left 2 k⟩
   unfold gY
   by_cases q : ft r 0 < r.length
   ·refine (if_pos (Nat.add_lt_add_right q 2 : ft r 0+2 < (some 0::some 1::r).length)).trans ?_;rw[if_pos q];rfl
   ·refine (if_neg λz:ft r 0+2 < r.length+2=>q (Nat.lt_of_add_lt_add_right z)).trans ?_;rw[if_neg q];rfl
  ·exact⟨r,e,hr⟩
theorem Kp.fold : ∀ {K:List Nat}{p:List Slot×Nat},Kp p.1->Kp ((tok K).foldl (Internal.ji N) p).1
 | [],_,h=>h
 |k::K,p,h=>Kp.fold (K:=K) (Kp.stp h)
theorem Kp.del(h:Kp sl)(e:sl[j]?=some (some (k+2))):Kp (sl.set j none):=by
 refine aT h λr zr1_ hr=> ?_;subst zr1_
 match j,e with
 |j+2,e=>exact⟨r.set j none,rfl,λq hq=>(List.mem_or_eq_of_mem_set hq).elim (hr q) nofun⟩
theorem Gg(hk:k < 22)(ht:∀k,some k∈sl->k < 22)(e:sl[j]?=some (some k))(hm:∀i < j,sl[i]?≠some (some k)):(iZ sl).findIdx? (λv=>(v.fe (.bytes (gV k))).getD false)=some j:=by
 refine List.findIdx?_eq_some_iff_getElem.mpr ?_
 have hg : ∀i (hi:i < (iZ sl).length),((iZ sl)[i].fe (.bytes (gV k))).getD false=decide (sl[i]?=some (some k)):=λi hi=>by
  have hi' : i < sl.length:=dY▸hi
  refine ae (ay hi')▸ae (show (iZ sl)[i]=_ from List.getElem_map ..)▸ ?_
  cases q : sl[i] with
  |none=>exact (bz (p:=some (none:Slot)=some (some k)) λz=>nomatch aP z).symm
  |some a=>exact eu.mpr ⟨λz=>aZ (ah (some∘some) (xA a (ht a (q▸List.getElem_mem hi')) k hk (eq_of_beq z))),λz=>eI.mpr (ah gV (aP (aP (aF z))))⟩
 exact⟨dY.symm▸((bh.mp e).1),by rw[hg];exact aZ e,λi hi=>by rw[hg];exact λz=>hm i hi (aF z)⟩
theorem CG{T:Unit->Loc->As->Prop}(h:We E S loc (λu S1=>We E S1 loc (λw S2=>∃l m m' S3,(u= .ref l/\dP S2 l m/\uB v m w m'/\Upd S2 l m' S3)/\T () loc S3) (dn m b).e) (dn m a).e):Wp E S loc T ((dn m (.item a b)).t v):=
 λσ s Q X k x=>h σ s _ X (λ_ σ1 _ s1 g=>g σ1 s1 _ X (λ_ σ2 S2 s2 z=>by refine wY z λ_ _ _ S3 zo4_ q=> ?_;refine ij zo4_ λe f so u=> ?_;subst e;exact GZ f so u s2 λσ' s'=>k () _ _ S3 s' q) x) x
theorem Dp{f c:Nat}(hf:f < 20)(hc:c<=3)(h4:loc[4]?=some (some (.int f)))(hr:PL loc S a [.int c]){S':LA->As}(nw:pX S (.list (((List.range c).map λj=>(f+j) % 20).map ed)) S')(q:∀r,R (.ref r) (S' r)) :
  We E S loc R (dn m (.comp ["k", "first"] [none,some 4] false (.range a) (.aa 0) .nil (.bin .Mod (.bin .Add (.aa 1) (.aa 0)) (.ag (.int 20))))).e:=by
 refine fT (it:=g6 0 1 c) (L:=c) (I:=λi acc loc S'=>acc=((List.range i).map λj=>(f+j) % 20).map ed/\(∃z,loc=[z,some (.int f)])/\S'=S) (iX hr ⟨by exact Int.neg_ofNat_le_natCast (2^60) c,by exact cU (aW.mpr hc) (by decide)⟩ ⟨?_,rfl,⟨_,by unfold eS;show [_,(loc[4]?).join]=_;rw[h4];rfl⟩,rfl⟩) ?_ ?_ ?_
 ·exact ah (It.jK 0 · 1) (by split<;>lia)
 ·exact an.mpr ⟨rfl,by simp only[zE,List.all_cons,List.all_nil,h4];rfl⟩
 ·rintro i acc loc S' hi ⟨rfl,⟨z,rfl⟩,rfl⟩
  refine⟨by rw[aq,aq,d8];exact ad (ad (aL hi) hc) (by decide), .mk (t9 hi) (bR rfl (fS ⟨λ_=>bq (PE.eq (w:=ed ((f+i) % 20)) (.bin (.bin (.aa rfl) (.aa rfl) .add) .ag (.mod (show (20:Int)≠0 by decide))) ?_) ⟨?_,⟨_,rfl⟩,rfl⟩,nofun⟩))⟩
  ·refine (ah _ (Int.fmod_eq_emod_of_nonneg _ (by decide))).trans ?_;exact ah MV.int (by rw[Int.zero_add,Int.mul_one];rfl)
  ·rw[List.range_succ,aY,aY];rfl
 ·rintro acc loc S' ⟨rfl,_,rfl⟩
  exact⟨gu, .mk nw q⟩
end
section
variable {m i j t N r nb n:Nat}{g:En}{h:Lo g}{F:List Cell}{R:MV->As->Prop}{T:MF->Loc->As->Prop}{E:Addr->As->Prop}{loc:Loc}{s:Ck}{S:As}{X:List Int}{l sz:Nat}{ps nt ks:List Nat}{a b c lo hi:IR}{D:Nat->List UInt8}{k:Nat}{x y:LA}{bs cs d:List UInt8}{sl:List Slot}{o:Slot}{mo mo':MO}{tt:Bool}{v:MV}{vs:List MV}{p:List Slot×Nat}{op:CmpOp}{K:List Nat}
structure Rest(g:En)(N:Nat)(sl:List Slot)(t:Nat)(s:Ck):Prop where
 w : Wd g N sl t s
 ok : s.Ok g
 ns : s.ns=[]
 k : s.k=0
 kp : Kp sl
noncomputable abbrev o7(g:En)(N:Nat)(sl:List Slot)(t:Nat)(x:LA)(s:Ck)(F:List Cell):As:=Js g s (gR g sl t (Ow g N sl (mB sl.length) t x F))
theorem M8{u v:MV}:zW S (.tup [u,v]) (.int 1) v:= .tup ⟨by decide,aX.mpr (aG 2),aj rfl⟩ rfl
theorem Cu(h0:loc[0]?=some (some (.ref (g.a 21)))):PE loc (Lw h (Up g l sz ps F)) (.am (.am (.aa 0) "nodes") "journal") (.ref (g.a 9)):= .am (.am (.aa h0) (Lw.up .w) rfl rfl) (Lw.up .n) rfl rfl
theorem I7(rs:Rest g N sl t s)(h2:2<=N)(hn:n < 10^12)(hL:sl.length<=11)(e:Le S (o7 g N sl t x s F))
  (q:∀s' sl' t' x' S',Rest g N sl' t' s'->sl'.length<=sl.length+3->Le S' (o7 g N sl' t' x' s' F)->R (.bool true) S'):Ct E R S 1132 (m+15) [.ref (g.a 21), .ref (g.a 18), .ref (g.a 23), .int n]:=by
 refine ie (LS (n:=n)) λe1 e2 e3=> ?_
 have t1 : (3:Int)≠0/\(n:Int).natAbs < 2^60/\(3:Int).natAbs < 2^60:=by exact⟨by decide,aC hn (by decide),by decide⟩
 have hf : n / 3 % 20 < 20:=Nat.mod_lt _ (by decide)
 have hc : 1+n / 60 % 3<=3:=Nat.add_comm 1 _▸Nat.mod_lt _ (by decide)
 refine e9 e λh p=>k9 mH ?_
 refine ct (ot (bk (bq (PE.eq (.bin (.bin (.aa rfl) .ag (.fdiv t1)) .ag (.mod (show (20:Int)≠0 by decide))) (ah MV.int e1)) (bk (dz (cm ⟨bC _,Lw.new,λy=>cm ⟨rfl,t2 rfl rfl ?_⟩⟩))))))
 refine fM (S1:=Lw h (Bk g 1 (16 * sl.length) (pl t) N sl (mB sl.length) t x y [] F)) (λσ z=>Lw.mid (A:=gR g sl t (Ow g N sl (mB sl.length) t x [])) z) ?_
 refine bY (bT (Cu rfl) (Lw.obj .j) rfl rfl .nil (yN (p.cv.ns.trans rs.ns) (p.cv.k.trans rs.k) ?_))
 have p1 : Jn { s with k:=1 } none (h.kz 1):=⟨{ p.ok with },p.hh,{ p.cv with k:=rfl }⟩
 have Z : Zo g [] { s with k:=1 }:=⟨⟨rs.ok.nb,rs.ok.nd,rs.ok.rg,rs.ok.ln⟩,λn m=>(by replace m:=(show s.ns=[] from rs.ns)▸m;exact nomatch m),by decide,rfl⟩
 have w1 : Wd g N sl t { s with k:=1 }:=rs.w.of rfl
 revert p1
 generalize h.kz 1=h
 generalize ({ s with k:=1 }:Ck)=s at Z w1
 intro p1
 have fin : ∀ {s' sl' t' x' S loc X},Zo g X s'->Wd g N sl' t' s'->Kp sl'->sl'.length<=sl.length+3->Le S (o7 g N sl' t' x' s' F)->loc[0]?=some (some (.ref (g.a 21)))->loc[8]?=some (some (.bool true))->Wp E S loc (λf _ S=>R (f0 f) S) (dn (m+14) fu.tl.tl.tl).s:=
  λ{s' _ _ _ _ _ _} Z w kp hl e a8 a0=>dR e λh p=>bY (bT (Cu a8) (Lw.obj .j) rfl rfl .nil (GG Z.ok Z.k (Vs.at p) λS' e=>cC (.aa a0) (q { s' with ns:=[],k:=0 } _ _ _ S' ⟨w.of rfl,⟨Z.ok.nb,List.nodup_nil,nofun,bC _⟩,rfl,rfl,kp⟩ hl e)))
 have drop : ∀ {σ} {h:Lo g} {sl' sz ps nb t' x' nt F1},F.Sublist F1->Lw h (Bk g 1 sz ps N sl' nb t' x' y nt F1) σ->Lw h (Up g 1 sz ps (Ow g N sl' nb t' x' F)) σ:=λ{σ h sl' sz ps nb t' x' nt F1} sb z=>Lw.sub z (.append_left (.cons _ sb) (Up g 1 sz ps (Ow g N sl' nb t' x' [])))
 refine w7 (.cmp (PE.eq (.bin (.aa rfl) .ag (.mod (show (3:Int)≠0 by decide))) (ah MV.int e2)) .ag .lD) (λ_=> ?_) λ_=> ?_
 ·have hk : n / 3 % 20+2 < 22:=Nat.add_lt_add_right hf 2
  generalize n / 3 % 20=f at *
  refine dw (xe hk w1.tok) λs1 s2=> ?_
  have l5 : (iZ sl).length<=100000:=by refine ae dY▸ ?_;exact ad (aL w1.len) (by decide)
  refine de rfl (cr (.cons (.aa rfl) .nil) (pY hf (de rfl (bT (.aa rfl) (Lw.up .w) rfl rfl (.cons (.aa rfl) (.cons (.aa rfl) .nil)) (IN w1 p1 hk (λj hj hm S' e=> ?_) λhn S' e=> ?_)))))
  ·have hx:=Gg hk w1.tok hj hm
   have hjl:=(bh.mp hj).1
   refine dR e λh p=>de rfl (zk (bq (.aa rfl) (nX (fg (.cmp (.aa rfl) (dO rfl rfl) (.inR (Up.own (i:=3) rfl) (.list s1))) ⟨λ_=> ?_,λb=>absurd ((s2.trans (aZ (au hj))).symm.trans b) nofun⟩))))
   refine ot (bk (bq (PE.eq (.bin .ag (.aa rfl) .add) (ah MV.int (zb hf))) (bk (lG (bq .ag (cM (dO rfl rfl) (gP (Up.own (i:=3) rfl) (.list rfl)) (c7 (.cons (.aa rfl) .nil) (qj (Up.own (i:=3) rfl) ⟨l5,s1⟩ hx (.mk (.mul (by exact⟨by decide,az (ad (aL hjl) hL) (by decide)⟩)) (cm ⟨rfl, .mk LD ?_⟩))))))))))
   refine jy (.and (.cmp (.aa rfl) .ag .vn) (.aa (.aa rfl) .bool)) rfl ?_
   refine bY (bT (.aa rfl) (Lw.up .w) rfl rfl (.cons (.aa rfl) (.cons (.item (.aa rfl) .ag M8) .nil)) (BH w1 (Z.more (z:=((lL (j / 4):Nat):Int)) (by decide)) p ⟨hjl,aC hjl (ad hL (by decide))⟩ (.head _) (ad Z.len (by decide)) λs' S' Z' w' e=>dR e λh p=> ?_))
   refine ct (bq .ag (CG (bq (dO rfl rfl) (cM (dO rfl rfl) (gP (Up.own (i:=3) rfl) (.list rfl)) (c7 (.cons (.aa rfl) .nil) (qj (Up.own (i:=3) rfl) ⟨l5,s1⟩ hx ⟨_,_,_,Lw h (Bk g 1 (16 * (sl.set j none).length) (pl t) N (sl.set j none) (mB sl.length) t x y [] F),⟨rfl,Up.own (i:=3) rfl, .list ⟨bA _,aX.mpr (dY.symm▸hjl),l5⟩,Lw.jJ (i:=13) rfl ?_⟩,bj (bj (fin Z' w' (rs.kp.del hj) (by refine ae cL▸ ?_;exact a9 ..) (λσ z=>⟨h,p,drop (.refl _) (((ah mB (cL ..)))▸z)⟩) rfl rfl))⟩))))))
   delta Bk Ow iZ;refine ae List.map_set▸ ?_;rfl
  ·have b0 : (iZ sl).any (λv=>(v.fe (.bytes (gV (f+2)))).getD false)=false:=s2.trans (bz hn)
   refine dR e λh p=>de rfl (zk (bq (.aa rfl) (nX (fg (.cmp (.aa rfl) (dO rfl rfl) (.inR (Up.own (i:=3) rfl) (.list s1))) ⟨λb=>absurd (b0.symm.trans b) nofun,λ_=>bq .ag (.mk (a:=true) rfl ?_)⟩))))
   exact cO (.and (.cmp (.aa rfl) .ag .vn) (.aa (.aa rfl) .bool)) rfl (bj (fin Z w1 rs.kp (a9 ..) (λσ z=>⟨h,p,drop (.refl _) z⟩) rfl rfl))
 ·have hn : PL [some (.ref (g.a 21)),some (.ref (g.a 18)),some (.ref (g.a 23)),some (.int n),some (.int (n / 3 % 20 : Nat)),some (.ref y),none,none,none,none,none] (Lw h (Bk g 1 (16 * sl.length) (pl t) N sl (mB sl.length) t x y [] F)) (.cons (.bin .Add (.ag (.int 1)) (.bin .Mod (.bin .FloorDiv (.aa 3) (.ag (.int 60))) (.ag (.int 3)))) .nil) [.int (1+n / 60 % 3 : Nat)]:=
   .cons (PE.eq (.bin .ag (.bin (.bin (.aa rfl) .ag (.fdiv (by exact⟨by decide,t1.2.1,by decide⟩))) .ag (.mod (show (3:Int)≠0 by decide))) .add) (ah (λz=>MV.int (1+z)) e3)) .nil
  generalize n / 3 % 20=f at *
  generalize 1+n / 60 % 3=c at *
  refine de rfl (Dp hf hc rfl hn Lw.new λcl=> ?_)
  have hK : ∀k∈(List.range c).map λj=>(f+j) % 20,k < 20:=λk hk=>(by refine aT (cq.mp hk) λj _ e=> ?_;exact e▸Nat.mod_lt _ (by decide))
  have hKl : ((List.range c).map λj=>(f+j) % 20).length<=3:=by rw[aq,d8];exact hc
  generalize (List.range c).map (λj=>(f+j) % 20)=K at *
  have hT : ∀ {i},((tok K).take i).length<=3:=ad (List.length_take_le' ..) (by refine ae (aq ..)▸ ?_;exact hKl)
  refine de rfl (Ir w1 Z hK hKl hL rfl rfl rfl (λσ z=>⟨h,p1,Lw.mid (A:=gR g sl t []) z⟩) λs' S' X' r Z' w' e=>dR e λh p=> ?_)
  refine fM (S1:=Lw h (Bk g 1 (16 * ((tok K).foldl (ji N) (sl,t)).1.length) (pl ((tok K).foldl (ji N) (sl,t)).2) N sl (mB sl.length) t x y [] ((r, .list (vt N (sl,t) (tok K)))::(cl, .list (K.map ed))::F))) (λσ z=>Lw.perm z (.append_left (gR g _ _ []) (List.perm_append_comm_assoc [(r,MO.list (vt N (sl,t) (tok K))),(cl,MO.list (K.map ed))] (Ow g N sl (mB sl.length) t x [(y,MO.list [])]) F))) ?_
  refine de rfl (og (bq (.aa rfl) (HD (λi _=>Bo.fold rs.w.n7 (rs.w.bo h2) (λk hk=> ?_) (bF hL hT)) hK hKl hL rfl rfl rfl (Lw.cH (i:=16) rfl) λnt x' r2 S e=> .mk (.K0 (λσ z=>Lw.cH (i:=16) rfl σ (e σ z)) (λσ z=>Lw.cH (i:=0) rfl σ (e σ z)) xB.1) ?_)))
  ·refine aT (cq.mp (List.mem_of_mem_take hk)) λj hj e=> ?_
   exact e▸Nat.add_lt_add_right (hK j hj) 2
  ·exact bj (fin Z' w' (Kp.fold rs.kp) (ad nn (bb (by rw[aq];exact hKl) _)) (λσ z=>⟨h,p,drop (.cons _ (.cons _ (.refl _))) (Lw.sub (e σ z) (.cons _ (.refl _)))⟩) rfl (ah (λb=>some (some (MV.bool b))) xB.2))
end
noncomputable def ML(v:MV)(n:Int):Bool:=match v with
 | .int i=>i==n
 |_=>false
theorem Hp{v:MV}{n:Int}(h:ML v n=true):v= .int n:=by
 cases v with
 |int i=>exact ah MV.int (eq_of_beq h)
 |_=>cases h
theorem Ja : ∀k < 22,ML ((lp.lookup (gV k)).getD (.int 1)) (m7 k)=true:=by decide +kernel
noncomputable def bg(k:Nat):Bool:=Nat.ble 2 k
theorem Cp : ∀k < 22,([MV.bytes [46], .bytes [46,46]].all λv=>(v.fe (.bytes (gV k))).isSome)=true/\(!([MV.bytes [46], .bytes [46,46]].any λv=>(v.fe (.bytes (gV k))).getD false))=bg k:=by decide +kernel
theorem uZ : ∀ {vs:List MV},(∀v∈vs,v.ia v=some true)->ga MV.ia vs vs=true/\ph MV.ia vs vs=true
 | [],_=>⟨rfl,rfl⟩
 |v::vs,h=>by
  have ⟨a,b⟩:=uZ (vs:=vs) λw m=>h w (.tail _ m)
  show ((v.ia v).isSome&&ga MV.ia vs vs)=true/\((v.ia v).getD false&&ph MV.ia vs vs)=true
  refine ae (h v (.head _))▸ ?_;exact⟨a,b⟩
theorem LN{a b:Int}{c:List UInt8}:(MV.tup [.int a, .int b, .bytes c]).ia (.tup [.int a, .int b, .bytes c])=some true:=by
 show some ((a==a)&&((b==b)&&((c==c)&&true)))=_
 rw[beq_self_eq_true,beq_self_eq_true,beq_self_eq_true];rfl
section
variable {m i j t N r nb n:Nat}{g:En}{h:Lo g}{F:List Cell}{R:MV->As->Prop}{T:MF->Loc->As->Prop}{E:Addr->As->Prop}{loc:Loc}{s:Ck}{S:As}{X:List Int}{l sz:Nat}{ps nt ks:List Nat}{a b c lo hi:IR}{D:Nat->List UInt8}{k:Nat}{x y:LA}{bs cs d:List UInt8}{sl:List Slot}{o:Slot}{mo mo':MO}{tt:Bool}{v:MV}{vs:List MV}{p:List Slot×Nat}{op:CmpOp}{K:List Nat}
theorem Vs.Hb{P:Lo g->Prop}(e:Le S (Vs P (Up g l sz ps F))):pX S mo λr=>Vs P (Up g l sz ps ((r,mo)::F)):=λσ z=>let ⟨h,p,z⟩:=e σ z;(by refine aT (Lw.new (o:=mo) σ z) λr hr z=> ?_;exact⟨r,hr,h,p,Lw.mid (A:=Up g l sz ps []) z⟩)
theorem Vs.Ha{P:Lo g->Prop}{c:Cell}(e:Le S (Vs P (Up g l sz ps (c::(x,mo)::F)))):dP S x mo:=λσ z=>(by refine aT (e σ z) λ_ _ z=> ?_;exact Lw.cH (i:=11) rfl σ z)
theorem ti : ga MV.ia (fG sl) (fG sl)=true/\ph MV.ia (fG sl) (fG sl)=true:=uZ λv m=>by
 obtain⟨i,hi,e⟩:=List.mem_mapIdx.mp m
 exact e▸LN
theorem vI : ga MV.ia (pM sl) (pM sl)=true/\ph MV.ia (pM sl) (pM sl)=true:=uZ λv m=>by
 refine aT (cS.mp m) λo _ e=> ?_
 refine aT (be.mp e) λk _ zr2_=> ?_;subst zr2_
 exact ah some (beq_self_eq_true (gV k))
theorem Bw{R:Bool->As->Prop}(h:We E S loc (λp S1=>Br p (R true S1) (We E S1 loc R (dn m b).b)) (dn m a).b):We E S loc R (dn m (.or a b)).b:=by
 refine λσ s _ X k x=>h σ s _ X (λp σ1 S1 s1 g=> ?_) x
 cases p
 ·exact g.f rfl σ1 s1 _ X k x
 ·exact k _ σ1 S1 s1 (g.t rfl)
theorem Ca(hi:i < sl.length):(iZ sl)[i]?=some (sV (sl.getD i none)):=by
 refine (bc).trans ?_;exact ae aR▸ae (ay hi)▸rfl
theorem Gm{o a b:IR}{es:List (List UInt8×MV)}{u v:MV}(h1:PE loc S o (.ref x))(h2:dP S x (.iS es))(h3:PE loc S a (.bytes bs))(h4:PE loc S b u)(e:(es.lookup bs).getD u=v)(q:R v S):We E S loc R (dn m (.aO o "get" (.cons a (.cons b .nil)))).e:=
 λσ s _ _ k _=>h1.ok s (.dB (h2 σ s) rfl (h3.ok s (h4.ok s (.oct (h2 σ s) (e▸k _ _ S s q)))))
noncomputable def tk(sl:List Slot):List Nat:=sl.filterMap id
noncomputable def L5(k:Nat):MV:= .bytes (gV k)
theorem yG : pM sl=(tk sl).map L5:=by skip;refine ae List.map_filterMap▸ ?_;rfl
theorem GU(ht:∀k,some k∈sl->k < 22){k:Nat}(h:k∈tk sl):k < 22:=(by refine aT (cS.mp h) λ_ m e=> ?_;exact ht k (((e))▸m))
theorem yv{L:List MV}:ph MV.ia L []=L.isEmpty/\ga MV.ia L []=true:=by cases L<;>exact⟨rfl,rfl⟩
theorem Eu(w:Wd g N sl t s)(p:Jn s none h)(q:∀S',Le S' (Js g s (gR g sl t F))->R (.bool ((tk sl).filter bg).isEmpty) S'):Ct E R (Lw h (gR g sl t F)) 558 (m+12) [.ref (g.a 21), .ref (g.a 18)]:=by
 refine df nq (eX (og (qu (ES (bT (.aa rfl) (Lw.up .w) rfl rfl (.cons (.aa rfl) .nil) (zq w p λS' r e=> .mk rfl (.mk (Vs.cH e) (.mk ((tk sl).length+1) rfl ?_))))))))
 refine λσ z Q X k x=>n5 (it:=λi=> .lst r i) (L:=(tk sl).length) (I:=λi acc loc S=>acc=(((tk sl).take i).filter bg).map L5/\Fr [] 1 loc/\S=S') (D:=λacc S=>acc=((tk sl).filter bg).map L5/\S=S') ?_ ?_ _ 0 [] _ S' (bZ _) ⟨rfl, .of rfl rfl,rfl⟩ σ z Q X (λacc l σ' S1 z' ⟨e1,e2⟩=>k acc l σ' S1 z' (e1▸ .mk (Vs.newD (e2▸e)) λr=> ?_)) x
 ·rintro i acc loc S hi ⟨rfl,⟨y⟩,rfl⟩
  obtain⟨k,ek⟩ : ∃k,(tk sl)[i]?=some k:=⟨_,ay hi⟩
  refine⟨by rw[aq];exact ad (List.length_filter_le ..) (ad (List.length_take_le' ..) (ad (List.length_filterMap_le ..) (ad (aL w.len) (by decide)))), .mk (ik (yG (sl:=sl)▸Vs.cH e) (by refine (bc).trans ?_;exact ah _ ek)) (bR rfl (tW (fg (.cmp (.aa rfl) (.tup (.cons .glob (.cons .glob .nil)) (aj rfl)) (.Ln ((Cp k (GU w.tok (au ek))).1))) ?_)))⟩
  refine ae ((Cp k (GU w.tok (au ek))).2)▸ ?_;rw[tF ek,List.filter_append,aY];refine ae List.filter_cons▸ ?_
  cases bg k with
  |true=>exact⟨λ_=>bq (.aa rfl) ⟨rfl, .of rfl rfl,rfl⟩,nofun⟩
  |false=>exact⟨nofun,λ_=>⟨(cK _).symm, .of rfl rfl,rfl⟩⟩
 ·rintro acc loc S ⟨rfl,_,rfl⟩
  exact⟨by have:=fj (yG (sl:=sl)▸Vs.cH e);rwa [aq] at this,by rw[List.take_length],rfl⟩
 ·refine dz (cm ⟨bC _,Vs.Hb (λ_ z=>z),λr2=> .mk (.K0 (Vs.Ha λ_ z=>z) (Vs.cH λ_ z=>z) yv.2) ?_⟩)
  refine ae yv.1▸ae List.isEmpty_map▸ ?_
  exact q _ λσ z=>Vs.less (Vs.less λ_ z=>z) σ z
end
theorem J4 : ∀L : Nat,L < 15->(((L:Int)).natAbs < 2^60/\ -(2^60)<=(L:Int)/\(L:Int) < 2^60)/\(if (0:Int) < L then (L:Int) - 0 else 0)=(L - 0 : Nat)/\((16:Int).natAbs < 2^32/\(L:Int).natAbs < 2^32):=by decide +kernel
section
variable {m i j t N r nb n:Nat}{g:En}{h:Lo g}{F:List Cell}{R:MV->As->Prop}{T:MF->Loc->As->Prop}{E:Addr->As->Prop}{loc:Loc}{s:Ck}{S:As}{X:List Int}{l sz:Nat}{ps nt ks:List Nat}{a b c lo hi:IR}{D:Nat->List UInt8}{k:Nat}{x y:LA}{bs cs d:List UInt8}{sl:List Slot}{o:Slot}{mo mo':MO}{tt:Bool}{v:MV}{vs:List MV}{p:List Slot×Nat}{op:CmpOp}{K:List Nat}
theorem GW(h:We E S loc (λv S1=>pQ (l8 v) λp=>Br p (R v S1) (We E S1 loc R (dn m b).e)) (dn m a).e):We E S loc R (dn m (.or a b)).e:=by
 refine λσ s Q X k x=>h σ s _ X (λv σ1 S1 s1 ⟨t,g⟩=>t.ok ?_) x
 rename_i p
 cases p
 ·exact g.f rfl σ1 s1 Q X k x
 ·exact k _ _ S1 s1 (g.t rfl)
theorem vE{α:Type}{P:Lo g->Prop}{q:_root_.Internal.P α}{R:α->As->Prop}(e:Le S (Vs P F))(k:∀h,P h->We E (Lw h F) loc R q):We E S loc R q:=λσ s=>(by refine aT (e σ s) λh p s=> ?_;exact k h p σ s)
theorem Vs.GB{P:Lo g->Prop}{F:List Cell}(i:Nat)(hi:F[i]?=some (x,mo))(e:Le S (Vs P F)):dP S x mo:=λσ z=>(by refine aT (e σ z) λ_ _ z=> ?_;exact Lw.cH hi σ z)
theorem DV(e:dP S x (.list vs))(ha:vs.length<=100000/\vs.all (λw=>(w.fe v).isSome)=true)(k:R (.int (vs.countP (λw=>(w.fe v).getD false):Nat)) S):We E S loc R (eM m (.builtin "list.count") [.ref x,v]):=λσ s _ _ kk _=>tY.mk (e σ s) ha (kk _ _ S s k)
theorem uh : ∀ {sl:List Slot},(iZ sl).countP (λv=>(v.fe .none).getD false)=sl.countP Option.isNone
 | []=>rfl
 |none::sl=>by show (MV.none::iZ sl).countP _=_;refine ((List.countP_cons_of_pos rfl)).trans ?_;rw[List.countP_cons_of_pos rfl];exact ah _ uh
 |some k::sl=>by show (MV.bytes (gV k)::iZ sl).countP _=_;exact uh
theorem yK : ∀ {r:List Slot},(tk r).isEmpty=decide (r.countP Option.isNone=r.length)
 | []=>rfl
 |none::r=>by rw[List.countP_cons_of_pos rfl];exact (yK (r:=r)).trans (decide_eq_decide.mpr (Nat.succ_inj (a:=r.countP _) (b:=r.length)).symm)
 |some k::r=>by exact (bz λe=>absurd (e▸List.countP_le_length (p:=Option.isNone) (l:=r)) (Nat.not_succ_le_self _)).symm
theorem Kp.emp(h:Kp sl):((tk sl).filter bg).isEmpty=((sl.countP Option.isNone : Nat)==(sl.length : Int) - 2):=by
 refine aT h λr zr1_ hr=> ?_;subst zr1_
 have e1 : (tk (some 0::some 1::r)).filter bg=tk r:=(List.filter_cons_of_neg aE).trans ((List.filter_cons_of_neg aE).trans (List.filter_eq_self.mpr λk hk=>Nat.ble_eq_true_of_le ((by refine aT (cS.mp hk) λ_ m e=> ?_;exact hr k (((e))▸m)))))
 refine (ah _ e1).trans ?_;rw[yK,List.countP_cons_of_neg aE,List.countP_cons_of_neg aE,eu,decide_eq_true_iff];refine ae cy▸ae cy▸ ?_
 lia
theorem CD(w:Wd g N sl t s)(kp:Kp sl)(hN:1<=N)(p:Jn s none h)(q:∀S',Le S' (o7 g N sl t x s F)->R (.bool true) S') :
  Ct E R (Lw h (gR g sl t (Ow g N sl (mB sl.length) t x F))) 1137 (m+15) [.ref (g.a 21), .ref (g.a 18), .ref (g.a 23)]:=by
 refine ie (J4 _ w.len) λa1 a2 a3=> ?_
 have l5 : (iZ sl).length<=100000:=by rw[dY];exact ad (aL w.len) (by decide)
 have pl : ∀ {h L} {F},L[3]?=some (some (.ref x))->PE L (Lw h (gR g sl t (Ow g N sl (mB sl.length) t x F))) (.call "len" (.builtin "len") (.cons (.aa 3) .nil)) (.int sl.length):=λa=>PE.eq (.call (.cons (.aa a) .nil) (.len (Up.own (i:=3) rfl) .list l5)) (ah (λn:Nat=>MV.int n) dY)
 refine fH wJ (gy (dO rfl rfl) rfl (de rfl (fT (it:=g6 0 1 sl.length) (L:=sl.length) (I:=λi acc loc S'=>acc=(fG sl).take i/\(∃z,loc=[z,some (.ref x),some (.ref (g.a 23))])/\S'=Lw h (gR g sl t (Ow g N sl (mB sl.length) t x F))) (iX (.cons (pl rfl) .nil) a1.2 ⟨ah (It.jK 0 · 1) a2,rfl,⟨_,rfl⟩,rfl⟩) rfl ?_ ?_)))
 ·rintro i acc loc S' hi ⟨rfl,⟨z,rfl⟩,rfl⟩
  have hit : ∀ {u:Option MV},PE [some (.int i),some (.ref x),some (.ref (g.a 23))] (Lw h (gR g sl t (Ow g N sl (mB sl.length) t x F))) (.item (.aa 1) (.aa 0)) (sV (sl.getD i none)):=λ{u}=> .item (.aa rfl) (.aa rfl) (.ref (Up.own (i:=3) rfl) (.list ⟨bA _,aX.mpr (dY.symm▸hi),l5⟩ (Ca hi)))
  refine⟨ad (List.length_take_le' ..) (by refine ae fO▸ ?_;exact ad (aL w.len) (by decide)), .mk (kF hi) (bR rfl (fS ⟨λ_=>ot (bk (bq (.bin .ag (.aa rfl) (.mul ((J4 i (cG hi w.len)).2.2))) (bk (nX ?_)))),nofun⟩))⟩
  have step : (fG sl).take i++[Ch (sl.getD i none) i]=(fG sl).take (i+1):=(tF (mX hi)).symm
  revert hit step
  have ok:=w.x8 (j:=i)
  revert ok
  generalize sl.getD i none=o
  intro ok hit step
  cases o with
  |none=>exact fg (.cmp (hit (u:=none)) .ag .is) ⟨λ_=>bq .ag (bk (GW (bq (hit (u:=none)) (.mk .none ⟨nofun,λ_=>bq .ag (cm ⟨rfl,step,⟨_,rfl⟩,rfl⟩)⟩)))),nofun⟩
  |some k=>
   refine ij (AW k (ok k rfl)) λn1 n2 n3 _=> ?_
   refine fg (.cmp (hit (u:=none)) .ag .is) ⟨nofun,λ_=>Gm (dO rfl rfl) (Up.own (i:=2) rfl) (hit (u:=none)) .ag (Hp (Ja k (ok k rfl))) (bk (GW (bq (hit (u:=none)) (.mk (.oct (ad n2 (by decide))) ⟨λ_=>cm ⟨rfl,step,⟨_,rfl⟩,rfl⟩,λb=>absurd b ?_⟩))))⟩
   rw[Bool.not_eq_false',List.isEmpty_iff_length_eq_zero];exact n3
 ·rintro acc loc S' ⟨rfl,_,rfl⟩
  refine⟨gu, .mk Lw.new λr=> ?_⟩
  refine ae (cF (aw fO))▸ ?_
  refine fM (S1:=Lw h (gR g sl t (Ow g N sl (mB sl.length) t x ((r, .list (fG sl))::F)))) (λσ z=>Lw.mid (A:=gR g sl t (Ow g N sl (mB sl.length) t x [])) z) ?_
  refine gE (Bw (io (bT (.aa rfl) (Lw.up .w) rfl rfl (.cons (.aa rfl) .nil) (xW w (Vs.at p) λS' r2 e=>bq (.aa rfl) (.mk (.Jy (Vs.cH e) (Vs.GB 15 rfl e) ti.1) ⟨λb=>absurd b (by rw[ti.2];exact aE),λ_=>vE (Vs.less e) λh p=>fg (.cmp (.am (.aa rfl) (Lw.up .d) rfl rfl) (.bin .ag (pl rfl) (.mul a3)) .ne) ⟨λb=>absurd b (by rw[show ((16 * sl.length : Nat):Int)=16 * (sl.length : Int) from rfl,bne,beq_self_eq_true];exact aE),λ_=> ?_⟩⟩)))))
  refine gE (Bw (io (bT (.aa rfl) (Lw.up .w) rfl rfl (.cons (.aa rfl) .nil) (zq w p λS' r2 e=> ?_))))
  refine fT (it:=λi=> .lst x i) (L:=sl.length) (I:=λi acc loc S=>acc=pM (sl.take i)/\Fr [] 1 loc/\S=S') (jh (.aa rfl) (Vs.GB 14 rfl e) ⟨rfl,rfl, .of rfl rfl,rfl⟩) rfl ?_ ?_
  ·rintro i acc loc S hi ⟨rfl,⟨y⟩,rfl⟩
   refine⟨ad (List.length_filterMap_le ..) (ad (List.length_take_le' ..) (ad (aL w.len) (by decide))), .mk (ik (Vs.GB 14 rfl e) (Ca hi)) (bR rfl (tW (fg (.cmp (.aa rfl) .ag .vn) ?_)))⟩
   refine ae (to hi)▸ ?_
   cases sl.getD i none with
   |none=>exact⟨nofun,λ_=>⟨(cK _).symm, .of rfl rfl,rfl⟩⟩
   |some k=>exact⟨λ_=>bq (.aa rfl) ⟨rfl, .of rfl rfl,rfl⟩,nofun⟩
  ·rintro acc loc S ⟨rfl,_,rfl⟩
   refine⟨by have:=fj (Vs.GB 14 rfl e);rwa [dY] at this, .mk (Vs.Hb e) λr3=> ?_⟩
   refine ae List.take_length▸ ?_
   refine .mk (.Jy (Vs.Ha λ_ z=>z) (Vs.cH λ_ z=>z) vI.1) ⟨λb=>absurd b (by rw[vI.2];exact aE),λ_=> ?_⟩
   refine vE (Vs.less (Vs.less λ_ z=>z)) λh p=>io (bT (.aa rfl) (Lw.up .w) rfl rfl (.cons (.aa rfl) .nil) (Eu w p λS' e=>vE e λh p=> ?_))
   refine og (cM (.aa rfl) (gP (Up.own (i:=3) rfl) (.list rfl)) (c7 (.cons .ag .nil) (DV (Up.own (i:=3) rfl) ⟨l5,((mD (sl:=sl) (a:=0)).1)⟩ (bq (.bin (pl rfl) .ag .sub) (.mk .lD (.mk .Ly ⟨λb=>absurd b ?_,λ_=> ?_⟩))))))
   ·refine ae uh▸ ?_;refine kp.emp▸ ?_;rw[beq_self_eq_true];exact aE
   ·refine eX (og (bT (.am (.aa rfl) (Lw.up .w) rfl rfl) (Lw.up .n) rfl rfl .nil (r7 w.w.b w.nb.2 ⟨w.nb.1,hN,bH w.n7⟩ (Vs.at p) λS' e=>vE e λh p=>bq (dO rfl rfl) (.mk .lD ?_))))
    rw[beq_self_eq_true]
    exact q _ λσ z=>⟨h,p,Lw.sub z (.append_left (.cons _ (.refl F)) (gR g sl t (Ow g N sl (mB sl.length) t x [])))⟩
end
section
variable {m i j:Nat}{R:MV->As->Prop}{T:MF->Loc->As->Prop}{E:Addr->As->Prop}{loc:Loc}{S:As}{Z P Y:List Cell}{l d D:LA}{C:Addr}{fs:List (String×MV)}{x:String}{v:MV}{o o':MO}{n nb:Int}{g:En}{σ:MH}
theorem zh(e:Z[i]?=some (l,o)):dP (Zs Z) l o:=Zs.has (au e)
theorem zo(e:Z[i]?=some (l, .inst C D))(e':Z[j]?=some (D, .ns fs)):Obj (Zs Z) l C fs:=Zs.obj (au e) (au e')
theorem zt(e:Z[i]?=some (l, .inst C D))(e':Z[j]?=some (D, .ns fs))(e2:(tab.am C x&&Nat.ble fs.length 100)=true):wm (Zs Z) l x v (Zs (Z.set j (D, .ns (gM x v fs)))):=λσ s=>
 ⟨C,D,fs,⟨(s.get _ (au e)).1,(s.get _ (au e')).1,(an.mp e2).1,aj (an.mp e2).2⟩,Zs.set e' σ s⟩
theorem Bn{S':LA->As}(nw:pX S (.bS []) S')(q:∀r,R (.ref r) (S' r)):We E S loc R (dn m .iU).e:=λσ s Q X k x=>(by refine aT (nw σ s) λr hr z=> ?_;exact⟨r,_,⟨hr, .inl rfl⟩,k _ _ _ z (q r)⟩)
theorem mP{b:IR}{y:String}{o:MO}{a:IR}(h:∀ {R:MV->As->Prop},(∀r,R (.ref r) (Zs ((r,o)::Z)))->We E (Zs Z) loc R (dn m a).e)(h0:loc[i]?=some (some (.ref l)))(e:∀r,((r,o)::Z)[j]?=some (l, .inst C D))(e':∀r,((r,o)::Z)[j+1]?=some (D, .ns fs))(e2:(tab.am C y&&Nat.ble fs.length 100)=true)
  (q:∀r,Wp E (Zs (((r,o)::Z).set (j+1) (D, .ns (gM y (.ref r) fs)))) loc T (dn m b).s):Wp E (Zs Z) loc T (dn m (.cons (.asg (.am (.aa i) y) a) b)).s:=
 ct (h λr=>cX (.aa h0) (zt (e r) (e' r) e2) (q r))
theorem zl{R:MV->As->Prop}(q:∀r,R (.ref r) (Zs ((r, .list [])::Z))):We E (Zs Z) loc R (dn m (.list .nil)).e:=dz (cm ⟨bC _,Zs.new,q⟩)
theorem zd{R:MV->As->Prop}(q:∀r,R (.ref r) (Zs ((r, .bS [])::Z))):We E (Zs Z) loc R (dn m .iU).e:=Bn Zs.new q
theorem zs{b:IR}{y:String}{a:IR}(ha:PE loc (Zs Z) a v)(h0:loc[i]?=some (some (.ref l)))(e:Z[j]?=some (l, .inst C D))(e':Z[j+1]?=some (D, .ns fs))(e2:(tab.am C y&&Nat.ble fs.length 100)=true)(q:Wp E (Zs (Z.set (j+1) (D, .ns (gM y v fs)))) loc T (dn m b).s) :
  Wp E (Zs Z) loc T (dn m (.cons (.asg (.am (.aa i) y) a) b)).s:=Bb ha (.aa h0) (zt e e' e2) q
noncomputable def Aq(a d ak al:LA)(nb:Int)(v:Dd)(Z:List Cell):List Cell:=(v.un, .list (v.ch.map lN))::(al, .bS (dk v.d .bytes v.lk))::(ak, .bS (dk v.e .bytes v.kk))::(a, .inst jB d)::(d, .ns (v.ns nb ak al))::Z
noncomputable abbrev Dd.v0(u:LA):Dd:=⟨[],λ_=>zeros,[],λ_=>zeros,u,[],0,0⟩
theorem CF(hb:1<=nb)(q:∀u k2 k1,R .none (Zs (Aq l d k1 k2 nb (Dd.v0 u) Z))):Ct E R (Zs ((l, .inst jB d)::(d, .ns [])::Z)) 892 (m+1) [.ref l, .int nb, .int 64]:=by
 refine fH uR (cO (.or (.cmp (.aa rfl) .ag .lt) (.cmp (.aa rfl) .ag .lt)) (Bool.or_eq_false_iff.mpr ⟨bz (cZ.mpr hb),rfl⟩) ?_)
 refine zs (j:=0) (.aa rfl) rfl rfl rfl rfl (zs (j:=0) (.aa rfl) rfl rfl rfl rfl (mP (j:=1) zd rfl (λ_=>rfl) (λ_=>rfl) rfl λk1=>mP (j:=2) zd rfl (λ_=>rfl) (λ_=>rfl) rfl λk2=>mP (j:=3) zl rfl (λ_=>rfl) (λ_=>rfl) rfl λu=> ?_))
 exact zs (j:=3) .ag rfl rfl rfl rfl (zs (j:=3) .ag rfl rfl rfl rfl (zs (j:=3) .ag rfl rfl rfl rfl (zs (j:=3) .ag rfl rfl rfl rfl (zs (j:=3) .ag rfl rfl rfl rfl (bj (q u k2 k1))))))
theorem FM{a:LA}(ob:∀Z',Obj (Zs ((l, .inst lM d)::(d, .ns Z')::Z)) a jB fs)(hs:fs.lookup "size" = some (.int 64))
  (q:∀by_ row,R .none (Zs ((by_, .bS [])::(row, .list [])::(l, .inst lM d)::(d, .ns [("disk", .ref a),("most", .int 14),("size", .int 64),("row", .ref row),("by_number", .ref by_),("hits", .int 0),("reads", .int 0),("writes", .int 0)])::Z))):Ct E R (Zs ((l, .inst lM d)::(d, .ns [])::Z)) 775 (m+1) [.ref l, .ref a, .int 14]:=by
 refine fH rZ (cO (.cmp (.aa rfl) .ag .lt) rfl (zs (j:=0) (.aa rfl) rfl rfl rfl rfl (zs (j:=0) (.aa rfl) rfl rfl rfl rfl (zs (j:=0) (.am (.aa rfl) (ob _) rfl hs) rfl rfl rfl rfl ?_))))
 refine mP (j:=1) zl rfl (λ_=>rfl) (λ_=>rfl) rfl λrow=>mP (j:=2) zd rfl (λ_=>rfl) (λ_=>rfl) rfl λby_=> ?_
 exact zs (j:=2) .ag rfl rfl rfl rfl (zs (j:=2) .ag rfl rfl rfl rfl (zs (j:=2) .ag rfl rfl rfl rfl (bj (q by_ row))))
theorem E4{a p:LA}{c:MV}(ob:∀Z',Obj (Zs ((l, .inst jX d)::(d, .ns Z')::Z)) a eP fs)(hs:fs.lookup "cache" = some c)
  (q:∀t,R .none (Zs ((t, .bS [])::(l, .inst jX d)::(d, .ns [("journal", .ref a),("cache",c),("super", .ref p),("table", .ref t)])::Z))):Ct E R (Zs ((l, .inst jX d)::(d, .ns [])::Z)) 311 (m+1) [.ref l, .ref a, .ref p]:=
 fH sc (zs (j:=0) (.aa rfl) rfl rfl rfl rfl (zs (j:=0) (.am (.aa rfl) (ob _) rfl hs) rfl rfl rfl rfl (zs (j:=0) (.aa rfl) rfl rfl rfl rfl (mP (j:=1) zd rfl (λ_=>rfl) (λ_=>rfl) rfl λt=>bj (q t)))))
theorem EJ{a:LA}(q:R .none (Zs ((l, .inst oN d)::(d, .ns [("nodes", .ref a)])::Z))):Ct E R (Zs ((l, .inst oN d)::(d, .ns [])::Z)) 506 (m+1) [.ref l, .ref a]:=df r9 (zs (j:=0) (.aa rfl) rfl rfl rfl rfl (bj q))
theorem Ad{c a:LA}{fc fd:List (String×MV)}(ob:∀Z',Obj (Zs ((l, .inst eP d)::(d, .ns Z')::Z)) c lM fc)(od:∀Z',Obj (Zs ((l, .inst eP d)::(d, .ns Z')::Z)) a jB fd)(hd:fc.lookup "disk" = some (.ref a)) (hs:fc.lookup "size" = some (.int 64)) (hm:fc.lookup "most" = some (.int 14)) (hb:fd.lookup "blocks" = some (.int nb)) (h12:12<=nb)
  (q:∀nt nm,R .none (Zs ((nt, .bS [])::(nm, .list [])::(l, .inst eP d)::(d, .ns [("cache", .ref c),("start", .int 2),("size", .int 10),("places", .int 9),("most", .int 9),("each", .int 9),("numbers", .ref nm),("noted", .ref nt),("calls", .int 0),("commits", .int 0)])::Z))) :
  Ct E R (Zs ((l, .inst eP d)::(d, .ns [])::Z)) 996 (m+1) [.ref l, .ref c, .int 2, .int 10]:=by
 have sf : ∀ {Z' f x v},f.lookup x=some v->Z'=f->tab.am eP x=true->∀ {L:Loc},L[0]?=some (some (.ref l))->PE L (Zs ((l, .inst eP d)::(d, .ns Z')::Z)) (.am (.aa 0) x) v:=λe ez ea _ a=> .am (.aa a) (zo (i:=0) (j:=1) rfl (ez▸rfl)) ea e
 refine t8 px rfl (cO (.or (.cmp (.aa rfl) .ag .lt) (.or (.cmp (.aa rfl) .ag .lt) (.cmp (.bin (.aa rfl) (.aa rfl) .add) (.am (.am (.aa rfl) (ob _) rfl hd) (od _) rfl hb) .gt))) (bz (cZ.mpr h12)) ?_)
 refine zs (j:=0) (.aa rfl) rfl rfl rfl rfl (zs (j:=0) (.aa rfl) rfl rfl rfl rfl (zs (j:=0) (.aa rfl) rfl rfl rfl rfl (zs (j:=0) (v:= .int 9) (.call (.cons (.bin (.aa rfl) .ag .sub) (.cons (.bin (.bin (.am (.aa rfl) (ob _) rfl hs) .glob (.fdiv (show (4:Int)≠0/\(64:Int).natAbs < 2^60/\(4:Int).natAbs < 2^60 by decide))) .ag .sub) .nil)) .min) rfl rfl rfl rfl ?_)))
 refine zs (j:=0) (v:= .int 9) (.call (.cons (sf rfl rfl rfl rfl) (.cons (.bin (.am (.aa rfl) (ob _) rfl hm) .glob .sub) .nil)) .min) rfl rfl rfl rfl (cO (.cmp (sf rfl rfl rfl rfl) .ag .lt) rfl ?_)
 refine ct (nX (fg (.cmp (.aa rfl) .ag .is) ⟨λ_=>bq (v:= .int 9) (.call (.cons .glob (.cons (sf rfl rfl rfl rfl) .nil)) .min) (cX (.aa rfl) (zt (i:=0) (j:=1) rfl rfl rfl) ?_),nofun⟩))
 refine cO (.not (.ky .ag (sf rfl rfl rfl rfl) (sf rfl rfl rfl rfl) .le .le)) rfl (mP (j:=1) zl rfl (λ_=>rfl) (λ_=>rfl) rfl λnm=>mP (j:=2) zd rfl (λ_=>rfl) (λ_=>rfl) rfl λnt=> ?_)
 exact zs (j:=2) .ag rfl rfl rfl rfl (zs (j:=2) .ag rfl rfl rfl rfl (bj (q nt nm)))
end
theorem KJ : ∀N : Nat,N < 7->2<=N->(Int.fdiv (((15+N : Nat):Int)+512 - 1) 512=1/\(((15+N : Nat):Int)+512 - 1).natAbs < 2^60)/\((15+N : Nat):Int) - 15=N/\¬((15+N : Nat):Int) < 1/\¬(15:Int)≥(15+N : Nat):=by decide +kernel
noncomputable def F7(n:Nat):List Int:=(List.range n).map λi : Nat=>1 * 2^(i:Int).toNat
noncomputable def BP(n:Nat):List Int:=(List.range n).map λi : Nat=>Builtin.bitAnd (Int.fdiv 32767 (2^(8 * (i:Int)).toNat)) 255
theorem Ls : (F7 15).sum=32767:=by decide +kernel
theorem Bv : (BP 64).map (λn:Int=>n.toNat.toUInt8)=bm 0/\(BP 64).all (λn=>decide (0<=n/\n < 256))=true:=by decide +kernel
theorem Bs : ∀i : Nat,i < 64->(0<=(i:Int)/\(i:Int)<=1000/\(1:Int).natAbs < 2^64)/\(8:Int).natAbs < 2^32/\(i:Int).natAbs < 2^32/\0<=8 * (i:Int):=by decide +kernel
section
variable {m i j N:Nat}{R:MV->As->Prop}{T:MF->Loc->As->Prop}{E:Addr->As->Prop}{loc:Loc}{S S':As}{Z P Y:List Cell}{l d D p:LA}{C:Addr}{fs:List (String×MV)}{x:String}{v:MV}{o o':MO}{n nb:Int}{g:En}{σ:MH}
theorem zn{c s:Int}(h:s≠0/\(c+s - 1).natAbs < 2^60/\s.natAbs < 2^60)(q:R (.int ((c+s - 1).fdiv s)) S):Ct E R S 144 (m+1) [.int c, .int s]:=
 df rV (cC (.bin (.bin (.bin (.aa rfl) (.aa rfl) .add) .ag .sub) (.aa rfl) (.fdiv ⟨h.1,h.2.1,h.2.2⟩)) q)
theorem Fh(hN:N < 7/\2<=N)(q:R .none (Zs ((l, .inst eG d)::(d, .ns (Au (15+N : Nat)))::Z))):Ct E R (Zs ((l, .inst eG d)::(d, .ns [])::Z)) 159 (m+2) [.ref l, .int 64, .int (15+N : Nat), .int 4, .int 10, .int 2]:=by
 refine ij (KJ N hN.1 hN.2) λzo0_ a3 a4 a5=> ?_;have a2:=zo0_.2
 have t2 : ∀a b : Nat,a < 1000->b < 1000->(a:Int).natAbs < 2^32/\(b:Int).natAbs < 2^32:=λa b ha hb=>⟨cG ha (by decide),cG hb (by decide)⟩
 have sf : ∀ {Z' f x v},f.lookup x=some v->Z'=f->tab.am eG x=true->∀ {L:Loc},L[0]?=some (some (.ref l))->PE L (Zs ((l, .inst eG d)::(d, .ns Z')::Z)) (.am (.aa 0) x) v:=λe ez ea _ a=> .am (.aa a) (zo (i:=0) (j:=1) rfl (ez▸rfl)) ea e
 refine t8 sx rfl (cO (.or (.cmp (.aa rfl) .ag .lt) (.or (.cmp (.aa rfl) (.bin .glob (.bin .ag (.bin (.aa rfl) .ag .add) (.mul (t2 4 3 (by decide) (by decide)))) .add) .lt) (.cmp (.aa rfl) (.bin .ag .glob (.mul (t2 4 9 (by decide) (by decide)))) .lt))) rfl ?_)
 refine cO (.cmp (.bin (.aa rfl) .glob (.mod (show (16:Int)≠0 by decide))) .ag .ne) rfl (cO (.or (.cmp (.aa rfl) .ag .lt) (.or (.cmp (.aa rfl) .ag .lt) (.cmp (.aa rfl) .ag .lt))) (bz a4) ?_)
 refine zs (j:=0) (.aa rfl) rfl rfl rfl rfl (zs (j:=0) (.aa rfl) rfl rfl rfl rfl (zs (j:=0) (.aa rfl) rfl rfl rfl rfl (zs (j:=0) (.aa rfl) rfl rfl rfl rfl (zs (j:=0) (.aa rfl) rfl rfl rfl rfl ?_))))
 refine zs (j:=0) (v:= .int 24) (.bin .glob (.bin .ag (.bin (.aa rfl) .ag .add) (.mul (t2 4 3 (by decide) (by decide)))) .add) rfl rfl rfl rfl ?_
 refine zs (j:=0) (v:= .int 2) (.bin (.aa rfl) (sf rfl rfl rfl rfl) (.fdiv (show (24:Int)≠0/\(64:Int).natAbs < 2^60/\(24:Int).natAbs < 2^60 by decide))) rfl rfl rfl rfl ?_
 refine zs (j:=0) (v:= .int 16) (.bin (.aa rfl) .ag (.fdiv (show (4:Int)≠0/\(64:Int).natAbs < 2^60/\(4:Int).natAbs < 2^60 by decide))) rfl rfl rfl rfl (zs (j:=0) .glob rfl rfl rfl rfl (zs (j:=0) (v:= .int 12) (.bin .glob (.aa rfl) .add) rfl rfl rfl rfl ?_))
 refine ct (lG (bq (sf rfl rfl rfl rfl) (cr (.cons (.aa rfl) (.cons (sf rfl rfl rfl rfl) .nil)) (zn (by decide) (.mk .add (cX (v:= .int 14) (.aa rfl) (zt (i:=0) (j:=1) rfl rfl rfl) ?_))))))
 refine ct (lG (bq (sf rfl rfl rfl rfl) (cr (.cons (.aa rfl) (.cons (v:= .int 512) (.bin .ag (.aa rfl) (.mul (t2 8 64 (by decide) (by decide)))) .nil)) (zn ⟨by decide,a2,by decide⟩ (zo0_.1.symm▸ .mk .add (cX (v:= .int 15) (.aa rfl) (zt (i:=0) (j:=1) rfl rfl rfl) ?_))))))
 exact cO (.cmp (sf rfl rfl rfl rfl) (.aa rfl) .ge) (bz a5) (bj q)
noncomputable def J9(N:Nat):List Nat:=[270544960,15+N,N,4,10,2,12,14,2]
theorem m_words(hN:N < 7/\2<=N)(ob:Obj (Zs Z) p eG (Au (15+N : Nat)))(q:∀r,R (.ref r) (Zs ((r, .list ((J9 N).map ed))::Z))):Ct E R (Zs Z) 180 (m+1) [.ref p]:=by
 have at_ : ∀ {y v} {L:Loc},L[0]?=some (some (.ref p))->(Au (15+N : Nat)).lookup y=some v->tab.am eG y=true->PE L (Zs Z) (.am (.aa 0) y) v:=λa e e2=> .am (.aa a) ob e2 e
 refine dh qS (gy (PE.eq (.bin (at_ rfl rfl rfl) (at_ rfl rfl rfl) .sub) (ah MV.int (KJ N hN.1 hN.2).2.1)) rfl (eX (dz (c7 ?_ ⟨aj rfl,Zs.new,q⟩))))
 exact .cons .glob (.cons (at_ rfl rfl rfl) (.cons (.aa rfl) (.cons (at_ rfl rfl rfl) (.cons (at_ rfl rfl rfl) (.cons (at_ rfl rfl rfl) (.cons (at_ rfl rfl rfl) (.cons (at_ rfl rfl rfl) (.cons (at_ rfl rfl rfl) .nil))))))))
theorem HK{a:IR}{R:It->As->Prop}(h:We E S loc (λv S1=>pQ (λl=>v= .ref l) λl=>pQ (λvs=>dP S1 l (.list vs)/\vs.length<=100000) λvs=>R (.nT l 0) S1) (dn m a).e):We E S loc R (dn m (.enum a)).it:=
 λσ s _ X k x=>h σ s _ X (λv σ1 S1 s1 zz=>by obtain⟨e,e1,q⟩:=zz;subst e;exact .mk (e1.1 σ1 s1) e1.2 (k _ σ1 S1 s1 q)) x
structure Pin(p:LA)(nb:Int)(Z:List Cell):Prop where
 e : ∃d,(p, .inst eG d)∈Z/\(d, .ns (Au nb))∈Z
theorem Pin.ob(h:Pin p nb Z):Obj (Zs Z) p eG (Au nb):=let ⟨_,a,b⟩:=h.e;Zs.obj a b
theorem Pin.cons{q:Cell}(h:Pin p nb Z):Pin p nb (q::Z):=let ⟨_,a,b⟩:=h.e;⟨_, .tail _ a, .tail _ b⟩
theorem Bg(hN:N < 7/\2<=N)(hp:Pin p (15+N : Nat) Z)(q:∀o : List UInt8,o.length=64->R (.bytes o) (Zs Z)):Ct E R (Zs Z) 187 (m+3) [.ref p]:=by
 refine dh pu (de rfl (cV (c7 (.cons (.am (.aa rfl) hp.ob rfl rfl) .nil) (B4 (show _/\_ by decide) Zs.new λr=> ?_))))
 refine s0 (HK (bT (.aa rfl) hp.cons.ob rfl rfl .nil (m_words hN hp.cons.ob λw=> .mk rfl (.mk ⟨zh (i:=0) rfl,aj rfl⟩ (.mk 10 rfl ?_)))))
 refine lI (it:=λi=> .nT w i) (L:=9) (I:=λi loc S=>Fr [some (.ref p),some (.ref r)] 2 loc/\∃b : List UInt8,b.length=64/\S=Zs ((w, .list ((J9 N).map ed))::(r, .bW b)::Z)) ?_ ?_ _ 0 _ _ (bZ _) ⟨.of rfl rfl,_,rfl,rfl⟩
 ·rintro i loc S hi ⟨⟨x⟩,b,hb,rfl⟩
  obtain⟨z,ez⟩ : ∃z,(J9 N)[i]?=some z:=⟨_,ay ((hi))⟩
  have t1 : (4:Int).natAbs < 2^32/\(i:Int).natAbs < 2^32:=⟨by decide,(Bs i (cG hi (by decide))).2.2.1⟩
  refine .mk (rh (zh (i:=0) rfl) (by refine (bc).trans ?_;exact ah _ ez)) (t2 rfl rfl (bY (cr (.cons (.aa rfl) (.cons (.bin .ag (.aa rfl) (.mul t1)) (.cons (.aa rfl) .nil))) (jc (show Ba (λb=>Zs ((w, .list ((J9 N).map ed))::(r, .bW b)::Z)) r from ⟨λb=>zh (i:=1) rfl,λb b'=>Zs.set (i:=1) rfl⟩) z (4 * i) rfl rfl (by exact Nat.lt_of_lt_of_eq (az (bD (dq _ (bH hi)) _) (by decide)) hb.symm) (hb▸by decide) (bj ⟨.of rfl rfl,_,(t7 ..).trans hb,rfl⟩)))))
 ·rintro loc S ⟨⟨x⟩,b,hb,rfl⟩
  exact⟨nA (vs:=(J9 N).map ed) (zh (i:=0) rfl),oH (.call (.cons (.aa rfl) .nil) (.oP (zh (i:=1) rfl) (hb▸aj rfl))) (λ_ s=>Zs.sub s (.cons _ (.cons _ (.refl _)))) (q b hb)⟩
theorem El.zs{a ak al:LA}:El nb a ak al λv=>Zs (Aq a d ak al nb v Z) where
 ob v:=zo (i:=3) (j:=4) rfl rfl
 kept v:=zh (i:=2) rfl
 Ji v:=zh (i:=1) rfl
 un v:=zh (i:=0) rfl
 Mr v i:=zt (C:=jB) (D:=d) (fs:=v.ns nb ak al) (i:=3) (j:=4) rfl rfl rfl
 Mx v i:=zt (C:=jB) (D:=d) (fs:=v.ns nb ak al) (i:=3) (j:=4) rfl rfl rfl
 Jl v n o:=by have:=Zs.set (Z:=Aq a d ak al nb v Z) (i:=1) (o':= .bS (gW (dk v.d .bytes v.lk) n (.bytes o))) rfl;rw[qc] at this ⊢;exact this
 Eg v n o:=by have:=Zs.set (Z:=Aq a d ak al nb v Z) (i:=2) (o':= .bS (gW (dk v.e .bytes v.kk) n (.bytes o))) rfl;rw[qc] at this ⊢;exact this
 Mu v n o:=by have:=Zs.set (Z:=Aq a d ak al nb v Z) (i:=0) (o':= .list (v.ch.map lN++[.tup [.int n, .bytes o]])) rfl;rw[show v.ch.map lN++[.tup [.int n, .bytes o]]=(v.ch++[(n,o)]).map lN from (aY (f:=lN) (l₂:=[(n,o)])).symm] at this ⊢;exact this
 Hj v:=⟨_,Zs.new,λr σ z=>by refine iR (zt (x := "unflushed") (v:= .ref r) (i:=4) (j:=5) rfl rfl rfl σ z) λC D fs h z=> ?_;exact⟨C,D,fs,h,Zs.sub z (.cons_cons _ (.cons _ (.refl _)))⟩⟩
end
section
variable {m i j N:Nat}{R:MV->As->Prop}{T:MF->Loc->As->Prop}{E:Addr->As->Prop}{loc:Loc}{S S':As}{Z P Y:List Cell}{l d D p:LA}{C:Addr}{fs:List (String×MV)}{x:String}{v:MV}{o o':MO}{n nb:Int}{g:En}{σ:MH}
theorem sX{α:Type}{f:Nat->α}:(List.range (i+1)).map f=(List.range i).map f++[f i]:=by rw[List.range_succ,aY];rfl
theorem Gn(hN:N < 7/\2<=N)(hp:Pin p (15+N : Nat) Z)(q:∀a d ak al u o r,o.length=64->R (.ref a) (Zs (Aq a d ak al (15+N : Nat) ((((Dd.v0 u).put 1 o).put 14 (bm 0)).fld r) Z))):Ct E R (Zs Z) 1092 (m+4) [.ref p]:=by
 have b15 : (15:Int)<=(15+N : Nat):=aW.mpr (a9 15 N)
 refine dh wl (de rfl (cr (.cons (.am (.aa rfl) hp.ob rfl rfl) (.cons .ag .nil)) (im rfl rfl Zs.pN λa d=>CF (bp (by decide) b15) λu al ak=>⟨rfl, ?_⟩)))
 have D : El (15+N : Nat) a ak al λv=>Zs (Aq a d ak al (15+N : Nat) v Z):=El.zs
 have pl : ∀ {v},Pin p (15+N : Nat) (Aq a d ak al (15+N : Nat) v Z):=hp.cons.cons.cons.cons.cons
 refine bY (cM (.aa rfl) (mT (D.ob (.v0 u)) rfl rfl) (bk (bq .ag (bk (bT (.aa rfl) (pl (v:= .v0 u)).ob rfl rfl .nil (Bg hN pl λo ho=>cm (er (uf D (⟨by decide,aN (by decide) b15⟩) ho ⟨bC _,bC _⟩ ?_))))))))
 have hv : ((Dd.v0 u).put 1 o).lk.length<=1000/\((Dd.v0 u).put 1 o).ch.length<=1000/\(((Dd.v0 u).put 1 o).put 14 (bm 0)).ch.length<=1000/\(((Dd.v0 u).put 1 o).put 14 (bm 0)).kk.length<=1000:=⟨aj rfl,aj rfl,aj rfl,aj rfl⟩
 generalize hq : (Dd.v0 u).put 1 o=v1 at *
 have drop : ∀ {q:Cell} {v},Le (Zs (q::Aq a d ak al (15+N : Nat) v Z)) (Zs (Aq a d ak al (15+N : Nat) v Z)):=λ_ z=>Zs.sub z (.cons _ (.refl _))
 refine de rfl (cV (bk (fT (it:=g6 0 1 15) (L:=15) (I:=λi acc loc S=>acc=(F7 i).map .int/\Fr [] 1 loc/\S=Zs (Aq a d ak al (15+N : Nat) v1 Z)) (iX (.cons (.am (.aa rfl) (pl (v:=v1)).ob rfl rfl) .nil) (show _/\_ by decide) ⟨rfl,rfl, .of rfl rfl,rfl⟩) rfl ?_ ?_)))
 ·rintro i acc loc S hi ⟨rfl,⟨y⟩,rfl⟩
  have b:=Bs i (cG hi (by decide))
  exact⟨by rw[aq,F7,aq,d8];exact ad (aL hi) (by decide), .mk (kF hi) (bR rfl (fS ⟨λ_=>bq (.bin .ag (.aa rfl) (.shl b.1)) ⟨by unfold F7;rw[sX,aY];rfl, .of rfl rfl,rfl⟩,nofun⟩))⟩
 rintro acc loc S ⟨rfl,_,rfl⟩
 refine⟨gu, .mk Zs.new λr=>cm (Mj (.sum (zh (i:=0) rfl) gO) ?_)⟩
 refine fM drop (bY (cM (.aa rfl) (mT (D.ob v1) rfl rfl) (bk (bq (.am (.aa rfl) (pl (v:=v1)).ob rfl rfl) (bk (cV (bk (fT (it:=g6 0 1 64) (L:=64) (I:=λi acc loc S=>acc=(BP i).map .int/\(∃y,loc=[y,some (.int 32767)])/\S=Zs (Aq a d ak al (15+N : Nat) v1 Z)) (iX (.cons .ag .nil) (show _/\_ by decide) ⟨rfl,rfl,⟨_,rfl⟩,rfl⟩) rfl ?_ ?_))))))))
 ·rintro i acc loc S hi ⟨rfl,⟨y,rfl⟩,rfl⟩
  have b:=Bs i hi
  exact⟨by rw[aq,BP,aq,d8];exact ad (aL hi) (by decide), .mk (kF hi) (bR rfl (fS ⟨λ_=>bq (.bin (.bin (.aa rfl) (.bin .ag (.aa rfl) (.mul ⟨b.2.1,b.2.2.1⟩)) (.shr b.2.2.2)) .ag .band) ⟨by unfold BP;rw[sX,aY];rfl,⟨_,rfl⟩,rfl⟩,nofun⟩))⟩
 rintro acc loc S ⟨rfl,_,rfl⟩
 refine⟨gu, .mk Zs.new λr=>cm (n6 (zh (i:=0) rfl) (by decide) gO (λn hn=>aF (List.all_eq_true.mp Bv.2 n hn)) ?_)⟩
 refine ae Bv.1▸ ?_
 refine tX drop (cm (er (uf D (⟨by decide,aN (by decide) b15⟩) ke ⟨hv.1,hv.2.1⟩ ?_)))
 exact bY (bT (.aa rfl) (D.ob _) rfl rfl .nil (zi D ⟨hv.2.2.1,hv.2.2.2⟩ λr=>cC (.aa rfl) (hq▸q a d ak al u o r ho)))
end
section
variable {m i j N:Nat}{R:MV->As->Prop}{T:MF->Loc->As->Prop}{E:Addr->As->Prop}{loc:Loc}{S S':As}{Z P Y:List Cell}{l d D p:LA}{C:Addr}{fs:List (String×MV)}{x:String}{v:MV}{o o':MO}{n nb:Int}{g g':En}{σ:MH}{s:Ck}{F:List Cell}{X:List Int}{h:Lo g}
structure Bt(nb:Int)(v:Dd):Prop where
 kk : v.kk=v.lk
 e : v.e=v.d
 un : v.ch=[]
 nd : v.lk.Nodup
 lr : ∀n∈v.lk,0<=n/\n < nb
 l0 : ∀n,n∉v.lk->v.d n=zeros
 len : ∀n,(v.d n).length=64
noncomputable def U0(g:En)(F:List Cell):List Cell:=(g.a 13, .inst eG (g.a 14))::(g.a 14, .ns (Au g.nb))::(g.a 15, .inst jX (g.a 16))::(g.a 16, .ns (KM g))::(g.a 17, .bS [])::(g.a 21, .inst oN (g.a 22))::(g.a 22, .ns [("nodes", .ref (g.a 15))])::F
noncomputable def Lo.of(g:En)(v:Dd)(nm nt:LA):Lo g:=⟨v.kk,v.e,v.lk,v.d,v.un,v.ch,v.wr,v.fl,[],[],λ_=>⟨.tm 0, .tm 0, .tm 0⟩,none,[],v.d,0,0,0,nm,[],nt,[],0,0⟩
theorem Lo.KT{v:Dd}{nm nt:LA}(f:Bt g.nb v)(nb:g.nb<=21):Jn ⟨v.d,[],0⟩ none (Lo.of g v nm nt) where
 ok:=⟨List.nodup_nil, .refl _,nofun,bC _,nofun,List.nodup_nil,bC _,nofun,λ_ _ _=>rfl,f.l0,λn=>⟨f.len n,f.len n⟩⟩
 hh:=rfl
 cv:=⟨λ_ _=>rfl,rfl,rfl,rfl,rfl,(ah (λu=>(u.map (·.1)).foldl ins v.kk) f.un).trans f.kk,(ah (λu=>u.foldl (λf p=>upd f p.1 p.2) v.e) f.un).trans f.e,f.nd,f.lr,(by refine ae (show (Lo.of g v nm nt).vw.kk=v.lk from f.kk)▸ ?_;exact LY f.nd f.lr nb),aw (ah List.length f.un),nofun⟩
noncomputable abbrev vZ(X P:IR):IR:= .call "Paths" (.ref 659) (.cons (.call "Nodes" (.ref 453) (.cons (.call "Journal" (.ref 1083) (.cons (.call "Cache" (.ref 874) (.cons X (.cons (.ag (.int 14)) .nil))) (.cons (.ag (.int 2)) (.cons (.ag (.int 10)) .nil)))) (.cons P .nil))) .nil)
theorem Gu{α:Type}{q:_root_.Internal.P α}{R R':α->As->Prop}(h:We E S loc R' q)(k:∀v S,R' v S->R v S):We E S loc R q:=λσ s Q X kk x=>h σ s Q X (λa σ' S' s' r=>kk a σ' S' s' (k a S' r)) x
theorem B8{a:IR}{vs:List MV}{f:Value}(h:PL loc S a vs)(q:We E S loc R (eM m f (v::vs))):We E S loc (λws S1=>We E S1 loc R (eM m f (v::ws))) (_root_.Internal.P.gT (dn m a).ms):=c7 h q
theorem Ds{k:Nat}(idx:List Nat)(hi:(idx.isPerm (List.range k)&&Nat.ble k F.length)=true):F.Perm (idx.map (λi=>F.getD i (.tm 0, .list []))++F.drop k):=by
 have hi:=an.mp hi
 have : F.take k=(List.range k).map λi=>F.getD i (.tm 0, .list []):=List.ext_getElem (by rw[aq,d8];refine (bK).trans ?_;exact (Nat.min_eq_left (aj hi.2))) λi h1 h2=>by
  refine (List.getElem_take).trans ?_;rw[List.getElem_map,List.getElem_range,aR,ay];rfl
 have e : F.Perm (F.take k++F.drop k):= .of_eq (List.take_append_drop k F).symm
 rw[this] at e
 exact e.trans (((List.isPerm_iff.mp hi.1).map _).symm.append_right _)
inductive IQ(A:LA->(Int->List UInt8)->Prop)(nb:Int)(Z:List Cell):MV->As->Prop
 |mk {v:Dd}{a d ak al:LA}(f:Bt nb v)(ha:A a v.d):IQ A nb Z (.ref a) (Zs (Aq a d ak al nb v Z))
theorem yj{A:LA->(Int->List UInt8)->Prop}{pd:LA}{X P:IR}(e:nb=(15+N : Nat))(h21:nb<=21)(hP:∀Z,PE loc (Zs Z) P (.ref p))(hX:We E S loc (IQ A nb ((p, .inst eG pd)::(pd, .ns (Au nb))::F)) (dn (m+2) X).e)
  (q:∀ (g:En) c,g.nb=nb->A (g.a 0) c->g.a 13=p->∀S',Le S' (Js g ⟨c,[],0⟩ (U0 g F))->R (.ref (g.a 21)) S'):We E S loc R (dn (m+2) (vZ X P)).e:=by
 refine cV (bk (cV (bk (cV (bk (cV (bk (Gu hX λu S' r=> ?_))))))))
 cases r with | @mk w a d ak al f ha=>
 refine B8 (.cons .ag .nil) (er (im rfl rfl Zs.pN λcl cd=> ?_))
 refine FM (fs:=w.ns nb ak al) (λ_=>zo (i:=5) (j:=6) rfl rfl) rfl λby_ row=>⟨rfl,B8 (.cons .ag (.cons .ag .nil)) (er (im rfl rfl Zs.pN λjl jd=> ?_))⟩
 refine Ad (nb:=nb) (λ_=>zo (i:=4) (j:=5) rfl rfl) (λ_=>zo (i:=9) (j:=10) rfl rfl) rfl rfl rfl rfl (e▸aW.mpr (ad (by decide) (a9 15 N))) λnt nm=>⟨rfl,B8 (.cons (hP _) .nil) (er (im rfl rfl Zs.pN λno nod=> ?_))⟩
 refine E4 (λ_=>zo (i:=4) (j:=5) rfl rfl) rfl λtb=>⟨rfl,cm (er (im rfl rfl Zs.pN λpw pwd=>EJ ⟨rfl,q ⟨λi=>[a,d,ak,al,a,cl,cd,row,by_,jl,jd,a,a,p,pd,no,nod,tb,a,a,a,pw,pwd].getD i a,nb⟩ w.d rfl ha rfl _ λσ z=>⟨Lo.of _ w nm nt,Lo.KT f h21, ?_⟩⟩))⟩
 exact Zs.perm z ((Ds (k:=20) [16,17,15,14,13,11,12,10,9,7,8,6,5,18,19,3,4,2,0,1] rfl).trans (.append_left (Lo.of (g:=⟨λi=>[a,d,ak,al,a,cl,cd,row,by_,jl,jd,a,a,p,pd,no,nod,tb,a,a,a,pw,pwd].getD i a,nb⟩) w nm nt).objs (.of_eq (cK _).symm)))
noncomputable abbrev En.nd(g:En)(l d p:LA):En:=⟨λi=>if i=18 then l else if i=19 then d else if i=20 then p else g.a i,g.nb⟩
theorem Js.nd{l d p:LA}:Le (Js g s F) (Js (g.nd l d p) s F):=λσ ⟨h,p,z⟩=>
 ⟨⟨h.kk,h.e,h.lk,h.d,h.un,h.ch,h.wr,h.fl,h.row,h.ks,h.bn,h.hold,h.pins,h.c,h.hits,h.rd,h.cw,h.nm,h.nums,h.nt,h.nd,h.calls,h.D9⟩,⟨⟨p.ok.nd,p.ok.ks,p.ok.jK,p.ok.most,p.ok.pin,p.ok.D7,p.ok.pl,p.ok.sI,p.ok.cl,p.ok.Em,p.ok.len⟩,p.hh,⟨p.cv.c,p.cv.ns,p.cv.nd,p.cv.pins,p.cv.k,p.cv.sk,p.cv.se,p.cv.ln,p.cv.lr,p.cv.kl,p.cv.un,p.cv.wr⟩⟩,z⟩
inductive Lx(g:En):LA->Addr->List (String×MV)->Prop where
 |p : Lx g (g.a 13) eG (Au g.nb)
 |n : Lx g (g.a 15) jX (KM g)
 |w : Lx g (g.a 21) oN [("nodes", .ref (g.a 15))]
theorem Lw.u0(u:Lx g l C fs):Obj (Lw h (U0 g F)) l C fs:=by
 induction u with
 |p=>exact Lw.kx (i:=0) rfl rfl
 |n=>exact Lw.kx (i:=2) rfl rfl
 |w=>exact Lw.kx (i:=5) rfl rfl
theorem Az(h21:17<=g.nb)(e:Le S (Js g s (U0 g F)))(hc:s.c 12=zeros)(q:∀S',Le S' (Js g s (U0 g F))->R (.tup [.int 0, .int 0]) S'):Ct E R S 325 (m+4) [.ref (g.a 15), .int 1]:=by
 refine e9 e λh p=>df ou (ct (bT (.am (.aa rfl) (Lw.u0 .n) rfl rfl) (Lw.u0 .p) rfl rfl (.cons (.aa rfl) .nil) (tT (Lw.u0 .p) (t2 rfl rfl ?_))))
 refine de rfl (bT (.am (.aa rfl) (Lw.u0 .n) rfl rfl) (Lw.obj .c) rfl rfl (.cons (.aa rfl) .nil) (BK (Vs.at p) (⟨by decide,aN (by decide) h21⟩) λh p=> ?_))
 refine de rfl (ot (bk (cr (.cons (eF rfl p.j) (.cons (.aa rfl) .nil)) (gC (.r (has_data (G:=U0 g F) p.j (by decide) hc)) 24 rfl (by decide) (by decide) (bk (cr (.cons (eF rfl p.j) (.cons (.bin (.aa rfl) .ag .add) .nil)) (gC (.r (has_data (G:=U0 g F) p.j (by decide) hc)) 30 rfl (by decide) (by decide) (cm ⟨rfl, ?_⟩))))))))
 exact bY (bT (.am (.aa rfl) (Lw.u0 .n) rfl rfl) (Lw.obj .c) rfl rfl (.cons (.aa rfl) .nil) (oM p λS' e=>cC (.aa rfl) (q S' e)))
theorem Lw.zs{A:List Cell}:Le (Lw h (A++F)) (Zs (A++(h.objs++(F++h.fF)))):=λσ z=>Zs.perm z ((List.Perm.append_left _ (.of_eq (aH ..))).trans (List.perm_append_comm_assoc ..))
theorem Lw.sz{A:List Cell}:Le (Zs (A++(h.objs++(F++h.fF)))) (Lw h (A++F)):=λσ z=>Zs.perm z ((List.perm_append_comm_assoc ..).trans (.append_left _ (.of_eq (aH ..).symm)))
theorem DP{no:LA}(q:∀pl,R .none (Zs ((pl, .list [])::(l, .inst lg d)::(d, .ns [("nodes", .ref no),("number", .int 1),("holders", .int 1),("kind", .int 0),("major", .int 0),("minor", .int 0),("links", .int 0),("size", .int 0),("places", .ref pl)])::Z))):Ct E R (Zs ((l, .inst lg d)::(d, .ns [])::Z)) 222 (m+1) [.ref l, .ref no, .int 1]:=by
 refine fH tK (zs (j:=0) (.aa rfl) rfl rfl rfl rfl (zs (j:=0) (.aa rfl) rfl rfl rfl rfl (zs (j:=0) .ag rfl rfl rfl rfl (zs (j:=0) .glob rfl rfl rfl rfl ?_))))
 exact zs (j:=0) .ag rfl rfl rfl rfl (zs (j:=0) .ag rfl rfl rfl rfl (zs (j:=0) .ag rfl rfl rfl rfl (zs (j:=0) .ag rfl rfl rfl rfl (mP (j:=1) zl rfl (λ_=>rfl) (λ_=>rfl) rfl λpl=>bj (q pl)))))
end
section
variable {m i j N:Nat}{R:MV->As->Prop}{T:MF->Loc->As->Prop}{E:Addr->As->Prop}{loc:Loc}{S S':As}{Z P Y:List Cell}{l d D p:LA}{C:Addr}{fs:List (String×MV)}{x y:LA}{v:MV}{vs:List MV}{o o':MO}{n nb:Int}{g g':En}{σ:MH}{s:Ck}{F:List Cell}{X:List Int}{h:Lo g}{a b t:IR}
theorem F2{it it':It}(h:rO S it (some (v,it')))(g:Wp E S loc (λ_ l S1=>Wp E S1 l (bd (λl S=>Wf m t b N it' l S T E) T) (dn m b).s) ((dn m t).t v)):Wf m t b (N+1) it loc S T E:=λσ s Q X kk x=>by
 refine .turn (h σ s) (g σ s _ X (λ_ l1 σ1 S1 s1 g=>g σ1 s1 _ X (λf l2 σ2 S2 s2 g=> ?_) x) x)
 cases f with
 |next=>exact g σ2 s2 Q X kk x
 |cont=>exact g σ2 s2 Q X kk x
 |brk=>exact kk _ _ σ2 S2 s2 g
 |ret v=>exact kk _ _ σ2 S2 s2 g
theorem Gb{S1:LA->As}(h:We E S loc (λv S1=>∃k vs w S2,(v= .ref k/\dP S1 k (.list vs)/\PE loc S1 b (.int w)/\(0<=w/\w<=1000/\vs.length<=64/\vs≠[])/\pX S1 (.list (List.replicate w.toNat vs).flatten) S2)/\∀r,R (.ref r) (S2 r)) (dn m a).e):We E S loc R (dn m (.bin .Mult a b)).e:=
 λσ s Q X kk x=>h σ s _ X (λv σ1 S1 s1 z=>by
  refine wY z λ_ _ _ S2 zo4_ q=> ?_;refine Hy zo4_ λe g hb c nw=> ?_
  subst e;exact hb.ok s1 ((by refine aT (nw σ1 s1) λr hr z=> ?_;exact .mulL (g σ1 s1) c hr (kk _ _ _ z (q r))))) x
theorem Lw.Ee{k:Nat}(idx:List Nat)(hi:(idx.isPerm (List.range k)&&Nat.ble k F.length)=true)(z:Lw h F σ):Lw h (idx.map (λi=>F.getD i (.tm 0, .list []))++F.drop k) σ:=Lw.perm z (Ds idx hi)
theorem xd(Z:Zo g X s)(e:Le S (Js g s (U0 g F)))(hc:s.c 12=zeros)(q:∀l d p S',Le S' (Js (g.nd l d p) (s.set 12 (f9 (s.c 12) 24 (jw 0 0 (pl 0)))) (Up (g.nd l d p) 0 0 (pl 0) F))->R (.ref l) S'):Ct E R S 340 (m+5) [.ref (g.a 15), .int 1]:=by
 refine e9 e λh p=>t8 mK rfl (cO (.cmp (.aa rfl) (.tup (.cons .glob (.cons .glob (.cons .glob .nil))) (aj rfl)) (.Ln rfl)) rfl ?_)
 refine s0 (yT (.cons .ag (.cons (.am (.am (.aa rfl) (Lw.u0 .n) rfl rfl) (Lw.u0 .p) rfl rfl) .nil)) (show _/\_ by decide) (.mk 1 rfl (F2 (λσ _=> .jK (by decide)) (bR rfl ?_))))
 refine s7 (io (u8 (bT (.aa rfl) (Lw.u0 .n) rfl rfl (.cons (.aa rfl) .nil) (Az Z.ok.nb.2 (Vs.at p) hc λS' e=>bq .ag (.mk (L9 rfl) (bq .glob (.mk .lD ⟨λ_=>dR e λh p=> ?_,nofun⟩)))))))
 refine de rfl (cr (.cons (.aa rfl) (.cons (.aa rfl) .nil)) (im rfl rfl Lw.pN λl d=> ?_))
 refine pW (Lw.zs (A:=[(l, .inst lg d),(d, .ns [])])) (DP λp0=>⟨rfl, ?_⟩)
 refine fM (Lw.sz (A:=[(p0, .list []),(l, .inst lg d),(d, .ns [("nodes", .ref (g.a 15)),("number", .int 1),("holders", .int 1),("kind", .int 0),("major", .int 0),("minor", .int 0),("links", .int 0),("size", .int 0),("places", .ref p0)])])) ?_
 refine ct (bq (.tup (.cons (.aa rfl) (.cons (.aa rfl) (.cons (.aa rfl) .nil))) (aj rfl)) (jg rfl (c8 (cX (.aa rfl) (Lw.kT (i:=1) (j:=2) rfl rfl rfl rfl) (c8 (cX (.aa rfl) (Lw.kT (i:=1) (j:=2) rfl rfl rfl rfl) (c8 (cX (.aa rfl) (Lw.kT (i:=1) (j:=2) rfl rfl rfl rfl) (i8 ?_)))))))))
 refine ct (Gb (S1:=λ_=>S) (dz (c7 (.cons .ag .nil) ⟨aj rfl,Lw.new,λr1=>⟨r1,_,_,_,⟨rfl,Lw.cH (i:=0) rfl, .bin (.am (.am (.aa rfl) (Lw.kx (i:=6) rfl rfl) rfl rfl) (Lw.kx (i:=4) rfl rfl) rfl rfl) .ag .add,⟨by decide,by decide,aj rfl,nofun⟩,Lw.new⟩,λr=> ?_⟩⟩)))
 refine cX (.aa rfl) (Lw.kT (i:=3) (j:=4) rfl rfl rfl rfl) (ct (bq (.aa rfl) (dW (.am (.aa rfl) (Lw.kx (i:=7) rfl rfl) rfl rfl) (.aa rfl) (Lw.cH (i:=9) rfl) (.dI (aj rfl)) (Lw.jJ (i:=9) rfl rfl) ?_)))
 refine fM (S1:=Js (g.nd l d r) s (Up (g.nd l d r) 0 0 (pl 0) F)) (λσ z=>Js.nd σ ⟨h,p,Lw.Ee (k:=10) [3,4,5,6,7,1,2,0,8,9] rfl (Lw.sub z (.cons_cons _ (.cons _ (.cons _ (.refl _)))))⟩) (dR (λ_ z=>z) λh p=> ?_)
 exact bY (bT (.aa rfl) (Lw.up (g:=g.nd l d r) .n) rfl rfl (.cons (.aa rfl) .nil) (wn (g:=g.nd l d r) rfl ⟨⟨Z.ok.nb,Z.ok.nd,Z.ok.rg,Z.ok.ln⟩,Z.sub,Z.xl,Z.k⟩ (Vs.at p) λ_ S' e=>cC (.aa rfl) (q l d r S' e)))
end
section
variable {m i j N:Nat}{R:MV->As->Prop}{T:MF->Loc->As->Prop}{E:Addr->As->Prop}{loc:Loc}{S S':As}{l d r x:LA}{n nb:Int}{g g':En}{s:Ck}{F:List Cell}{X:List Int}{h:Lo g}{sz:Nat}{ps:List Nat}
theorem Lw.K6{v:Nat}:wm (Lw h (Up g 0 sz ps F)) (g.a 18) "links" (.int v) (Lw h (Up g v sz ps F)):=Lw.kT (i:=5) (j:=6) rfl rfl rfl rfl
theorem Zo.nd(Z:Zo g X s):Zo (g.nd l d r) X s:=⟨⟨Z.ok.nb,Z.ok.nd,Z.ok.rg,Z.ok.ln⟩,Z.sub,Z.xl,Z.k⟩
theorem ID(nb:g.nb=(15+N : Nat))(hN:2<=N/\N < 7)(hk:s.k=0)(ns:s.ns=[])(hc:s.c 12=zeros)(hb:s.c 14=bm 0)(e:Le S (Js g s (U0 g F)))
  (q:∀l d r s' S',Rest (g.nd l d r) N [some 0,some 1] 1 s'->Le S' (Js (g.nd l d r) s' (gR (g.nd l d r) [some 0,some 1] 1 F))->R (.ref l) S'):Ct E R S 1099 (m+13) [.ref (g.a 21)]:=by
 refine e9 e λh p=>dh wf ?_
 refine bY (bT (.am (.am (.aa rfl) (Lw.u0 .w) rfl rfl) (Lw.u0 .n) rfl rfl) (Lw.obj .j) rfl rfl .nil (yN (p.cv.ns.trans ns) (p.cv.k.trans hk) ?_))
 have p1 : Jn { s with k:=1 } none (h.kz 1):=⟨{ p.ok with },p.hh,{ p.cv with k:=rfl }⟩
 have n17 : g.nb<=21/\17<=g.nb:=nb▸⟨aW.mpr (bH (Nat.add_lt_add_left hN.2 15)),aW.mpr (bb hN.1 15)⟩
 have Z : Zo g [15] { s with k:=1 }:=⟨⟨n17,ns▸List.nodup_nil,λn m=>(by rw[show s.ns=[] from ns] at m;cases m),by refine ae (show s.ns=[] from ns)▸ ?_;decide⟩,λn m=>(by rw[show s.ns=[] from ns] at m;cases m),by decide,rfl⟩
 have W : Wo 0 (DS []) { s with k:=1 }:=⟨hb,nofun,λi _ h=>by unfold need at h;split at h<;>cases h⟩
 refine de rfl (bT (.am (.aa rfl) (Lw.u0 .w) rfl rfl) (Lw.u0 .n) rfl rfl (.cons .glob .nil) (xd Z (Vs.at p1) hc λl d r S' e=>dR e λh p=> ?_))
 have Z:=(Z.set (n:=12) (b:=f9 (s.c 12) 24 (jw 0 0 (pl 0))) ⟨by decide,aN (by decide) n17.2⟩ (.head _)).nd (l:=l) (d:=d) (r:=r)
 have W:=W.up (d:=f9 (s.c 12) 24 (jw 0 0 (pl 0)))
 refine ct (bq .ag (cX (.aa rfl) (Lw.K6 (v:=1)) ?_))
 refine bY (bT (.aa rfl) (Lw.up (g:=g.nd l d r) .d) rfl rfl .nil (dh qr (bY (bT (.am (.aa rfl) (Lw.up (g:=g.nd l d r) .d) rfl rfl) (Lw.up (g:=g.nd l d r) .n) rfl rfl (.cons (.aa rfl) .nil) (Gl (t:=0) Z W (Vs.at p) λs1 S' Z W rw e=>bj (dR e λh p=> ?_))))))
 have w : Wd (g.nd l d r) N [] 0 s1:=⟨⟨nb,bC _⟩,hN.2,by decide,W,rw,nofun,by decide,rfl⟩
 refine bY (bT (.aa rfl) (Lw.up (g:=g.nd l d r) .w) rfl rfl (.cons (.aa rfl) (.cons .ag (.cons .ag .nil))) (w3 (k:=0) w Z p (by decide) (by decide) (.head _) ((λZ=>ad Z.len (by decide)) Z) (λ_ s2 t2 S' ht Z w e=> ?_) nofun λ_ h2=>absurd (ad hN.1 (bH h2)) (by decide)))
 refine dw (ht.resolve_left λz=>absurd z.1 (by decide)) λ_ zr1_=> ?_;subst zr1_
 refine dR e λh p=>bY (bT (.aa rfl) (Lw.up (g:=g.nd l d r) .w) rfl rfl (.cons (.aa rfl) (.cons .ag (.cons .ag .nil))) (w3 (k:=1) (sl:=[some 0]) (t:=1) w Z p (by decide) (by decide) (.head _) ((λZ=>ad Z.len (by decide)) Z) (λ_ s3 t3 S' ht Z w e=> ?_) (λhn=>absurd hn (by decide)) λ_ h2=>absurd (ad hN.1 (bH h2)) (by decide)))
 refine dw (ht.resolve_right λz=>absurd z.1.1 (by decide)) λ_ zr1_=> ?_;subst zr1_
 refine dR e λh p=>bY (bT (.am (.am (.aa rfl) (Lw.up (g:=g.nd l d r) .w) rfl rfl) (Lw.up (g:=g.nd l d r) .n) rfl rfl) (Lw.obj (g:=g.nd l d r) .j) rfl rfl .nil (GG Z.ok Z.k (Vs.at p) λS' e=>cC (.aa rfl) (q l d r { s3 with ns:=[],k:=0 } S' ⟨w.of rfl,⟨Z.ok.nb,List.nodup_nil,nofun,bC _⟩,rfl,rfl,[],rfl,nofun⟩ e)))
end
section
variable {m i j N:Nat}{R:MV->As->Prop}{T:MF->Loc->As->Prop}{E:Addr->As->Prop}{loc:Loc}{S:As}{Z:List Cell}{l d r x:LA}{n nb:Int}{g g':En}{s:Ck}{F:List Cell}{X:List Int}{h:Lo g}{sz:Nat}{ps:List Nat}{a:IR}
theorem zK{S':LA->As}(h:PE loc S a (.int 0))(nw:pX S (.list []) S')(q:∀r,R (.ref r) (S' r)):We E S loc R (dn m (.mz a)).e:=λσ s _ _ k _=>h.ok s ((by refine aT (nw σ s) λ_ hr z=> ?_;exact .mk hr (k _ _ _ z (q _))))
theorem zm{S':LA->As}{es:List (Int×MV)}(e:dP S l (.bS es))(hl:es.length<=1000)(nw:pX S (.bS es) S')(q:∀r,R (.ref r) (S' r)):We E S loc R (eM m (.type "dict") [.ref l]):=λσ s _ _ k _=>(by refine aT (nw σ s) λ_ hr z=> ?_;exact .mk (e σ s) hl hr (k _ _ _ z (q _)))
theorem I9{b c t:IR}{vs:List MV}(h:PE loc S a (.ref l))(e:dP S l (.list vs))(z:vs=[])(q:Wp E S loc T (dn m c).s):Wp E S loc T (dn m (.cons (.fR false t (.iter a) b) c)).s:=
 dj (it:=λi=> .lst l i) (L:=0) (I:=λ_ l S'=>l=loc/\S'=S) (jh h e ⟨rfl,rfl,rfl⟩) rfl (λ_ _ _ h=>absurd h (Nat.not_lt_zero _)) λ_ _ zz=>(by exact zz.1▸zz.2▸⟨fj (z▸e),q⟩)
theorem EU{b c t:IR}{vs:List MV}(h:PE loc S a (.ref l))(e:dP S l (.list vs))(z:vs=[])(q:Wp E S loc T (dn m c).s):Wp E S loc T (dn m (.cons (.fR true t (.enum a) b) c)).s:=
 dj (it:=λi=> .nT l i) (L:=0) (I:=λ_ l S'=>l=loc/\S'=S) (nJ h e (z▸bC _) ⟨rfl,rfl,rfl⟩) rfl (λ_ _ _ h=>absurd h (Nat.not_lt_zero _)) λ_ _ zz=>(by exact zz.1▸zz.2▸⟨nA (vs:=[]) (z▸e),q⟩)
theorem HM{F':List Cell}(nb:g.nb<=21/\17<=g.nb)(p:Jn s none h)(ns:s.ns=[])(sb:∀W,F'.Sublist (W++(F++h.fF)))(q:∀u S',IQ (λ_ c=>∀n,12<=n->c n=s.c n) g.nb F' u S'->R u S'):Ct E R (Lw h F) 962 (m+4) [.ref (g.a 0)]:=by
 have un : h.ch=[]:=List.eq_nil_of_length_eq_zero (Nat.le_zero.mp p.cv.un)
 have um : h.ch.map lN=[]:=un▸rfl
 have ekk : h.kk=h.lk:=by have:=p.cv.sk;unfold Lo.vw at this;replace this:=(show h.ch=[] from un)▸this;exact this
 have ee : h.e=h.d:=by have:=p.cv.se;unfold Lo.vw at this;replace this:=(show h.ch=[] from un)▸this;exact this
 have ol : (dk h.e MV.bytes h.kk).length<=1000:=by refine ae (aq ..)▸ ?_;exact ad p.cv.kl (by decide)
 refine dh ud (eX (cM (.aa rfl) (mT (Lw.obj .d) rfl rfl) (bk (zK (PE.eq (.call (.cons (.am (.aa rfl) (Lw.obj .d) rfl rfl) .nil) (.len (Lw.has .un) .list (ad (aw (ah List.length um)) (bC _)))) (ah (λl:List MV=>MV.int l.length) um)) Zs.new λr0=>cm (er ?_)))))
 generalize hZ : h.objs++(F++h.fF)=Z
 have z0 : ∀ {i c},h.objs[i]?=some c->Z[i]?=some c:=λe=>hZ▸(cY (bh.mp e).1).trans e
 refine df rH (de rfl (cr (.cons (.am (.aa rfl) (zo (i:=1) (j:=2) (z0 (i:=0) rfl) (z0 (i:=1) rfl)) rfl rfl) (.cons (.am (.aa rfl) (zo (i:=1) (j:=2) (z0 (i:=0) rfl) (z0 (i:=1) rfl)) rfl rfl) .nil)) (im rfl rfl Zs.pN λa d=>CF (bp (by decide) nb.2) λu al ak=>⟨rfl, ?_⟩)))
 refine ct (cV (c7 (.cons (.am (.aa rfl) (zo (i:=6) (j:=7) (z0 (i:=0) rfl) (z0 (i:=1) rfl)) rfl rfl) .nil) (zm (zh (i:=8) (z0 (i:=2) rfl)) ol Zs.new λk1=>cX (.aa rfl) (zt (i:=4) (j:=5) rfl rfl rfl) ?_)))
 refine I9 (.aa rfl) (zh (i:=6) rfl) rfl (EU (.am (.aa rfl) (zo (i:=7) (j:=8) (z0 (i:=0) rfl) (z0 (i:=1) rfl)) rfl rfl) (zh (i:=11) (z0 (i:=4) rfl)) um ?_)
 refine ct (cV (c7 (.cons (.am (.aa rfl) (zo (i:=4) (j:=5) rfl rfl) rfl rfl) .nil) (zm (zh (i:=0) rfl) ol Zs.new λk2=>cX (.aa rfl) (zt (i:=5) (j:=6) rfl rfl rfl) ?_)))
 refine oH (.aa rfl) (λσ z=>Zs.sub (Zs.perm z (Ds (k:=8) [2,0,1,5,6,3,4,7] rfl)) ?_) (q _ _ (.mk (v:=⟨h.kk,h.e,h.kk,h.e,u,[],0,0⟩) (a:=a) (d:=d) (ak:=k1) (al:=k2) ⟨rfl,rfl,rfl,ekk▸p.cv.ln,ekk▸p.cv.lr,λn hn=>(congrFun ee n).trans (p.ok.Em n (ekk▸hn)),λn=>(ah List.length (congrFun ee n)).trans (p.ok.len n).1⟩ λn hn=> ?_))
 ·exact .cons_cons _ (.cons_cons _ (.cons_cons _ (.cons_cons _ (.cons_cons _ (.cons _ (.cons _ (.cons _ (hZ▸sb _))))))))
 ·exact (congrFun ee n).trans ((p.ok.cl n (λm=>by rw[show h.pins=s.ns from p.cv.pins] at m;replace m:=ns▸m;cases m) (by refine ae p.hh▸ ?_;nofun)).symm.trans (p.cv.c n hn))
end
theorem HH{b:List UInt8}{i v:Nat}(h:i+1 < b.length)(hv:v < 65536):wQ (vu b i v) i=v:=by
 have e : ∀n : Nat,n < 256->n.toUInt8.toNat=n:=by decide +kernel
 delta wQ vu
 rw[aR,aR,List.getElem?_set_self (by rw[cL];exact h),List.getElem?_set_ne (Nat.succ_ne_self i),List.getElem?_set_self (wR h)]
 show (v % 256).toUInt8.toNat+(v / 256 % 256).toUInt8.toNat * 2^8=v
 refine ae (e _ (Nat.mod_lt _ (by decide)))▸ae (e _ (Nat.mod_lt _ (by decide)))▸ ?_;exact (ah (v % 256+· * 2^8) (Nat.mod_eq_of_lt (Nat.div_lt_of_lt_mul (n:=256) hv))).trans ((ah (v % 256+·) (Nat.mul_comm ..)).trans (Nat.mod_add_div v 256))
theorem Iv{b:List UInt8}{i a v:Nat}(h:i+1 < a):wQ (vu b a v) i=wQ b i:=by
 delta wQ vu
 simp only[aR]
 rw[List.getElem?_set_ne (Nat.ne_of_gt (Nat.lt_succ_of_lt (wR h))),List.getElem?_set_ne (Nat.ne_of_gt (wR h)),List.getElem?_set_ne (by exact Ne.symm (ktu_ne 1 h)),List.getElem?_set_ne (by exact Ne.symm (bw h))]
theorem y9 : ∀ {vs:List Nat}{b:List UInt8}{i a:Nat},i+1 < a->wQ (f9 b a vs) i=wQ b i
 | [],_,_,_,_=>rfl
 |_::vs,_,_,_,h=>(y9 (vs:=vs) (cG h (Nat.lt_add_of_pos_right (by decide)))).trans (Iv h)
theorem iW : ∀ {vs:List Nat}{b:List UInt8}{a j v:Nat},vs[j]?=some v->v < 65536->a+2 * vs.length<=b.length->wQ (f9 b a vs) (a+2 * j)=v
 |_::vs,b,a,0,_,e,hv,hl=>by
  cases e
  exact (y9 (vs:=vs) (Nat.lt_succ_self _)).trans (HH (aC (Nat.add_lt_add_left (dq 2 (Nat.succ_le_succ (bC _))) a) hl) hv)
 |w::vs,b,a,j+1,v,e,hv,hl=>by
  have:=iW (vs:=vs) (b:=vu b a w) (a:=a+2) (j:=j) (v:=v) e hv (by refine ae (dX ..)▸ ?_;exact ad (aw (Nat.add_right_comm a 2 (2 * vs.length))) hl)
  refine this▸ ?_;exact ah _ (Nat.add_right_comm a (2 * j) 2)
theorem ze{vs:List Nat}{b:List UInt8}{a j v:Nat}(e:vs[j]?=some (v % 65536))(e':vs[j+1]?=some (v / 65536 % 65536))(hv:v < 65536)(hl:a+2 * vs.length<=b.length):KK (f9 b a vs) (a+2 * j)=v:=by
 unfold KK
 refine ae (iW e (Nat.mod_lt _ (by decide)) hl)▸ae (show a+2 * j+2=a+2 * (j+1) from rfl)▸ae (iW e' (Nat.mod_lt _ (by decide)) hl)▸ ?_;rw[Nat.div_eq_of_lt hv,Nat.mod_eq_of_lt hv];rfl
theorem x4 : ∀ {ps:List Nat}{i v:Nat},ps[i]?=some v->(ps.flatMap hw)[2 * i]?=some (v % 65536)/\(ps.flatMap hw)[2 * i+1]?=some (v / 65536 % 65536)
 |_::_,0,_,e=>by cases e;exact⟨rfl,rfl⟩
 |_::ps,i+1,_,e=>x4 (ps:=ps) (i:=i) e
theorem JB{t:Nat}:∀p∈pl t,p < 65536:=by
 intro p m
 rcases aK.mp m with rfl | m
 ·split<;>decide
 rcases aK.mp m with rfl | m
 ·split<;>decide
 (refine ae (av.mp m)▸ ?_);split<;>decide
section
variable {m i j N:Nat}{R:MV->As->Prop}{T:MF->Loc->As->Prop}{E:Addr->As->Prop}{loc:Loc}{S:As}{Z:List Cell}{l d r x p0:LA}{n nb k:Int}{g g':En}{s:Ck}{F:List Cell}{X:List Int}{h:Lo g}{sz v:Nat}{ps:List Nat}{a:IR}{o:MV}{b D:List UInt8}
theorem qb(h:GV S o b)(i:Nat)(hk:k=i)(hi:i+1 < 64)(hb:b.length=64)(e:wQ b i=v)(q:R (.int v) S):Ct E R S 116 (m+1) [o, .int k]:=gC h i hk (hb.symm▸hi) (hb.symm▸by decide) (e.symm▸q)
theorem yk(h:GV S o b)(i:Nat)(hk:k=i)(hi:i+3 < 64)(hb:b.length=64)(e:KK b i=v)(q:R (.int v) S):Ct E R S 123 (m+2) [o, .int k]:=oF h i hk (hb.symm▸hi) (hb.symm▸by decide) (e.symm▸q)
theorem Iu(hd:∀G,dP (Lw h G) x (.bW (f9 b 24 (jw 1 sz ps))))(hb:b.length=64)(hp:ps.length=3/\∀p∈ps,p < 65536)(hz:sz < 65536)
  (q:∀pr,R .none (Lw h ((pr, .list (ps.map ed))::(p0, .list [])::(l, .inst lg d)::(d, .ns [("nodes", .ref (g.a 15)),("number", .int 1),("holders", .int 1),("kind", .int 1),("major", .int 0),("minor", .int 0),("links", .int 1),("size", .int sz),("places", .ref pr)])::F))) :
  Ct E R (Lw h ((p0, .list [])::(l, .inst lg d)::(d, .ns [("nodes", .ref (g.a 15)),("number", .int 1),("holders", .int 1),("kind", .int 0),("major", .int 0),("minor", .int 0),("links", .int 0),("size", .int 0),("places", .ref p0)])::F)) 234 (m+3) [.ref l, .ref x, .int 24, .int 2]:=by
 have pl : (f9 b 24 (jw 1 sz ps)).length=64:=iM.trans hb
 have nl : 24+2 * (jw 1 sz ps).length<=b.length:=by rw[hb,jw,aA];refine ae Cj▸ ?_;refine ae hp.1▸ ?_;exact aj rfl
 refine k9 oA (ct (cr (.cons (.aa rfl) (.cons (.aa rfl) .nil)) (qb (.r (hd _)) 24 rfl (by decide) pl (iW (j:=0) rfl (by decide) nl) (cX (.aa rfl) (Lw.kT (i:=1) (j:=2) rfl rfl rfl rfl) ?_))))
 refine ct (cr (.cons (.aa rfl) (.cons (.bin (.aa rfl) .ag .add) .nil)) (qb (.r (hd _)) 26 rfl (by decide) pl (iW (j:=1) rfl (by decide) nl) (cX (.aa rfl) (Lw.kT (i:=1) (j:=2) rfl rfl rfl rfl) ?_)))
 refine ct (cr (.cons (.aa rfl) (.cons (.bin (.aa rfl) .ag .add) .nil)) (qb (.r (hd _)) 28 rfl (by decide) pl (iW (j:=2) rfl (by decide) nl) (cX (.aa rfl) (Lw.kT (i:=1) (j:=2) rfl rfl rfl rfl) ?_)))
 refine ct (cr (.cons (.aa rfl) (.cons (.bin (.aa rfl) .ag .add) .nil)) (qb (.r (hd _)) 30 rfl (by decide) pl (iW (j:=3) rfl (by decide) nl) (cX (.aa rfl) (Lw.kT (i:=1) (j:=2) rfl rfl rfl rfl) ?_)))
 refine ct (cr (.cons (.aa rfl) (.cons (.bin (.aa rfl) .ag .add) .nil)) (yk (.r (hd _)) 32 rfl (by decide) pl (ze (j:=4) rfl rfl hz nl) (cX (.aa rfl) (Lw.kT (i:=1) (j:=2) rfl rfl rfl rfl) ?_)))
 refine ct (fT (it:=g6 0 1 3) (L:=3) (I:=λi acc loc S=>acc=(ps.take i).map ed/\(∃y,loc=[y,some (.ref x),some (.int 24)])/\S=_) (iX (.cons (.bin (.aa rfl) .ag .add) .nil) (show _/\_ by decide) ⟨rfl,rfl,⟨_,rfl⟩,rfl⟩) rfl ?_ ?_)
 ·rintro i acc loc S hi ⟨rfl,⟨y,rfl⟩,rfl⟩
  obtain⟨v,ev⟩ : ∃v,ps[i]?=some v:=⟨_,ay (hp.1.symm▸hi)⟩
  have hv:=hp.2 v (au ev)
  have t : ((4:Int).natAbs < 2^32/\(i:Int).natAbs < 2^32)/\(24:Int)+12+4 * (i:Int)=(36+4 * i : Nat)/\36+4 * i+3 < 64:=(show ∀i : Nat,i < 3->((4:Int).natAbs < 2^32/\(i:Int).natAbs < 2^32)/\(24:Int)+12+4 * (i:Int)=(36+4 * i : Nat)/\36+4 * i+3 < 64 by decide +kernel) i hi
  refine⟨by rw[aq,bK];exact ad (Nat.min_le_left ..) (ad (aL hi) (by decide)), .mk (kF hi) (bR rfl (fS ⟨λ_=>cr (.cons (.aa rfl) (.cons (.bin (.bin (.aa rfl) .glob .add) (.bin .ag (.aa rfl) (.mul t.1)) .add) .nil)) (yk (.r (hd _)) (36+4 * i) t.2.1 t.2.2 pl ((ah _ (show 36+4 * i=24+2 * (2 * i+6) by lia)).trans (ze (x4 ev).1 (x4 ev).2 hv nl)) ⟨?_,⟨_,rfl⟩,rfl⟩),nofun⟩))⟩
  rw[bV,ev,aY];rfl
 ·rintro acc loc S ⟨rfl,⟨y,rfl⟩,rfl⟩
  refine⟨gu, .mk Lw.new λr=>cX (.aa rfl) (Lw.kT (i:=2) (j:=3) rfl rfl rfl rfl) (bj ?_)⟩
  refine ae (cF (aw hp.1))▸ ?_;exact q r
theorem H5{t:Nat}(nb:17<=g.nb)(e:Le S (Js g s (U0 g F)))(hb:b.length=64)(hc:s.c 12=f9 b 24 (jw 1 sz (pl t)))(hz:sz < 65536)(q:∀l d r S',Le S' (Js (g.nd l d r) s (Up (g.nd l d r) 1 sz (pl t) F))->R (.ref l) S'):Ct E R S 513 (m+5) [.ref (g.a 21)]:=by
 refine e9 e λh p=>dh sE (eX (bT (.am (.aa rfl) (Lw.u0 .w) rfl rfl) (Lw.u0 .n) rfl rfl (.cons .glob .nil) ?_))
 refine df tM (bY (bT (.aa rfl) (Lw.u0 .n) rfl rfl (.cons (.aa rfl) .nil) (df kc (cO (.not (.ky .ag (.aa rfl) (.am (.am (.aa rfl) (Lw.u0 .n) rfl rfl) (Lw.u0 .p) rfl rfl) .le .lt)) rfl (bj ?_)))))
 refine cO (.cmp (.aa rfl) (.am (.aa rfl) (Lw.u0 .n) rfl rfl) (.inR (Lw.cH (i:=4) rfl) (.dI rfl))) rfl ?_
 refine ct (bT (.am (.aa rfl) (Lw.u0 .n) rfl rfl) (Lw.u0 .p) rfl rfl (.cons (.aa rfl) .nil) (tT (Lw.u0 .p) (t2 rfl rfl ?_)))
 refine de rfl (cr (.cons (.aa rfl) (.cons (.aa rfl) .nil)) (im rfl rfl Lw.pN λl d=> ?_))
 refine pW (Lw.zs (A:=[(l, .inst lg d),(d, .ns [])])) (DP λp0=>⟨rfl, ?_⟩)
 refine fM (Lw.sz (A:=[(p0, .list []),(l, .inst lg d),(d, .ns [("nodes", .ref (g.a 15)),("number", .int 1),("holders", .int 1),("kind", .int 0),("major", .int 0),("minor", .int 0),("links", .int 0),("size", .int 0),("places", .ref p0)])])) ?_
 refine de rfl (bT (.am (.aa rfl) (Lw.kx (i:=5) rfl rfl) rfl rfl) (Lw.obj .c) rfl rfl (.cons (.aa rfl) .nil) (BK (Vs.at p) ⟨by decide,aN (by decide) nb⟩ λh p=> ?_))
 refine bY (bT (.aa rfl) (Lw.kx (i:=1) rfl rfl) rfl rfl (.cons (eF rfl p.j) (.cons (.aa rfl) (.cons (.am (.am (.aa rfl) (Lw.kx (i:=5) rfl rfl) rfl rfl) (Lw.kx (i:=3) rfl rfl) rfl rfl) .nil))) (Iu (λG=>has_data (G:=G) p.j (by decide) hc) hb ⟨rfl,JB⟩ hz λpr=> ?_))
 refine bY (bT (.am (.aa rfl) (Lw.kx (i:=6) rfl rfl) rfl rfl) (Lw.obj .c) rfl rfl (.cons (.aa rfl) .nil) (oM p λS' e=>dR e λh p=> ?_))
 refine cO (.cmp (.am (.aa rfl) (Lw.kx (i:=2) rfl rfl) rfl rfl) .glob .lD) rfl ?_
 refine ct (bq (.aa rfl) (dW (.am (.aa rfl) (Lw.kx (i:=6) rfl rfl) rfl rfl) (.aa rfl) (Lw.cH (i:=8) rfl) (.dI (aj rfl)) (Lw.jJ (i:=8) rfl rfl) ?_))
 refine cC (.aa rfl) (q l d pr _ λσ z=>Js.nd σ ⟨h,p,Lw.Ee (k:=10) [3,4,5,6,7,1,2,0,8,9] rfl (Lw.sub z (.cons_cons _ (.cons _ (.refl _))))⟩)
end
noncomputable def A9(ns:List Int):List Nat:=if ns.isEmpty then [0] else (ns.take 4).map λn=>n.natAbs % 10^12
noncomputable abbrev Dj : IR:= .ite (.cmp .Eq (.aa 0) (.list .nil)) (.list (.cons (.ag (.int 0)) .nil)) (.comp ["n"] [none] false (.iter (.slice (.aa 0) .nil (.ag (.int 4)))) (.aa 0) .nil (.bin .Mod (.call "abs" (.builtin "abs") (.cons (.aa 0) .nil)) (.bin .Pow (.ag (.int 10)) (.ag (.int 12)))))
theorem KR : ∀n,clipAt n 4=min 4 n
 |0=>rfl
 |1=>rfl
 |2=>rfl
 |3=>rfl
 |n+4=>(ah (λz:Int=>(max 0 z).toNat) (Int.min_eq_left (aW.mpr (Nat.le_add_left 4 n)))).trans (Nat.min_eq_left (Nat.le_add_left 4 n)).symm
theorem Mc{α:Type}{l:List α}:cut l none (some 4)=l.take 4:=
 (ah l.take (KR l.length)).trans (List.take_eq_take_iff.mpr ((Nat.min_assoc ..).trans (ah (min 4) (Nat.min_self _))))
theorem EL{i:Int}:(if i < 0 then -i else i).fmod (10^12)=((i.natAbs % 10^12 : Nat):Int):=by
 have : (if i < 0 then -i else i)=(i.natAbs : Int):=by split;rename_i h;exact (Int.ofNat_natAbs_of_nonpos (Int.le_of_lt h)).symm;rename_i h;exact (Int.natAbs_of_nonneg (cZ.mp h)).symm
 refine ae this▸ ?_;exact Int.fmod_eq_emod_of_nonneg _ (by decide)
section
variable {m i j N:Nat}{R:MV->As->Prop}{T:MF->Loc->As->Prop}{E:Addr->As->Prop}{loc:Loc}{S:As}{Z:List Cell}{x r:LA}{F:List Cell}{a b lo hi:IR}{vs:List MV}{ns:List Int}{o:PySem.Obj}
theorem Ii{R:Bool->As->Prop}(ho:PE loc S a (.ref x))(hb:We E S loc (λw S2=>∃l ws,(w= .ref l/\dP S2 x (.fz o vs)/\dP S2 l (.list ws)/\ga MV.ia vs ws=true)/\R (ph MV.ia vs ws) S2) (dn m b).e):We E S loc R (dn m (.cmp .Eq a b)).b:=
 λσ s Q X k x=>ho.ok s (hb σ s _ X (λ_ σ2 S2 s2 z=>by refine eA z λ_ _ zo2_ q=> ?_;refine ij zo2_ λe f g t=> ?_;subst e;exact .M0 (f σ2 s2) (g σ2 s2) t (k _ σ2 S2 s2 q)) x)
theorem An{u z:MV}{i j:Option Int}{S':LA->As}(ho:PE loc S a (.ref x))(hl:PE loc S lo u)(hh:PE loc S hi z)(c:eY u i)(d:eY z j)(e:dP S x (.fz o vs))(hb:vs.length<=100000)(nw:pX S (.list (cut vs i j)) S')(q:∀r,R (.ref r) (S' r)):We E S loc R (dn m (.slice a lo hi)).e:=
 λσ s _ _ k _=>ho.ok s (hl.ok s (hh.ok s ((by refine aT (nw σ s) λ_ hr s'=> ?_;exact⟨_,_,c,d, .fz (e σ s) hb hr (k _ _ _ s' (q _))⟩))))
theorem Zs.newD{mo:MO}(sb:F.Sublist Z):pX (Zs Z) mo λr=>Zs ((r,mo)::F):=λσ z=>Zs.new σ (Zs.sub z sb)
theorem CR : ga MV.ia vs []=true:=by cases vs<;>rfl
theorem Bf(h0:loc[0]?=some (some (.ref x)))(hl:ns.length<=63)(q:∀r,R (.ref r) (Zs [(r, .list ((A9 ns).map ed)),(x, .fz o (ns.map .int))])):We E (Zs [(x, .fz o (ns.map .int))]) loc R (dn m Dj).e:=by
 refine nX (Ii (.aa h0) (dz (cm ⟨bC _,Zs.new,λr=>⟨r,[],⟨rfl,zh (i:=1) rfl,zh (i:=0) rfl,CR⟩, ?_⟩⟩)))
 cases ns with
 |nil=>exact⟨λ_=>dz (c7 (.cons .ag .nil) ⟨aj rfl,Zs.newD (.cons _ (.refl _)),q⟩),nofun⟩
 |cons n ns=>
  refine⟨nofun,λ_=>qu (ES (An (i:=none) (j:=some 4) (S':=λr=>Zs [(r, .list (((n::ns).map .int).take 4)),(x, .fz o ((n::ns).map .int))]) (.aa h0) .nil .ag .no (.int _) (zh (i:=1) rfl) (by rw[aq];exact ad hl (by decide)) (by refine ae Mc▸ ?_;exact Zs.newD (.cons _ (.refl _))) λr1=> .mk rfl (.mk (zh (i:=0) rfl) (.mk (((n::ns).map MV.int |>.take 4).length+1) rfl ?_))))⟩
  generalize hk : n::ns=ks at *
  have he : ks.isEmpty=false:=hk▸rfl
  refine λσ z Q X k xx=>n5 (it:=λi=> .lst r1 i) (L:=((ks.map MV.int).take 4).length) (I:=λi acc loc S=>acc=((ks.take i).map λn=>n.natAbs % 10^12).map ed/\Fr [] 1 loc/\S=Zs [(r1, .list ((ks.map MV.int).take 4)),(x, .fz o (ks.map .int))]) (D:=λacc S=>acc=(A9 ks).map ed/\S=Zs [(r1, .list ((ks.map MV.int).take 4)),(x, .fz o (ks.map .int))]) ?_ ?_ _ 0 [] _ _ (bZ _) ⟨rfl, .of rfl rfl,rfl⟩ σ z Q X (λacc l σ' S1 z' ⟨e1,e2⟩=>k acc l σ' S1 z' (e1▸ .mk (e2▸Zs.newD (.cons _ (.refl _))) q)) xx
  ·rintro i acc loc S hi ⟨rfl,⟨y⟩,rfl⟩
   rw[bK] at hi;replace hi:=(aq ..)▸hi
   obtain⟨v,ev⟩ : ∃v,ks[i]?=some v:=⟨_,ay (aC hi (Nat.min_le_right ..))⟩
   refine⟨by rw[aq,aq,bK];exact ad (Nat.min_le_left ..) (ad (aL (aC hi (Nat.min_le_left ..))) (by decide)), .mk (ik (zh (i:=0) rfl) (by rw[List.getElem?_take,if_pos (aC hi (Nat.min_le_left ..)),bc];exact ah _ ev)) (bR rfl (fS ⟨λ_=>bq (PE.eq (.bin (.call (.cons (.aa rfl) .nil) .abs) (.bin .ag .ag .pow) (.mod (show (10:Int)^12≠0 by decide))) (ah MV.int EL)) ⟨?_, .of rfl rfl,rfl⟩,nofun⟩))⟩
   rw[bV,ev,aY,aY];rfl
  ·rintro acc loc S ⟨rfl,⟨y⟩,rfl⟩
   refine⟨fj (zh (i:=0) rfl), ?_,rfl⟩
   unfold A9;refine ae (show ks.take ((ks.map MV.int).take 4).length=ks.take 4 by rw[bK,aq];refine List.take_eq_take_iff.mpr ?_;exact Nat.min_eq_left (Nat.min_le_right ..))▸ae he▸ ?_;rfl
end
noncomputable abbrev En.ow(g:En)(a b c:LA):En:=⟨λi=>if i=23 then a else if i=24 then b else if i=25 then c else g.a i,g.nb⟩
theorem FJ : lp.length<=1000/\(lp.map (·.1)).Nodup:=by decide +kernel
theorem LB{z:Int}:∃N : Nat,(N < 7/\2<=N)/\2+z.fmod 5=N:=by
 obtain⟨N,e⟩:=Int.eq_ofNat_of_zero_le (Int.fmod_nonneg_of_pos z (by decide:(0:Int) < 5));have l : z.fmod 5 < 5:=Int.fmod_lt_of_pos z (by decide);rw[e] at l ⊢;exact⟨2+N,⟨Nat.add_lt_add_left (aX.mp l) 2,a9 ..⟩,rfl⟩
noncomputable abbrev Ig : IR:= .asg (.aa 7) (.dD ["slots", "blocks", "names", "free"] (.cons (.list (.cons (.ag (.bytes [46])) (.cons (.ag (.bytes [46,46])) .nil))) (.cons (.list (.cons (.ag (.int 0)) .nil)) (.cons (.ag (.bool false)) (.cons (.bin .Sub (.aa 2) (.ag (.int 1))) .nil)))))
noncomputable abbrev E6 : IR:= .asg (.item (.aa 7) (.ag (.str "numbers"))) (.pt (.comp ["k"] [none] false (.range (.cons (.ag (.int 20)) .nil)) (.aa 0) .nil (.tup (.cons (.call "_law_name" (.ref 1106) (.cons (.aa 0) .nil)) (.cons (.bin .Add (.ag (.int 2)) (.aa 0)) .nil)))))
section
variable {m i j N t:Nat}{R:MV->As->Prop}{T:MF->Loc->As->Prop}{E:Addr->As->Prop}{loc:Loc}{S:As}{Z:List Cell}{x y z r:LA}{F:List Cell}{a b lo hi es:IR}{vs:List MV}{ns:List Int}{o:PySem.Obj}{g:En}{s:Ck}{sl:List Slot}{h:Lo g}{ks:List String}{f:Addr}{X:String}
theorem Js.ow : Le (Js g s F) (Js (g.ow x y z) s F):=λσ ⟨h,p,z⟩=>
 ⟨⟨h.kk,h.e,h.lk,h.d,h.un,h.ch,h.wr,h.fl,h.row,h.ks,h.bn,h.hold,h.pins,h.c,h.hits,h.rd,h.cw,h.nm,h.nums,h.nt,h.nd,h.calls,h.D9⟩,⟨⟨p.ok.nd,p.ok.ks,p.ok.jK,p.ok.most,p.ok.pin,p.ok.D7,p.ok.pl,p.ok.sI,p.ok.cl,p.ok.Em,p.ok.len⟩,p.hh,⟨p.cv.c,p.cv.ns,p.cv.nd,p.cv.pins,p.cv.k,p.cv.sk,p.cv.se,p.cv.ln,p.cv.lr,p.cv.kl,p.cv.un,p.cv.wr⟩⟩,z⟩
theorem Cs(h:We E S loc (λvs S1=>pQ (pX S1 (.dD (yZ ks vs))) λS2=>∀r,R (.ref r) (S2 r)) (P.gT (dn m es).ms)):We E S loc R (dn m (.dD ks es)).e:=
 λσ s Q X k x=>h σ s _ X (λ_ σ1 _ s1 ⟨nw,q⟩=>(by refine aT (nw σ1 s1) λr hr z=> ?_;exact⟨r,hr,k _ _ _ z (q r)⟩)) x
theorem Bq(h:We E S loc (λv S1=>∃l es S2,(v= .ref l/\dP S1 l (.list (es.map yz))/\(es.length<=1000/\(es.map (·.1)).Nodup)/\pX S1 (.iS es) S2)/\∀r,R (.ref r) (S2 r)) (dn m a).e):We E S loc R (dn m (.pt a)).e:=
 λσ s Q X k x=>h σ s _ X (λ_ σ1 _ s1 z=>by refine iR z λ_ _ _ zo3_ q=> ?_;refine ij zo3_ λe f n nw=> ?_;subst e;refine aT (nw σ1 s1) λr hr z=> ?_;exact .mk (f σ1 s1) n hr (k _ _ _ z (q r))) x
theorem GX{R:Bool->As->Prop}(h:We E S loc (λv S1=>pQ (l8 v) λp=>R p S1) (dn m (.call X (.ref f) es)).e):We E S loc R (dn m (.call X (.ref f) es)).b:=
 λσ s _ X k x=>h σ s _ X (λ_ σ1 S1 s1 zz=>(by obtain⟨t,g⟩:=zz;exact t.ok (k _ σ1 S1 s1 g))) x
theorem EI{u r:LA}{o:List UInt8}{nb:Int}(hn:15<=nb)(ho:o.length=64):Bt nb ((((Dd.v0 u).put 1 o).put 14 (bm 0)).fld r) where
 kk:=rfl
 e:=rfl
 un:=rfl
 nd:=by show [(1:Int),14].Nodup;decide
 lr n m:=by rcases aK.mp m with rfl | m;exact⟨by decide,aN (by decide) hn⟩;cases av.mp m;exact⟨by decide,aN (by decide) hn⟩
 l0 n h:=(om ((λe=>h (by rw[e];exact .tail _ (.head _))))).trans (om ((λe=>h (by rw[e];exact .head _))))
 len n:=by
  show (upd (upd _ 1 o) 14 (bm 0) n).length=64
  dsimp only[upd];split
  ·exact ke
  ·split
   ·exact ho
   ·rfl
theorem Et{g:En}{N:Nat}{h:Lo g}{T:MF->Loc->As->Prop}{c:IR}(hN:2<=N)(h2:loc[2]?=some (some (.int N)))(hi:Nat.blt 7 loc.length=true)(h7:∀v,(loc.set 7 (some v))[7]?=some (some v))(p:Jn s none h)
  (q:∀x y z u S',Le S' (Js (g.ow x y z) s (gR g [some 0,some 1] 1 (Ow (g.ow x y z) N [some 0,some 1] 1 1 u F)))->Wp E S' (loc.set 7 (some (.ref x))) T (dn (m+2) c).s) :
  Wp E (Lw h (gR g [some 0,some 1] 1 F)) loc T (dn (m+2) (.cons Ig (.cons E6 c))).s:=by
 refine de hi (Cs (bk (dz (c7 (.cons .ag (.cons .ag .nil)) ⟨aj rfl,Lw.new,λu=>bk (dz (c7 (.cons .ag .nil) ⟨aj rfl,Lw.new,λy=>c7 (.cons .ag (.cons (PE.eq (.bin (.aa h2) .ag .sub) (ah MV.int (HU (t:=0) (N:=N) (aC (Nat.zero_lt_succ 1) hN)))) .nil)) (.mk Lw.new λx=> ?_)⟩))⟩))))
 refine ct (Bq (fT (it:=g6 0 1 20) (L:=20) (I:=λi acc loc S=>acc=(lp.take i).map yz/\Fr [] 1 loc/\S=_) (iX (.cons .ag .nil) (show _/\_ by decide) ⟨rfl,rfl, .of rfl rfl,rfl⟩) rfl ?_ ?_))
 ·rintro i acc loc S hi ⟨rfl,⟨y⟩,rfl⟩
  have ei : lp[i]?=some (gV (i+2), .int (2+i : Nat)):=by refine (bc).trans ?_;refine (ah _ (List.getElem?_range hi)).trans ?_;rfl
  refine⟨by rw[aq,bK];exact ad (Nat.min_le_left ..) (ad (aL hi) (by decide)), .mk (kF hi) (bR rfl (fS ⟨λ_=>ot (bk (cr (.cons (.aa rfl) .nil) (pY hi (c7 (.cons (.bin .ag (.aa rfl) .add) .nil) ⟨rfl, ?_, .of rfl rfl,rfl⟩)))),nofun⟩))⟩
  rw[bV,ei,aY];rfl
 ·rintro acc loc' S ⟨rfl,_,rfl⟩
  refine⟨gu, .mk Lw.new λr=>⟨r,lp,_,⟨rfl,Lw.cH (i:=0) rfl,FJ,Lw.new⟩,λz=> ?_⟩⟩
  exact dW (.aa (h7 _)) .ag (Lw.cH (i:=2) rfl) (.dS (aj rfl)) (Lw.jJ (i:=2) rfl rfl) (q x y z u _ λσ w=>Js.ow σ ⟨h,p,Lw.Ee (k:=14) [4,5,6,7,8,9,10,11,12,13,1,2,0,3] rfl (Lw.sub w (.cons_cons _ (.cons _ (.refl _))))⟩)
end
section
variable {m i j N t:Nat}{R:MV->As->Prop}{T:MF->Loc->As->Prop}{E:Addr->As->Prop}{loc:Loc}{S:As}{Z:List Cell}{x y z r:LA}{F:List Cell}{a b lo hi es:IR}{vs:List MV}{ns:List Int}{o:PySem.Obj}{g:En}{s:Ck}{sl:List Slot}{h:Lo g}{ks:List Nat}{f:Addr}{mo:MO}
theorem Le.Je(e:Le S (o7 g N sl t x s ((y,mo)::F))):dP S y mo:=λσ z=>(by refine aT (e σ z) λ_ _ z=> ?_;exact Lw.cH (i:=14) rfl σ z)
noncomputable abbrev HP(g:En)(N:Nat)(x y:LA):Loc:=[some (.ref x),some (.ref y),some (.int N),some (.ref (g.a 13)),some (.ref (g.a 0)),some (.ref (g.a 21)),some (.ref (g.a 18)),some (.ref (g.a 23))]
noncomputable abbrev vU : IR:= .cons (.asg (.aa 9) (vZ (.aO (.aa 4) "copy" .nil) (.aa 3))) (.cons (.ret (.call "_law_same" (.ref 1137) (.cons (.aa 9) (.cons (.aO (.aa 9) "root" .nil) (.cons (.aa 7) .nil))))) .nil)
theorem Aw(hN:N < 7/\2<=N)(rs:Rest g N sl t s)(hi:Fr (HP g N x y) 2 loc)(e:Le S (o7 g N sl t z s ((y,mo)::(x, .fz o (ns.map .int))::[])))(q:∀l S',dP S' x (.fz o (ns.map .int))->T (.ret (.bool true)) l S'):Wp E S loc T (dn (m+15) vU).s:=by
 have ⟨h21,h17⟩:=rs.ok.nb
 obtain⟨v⟩:=hi
 refine dR e λh p=>de rfl (yj (A:=λ_ c=>∀n,12<=n->c n=s.c n) (p:=g.a 13) (pd:=g.a 14) (F:=Ow g N sl (mB sl.length) t z [(y,mo),(x, .fz o (ns.map .int))]) rs.w.nb.1 h21 (λ_=> .aa rfl) (bT (.aa rfl) (Lw.obj .d) rfl rfl .nil (HM ⟨h21,h17⟩ p rs.ns (λW=>(List.sublist_append_of_sublist_left (.cons_cons _ (.cons_cons _ (.cons _ (.cons _ (.cons _ (.cons _ (.cons _ (.cons _ (.cons _ (.cons _ (.refl _)))))))))))).trans (List.sublist_append_right W _)) λu S' k=>k)) λg3 c e1 hA e3 S' e'=> ?_)
 refine aT rs.w.rw λb hb hc=> ?_
 refine dR e' λh p=>eX (cV (bk (bq (.aa rfl) (bk (bT (.aa rfl) (Lw.u0 .w) rfl rfl .nil (H5 (e1▸h17) (Vs.at p) hb ((hA 12 (by decide)).trans hc) (by have:=rs.w.len;exact az (dq _ (bH this)) (by decide)) λl d r S' e=>c7 (.cons (.aa rfl) .nil) (er ?_)))))))
 have wo:=rs.w.w
 have w4 : Wd ((g3.nd l d r).ow (g.a 23) (g.a 24) (g.a 25)) N sl t ⟨c,[],0⟩:={ rs.w with nb:=⟨e1.trans rs.w.nb.1,rs.w.nb.2⟩,w:=⟨(hA 14 (by decide)).trans wo.b,λh=>(hA 17 (by decide)).trans (wo.n h),λi hi hn=>(hA _ ?_).trans (wo.d i hi hn)⟩,rw:=⟨b,hb,(hA 12 (by decide)).trans hc⟩ }
 ·exact e9 (λσ z=>Js.ow σ (e σ z)) λh p=>CD (g:=(g3.nd l d r).ow (g.a 23) (g.a 24) (g.a 25)) w4 rs.kp (Nat.le_of_succ_le hN.2) p λS'' e=>q _ _ λσ z=>(by refine aT (e σ z) λ_ _ z=> ?_;exact Lw.cH (i:=15) rfl σ z)
 ·exact aW.mpr (by unfold lL;split;exact Nat.le_add_right_of_le (by decide);exact Nat.le_add_right_of_le (by decide))
theorem IY : ∀k∈A9 ns,k < 10^12:=by
 unfold A9;split
 ·exact λk m=>av.mp m▸by decide
 ·exact λk m=>(by refine aT (cq.mp m) λ_ _ e=> ?_;exact e▸Nat.mod_lt _ (by decide))
theorem Gf : (A9 ns).length<=4:=by
 unfold A9;split
 ·decide
 ·rw[aq,bK];exact Nat.min_le_left ..
noncomputable abbrev Ex : IR:= .fR false (.aa 8) (.iter (.aa 1)) (.cons (.dH (.or (.not (.call "_law_call_right" (.ref 1132) (.cons (.aa 5) (.cons (.aa 6) (.cons (.aa 7) (.cons (.aa 8) .nil)))))) (.not (.call "_law_same" (.ref 1137) (.cons (.aa 5) (.cons (.aa 6) (.cons (.aa 7) .nil)))))) (.cons (.ret (.ag (.bool false))) .nil) .nil) .nil)
theorem DJ(hN:N < 7/\2<=N)(rs:Rest g N sl t s)(hk:∀k∈ks,k < 10^12)(h4:ks.length<=4)(hs:sl.length=2)(hi:Fr (HP g N x y) 2 loc)(e:Le S (o7 g N sl t z s [(y, .list (ks.map ed)),(x, .fz o (ns.map .int))]))(q:∀l S',dP S' x (.fz o (ns.map .int))->T (.ret (.bool true)) l S'):Wp E S loc T (dn (m+15) (.cons Ex vU)).s:=by
 have hi':=hi
 obtain⟨v⟩:=hi
 refine dj (it:=λi=> .lst y i) (L:=ks.length) (I:=λi loc S=>Fr (HP g N x y) 2 loc/\∃sl t z s,Rest g N sl t s/\sl.length<=2+3 * i/\Le S (o7 g N sl t z s [(y, .list (ks.map ed)),(x, .fz o (ns.map .int))])) (jh (.aa rfl) e.Je ⟨rfl,hi',sl,t,z,s,rs,aw hs,e⟩) rfl ?_ ?_
 ·rintro i loc S hi ⟨⟨v⟩,sl,t,z,s,rs,hl,e⟩
  obtain⟨k,ek⟩ : ∃k,ks[i]?=some k:=⟨_,ay hi⟩
  have h11 : sl.length<=11:=ad hl (bb (dq 3 (bH (aC hi h4))) 2)
  refine .mk (ik e.Je (by refine (bc).trans ?_;exact ah _ ek)) (bR rfl (gE (Bw (uC (GX (cr (.cons (.aa rfl) (.cons (.aa rfl) (.cons (.aa rfl) (.cons (.aa rfl) .nil)))) (I7 rs hN.2 (hk k (au ek)) h11 e λs' sl' t' x' S' rs' hl' e'=> .mk .bool ⟨nofun,λ_=>uC (GX (vE e' λh p=>cr (.cons (.aa rfl) (.cons (.aa rfl) (.cons (.aa rfl) .nil))) (CD rs'.w rs'.kp (Nat.le_of_succ_le hN.2) p λS' e'=> .mk .bool ⟨nofun,λ_=>bj ⟨.of rfl rfl,sl',t',x',s',rs',by lia,e'⟩⟩)))⟩)))))))
 ·rintro loc S ⟨hi,sl,t,z,s,rs,hl,e⟩
  exact⟨by have:=fj e.Je;exact (aq ..)▸this,Aw hN rs hi e q⟩
end
section
variable {m N t:Nat}{ns:List Int}{o:PySem.Obj}
theorem J6(hl:ns.length<=63):Ct Ej (λv S'=>v= .bool true/\dP S' (.tm 0) (.fz o (ns.map .int))) (Zs [(.tm 0, .fz o (ns.map .int))]) 1142 (m+16) [.ref (.tm 0)]:=by
 refine dh HQ (de rfl (Bf rfl hl λy=> ?_))
 refine aT (LB (z:=((A9 ns).map λn : Nat=>(n:Int)).sum)) λN hN eN=> ?_
 have es : intsOf ((A9 ns).map ed)=some ((A9 ns).map λn : Nat=>(n:Int)):=by
  refine (ah _ (show (A9 ns).map ed=((A9 ns).map λn : Nat=>(n:Int)).map .int from (List.map_map ..).symm)).trans ?_;exact gO
 refine gy (PE.eq (.bin .ag (.bin (.call (.cons (.aa rfl) .nil) (.sum (zh (i:=0) rfl) es)) .ag (.mod (show (5:Int)≠0 by decide))) .add) (ah MV.int eN)) rfl ?_
 refine de rfl (cr (.cons .ag (.cons (PE.eq (.bin .ag (.aa rfl) .add) rfl) (.cons .ag (.cons .ag (.cons .ag .nil))))) (im rfl rfl Zs.pN λp pd=>Fh hN ⟨rfl, ?_⟩))
 refine de rfl (cr (.cons (.aa rfl) .nil) (Gn hN ⟨pd, .head _, .tail _ (.head _)⟩ λa d ak al u b r hb=> ?_))
 have hb' : (15:Int)<=(15+N : Nat)/\((15+N : Nat):Int)<=21:=⟨aW.mpr (a9 15 N),aW.mpr (bb (bH hN.1) 15)⟩
 refine de rfl (yj (A:=λa' c=>a'=a/\c 12=zeros/\c 14=bm 0) (N:=N) rfl hb'.2 (λ_=> .aa rfl) (bq (.aa rfl) (.mk (EI hb'.1 hb) ⟨rfl,rfl,rfl⟩)) λg c gnb hA gp S e=> ?_)
 refine ie hA λzr0_ hc h14=> ?_;subst zr0_
 subst gp
 refine de rfl (cr (.cons (.aa rfl) .nil) (ID gnb ⟨hN.2,hN.1⟩ rfl rfl hc h14 e λl d r s S rs e=>dR e λh p=>Et hN.2 rfl rfl (λ_=>rfl) p λx z1 z2 u S e=> ?_))
 exact DJ (g:=(g.nd l d r).ow x z1 z2) (sl:=[some 0,some 1]) (t:=1) hN ⟨{ rs.w with },{ rs.ok with },rs.ns,rs.k,rs.kp⟩ IY Gf rfl (.of rfl rfl) e λl S' h=>⟨rfl,h⟩
end
end Internal
namespace Internal
open PySem PySem.W PyProof.Rows
theorem I5{o:PySem.Obj}{ns:List Int}:Zs [(.tm 0, .fz o (ns.map .int))] (mR o ns):=by
 refine⟨λp m=> ?_,List.nodup_cons.mpr ⟨nofun, .nil⟩,1,λi h e=> ?_⟩
 ·obtain rfl:=av.mp m
  exact⟨(if_pos rfl:(if LA.tm 0= .tm 0 then some _ else none)=some _),rfl⟩
 ·have e : LA.tm i= .tm 0:=e
  cases e;exact absurd h (by decide)
theorem EW{ns:List Int}(hl:ns.length<=63):wV ns:=by
 intro o
 exact J6 (m:=24) hl (mR o ns) I5 _ _ (λv σ' S' s r=>⟨r.1,r.2 σ' s⟩) λ_ _ _ _ x=>x.elim
end Internal
open Internal
theorem PySem.Challenge.cw_nz0231_01_holds : PySem.Challenge.rw_nz0231_01.Holds :=
 Ar λns hl=>EW hl
