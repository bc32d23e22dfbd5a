import PyProof.Rows.All
import Wide.All
import OpenK.AllK
import Wide.FinOn
import KE.KBytesWalk
import KE.KRevIter
import KE.BytesMake
import KE.KTryMore
import PyProof.ExcClass3
import PyProof.AttrMissSeq
import PyProof.IsiH_list
import KE.KDictOf
import KE.KPar
import KE.KTreeF
import PySem.Challenge.RW_nz0231_01
set_option Elab.async false
set_option genInjectivity false
set_option genSizeOf false
set_option genCtorIdx false
set_option bootstrap.genMatcherCode false
set_option compiler.extract_closed false
noncomputable section
set_option autoImplicit false
set_option maxRecDepth 100000
set_option linter.all false
namespace Internal
open PySem PySem.W PyProof.Rows PySem.Calls
noncomputable abbrev ad:=@Nat.le_trans
noncomputable abbrev ae:=@Eq.symm
noncomputable abbrev af:=@wpAny_bind
noncomputable abbrev ah:=@congrArg
noncomputable abbrev aj:=@Nat.le_of_ble_eq_true
noncomputable abbrev an:=@Bool.and_eq_true_iff
noncomputable abbrev ao:=@wpAny_pure
noncomputable abbrev aq:=@List.length_map
noncomputable abbrev au:=@List.mem_of_getElem?
noncomputable abbrev av:=@List.mem_singleton
noncomputable abbrev aw:=@Nat.le_of_eq
noncomputable abbrev ay:=@List.getElem?_eq_getElem
noncomputable abbrev az:=@Nat.lt_of_le_of_lt
noncomputable abbrev aA:=@List.length_append
noncomputable abbrev aB:=@List.mem_cons_of_mem
noncomputable abbrev aC:=@Nat.lt_of_lt_of_le
noncomputable abbrev aE:=@Bool.false_ne_true
noncomputable abbrev aF:=@of_decide_eq_true
noncomputable abbrev aG:=@Nat.le_refl
noncomputable abbrev aH:=@List.append_assoc
noncomputable abbrev aI:=@Heap.get?_push_of_some
noncomputable abbrev aK:=@List.mem_cons
noncomputable abbrev aL:=@Nat.le_of_lt
noncomputable abbrev aN:=@Int.lt_of_lt_of_le
noncomputable abbrev aP:=@Heap.get?_push_size
noncomputable abbrev aQ:=@List.getD_eq_getElem?_getD
noncomputable abbrev aR:=@Heap.lt_size
noncomputable abbrev aS:=@Option.some.inj
noncomputable abbrev aU:=@PySem.sizeLine_eq
noncomputable abbrev aV:=@List.mem_cons_self
noncomputable abbrev aW:=@Int.ofNat_le
noncomputable abbrev aX:=@Int.ofNat_lt
noncomputable abbrev aY:=@List.map_append
noncomputable abbrev aZ:=@decide_eq_true
noncomputable abbrev a9:=@Nat.le_add_right
noncomputable abbrev bb:=@Nat.add_le_add_left
noncomputable abbrev bc:=@List.getElem?_map
noncomputable abbrev be:=@List.getElem?_eq_some_iff
noncomputable abbrev bk:=@wpAny_holding
noncomputable abbrev bl:=@Option.map_eq_some_iff
noncomputable abbrev bp:=@Int.le_trans
noncomputable abbrev br:=@of_decide_eq_false
noncomputable abbrev bu:=@Array.length_toList
noncomputable abbrev bw:=@Nat.ne_of_lt
noncomputable abbrev bx:=@List.mem_append_right
noncomputable abbrev bz:=@decide_eq_false
noncomputable abbrev bA:=@Int.natCast_nonneg
noncomputable abbrev bC:=@Nat.zero_le
noncomputable abbrev bD:=@Nat.add_le_add_right
noncomputable abbrev bE:=@builtinLookup_eq_fast
noncomputable abbrev bF:=@Nat.add_le_add
noncomputable abbrev bG:=@wpAny_of_eq
noncomputable abbrev bH:=@Nat.le_of_lt_succ
noncomputable abbrev bI:=@List.mem_append
noncomputable abbrev bJ:=@List.mem_append_left
noncomputable abbrev bK:=@List.length_take
noncomputable abbrev bL:=@Nat.succ.inj
noncomputable abbrev bN:=@wpAny_specialOf
noncomputable abbrev bV:=@List.take_add_one
noncomputable abbrev bX:=@List.contains_iff_mem
noncomputable abbrev bZ:=@Nat.zero_add
noncomputable abbrev cb:=@Option.isSome_iff_exists
noncomputable abbrev ce:=@wpAny_standAt
noncomputable abbrev cf:=@List.exists_cons_of_length_eq_add_one
noncomputable abbrev cq:=@List.mem_map
noncomputable abbrev cy:=@List.length_cons
noncomputable abbrev cA:=@isSubtype_type
noncomputable abbrev cD:=@wpAny_loadPart_at
noncomputable abbrev cE:=@Nat.le_succ_of_le
noncomputable abbrev cF:=@List.take_of_length_le
noncomputable abbrev cG:=@Nat.lt_trans
noncomputable abbrev cJ:=@typeLookup_type
noncomputable abbrev cK:=@List.append_nil
noncomputable abbrev cL:=@List.length_set
noncomputable abbrev cS:=@List.mem_filterMap
noncomputable abbrev cT:=@Nat.le_succ
noncomputable abbrev cU:=@Int.lt_of_le_of_lt
noncomputable abbrev cY:=@List.getElem?_append_left
noncomputable abbrev cZ:=@Int.not_lt
noncomputable abbrev c9:=@Array.getElem?_toList
noncomputable abbrev dp:=@Bool.or_eq_true_iff
noncomputable abbrev dq:=@Nat.mul_le_mul_left
noncomputable abbrev dE:=@codeAny_builtin
noncomputable abbrev dG:=@Classical.byContradiction
noncomputable abbrev dJ:=@Heap.get?_update_self
noncomputable abbrev dK:=@List.perm_append_comm
noncomputable abbrev d8:=@List.length_range
noncomputable abbrev d9:=@List.size_toArray
noncomputable abbrev eu:=@Bool.eq_iff_iff
noncomputable abbrev eI:=@beq_iff_eq
noncomputable abbrev iw:=@Nat.not_lt
noncomputable abbrev iV:=@Nat.lt_of_add_lt_add_left
noncomputable abbrev wP:=@Nat.lt_of_succ_lt
end Internal
namespace Internal
universe u
theorem dA{p0 p1:Prop}{q:Prop}(h:p0/\p1)(f:p0->p1->q):q:=f h.1 h.2
theorem ip{p0 p1 p2:Prop}{q:Prop}(h:p0/\p1/\p2)(f:p0->p1->p2->q):q:=f h.1 h.2.1 h.2.2
theorem ig{p0 p1 p2 p3:Prop}{q:Prop}(h:p0/\p1/\p2/\p3)(f:p0->p1->p2->p3->q):q:=f h.1 h.2.1 h.2.2.1 h.2.2.2
theorem Iu{p0 p1 p2 p3 p4:Prop}{q:Prop}(h:p0/\p1/\p2/\p3/\p4)(f:p0->p1->p2->p3->p4->q):q:=f h.1 h.2.1 h.2.2.1 h.2.2.2.1 h.2.2.2.2
theorem L7{p0 p1 p2 p3 p4 p5:Prop}{q:Prop}(h:p0/\p1/\p2/\p3/\p4/\p5)(f:p0->p1->p2->p3->p4->p5->q):q:=f h.1 h.2.1 h.2.2.1 h.2.2.2.1 h.2.2.2.2.1 h.2.2.2.2.2
theorem cN{A0:Sort _}{p0:A0->Prop}{q:Prop}(h:∃a,p0 a)(f:∀a,p0 a->q):q:=by obtain⟨a,h0⟩:=h;exact f a h0
theorem aT{A0:Sort _}{p0 p1:A0->Prop}{q:Prop}(h:∃a,p0 a/\p1 a)(f:∀a,p0 a->p1 a->q):q:=by obtain⟨a,h0,h1⟩:=h;exact f a h0 h1
theorem pB{A0:Sort _}{p0 p1 p2:A0->Prop}{q:Prop}(h:∃a,p0 a/\p1 a/\p2 a)(f:∀a,p0 a->p1 a->p2 a->q):q:=by obtain⟨a,h0,h1,h2⟩:=h;exact f a h0 h1 h2
theorem L4{A0:Sort _}{p0 p1 p2 p3 p4:A0->Prop}{q:Prop}(h:∃a,p0 a/\p1 a/\p2 a/\p3 a/\p4 a)(f:∀a,p0 a->p1 a->p2 a->p3 a->p4 a->q):q:=by obtain⟨a,h0,h1,h2,h3,h4⟩:=h;exact f a h0 h1 h2 h3 h4
theorem JQ{A0:Sort _}{p0 p1 p2 p3 p4 p5 p6:A0->Prop}{q:Prop}(h:∃a,p0 a/\p1 a/\p2 a/\p3 a/\p4 a/\p5 a/\p6 a)(f:∀a,p0 a->p1 a->p2 a->p3 a->p4 a->p5 a->p6 a->q):q:=by obtain⟨a,h0,h1,h2,h3,h4,h5,h6⟩:=h;exact f a h0 h1 h2 h3 h4 h5 h6
theorem fu{A0:Sort _}{A1:Sort _}{p0:A0->A1->Prop}{q:Prop}(h:∃a b,p0 a b)(f:∀a b,p0 a b->q):q:=by obtain⟨a,b,h0⟩:=h;exact f a b h0
theorem ey{A0:Sort _}{A1:Sort _}{p0 p1:A0->A1->Prop}{q:Prop}(h:∃a b,p0 a b/\p1 a b)(f:∀a b,p0 a b->p1 a b->q):q:=by obtain⟨a,b,h0,h1⟩:=h;exact f a b h0 h1
theorem eW{A0:Sort _}{A1:Sort _}{p0 p1 p2:A0->A1->Prop}{q:Prop}(h:∃a b,p0 a b/\p1 a b/\p2 a b)(f:∀a b,p0 a b->p1 a b->p2 a b->q):q:=by obtain⟨a,b,h0,h1,h2⟩:=h;exact f a b h0 h1 h2
theorem LY{A0:Sort _}{A1:Sort _}{A2:Sort _}{p0:A0->A1->A2->Prop}{q:Prop}(h:∃a b c,p0 a b c)(f:∀a b c,p0 a b c->q):q:=by obtain⟨a,b,c,h0⟩:=h;exact f a b c h0
theorem iE{A0:Sort _}{A1:Sort _}{A2:Sort _}{p0 p1:A0->A1->A2->Prop}{q:Prop}(h:∃a b c,p0 a b c/\p1 a b c)(f:∀a b c,p0 a b c->p1 a b c->q):q:=by obtain⟨a,b,c,h0,h1⟩:=h;exact f a b c h0 h1
theorem rZ{A0:Sort _}{A1:Sort _}{A2:Sort _}{p0 p1 p2:A0->A1->A2->Prop}{q:Prop}(h:∃a b c,p0 a b c/\p1 a b c/\p2 a b c)(f:∀a b c,p0 a b c->p1 a b c->p2 a b c->q):q:=by obtain⟨a,b,c,h0,h1,h2⟩:=h;exact f a b c h0 h1 h2
theorem EP{A0:Sort _}{A1:Sort _}{A2:Sort _}{p0 p1 p2 p3:A0->A1->A2->Prop}{q:Prop}(h:∃a b c,p0 a b c/\p1 a b c/\p2 a b c/\p3 a b c)(f:∀a b c,p0 a b c->p1 a b c->p2 a b c->p3 a b c->q):q:=by obtain⟨a,b,c,h0,h1,h2,h3⟩:=h;exact f a b c h0 h1 h2 h3
theorem JV{A0:Sort _}{A1:Sort _}{A2:Sort _}{p0 p1 p2 p3 p4:A0->A1->A2->Prop}{q:Prop}(h:∃a b c,p0 a b c/\p1 a b c/\p2 a b c/\p3 a b c/\p4 a b c)(f:∀a b c,p0 a b c->p1 a b c->p2 a b c->p3 a b c->p4 a b c->q):q:=by obtain⟨a,b,c,h0,h1,h2,h3,h4⟩:=h;exact f a b c h0 h1 h2 h3 h4
theorem Mf{A0:Sort _}{A1:Sort _}{A2:Sort _}{p0 p1 p2 p3 p4 p5:A0->A1->A2->Prop}{q:Prop}(h:∃a b c,p0 a b c/\p1 a b c/\p2 a b c/\p3 a b c/\p4 a b c/\p5 a b c)(f:∀a b c,p0 a b c->p1 a b c->p2 a b c->p3 a b c->p4 a b c->p5 a b c->q):q:=by obtain⟨a,b,c,h0,h1,h2,h3,h4,h5⟩:=h;exact f a b c h0 h1 h2 h3 h4 h5
theorem xt{A0:Sort _}{A1:Sort _}{A2:Sort _}{A3:Sort _}{p0 p1:A0->A1->A2->A3->Prop}{q:Prop}(h:∃a b c d,p0 a b c d/\p1 a b c d)(f:∀a b c d,p0 a b c d->p1 a b c d->q):q:=by obtain⟨a,b,c,d,h0,h1⟩:=h;exact f a b c d h0 h1
theorem JW{A0:Sort _}{A1:Sort _}{A2:Sort _}{A3:Sort _}{p0 p1 p2:A0->A1->A2->A3->Prop}{q:Prop}(h:∃a b c d,p0 a b c d/\p1 a b c d/\p2 a b c d)(f:∀a b c d,p0 a b c d->p1 a b c d->p2 a b c d->q):q:=by obtain⟨a,b,c,d,h0,h1,h2⟩:=h;exact f a b c d h0 h1 h2
theorem EV{A0:Sort _}{A1:Sort _}{A2:Sort _}{A3:Sort _}{p0 p1 p2 p3:A0->A1->A2->A3->Prop}{q:Prop}(h:∃a b c d,p0 a b c d/\p1 a b c d/\p2 a b c d/\p3 a b c d)(f:∀a b c d,p0 a b c d->p1 a b c d->p2 a b c d->p3 a b c d->q):q:=by obtain⟨a,b,c,d,h0,h1,h2,h3⟩:=h;exact f a b c d h0 h1 h2 h3
theorem qE{A0:Sort _}{A1:Sort _}{A2:Sort _}{A3:Sort _}{p0 p1 p2 p3 p4:A0->A1->A2->A3->Prop}{q:Prop}(h:∃a b c d,p0 a b c d/\p1 a b c d/\p2 a b c d/\p3 a b c d/\p4 a b c d)(f:∀a b c d,p0 a b c d->p1 a b c d->p2 a b c d->p3 a b c d->p4 a b c d->q):q:=by obtain⟨a,b,c,d,h0,h1,h2,h3,h4⟩:=h;exact f a b c d h0 h1 h2 h3 h4
theorem Kb{a b n r:Nat}(h:a+4 * (n+1)+50 < r)(k:b<=a+4):b+4 * n+50 < r:=by omega
theorem Kx{a b n r:Nat}(h:a+40 * (n+1)+100 < r)(k:b<=a+40):b+40 * n+100 < r:=by omega
theorem Ja{j i k:Nat}(h:j - i=k+1):j - (i+1)=k:=ah Nat.pred h
theorem Ik{j i:Nat}(h:j - i=0)(l:i<=j):i=j:=Nat.le_antisymm l (Nat.le_of_sub_eq_zero h)
theorem Ip{t N:Nat}(h:t < N):((N - t : Nat):Int) - 1=(N - (t+1):Nat):=by
 rw[show N - t=(N - (t+1))+1 from (Nat.succ_pred_eq_of_pos (Nat.sub_pos_of_lt h)).symm];exact Int.add_sub_cancel (N - (t+1):Nat) 1
theorem L3{x y:Nat}:(max (x:Int) y).toNat=max x y:=by omega
theorem M6{a m r:Nat}(h:a+m+50 < r):a < r:=az (Nat.le_add_right_of_le (a9 a m)) h
end Internal
namespace Internal
open PySem PySem.W PyProof.Rows PySem.Calls
noncomputable def im(c:Code):Prop:=∀ (M:Model)(v:Value)(p:Pos)(s:Shared),Sem.wp M ⟨c,none,none,[],none⟩ (Builtin.Bytes.exported v) (λb _ _=>b=false) (λ_ _ _=>True) p s
structure Nd(Γ:Ctx):Prop where
 code : im Γ.code
 below : ∀x∈Γ.below,im x.1
noncomputable def cW{α:Type}(M:Model)(A:Around)(t:Sem α)(Q:α->Shared->Prop)(E:Value->Shared->Prop)(s:Shared):Prop:=
 ∀Γ p,Γ.In A->Nd Γ->Sem.wp M Γ t (λa _ s'=>Q a s') (λe _ s'=>E e s') p s
noncomputable def codeN(M:Model)(A:Around)(c:Code)(R:Result->Shared->Prop)(s:Shared):Prop:=
 ∀Γ p,Γ.code=c->Γ.Below A->(∀x∈Γ.below,im x.1)->wpCode M Γ R p s
section
variable {α β:Type}{M:Model}{A:Around}{E:Value->Shared->Prop}{s:Shared}
theorem cW.of{t:Sem α}{Q:α->Shared->Prop}(h:wpAny M A t Q E s):cW M A t Q E s:=λΓ p i _=>h Γ p i
theorem ax{a:α}{Q:α->Shared->Prop}(h:Q a s):cW M A (pure a) Q E s:= .of (ao h)
theorem aD{t:Sem α}{Q Q':α->Shared->Prop}{E':Value->Shared->Prop}(h:cW M A t Q E s)(hQ:∀a s,Q a s->Q' a s)(hE:∀e s,E e s->E' e s):cW M A t Q' E' s:=
 λΓ p i d=>Sem.wp_mono M Γ t (λa _ z=>hQ a z) (λe _ z=>hE e z) p s (h Γ p i d)
theorem ai{m:Sem α}{f:α->Sem β}{Q:β->Shared->Prop}(h:cW M A m (λa s'=>cW M A (f a) Q E s') E s):cW M A (m >>= f) Q E s:=λΓ p i d=>by
 rw[Sem.wp_bind']
 exact Sem.wp_mono M Γ m (λa p' z y=>y Γ p' i d) (λ_ _ _ y=>y) p s (h Γ p i d)
theorem dw{m:Sem α}{k:Value->Sem Unit}{Q:α->Shared->Prop}(h:cW M A m Q (λe s'=>cW M A (k e) (λ_ s''=>E e s'') E s') s):cW M A (m.onRaise k) Q E s:=λΓ p i d=>by
 rw[Sem.wp_onRaise]
 exact Sem.wp_mono M Γ m (λ_ _ _ y=>y) (λe p' z y=>y Γ p' i d) p s (h Γ p i d)
theorem kb{m:Sem α}{Q:Except Value α->Shared->Prop}(h:cW M A m (λa=>Q (.ok a)) (λe=>Q (.error e)) s):cW M A m.attempt Q E s:=λΓ p i d=>by
 rw[Sem.wp_attempt];exact h Γ p i d
theorem aJ{vs:List Value}{m:Sem α}{Q:α->Shared->Prop}(h:cW M A m Q E s):cW M A (holding vs m) Q E s:=λΓ p i d=>by
 rw[Sem.wp_holding];exact h Γ p i d
theorem du{c:Prop} [Decidable c] {a b:Sem α}{Q:α->Shared->Prop}(q:¬c)(h:cW M A b Q E s):cW M A (if c then a else b) Q E s:=by refine ae (if_neg q)▸ ?_;exact h
theorem tX{c:Prop} [Decidable c] {a b:Sem α}{Q:α->Shared->Prop}(q:c)(h:cW M A a Q E s):cW M A (if c then a else b) Q E s:=by refine ae (if_pos q)▸ ?_;exact h
theorem qz{tag:String}{Q:Unit->Shared->Prop}(h:Q () s):cW M A (rule tag) Q E s:= .of (wpAny_rule h)
theorem bB{pos:Pos}{Q:Unit->Shared->Prop}(h:Q () s):cW M A (standAt pos) Q E s:= .of (ce h)
theorem bR{t:Sem α}{a:α}{Q:α->Shared->Prop}(e:t=pure a)(h:Q a s):cW M A t Q E s:=by subst e;exact ax h
theorem Nd.enter{Γ:Ctx}(d:Nd Γ)(c:Code)(h:Option Value)(p:Pos):∀x∈(Γ.enter c h p).below,im x.1:=λx hx=>by
 have : x∈(Γ.code,p)::Γ.below:=hx
 rcases aK.mp this with rfl | m
 ·exact d.code
 ·exact d.below x m
theorem ue{c:Code}{h:Option Value}{Q:Flow->Shared->Prop}
  (hc:codeN M (A.mark h) c (λr s'=>match r with | .ok f=>Q f s' | .error e=>E e s') s)(hnb:h≠some byPass:=by intro x;cases x):cW M A (run c h) Q E s:=
 λΓ p i d=>by rw[Sem.wp_run];exact hc _ p rfl (i.enter c h p hnb) (d.enter c h p)
theorem uT{c:Code}{Q:Value->Shared->Prop}
  (hc:codeN M A c (λr s'=>match r with | .ok (.ret v)=>Q v s' | .ok _=>False | .error e=>E e s') s):cW M A (runValue c) Q E s:=
 λΓ p i d=>by rw[Sem.wp_runValue];exact hc _ p rfl (i.enter c none p (by intro x;cases x)) (d.enter c none p)
theorem iN{f:Value}{pos:List Value}{kw:List (Str×Value)}{Q:Value->Shared->Prop}
  (hc:codeN M A (.call f ⟨pos,kw⟩) (λr s'=>match r with | .ok (.ret v)=>Q v s' | .ok _=>False | .error e=>E e s') s):cW M A (call f pos kw) Q E s:=uT hc
theorem eU{c:Code}{R R':Result->Shared->Prop}(h:codeN M A c R s)(hR:∀r s,R r s->R' r s):codeN M A c R' s:=
 λΓ p hc i d=>wpCode_mono hR (h Γ p hc i d)
theorem bP{c:Code}{R:Result->Shared->Prop}(ok:im c)
  (h:cW M (A.under c) (M.den c) (λfin s'=>match fin with | .done f=>R (.ok f) s' | .again c'=>c'.quiet=true/\codeN M A c' R s')
   (λe s'=>R (.error e) s') s):codeN M A c R s:=λΓ p hc i d=>by
 refine (wpCode_iff_wp ..).mpr ?_;rw[hc]
 refine Sem.wp_mono M Γ _ (λfin p' s' h'=> ?_) (λ_ _ _ h'=>h') p s (h Γ p (hc▸i.in) ⟨by refine ae hc▸ ?_;exact ok,d⟩)
 cases fin with
 |done f=>exact h'
 |again c'=>exact⟨h'.1,h'.2 (Γ.goto c') p' rfl (i.goto c') d⟩
theorem ET{x:Bool}:((x&&false)||false)=false:=by cases x<;>rfl
theorem uP{v:Value}{Q:Bool->Shared->Prop}(h:Q false s):cW M A (Builtin.Bytes.exported v) Q E s:=λΓ p _ d=>by
 show Q (((Γ.code,p)::Γ.below).any _) s
 rw[List.any_eq_false.mpr λx hx=> ?_]
 ·exact h
 ·have z:=λok : im x.1=>ok M v x.2 s
  rcases aK.mp hx with rfl | m
  ·exact λq=>aE ((z d.code).symm.trans (dp.mpr (.inl q)))
  ·exact λq=>aE ((z (d.below _ m)).symm.trans (dp.mpr (.inl q)))
end
theorem Ap : Nd ⟨.builtin "claim.caller" {},none,none,[],none⟩:=⟨λ_ _ _ _=>rfl,λ_ h=>nomatch h⟩
theorem zE{prog:Program}{w:World}{t:Sem Fin}{s:Shared}{R:Result->Shared->Prop}(hreg:s.asleep)
  (h:cW (model prog w) callerA t (λfin s'=>∃f,fin= .done f/\(R (.ok f) s'/\leftWithCleanup s'.gens=false)) (λe s'=>R (.error e) s'/\leftWithCleanup s'.gens=false) s) :
  ∃n r s' s'',runN (denote table) prog w n s ⟨t, .builtin "claim.caller" {},default,[]⟩= .halted (outcomeOf r) s'/\
   schedN (denote table) prog w n (.single s ⟨t, .builtin "claim.caller" {},default,[]⟩)= .halted (outcomeOf r) s'/\s'.forget=s''.forget/\R r s'':=by
 have z : Sem.wp (model prog w) ⟨.builtin "claim.caller" {},none,none,[],none⟩ t (Sem.finPost (model prog w) ⟨.builtin "claim.caller" {},none,none,[],none⟩ λr s'=>R r s'/\leftWithCleanup s'.gens=false)
   (λe _ s'=>R (.error e) s'/\leftWithCleanup s'.gens=false) default s:=by
  refine Sem.wp_mono (model prog w) _ t (λfin p' s' h'=> ?_) (λ_ _ _ h'=>h') default s (h _ default caller_in Ap)
  refine aT h' λf zr1_ hf=> ?_;subst zr1_
  exact hf
 refine EV (wp_halts_full (M:=model prog w) (R:=R) hreg z) λn r s₁ s₂ hs hn hfo hR=> ?_
 exact⟨n,r,s₂,s₁,hn,hs,hfo,hR⟩
theorem zM{c:ClaimW}{tree:List Value->Sem Fin}{w:World}{s:Shared}{free:Addr->Prop}{gens:Prop}{kept:Heap->Prop}(hz:s.asleep)(hgens:s.gens=#[])
  (hspec:∀args,c.pre args=true->WData.layableAll args=true->
   ∀ord : List DictEntry->List DictEntry,(∀l,(ord l).Perm l)->
   ∃vs s₁,layAllW c.records (classAt s.heap) w.params ord args s=some (vs,s₁)/\
    cW (model c.prog w) callerA (tree vs) (λfin s'=>∃f,fin= .done f/\(c.Ends s args vs s₁ (.ok f) s'/\s'.os=s.os/\AllBare s'.gens/\kept s'.heap))
     (λe s'=>c.Ends s args vs s₁ (.error e) s'/\s'.os=s.os/\AllBare s'.gens/\kept s'.heap) s₁) :
  c.CallFrom (λvs=>⟨tree vs, .builtin "claim.caller" {},default,[]⟩) w free gens kept s:=by
 intro args hpre hlay ord hord
 refine dG λhn=> ?_
 refine ey (hspec args hpre hlay ord hord) λvs s₁ hlaid hcode=> ?_
 obtain⟨k,r,s',s'',hrun,hsched,hfo,hcase,hos,hkp⟩:=zE (prog:=c.prog) (w:=w) (t:=tree vs) (s:=s₁)
  (R:=λr s'=>c.Ends s args vs s₁ r s'/\s'.os=s.os/\kept s'.heap) (Shared.asleep_of_life (layAllW_rest _ _ _ hlaid).2.2.2 hz)
  (aD hcode (λfin s' zz=>(by refine L4 zz λf e h1 h2 h3 h4=> ?_;exact⟨f,e,⟨h1,h2,h4⟩,leftWithCleanup_false_of_bare h3⟩)) λe s' zz=>(by refine ig zz λh1 h2 h3 h4=> ?_;exact⟨⟨h1,h2,h4⟩,leftWithCleanup_false_of_bare h3⟩))
 refine Iu (Shared.forget_eq hfo) λeh _ _ eo _=> ?_
 have hkp : kept s'.heap:=by refine ae eh▸ ?_;exact hkp
 rw[<-eo] at hos
 have hlife : s'.heap.life=s.heap.life:=(runN_life _ _ _ hrun).trans (layAllW_rest _ _ _ hlaid).2.2.2
 refine hn ⟨vs,s₁,hlaid,k,_,s',hsched, ?_,(λ_ i x hx=>by rw[hgens] at hx;simp at hx),hkp,by exact ah _ hlife,Shared.rest_eq hos⟩
 clear hn hlife hkp hos hsched
 refine dG λhn=> ?_
 rcases (hcase.congr eh) with ⟨v,rfl,d1,d2,d3,d4,d5⟩ | ⟨e,ob,cls,rfl,d1,d2,d3,d4,d5⟩
 ·exact hn (.inl ⟨v,rfl,d1,d2,d3,λb o y _=>d4 b o y,d5⟩)
 ·exact hn (.inr ⟨e,ob,cls,rfl,d1,d2,d3,d4,λb o y _=>d5 b o y⟩)
noncomputable abbrev GJ(q:Program)(loose:List Str)(XP:(Str->Option Value)->Heap->Prop)(YP:World->Heap->Prop)(r:RowW)(d:DefRec)(kwd:List (Str×Expr)):Prop:=
 ∀ (w:World)(s:Shared)(mg mb:Str->Option Value),Ground q loose r.records XP w s mg mb s.heap->YP w s.heap->∀ (a:Addr)(o:Obj)(pm cd doc dV kV:Value),s.heap.get? a=some o->
  o.data= .func { docDef d.name d.params d.body d.scope pm cd doc with defaults:=dV,kwdefaults:=kV }->s.heap.CodeRec cd d.name->Dflts mg s.heap d.params kwd dV kV->mg d.name=some (.ref a)->s.gens=#[]->sysModules < s.heap.objs.size->
  ∀ (args:List WData)(vals:List Value)(s₁:Shared),r.claim.pre args=true->WData.layableAll args=true->(∃ord : List DictEntry->List DictEntry,(∀l,(ord l).Perm l)/\layAllW r.records (classAt s.heap) w.params ord args s=some (vals,s₁))->
   cW (model r.prog w) callerA (PySem.call (.ref a) vals) (λv s'=>GoodWG r.claim (classAt s.heap) (ExcName.means s.heap) args s₁ (.ok (.ret v)) s')
    (λe s'=>GoodWG r.claim (classAt s.heap) (ExcName.means s.heap) args s₁ (.error e) s') s₁
end Internal
namespace Hd
open PySem PySem.W PyProof.Rows PySem.Calls Internal
theorem PySem.W.holds_open{r:OpenRow}{q:Program}{loose:List Str}{Xt:Shared->Bool}{XP:(Str->Option Value)->Heap->Prop}{α:Type}{Yf:Shared->α}{Ya:World->α}{YP:World->Heap->Prop}{d:DefRec}{kwd:List (Str×Expr)}{N:Nat}
  (left:LeftO r.prog q loose Xt Yf Ya N)(hY:∀w s,Yf s=Ya w->YP w s.heap)(hYk:∀w h h',YP w h->(∀b o,h.get? b=some o->h'.get? b=some o)->YP w h')
  (hX:∀s,Xt s=true->XP (s.heap.nsMap mainGlobals) s.heap)(hXk:∀mg h h',XP mg h->(∀b o,h.get? b=some o->h'.get? b=some o)->XP mg h')
  (hdef:defOf q r.name=some (d,kwd))(hp:r.prog.theDef r.name=some (d.params,d.body,d.scope))(hk:kwWritten? d.params.kwonlyargs d.params.kw_defaults=some kwd)(hRf:∀s,Xt s=true->RecFacts r.records s.heap)(hwr:(!r.writes||r.records.isEmpty)=true)
  (k1:r.wellSaid=true)(ok:(chainsOk q&&opensWell r.prog&&(frees r.toRowW&&r.within.isEmpty))=true)(hb:r.prog.bare)(hw:r.toRowW.promised)
  (call:GJ q loose XP YP r.toRowW d kwd):r.Holds:=by
 obtain⟨ok,k5⟩:=an.mp ok
 obtain⟨hch,o1⟩:=an.mp ok
 obtain⟨k5,k6⟩:=an.mp k5
 obtain⟨hsame,hu,ha,hap,hm⟩:=frees_parts k5
 refine⟨k1,hw,⟨hb,o1,by show r.makers.map _=[];rw[hm];rfl⟩,hw.witness,λw=>⟨(left.behind hX hch w).1,λs' hs'=> ?_⟩⟩
 refine dG λhn=> ?_
 obtain⟨s₀,hf,hg0,s,hT,hz,hgens,hg,G00,y⟩:=(left.behind (XP:=λmg h=>XP mg h/\RecFacts r.records h) (λs hs=>⟨hX s hs,hRf s hs⟩) hch w).2 s' hs'
 have G0 : Ground q loose [] XP w s (s.heap.nsMap mainGlobals) (s.heap.nsMap builtinsNs) s.heap:=⟨G00.T,G00.B,G00.D,G00.TE,G00.TD,G00.W,G00.X.1,G00.cls,G00.has,G00.apart,G00.once,G00.K⟩
 have RF:=G00.X.2
 have hT':=hT
 refine hn ⟨s₀,hf,hg0,s,hT,λn hn=> ?_,RF.1,RF.2.1, ?_⟩
 ·obtain rfl : n=r.name:=by split at hn<;>simp_all
  exact pinned_of_view hg G0 hdef hp hk
 have hgens : s.gens=#[]:=Array.eq_empty_of_size_eq_zero (eI.mp hgens)
 have G : Ground q loose r.records XP w s _ _ s.heap:=RF.ground G0
 refine zM (c:=r.toRowW.claim) hz hgens λargs hpre hlay ord hord=> ?_
 obtain⟨⟨vs,s₁⟩,hlaid⟩:=cb.mp (layAllW_isSome (P:=w.params) (ord:=ord) G.has args r.args s (pre_splitW hpre).1)
 have keeps:=layAllW_keeps _ _ _ hlaid
 have hal:=layAllW_rest _ _ _ hlaid
 obtain⟨as,hrd,hin,hold⟩:=reads_layAllW hord _ _ _ hlaid hlay s₁.heap (λ_ _ e=>e)
 have L : Laid r.records w s s₁ args vs as:=⟨⟨ord,hord,hlaid⟩,hrd,hin,hold,keeps,hal.1.trans hgens,hal.2.2.1⟩
 have G₁:=G.keeps hXk keeps
 obtain⟨a,o,pm,cd,doc,dV,kV,h1,h2,h3,h4,h5⟩:=G.fn hdef
 have h:=call w s _ _ G (hY w s y) a o pm cd doc dV kV h2 h3 h4 h5 (defOf_name hdef▸h1) hgens G.low args vs s₁ hpre hlay ⟨ord,hord,hlaid⟩
 have hi:=ident_freeW hu ha hap
 have hwi : r.toRowW.claim.within=[]:=List.isEmpty_iff.mp k6
 refine⟨vs,s₁,hlaid,ai (.of (wpAny_nsGet G₁.T.g ?_))⟩
 rw[h1]
 refine ai (aD h (λv s' g=>ax ⟨_,rfl,have z:=g.laid (c:=r.toRowW.claim) hsame hwi hi L;⟨z.1,z.2.1,z.2.2,λq=>⟨namesKept_of hT' hg r.keeps keeps g.2.1.old,noTable hwr q⟩⟩⟩) λe s' g=>have z:=g.laid (c:=r.toRowW.claim) hsame hwi hi L;⟨z.1,z.2.1,z.2.2,λq=>⟨namesKept_of hT' hg r.keeps keeps g.2.1.old,noTable hwr q⟩⟩)
end Hd
namespace Internal
open PySem PySem.W PyProof.Rows
noncomputable section
noncomputable abbrev pw : Program:=PySem.Challenge.rw_nz0231_01.row.toRowW.prog
noncomputable def q0 : Program:=view pw [61]
noncomputable def jh : List Str:=(pw.main.body.take 61).flatMap bindsAtTop
noncomputable def MC : Obj:={ cls:= .type "tuple",data:= .seq #[] }
noncomputable def ME : Obj:={ cls:= .none,data:= .fields #[] }
noncomputable def MJ : Obj:={ cls:= .type "code",data:= .fields #[.str "<module>" 182, .str "<module>" 183, .str "/claim/cut.py" 184, .int 1 0, .int 0 0, .int 0 0, .int 0 0, .int 0 0, .ref 11, .bool false, .int 181 0, .ref 12, .none, .none, .none, .none, .int 185 0, .int 1 0, .str "/claim/cut.py" 186] }
noncomputable def MM : Obj:={ cls:= .type "frame",slots:=#[some (.ref 13),some (.ref 3),some (.ref 3),none,some (.str "__main__" 164),none,some (.ref 0)] }
noncomputable def Ni(P:Params):Heap:=⟨⟨[boot_o_0 P,boot_o_1 P,boot_o_2 P,boot_o_3 P,boot_o_4 P,boot_o_5 P,boot_o_6 P,boot_o_7 P,boot_o_8 P,boot_o_9 P,boot_o_10 P,MC,ME,MJ,MM]⟩,{}⟩
noncomputable def M8(P:Params):BT:= .node (boot_o_0 P)
 (.node (boot_o_1 P) (.node (boot_o_3 P) (.node (boot_o_7 P) .nil .nil) (.node MC .nil .nil)) (.node (boot_o_5 P) (.node (boot_o_9 P) .nil .nil) (.node MJ .nil .nil)))
 (.node (boot_o_2 P) (.node (boot_o_4 P) (.node (boot_o_8 P) .nil .nil) (.node ME .nil .nil)) (.node (boot_o_6 P) (.node (boot_o_10 P) .nil .nil) (.node MM .nil .nil)))
noncomputable def lO : List Stmt:=behindTheImports pw
noncomputable def xZ : Env:={ scope:=pw.main.scope,locals:=mainNs,globals:=mainNs,cells:=[],code:= .ref 13,frame:=some 14 }
noncomputable def jW : Code:= .body lO xZ
noncomputable def p0 : Pos:=⟨0,0,0,0⟩
noncomputable def mS : Option Value:=some (.ref 6)
noncomputable def Cw(w:World)(os:OsState):SharedT:=⟨M8 w.params,15,{},⟨[]⟩,boot_drawn,187,os⟩
noncomputable def Lq(ex:List Stmt->Env->Sem Flow):Thread:=⟨(ex lO xZ).wrap doneF deadEnd id id,jW,p0,[topFrame p0]⟩
noncomputable abbrev KB:=(String->Option Builtin)->Program->World->Nat->Option Value->Nat->Nat->SharedT->Thread->Option (Flow×SharedT×Code×Pos)
noncomputable def J8(sr:KB)(tb:String->Option Builtin)(ex:List Stmt->Env->Sem Flow)(w:World)(os:OsState):Option (Flow×SharedT×Code×Pos):=
 sr tb pw w 11 mS 1 8000 (Cw w os) (Lq ex)
noncomputable abbrev K3:=PySem.W.Fast.tw14364793385576792824
theorem Hs : ∀w : World,(λos=>topGo K3 pw w 11 mS 12 ⟨boot_heap w.params,#[],boot_drawn,boot_toks,os⟩ (topStub pw))=λos=>some ((Cw w os).abs,⟨denote K3 (.body lO xZ),jW,p0,[topFrame p0]⟩):=λw=>by kernel_rfl
theorem Hj : ∀w : World,(λos=>segRun K3 pw w 11 mS 1 40 (Cw w os).abs (blockOf lO xZ jW p0 [topFrame p0]))=λos=>some (.next,(Cw w os).abs,jW,p0):=λw=>by kernel_rfl
theorem IS : ∀w : World,(fencedOpening treeTable pw w 16100).map (λs=>(s.heap,s.gens,s.drawn,s.toks))=some (boot_heap w.params,Array.mk [],boot_drawn,boot_toks):=boot_open rfl (by decide) λs=>rfl
theorem Kh : ∀w : World,((boot_heap w.params).isNs mainGlobals&&(Array.mk []:Array GenState).size==0,(boot_heap w.params).objs.size,(boot_heap w.params).nsMap mainGlobals (Str.ofString "__annotations__"))=(true,11,mS):=λw=>by kernel_rfl
theorem Hx{tb:String->Option Builtin}(h:tb=K3)(w:World)(os:OsState):topGo tb pw w 11 mS 12 ⟨boot_heap w.params,#[],boot_drawn,boot_toks,os⟩ (topStub pw)=some ((Cw w os).abs,⟨denote tb (.body lO xZ),jW,p0,[topFrame p0]⟩):=by subst h;exact congrFun (Hs w) os
theorem IX{tb:String->Option Builtin}(h:tb=K3)(w:World)(os:OsState):segRun tb pw w 11 mS 1 40 (Cw w os).abs (blockOf lO xZ jW p0 [topFrame p0])=some (.next,(Cw w os).abs,jW,p0):=by subst h;exact congrFun (Hj w) os
theorem JB{w:World}{s:Shared}{c:Code}{q:Pos}:topRun treeTable pw w 11 mS 4 s ⟨doneF .next,c,q,[topFrame p0]⟩=some s:=rfl
theorem LQ{w:World}{os:OsState}{s':SharedT}{q:Pos}(hr:segRunT treeTable pw w 11 mS 1 8000 (Cw w os) (piecesOf lO xZ jW p0 [topFrame p0])=some (.next,s',jW,q)) :
  topRun treeTable pw w 11 mS 16100 ⟨boot_heap w.params,#[],boot_drawn,boot_toks,os⟩ (topStub pw)=some s'.abs:=by
 have t1:=piece_app (rest:=[]) (segRun_of hr) (piece_nil JB)
 rw[cK] at t1
 exact topRun_mono 8044 _ _ _ _ (go_top (Hx PySem.W.Fast.te14364793385576792824 w os) (piece_block (IX PySem.W.Fast.te14364793385576792824 w os) t1))
theorem JC{w:World}{os:OsState}{s:Shared}(t0:topRun treeTable pw w 11 mS 16100 ⟨boot_heap w.params,#[],boot_drawn,boot_toks,os⟩ (topStub pw)=some s)
  (h:(staticsOk (importedModules pw.main.body) (boot_heap w.params) s.heap&&namesBound pw s.heap&&gensDone s&&laidKept (boot_heap w.params) s.heap)=true) :
  topFrom treeTable pw w 16100 ⟨boot_heap w.params,#[],boot_drawn,boot_toks,os⟩=some s:=by
 obtain⟨z1,z⟩:=Prod.mk.inj (Kh w)
 obtain⟨z2,z3⟩:=Prod.mk.inj z
 unfold topFrom
 dsimp only
 rw[z1,z2,z3]
 show (topRun treeTable pw w 11 mS 16100 _ _).bind _=_
 rw[t0]
 show (match _ with | true=>_ | false=>_)=_
 rw[h]
theorem JG{tb:String->Option Builtin}{p:Program}{w:World}{N:Nat}{s s':Shared}(e:fencedOpening tb p w N=some s)(t:topFrom tb p w N s=some s'):openEnds tb p w N=some s':=by
 unfold openEnds
 rw[e]
 exact t
noncomputable abbrev yW(w:World)(s:Shared):Bool:=staticsOk (importedModules pw.main.body) (boot_heap w.params) s.heap&&namesBound pw s.heap&&gensDone s&&laidKept (boot_heap w.params) s.heap
theorem JA{α:Type}{Yf:Shared->α}{Ya:World->α}
  (look:∀ (w:World)(os:OsState),∃s' q,segRunT treeTable pw w 11 mS 1 8000 (Cw w os) (Lq execs)=some (.next,s',jW,q)/\yW w s'.abs=true/\openSeen q0 jh (importedModules pw.main.body) (λ_=>true) true s'.abs=openGood q0 jh/\Yf s'.abs=Ya w) :
  LeftO pw q0 jh (λ_=>true) Yf Ya 16100:=λw=>by
 obtain⟨⟨h,gs,d,k,os⟩,e,e'⟩:=bl.mp (IS w)
 obtain⟨rfl,rfl,rfl,rfl⟩ : h=boot_heap w.params/\gs=Array.mk []/\d=boot_drawn/\k=boot_toks:=by simpa only[Prod.mk.injEq] using e'
 obtain⟨s',q,hr,h1,h2,h3⟩:=look w os
 exact (ah (Option.map _) (JG e (JC (LQ hr) h1))).trans (ah some (Prod.ext h2 h3))
end
end Internal
namespace Internal
open PySem PySem.W PyProof.Rows PySem.Calls
theorem J0 : namesResolve pw=true:=by kernel_rfl
theorem JJ : noRoadLSs { strict:= !(importedModules pw.main.body).all cThrough.contains,foot:=none,bare:=(["vars", "dir", "locals"]:List PySem.Str).filter (readsOut pw pw.main.body) } pw.main.body=true:=by kernel_rfl
theorem Ka : (namesMeet pw pw.main.body λ_ n=>PySem.W.attrL n)=true:=by kernel_rfl
set_option maxHeartbeats 0 in
theorem Bs(h:PySem.Challenge.rw_nz0231_01.row.wellSaid=true->PySem.Challenge.rw_nz0231_01.row.Holds):PySem.Challenge.rw_nz0231_01.Holds :=by
 refine holds_law ?_ h
 unfold OpenLaw.wellSaid
 repeat' (with_reducible first | refine look_both ?_ ?_ | unfold OpenRow.wellSaid | unfold OpenRow.partSaid | unfold looksOpen)
 all_goals first | with_reducible exact J0 | with_reducible exact JJ | with_reducible exact Ka | kernel_rfl
set_option genCtorIdx true in
inductive LA where
 |pl (i:Nat)
 |fx (k i:Nat)
 |dy (k i:Nat)
 |tm (i:Nat)
 deriving DecidableEq
set_option genCtorIdx true in
inductive MV where
 |none
 |bool (b:Bool)
 |int (i:Int)
 |str (s:String)
 |bytes (b:List UInt8)
 |tup (vs:List MV)
 |ref (l:LA)
inductive MO where
 |inst (C:Addr)(d:LA)
 |ns (fs:List (String×MV))
 |list (vs:List MV)
 |fz (o:Obj)(vs:List MV)
 |bW (b:List UInt8)
 |bS (kvs:List (Int×MV))
 |dD (kvs:List (String×MV))
 |iS (kvs:List (List UInt8×MV))
structure MH where
 get : LA->Option MO
 us : LA->Prop
mutual
noncomputable def VR(ρ:LA->Addr)(U:LA->Prop)(h:Heap):MV->Value->Prop
 | .none,v=>v= .none
 | .bool b,v=>v= .bool b
 | .int i,v=>∃t,v= .int i t
 | .str x,v=>∃t,v= .str (Str.ofString x) t
 | .bytes b,v=>∃t,v= .bytes b.toArray t
 | .tup vs,v=>∃a o xs ep,v= .ref a/\h.get? a=some o/\o.cls= .type "tuple" /\ o.data= .seq xs ep/\cR ρ U h vs xs.toList
 | .ref l,v=>v= .ref (ρ l)/\U l
noncomputable def cR(ρ:LA->Addr)(U:LA->Prop)(h:Heap):List MV->List Value->Prop
 | [],ys=>ys=[]
 |x::xs,ys=>∃y ys',ys=y::ys'/\VR ρ U h x y/\cR ρ U h xs ys'
end
section
variable {ρ:LA->Addr}{U:LA->Prop}{h:Heap}
theorem VR.none : VR ρ U h .none .none:=by unfold VR;rfl
theorem VR.bool{b:Bool}:VR ρ U h (.bool b) (.bool b):=by unfold VR;rfl
theorem VR.int{i:Int}{t:Tok}:VR ρ U h (.int i) (.int i t):=by unfold VR;exact⟨t,rfl⟩
theorem VR.str{x:String}{t:Tok}:VR ρ U h (.str x) (.str (Str.ofString x) t):=by unfold VR;exact⟨t,rfl⟩
theorem VR.bytes{x:List UInt8}{t:Tok}:VR ρ U h (.bytes x) (.bytes x.toArray t):=by unfold VR;exact⟨t,rfl⟩
theorem VR.ref{l:LA}(u:U l):VR ρ U h (.ref l) (.ref (ρ l)):=by unfold VR;exact⟨rfl,u⟩
theorem VR.tup{vs:List MV}{a:Addr}{o:Obj}{xs:Array Value}{ep:Nat}(e:h.get? a=some o)(c:o.cls= .type "tuple") (d:o.data= .seq xs ep)(r:cR ρ U h vs xs.toList):VR ρ U h (.tup vs) (.ref a):=by
 unfold VR;exact⟨a,o,xs,ep,rfl,e,c,d,r⟩
theorem VR.none_inv{v:Value}(x:VR ρ U h .none v):v= .none:=by unfold VR at x;exact x
theorem VR.bool_inv{b:Bool}{v:Value}(x:VR ρ U h (.bool b) v):v= .bool b:=by unfold VR at x;exact x
theorem VR.int_inv{i:Int}{v:Value}(x:VR ρ U h (.int i) v):∃t,v= .int i t:=by unfold VR at x;exact x
theorem VR.str_inv{i:String}{v:Value}(x:VR ρ U h (.str i) v):∃t,v= .str (Str.ofString i) t:=by unfold VR at x;exact x
theorem VR.d7{i:List UInt8}{v:Value}(x:VR ρ U h (.bytes i) v):∃t,v= .bytes i.toArray t:=by unfold VR at x;exact x
theorem VR.bU{l:LA}{v:Value}(x:VR ρ U h (.ref l) v):v= .ref (ρ l)/\U l:=by unfold VR at x;exact x
theorem VR.dN{vs:List MV}{v:Value}(x:VR ρ U h (.tup vs) v):∃a o xs ep,v= .ref a/\h.get? a=some o/\o.cls= .type "tuple" /\ o.data= .seq xs ep/\cR ρ U h vs xs.toList:=by unfold VR at x;exact x
theorem VR.eH{i:Int}{v:Value}{P:Value->Prop}(x:VR ρ U h (.int i) v)(k:∀t,P (.int i t)):P v:=by obtain⟨t,rfl⟩:=x.int_inv;exact k t
theorem VR.fK{i j:Int}{v w:Value}{P:Value->Value->Prop}(x:VR ρ U h (.int i) v)(y:VR ρ U h (.int j) w)(k:∀t u,P (.int i t) (.int j u)):P v w:=by obtain⟨t,rfl⟩:=x.int_inv;obtain⟨u,rfl⟩:=y.int_inv;exact k t u
theorem VR.dg{i:List UInt8}{v:Value}{P:Value->Prop}(x:VR ρ U h (.bytes i) v)(k:∀t,P (.bytes i.toArray t)):P v:=by obtain⟨t,rfl⟩:=x.d7;exact k t
theorem VR.A8{i:String}{v:Value}{P:Value->Prop}(x:VR ρ U h (.str i) v)(k:∀t,P (.str (Str.ofString i) t)):P v:=by obtain⟨t,rfl⟩:=x.str_inv;exact k t
theorem VR.eB{l:LA}{v:Value}{P:Value->Prop}(x:VR ρ U h (.ref l) v)(k:U l->P (.ref (ρ l))):P v:=by obtain⟨rfl,u⟩:=x.bU;exact k u
theorem cR.nil : cR ρ U h [] []:=by unfold cR;rfl
theorem cR.cons{v:MV}{vs:List MV}{y:Value}{ys:List Value}(a:VR ρ U h v y)(b:cR ρ U h vs ys):cR ρ U h (v::vs) (y::ys):=by unfold cR;exact⟨y,ys,rfl,a,b⟩
theorem cR.nil_inv{ys:List Value}(x:cR ρ U h [] ys):ys=[]:=by unfold cR at x;exact x
theorem cR.cons_inv{v:MV}{vs:List MV}{ys:List Value}(x:cR ρ U h (v::vs) ys):∃y ys',ys=y::ys'/\VR ρ U h v y/\cR ρ U h vs ys':=by unfold cR at x;exact x
theorem cR.len : ∀ {vs:List MV}{ys:List Value},cR ρ U h vs ys->ys.length=vs.length
 | [],_,x=>by rw[x.nil_inv];rfl
 |_::_,_,x=>by obtain⟨y,ys',e,_,r⟩:=x.cons_inv;rw[e,cy,cy,r.len]
theorem cR.append : ∀ {vs:List MV}{ys:List Value}{ws:List MV}{zs:List Value},cR ρ U h vs ys->cR ρ U h ws zs->cR ρ U h (vs++ws) (ys++zs)
 | [],_,_,_,x,y=>by rw[x.nil_inv];exact y
 |_::_,_,_,_,x,y=>by obtain⟨a,ys',e,b,r⟩:=x.cons_inv;rw[e];exact .cons b (r.append y)
theorem cR.get : ∀ {vs:List MV}{ys:List Value}{i:Nat}{v:MV},cR ρ U h vs ys->vs[i]?=some v->∃y,ys[i]?=some y/\VR ρ U h v y
 | [],_,_,_,_,e=>by simp at e
 |a::vs,_,i,v,x,e=>by
  obtain⟨y,ys',q,b,r⟩:=x.cons_inv
  subst q
  cases i with
  |zero=>simp only[List.getElem?_cons_zero,Option.some.injEq] at e;subst e;exact⟨y,rfl,b⟩
  |succ i=>simp only[List.getElem?_cons_succ] at e ⊢;exact r.get e
theorem cR.take : ∀ {vs:List MV}{ys:List Value}(k:Nat),cR ρ U h vs ys->cR ρ U h (vs.take k) (ys.take k)
 |_,_,0,_=>by simpa using cR.nil
 | [],_,k+1,x=>by rw[x.nil_inv];simpa using cR.nil
 |_::_,_,k+1,x=>by obtain⟨y,ys',q,b,r⟩:=x.cons_inv;subst q;simpa using cR.cons b (r.take k)
theorem cR.drop : ∀ {vs:List MV}{ys:List Value}(k:Nat),cR ρ U h vs ys->cR ρ U h (vs.drop k) (ys.drop k)
 |_,_,0,x=>by simpa using x
 | [],_,k+1,x=>by rw[x.nil_inv];simpa using cR.nil
 |_::_,_,k+1,x=>by obtain⟨y,ys',q,b,r⟩:=x.cons_inv;subst q;simpa using r.drop k
theorem cR.set : ∀ {vs:List MV}{ys:List Value}(k:Nat){v:MV}{y:Value},cR ρ U h vs ys->VR ρ U h v y->cR ρ U h (vs.set k v) (ys.set k y)
 | [],_,_,_,_,x,_=>by rw[x.nil_inv];simpa using cR.nil
 |_::_,_,0,_,_,x,z=>by obtain⟨y,ys',q,_,r⟩:=x.cons_inv;subst q;simpa using cR.cons z r
 |_::_,_,k+1,_,_,x,z=>by obtain⟨y,ys',q,b,r⟩:=x.cons_inv;subst q;simpa using cR.cons b (r.set k z)
end
noncomputable def fM(w:World)(b:List UInt8):Int:=hashStr w ⟨b.toArray.map (·.toNat)⟩
inductive iy(ρ:LA->Addr)(U:LA->Prop)(h:Heap){κ K:Type}(enc:κ->K):List (κ×MV)->List (K×Value)->Prop where
 |nil : iy ρ U h enc [] []
 |cons {k v y es ys} (a:VR ρ U h v y)(b:iy ρ U h enc es ys):iy ρ U h enc ((k,v)::es) ((enc k,y)::ys)
noncomputable def nY(k:List UInt8):Value->Bool
 | .bytes b _=>b.toList==k
 |_=>false
theorem dc{k:List UInt8}{v:Value}(h:nY k v=true):∃t,v= .bytes k.toArray t:=by
 cases v<;>simp[nY] at h
 rename_i b t
 exact⟨t,by rw[<-h]⟩
section
variable {prog:Program}{w:World}{A:Around}{E:Value->Shared->Prop}{s:Shared}
theorem slot_bytes_hash : Slot "bytes" "__hash__" "bytes.__hash__" :=
 .of (owner := "bytes") (n := "__hash__") (by rw[cJ,bE];kernel_rfl) (by decide +kernel) (by decide +kernel) (by decide +kernel)
  (by first | exact .inl (by decide +kernel) | exact .inr (by decide +kernel)) (by rw[cA];kernel_rfl)
theorem entry_bytes_hash : entryFor table "bytes.__hash__" = some Builtin.«bytes.__hash__»:=entryFor_of_tree (by kernel_rfl)
theorem pG(a:Value):argsOk "bytes.__hash__" ⟨[a],[]⟩:=by unfold argsOk;kernel_rfl
theorem sm(w:World)(x:Str) : -(2:Int)^63<=hashStr w x/\hashStr w x < 2^63/\hashStr w x≠ -1:=by
 unfold hashStr
 split
 ·decide
 ·unfold reduceHash
  generalize w.params.strHash x.cps=i
  have m1:=Int.emod_nonneg (i.natAbs : Int) (show (2^61 - 1 : Int)≠0 by decide)
  have m2:=Int.emod_lt_of_pos (i.natAbs : Int) (show (0:Int) < 2^61 - 1 by decide)
  generalize (i.natAbs : Int) % (2^61 - 1)=r at *
  split
  ·rename_i q
   simp only[Bool.and_eq_true,decide_eq_true_eq] at q
   split
   ·decide
   ·rename_i z;simp only[eI] at z;exact⟨q.1,q.2,z⟩
  ·split
   ·dsimp only
    split
    ·decide
    ·rename_i z;simp only[eI] at z;refine⟨?_, ?_,z⟩<;>(first | lia | omega)
   ·dsimp only
    split
    ·decide
    ·rename_i z;simp only[eI] at z;refine⟨?_, ?_,z⟩<;>((first | exact bp (by decide) m1 | exact aN m2 (by decide)))
theorem lK{x:List UInt8}{t:Tok}{Q:Int->Shared->Prop}(h:Q (fM w x) { s with toks:=s.toks+1 }):wpAny (model prog w) A (pyHash (.bytes x.toArray t)) Q E s:=by
 have hT : s.TypeIs (.bytes x.toArray t) "bytes" := rfl
 show wpAny _ _ (pyHashByItsType (.bytes x.toArray t)) Q E s
 unfold pyHashByItsType
 refine af ?_
 rw[cRoomFor,if_neg (by rw[(show [Value.bytes x.toArray t].any Value.onHeap=false from rfl)];exact aE)];refine ao ?_
 refine af (bN hT slot_bytes_hash.lookup ?_)
 show wpAny _ _ (if (some (Value.builtin "bytes.__hash__")==some Value.none)=true then _ else _) Q E s
 rw[if_neg (by rw[beq_builtin_none];exact aE)]
 refine af (bN hT slot_bytes_hash.lookup ?_)
 show wpAny _ _ (callSpecialIfBoundUnlessNone? (.bytes x.toArray t) "__hash__" _ >>= _) Q E s
 refine af (wpAny_callSpecialIfBoundUnlessNone?_slot hT slot_bytes_hash
  (wpAny_call_entry slot_bytes_hash hT entry_bytes_hash
   (show wpAny _ _ (strHash ⟨x.toArray.map (·.toNat)⟩ >>= λi=>(do ret (<-mkInt i))) _ _ s from ?_) (pG _)))
 unfold strHash
 refine af (af (wpAny_askSetting (ao (wpAny_ret_mkInt ?_))))
 obtain⟨r1,r2,r3⟩:=sm w ⟨x.toArray.map (·.toNat)⟩
 show wpAny _ _ (if (decide (-(2:Int)^63<=fM w x)&&decide (fM w x < 2^63))=true then _ else _) Q E _
 rw[if_pos (by rw[Bool.and_eq_true];exact⟨aZ r1,aZ r2⟩)]
 show wpAny _ _ (pure (if (fM w x== -1)=true then -2 else fM w x)) Q E _
 rw[if_neg (by simpa [fM] using r3)]
 exact ao h
theorem lU{a b:List UInt8}{t u:Tok}{Q:Bool->Shared->Prop}(h:Q (decide (a=b)) s):wpAny (model prog w) A (eqBool (.bytes a.toArray t) (.bytes b.toArray u)) Q E s:=by
 unfold eqBool
 show wpAny _ _ (if (Value.bytes a.toArray t==Value.bytes b.toArray u)=true then _ else _) Q E s
 by_cases hab : (Value.bytes a.toArray t==Value.bytes b.toArray u)=true
 ·rw[if_pos hab]
  have e : a=b:=by
   have:=eq_of_beq hab
   injection this with h1
   simpa using h1
  subst e
  exact af (wpAny_rule (ao (by simpa using h)))
 ·rw[if_neg hab]
  refine af (richCompare_gives (op:= .Eq) (T := "bytes") rfl rfl FB.slot_bytes_eq FB.entry_bytes_eq (FB.args_bytes_eq_2 _ _) (gives_bytes_eq _ _ t u) (λx=>nomatch x) (wpAny_truthy_bool ?_))
  have : (a.toArray.toList==b.toArray.toList)=decide (a=b):=by
   by_cases q : a=b
   ·subst q;simp
   ·rw[bz q];simpa using q
  rw[this];exact h
end
noncomputable def bytesKind(prog:Program)(w:World):KeyKind prog w (List UInt8) where
 is:=nY
 hash:=fM w
 inj:=λv a b ha hb=>by
  obtain⟨t,rfl⟩:=dc ha
  obtain⟨u,e⟩:=dc hb
  injection e with h1
  simpa using h1
 byValue:=λk v h=>by obtain⟨t,rfl⟩:=dc h;rfl
 pyHash:=λhv h=>by obtain⟨t,rfl⟩:=dc hv;exact lK h
 eqBool:=λhu hv h=>by
  obtain⟨t,rfl⟩:=dc hu
  obtain⟨u,rfl⟩:=dc hv
  exact lU h
 «strs»:=λk x t v h=>by obtain⟨u,hu⟩:=dc h;cases hu
inductive w3(ρ:LA->Addr)(U:LA->Prop)(h:Heap):Option MV->Option Value->Prop where
 |so {a v} (r:VR ρ U h a v):w3 ρ U h (some a) (some v)
 |no : w3 ρ U h none none
theorem w3.got{ρ:LA->Addr}{U:LA->Prop}{h:Heap}{a:MV}{o:Option Value}:w3 ρ U h (some a) o->∃v,o=some v/\VR ρ U h a v
 | .so r=>⟨_,rfl,r⟩
theorem w3.nil{ρ:LA->Addr}{U:LA->Prop}{h:Heap}{o:Option Value}:w3 ρ U h Option.none o->o=Option.none
 | .no=>rfl
theorem w3.same{ρ:LA->Addr}{U:LA->Prop}{h:Heap}{a:Option MV}{o:Option Value}:w3 ρ U h a o->o.isSome=a.isSome
 | .so _=>rfl
 | .no=>rfl
noncomputable def Ej(ρ:LA->Addr)(U:LA->Prop)(h:Heap)(fs:List (String×MV))(m:Str->Option Value):Prop:=
 (∀x : String,w3 ρ U h (fs.lookup x) (m (Str.ofString x)))/\Within m (fs.map λp=>Str.ofString p.1)
noncomputable def lM(prog:Program)(w:World)(ρ:LA->Addr)(U:LA->Prop)(h:Heap)(a:Addr):MO->Prop
 | .inst C d=>h.get? a=some (instObj C (ρ d))/\U d
 | .ns fs=>∃m,h.Ns1 a m/\Ej ρ U h fs m
 | .list vs=>∃xs ep,h.get? a=some { cls:= .type "list",data:= .seq xs ep }/\cR ρ U h vs xs.toList
 | .fz o vs=>h.get? a=some o/\∃xs ep,o={ cls:= .type "list",data:= .seq xs ep }/\cR ρ U h vs xs.toList
 | .bW b=>h.get? a=some { cls:= .type "bytearray",data:= .bytearray b.toArray 0 }
 | .bS es=>∃kvs,h.DictOf (intKind prog w) a kvs/\iy ρ U h id es kvs
 | .dD es=>∃kvs,h.DictOf (strKind prog w) a kvs/\iy ρ U h Str.ofString es kvs
 | .iS es=>∃kvs,h.DictOf (bytesKind prog w) a kvs/\iy ρ U h id es kvs
noncomputable def IsTup(o:Obj):Prop:=o.cls= .type "tuple" /\ ∃xs ep,o.data= .seq xs ep
theorem ca{o:Obj} {es ep} (e:o.data= .dict es ep):¬IsTup o:=λx=>by obtain⟨_,xs,ep',h⟩:=x;replace h:=e▸h;cases h
theorem je{o:Obj} {v} (e:o.data= .cell v):¬IsTup o:=λx=>by obtain⟨_,xs,ep',h⟩:=x;replace h:=e▸h;cases h
theorem j8{o:Obj}(e:o.cls≠ .type "tuple"):¬IsTup o:=λx=>e x.1
structure fh(ρ:LA->Addr)(U:LA->Prop)(h:Heap)(ρ':LA->Addr)(U':LA->Prop)(h':Heap):Prop where
 us : ∀l,U l->U' l/\ρ' l=ρ l
 tup : ∀a o,h.get? a=some o->IsTup o->h'.get? a=some o
section
variable {ρ ρ' ρ'':LA->Addr}{U U' U'':LA->Prop}{h h' h'':Heap}{w:World}
theorem fh.trans(x:fh ρ U h ρ' U' h')(y:fh ρ' U' h' ρ'' U'' h''):fh ρ U h ρ'' U'' h'':=
 ⟨λl u=>⟨(y.us l (x.us l u).1).1,(y.us l (x.us l u).1).2.trans (x.us l u).2⟩,λa o e c=>y.tup a o (x.tup a o e c) c⟩
mutual
theorem VR.mono(k:fh ρ U h ρ' U' h'):∀ {mv:MV}{v:Value},VR ρ U h mv v->VR ρ' U' h' mv v
 | .none,_,x=>by exact x.none_inv
 | .bool _,_,x=>by exact x.bool_inv
 | .int _,_,x=>by refine cN x.int_inv λt e=> ?_;rw[e];exact .int
 | .str _,_,x=>by refine cN x.str_inv λt e=> ?_;rw[e];exact .str
 | .bytes _,_,x=>by refine cN x.d7 λt e=> ?_;rw[e];exact .bytes
 | .tup vs,_,x=>by
  refine qE x.dN λa o xs ep e ho hc hd hv=> ?_
  refine ae e▸ ?_;exact .tup (k.tup a o ho ⟨hc,xs,ep,hd⟩) hc hd (cR.mono k hv)
 | .ref l,_,x=>by
  refine dA x.bU λe u=> ?_
  refine ae e▸((k.us l u).2)▸ ?_;exact .ref (k.us l u).1
theorem cR.mono(k:fh ρ U h ρ' U' h'):∀ {vs:List MV}{ys:List Value},cR ρ U h vs ys->cR ρ' U' h' vs ys
 | [],_,x=>by exact x.nil_inv
 |v::vs,_,x=>by
  refine eW x.cons_inv λy ys' e a b=> ?_
  refine ae e▸ ?_;exact .cons (VR.mono k a) (cR.mono k b)
end
theorem iy.mono{κ K:Type}{enc:κ->K}(k:fh ρ U h ρ' U' h'){es:List (κ×MV)}{ys:List (K×Value)}(x:iy ρ U h enc es ys):iy ρ' U' h' enc es ys:=by
 induction x with
 |nil=>exact .nil
 |cons a _ ih=>exact .cons (a.mono k) ih
theorem n8{prog:Program}{K:Type} [DecidableEq K] {knd:KeyKind prog w K}{a:Addr}{kvs:List (K×Value)}(ho:∀x,h.get? a=some x->h'.get? a=some x)(x:h.DictOf knd a kvs):h'.DictOf knd a kvs:=by
 obtain⟨o,es,ep,e,r⟩:=x;exact⟨o,es,ep,ho _ e,r⟩
theorem w3.mono(k:fh ρ U h ρ' U' h'){a:Option MV}{o:Option Value}:w3 ρ U h a o->w3 ρ' U' h' a o
 | .so r=> .so (r.mono k)
 | .no=> .no
theorem Ej.mono(k:fh ρ U h ρ' U' h'){fs:List (String×MV)}{m:Str->Option Value}(x:Ej ρ U h fs m):Ej ρ' U' h' fs m:=⟨λn=>(x.1 n).mono k,x.2⟩
theorem lM.mono{prog:Program}(k:fh ρ U h ρ' U' h'){a:Addr}{o:MO}(ho:∀x,h.get? a=some x->h'.get? a=some x)(x:lM prog w ρ U h a o):lM prog w ρ' U' h' a o:=by
 cases o with
 |inst C d=>refine dA x λe u=> ?_;exact⟨by refine ae ((k.us d u).2)▸ ?_;exact ho _ e,(k.us d u).1⟩
 |ns fs=>
  refine aT x λm e n=> ?_
  exact⟨m,e.at ho,n.mono k⟩
 |list vs=>refine ey x λxs ep e r=> ?_;exact⟨xs,ep,ho _ e,r.mono k⟩
 |fz o vs=>obtain⟨e,xs,ep,q,r⟩:=x;exact⟨ho _ e,xs,ep,q,r.mono k⟩
 |bW b=>exact ho _ x
 |bS es=>refine aT x λkvs e r=> ?_;exact⟨kvs,n8 ho e,r.mono k⟩
 |dD es=>refine aT x λkvs e r=> ?_;exact⟨kvs,n8 ho e,r.mono k⟩
 |iS es=>refine aT x λkvs e r=> ?_;exact⟨kvs,n8 ho e,r.mono k⟩
end
structure Cx where
 prog : Program
 w : World
 K : Frag
 h0 : Heap
 mg : Str->Option Value
 mb : Str->Option Value
 X : K.In h0
 g : h0.Ns mainGlobals mg
 b : h0.Ns builtinsNs mb
 bt : ∀x : Str,x ≠ "__name__" -> mb x=bootBuiltins x
 nl : h0.NoLimit
noncomputable abbrev Cx.M(cx:Cx):Model:=model cx.prog cx.w
structure Fd where
 env : Env
 names : List Str
 cI : List Addr
 outer : List Env
 gB : List Env
noncomputable abbrev Fd.oP(fd:Fd):List Addr:=fd.outer.filterMap (·.frame)
noncomputable abbrev Loc:=List (Option MV)
inductive ii(ρ:LA->Addr)(U:LA->Prop)(h:Heap)(env:Env)(names:List Str)(loc:Loc):Prop
 |mk (m:Str->Option Value)(ns:h.Ns env.locals m)(q:∀ (i:Nat) x mv,names[i]?=some x->loc[i]?=some (some mv)->
  (env.kindOf x=some .local->∃v,m x=some v/\VR ρ U h mv v)/\
  (env.kindOf x=some .cell∨env.kindOf x=some .free->∃c v,env.cells.lookup x=some c/\h.IsCell c (some v)/\VR ρ U h mv v))
structure LJ(n:Nat)(A:Around)(gB:List Env):Prop where
 hh : A.handled=none
 dep : A.depth+4 * n+50 < recursionLimit
 un : A.units+40 * n+100 < cLine
 fr : A.frames=some gB
set_option genCtorIdx true in
inductive Kd where
 |any | cell | dict
noncomputable def yo : Kd->Obj->Prop
 | .any,o=>¬IsTup o
 | .cell,o=>∃v,o.data= .cell v
 | .dict,o=>∃es ep,o.data= .dict es ep
theorem yo.nt{k:Kd}{o:Obj}(f:yo k o):¬IsTup o:=match k,f with
 | .any,f=>f
 | .cell,⟨_,d⟩=>je d
 | .dict,⟨_,_,d⟩=>ca d
inductive Spot(fd:Fd):Addr->Kd->Prop
 |cI {a} (h:a∈fd.cI):Spot fd a .any
 |cell {c} (h:c∈fd.env.cells):Spot fd c.2 .cell
 |frame {a} (h:a∈fd.oP):Spot fd a .dict
structure At(b:Nat)(ρ:LA->Addr)(U:LA->Prop)(h:Heap)(a:Addr)(k:Kd):Prop where
 z : b<=a
 u : ∀l,U l->ρ l≠a
 e : ∃o,h.get? a=some o/\yo k o
structure M7(fd:Fd):Prop where
 di : fd.env.locals∈fd.cI
 D2 : fd.env.cells.Pairwise λx y=>x.2≠y.2
 iu : ∀c∈fd.env.cells,c.2≠fd.env.locals
 mo : ∀a∈fd.cI,a∉fd.oP
 co : ∀c∈fd.env.cells,c.2∉fd.oP
 km : ∀e∈fd.outer,e.scope.kind≠ .module/\∃L,e.frame=some L
 KV : fd.gB=fd.outer∨(fd.gB=fd.env::fd.outer/\fd.env.frame=some fd.env.locals/\fd.env.scope.kind≠ .module)
structure Good(cx:Cx)(n:Nat)(fd:Fd)(A:Around)(ρ:LA->Addr)(σ:MH)(loc:Loc)(s:Shared):Prop where
 obj : ∀l o,σ.get l=some o->σ.us l/\lM cx.prog cx.w ρ σ.us s.heap (ρ l) o
 inj : ∀l l',σ.us l->σ.us l'->ρ l=ρ l'->l=l'
 low : ∀l,σ.us l->cx.h0.objs.size<=ρ l/\∃o,s.heap.get? (ρ l)=some o/\¬IsTup o
 top : ∀b o,cx.h0.get? b=some o->s.heap.get? b=some o
 loc : ii ρ σ.us s.heap fd.env fd.names loc
 foot : ∀ {a k},Spot fd a k->At cx.h0.objs.size ρ σ.us s.heap a k
 st : M7 fd
 ak : LJ n A fd.gB
 gens : s.gens=#[]
structure Step(fd:Fd)(ρ:LA->Addr)(U:LA->Prop)(s:Shared)(ρ':LA->Addr)(U':LA->Prop)(s':Shared):Prop where
 rest : ∃h' tk,s'={ s with heap:=h',toks:=tk }
 ex : ∀a o,s.heap.get? a=some o->∃o',s'.heap.get? a=some o'
 us : ∀l,U l->U' l/\ρ' l=ρ l
 fresh : ∀l,U' l->¬U l->s.heap.get? (ρ' l)=none
 keep : ∀a o,s.heap.get? a=some o->(∀l,U l->ρ l≠a)->a∉fd.cI->a∉fd.oP->s'.heap.get? a=some o
 gc : ∀a o,s.heap.get? a=some o->(∀l,U l->ρ l≠a)->a∉fd.cI->a∈fd.oP->∃sl,s'.heap.get? a=some { o with slots:=sl }
section
variable {cx:Cx}{n:Nat}{fd:Fd}{A:Around}{ρ ρ' ρ'':LA->Addr}{U U' U'':LA->Prop}{σ σ':MH}{loc:Loc}{s s' s'':Shared}
theorem Step.refl : Step fd ρ U s ρ U s:=
 ⟨⟨s.heap,s.toks,rfl⟩,λ_ o e=>⟨o,e⟩,λ_ u=>⟨u,rfl⟩,λ_ u n=>absurd u n,λ_ _ e _ _ _=>e,λ_ o e _ _ _=>⟨o.slots,e⟩⟩
theorem Step.trans(x:Step fd ρ U s ρ' U' s')(y:Step fd ρ' U' s' ρ'' U'' s''):Step fd ρ U s ρ'' U'' s'':=by
 have foot : ∀a o,s.heap.get? a=some o->(∀l,U l->ρ l≠a)->∀l,U' l->ρ' l≠a:=λa o e f l u=>by
  by_cases q : U l
  ·rw[(x.us l q).2];exact f l q
  ·have:=x.fresh l u q
   exact λz=>by rw[z,e] at this;cases this
 refine⟨?_,λa o e=>(by obtain⟨o',e'⟩:=x.ex a o e;exact y.ex a o' e'),λl u=>⟨(y.us l (x.us l u).1).1,(y.us l (x.us l u).1).2.trans (x.us l u).2⟩,λl u n=> ?_,λa o e f m o'=> ?_,λa o e f m o'=> ?_⟩
 ·obtain⟨h1,t1,rfl⟩:=x.rest
  obtain⟨h2,t2,rfl⟩:=y.rest
  exact⟨h2,t2,rfl⟩
 ·by_cases q : U' l
  ·rw[(y.us l q).2];exact x.fresh l q n
  ·cases h : s.heap.get? (ρ'' l) with
   |none=>rfl
   |some o=>
    obtain⟨o',e'⟩:=x.ex _ _ h
    rw[y.fresh l u q] at e';cases e'
 ·exact y.keep a o (x.keep a o e f m o') (foot a o e f) m o'
 ·obtain⟨sl,e1⟩:=x.gc a o e f m o'
  obtain⟨sl2,e2⟩:=y.gc a _ e1 (foot a o e f) m o'
  exact⟨sl2,e2⟩
theorem Good.di(G:Good cx n fd A ρ σ loc s):fd.env.locals∈fd.cI:=G.st.di
theorem Good.iu(G:Good cx n fd A ρ σ loc s):∀c∈fd.env.cells,c.2≠fd.env.locals:=G.st.iu
theorem Good.KV(G:Good cx n fd A ρ σ loc s):fd.gB=fd.outer∨(fd.gB=fd.env::fd.outer/\fd.env.frame=some fd.env.locals/\fd.env.scope.kind≠ .module):=G.st.KV
theorem Good.cI(G:Good cx n fd A ρ σ loc s)(a:Addr)(m:a∈fd.cI):cx.h0.objs.size<=a/\(∀l,σ.us l->ρ l≠a)/\a∉fd.oP/\∃o,s.heap.get? a=some o/\¬IsTup o:=
 have p:=G.foot (.cI m);⟨p.z,p.u,G.st.mo a m,p.e⟩
theorem Good.tu(G:Good cx n fd A ρ σ loc s)(c:Str×Addr)(m:c∈fd.env.cells):(∃o v,s.heap.get? c.2=some o/\o.data= .cell v)/\(∀l,σ.us l->ρ l≠c.2)/\c.2∉fd.oP:=
 have p:=G.foot (.cell m);⟨(by obtain⟨o,e,v,d⟩:=p.e;exact⟨o,v,e,d⟩),p.u,G.st.co c m⟩
theorem Good.MS(G:Good cx n fd A ρ σ loc s)(e:Env)(m:e∈fd.outer):e.scope.kind≠ .module/\∃L o es ep,e.frame=some L/\cx.h0.objs.size<=L/\(∀l,σ.us l->ρ l≠L)/\s.heap.get? L=some o/\o.data= .dict es ep:=
 have ⟨k,L,f⟩:=G.st.km e m
 have p:=G.foot (.frame (cS.mpr ⟨e,m,f⟩))
 have ⟨o,g,es,ep,d⟩:=p.e
 ⟨k,L,o,es,ep,f,p.z,p.u,g,d⟩
theorem Good.rD(G:Good cx n fd A ρ σ loc s){a:Addr}{o:Obj}(e:s.heap.get? a=some o)(c:IsTup o) :
  (∀l,σ.us l->ρ l≠a)/\a∉fd.cI/\a∉fd.oP:=by
 have key : ∀ {k:Kd},Spot fd a k->False:=λsp=>(by obtain⟨_,e',f⟩:=(G.foot sp).e;exact f.nt (aS (e.symm.trans e')▸c))
 exact⟨λl u q=>(by obtain⟨_,o',h1,h2⟩:=G.low l u;exact h2 (aS (e.symm.trans (q▸h1))▸c)),λm=>key (.cI m),λm=>key (.frame m)⟩
theorem Step.keeps(x:Step fd ρ σ.us s ρ' U' s')(G:Good cx n fd A ρ σ loc s):fh ρ σ.us s.heap ρ' U' s'.heap:=
 ⟨x.us,λa o e c=>by obtain⟨f,m,q⟩:=G.rD e c;exact x.keep a o e f m q⟩
end
theorem kt{M:Model}{A:Around}{E:Value->Shared->Prop}{s:Shared}{vs:List Value}{m:Sem Value}{Q:Value->Shared->Prop}(h:cW M A m Q E s):cW M A (operate vs m) Q E s:=λΓ p i d=>by
 rw[Sem.wp_operate];exact h Γ p i d
noncomputable abbrev P(α:Type):=Loc->MH->(α->Loc->MH->Prop)->(Addr->Loc->MH->Prop)->Prop
noncomputable abbrev P.ret{α:Type}(a:α):P α:=λloc σ Q _=>Q a loc σ
noncomputable abbrev P.bind{α β:Type}(m:P α)(f:α->P β):P β:=λloc σ Q X=>m loc σ (λa loc' σ'=>f a loc' σ' Q X) X
noncomputable abbrev Pre:=(LA->Addr)->(LA->Prop)->Heap->Prop
noncomputable abbrev cg(α β:Type):=(LA->Addr)->(LA->Prop)->Heap->α->β->Prop
noncomputable def bM(p:Pre):Prop:=∀ρ U h ρ' U' h',fh ρ U h ρ' U' h'->p ρ U h->p ρ' U' h'
inductive JX(ρ:LA->Addr)(U:LA->Prop)(h g:Heap)(fr:Option Addr)(e:Addr)(vs:Array Value):Prop where
 |no (h1:vs[1]?=some .none)
 |tb (T:Addr)(oT:Obj)(ts:Array Value)(fl:Value)(h1:vs[1]?=some (.ref T))(ne:T≠e)(hg:g.get? T=none)(hu:∀l,U l->ρ l≠T)(ho:h.get? T=some oT)(hd:oT.data= .fields ts)(h3:ts[3]?=some fl)(hf:fl= .none∨∃l,fr=some l/\fl=rawInt l)
inductive ExcAt(ρ:LA->Addr)(U:LA->Prop)(h:Heap)(g:Heap)(fr:Option Addr)(e C:Addr):Prop where
 |mk (oe:Obj)(vs:Array Value)(a0:Value)(he:h.get? e=some oe)(hc:oe.cls= .ref C)(hd:oe.data= .fields vs)(h0:vs[0]?=some a0)(hg:g.get? e=none)(hu:∀l,U l->ρ l≠e)(tr:JX ρ U h g fr e vs)
theorem ExcAt.le{ρ:LA->Addr}{U:LA->Prop}{h g g':Heap}{fr:Option Addr}{e C:Addr}(hl:∀a o,g'.get? a=some o->∃o',g.get? a=some o')(x:ExcAt ρ U h g fr e C):ExcAt ρ U h g' fr e C:=by
 have k : ∀ {a},g.get? a=none->g'.get? a=none:=λ{a} q=>by
  cases z : g'.get? a with
  |none=>rfl
  |some o=>refine cN (hl a o z) λo' z'=> ?_;replace z':=q▸z';cases z'
 induction x with
 |mk _ _ _ a b c c0 d f i=>exact .mk _ _ _ a b c c0 (k d) f (by
  induction i with
  |no h1=>exact .no h1
  |tb _ _ _ _ h1 ne hg hu ho hd h3 hf=>exact .tb _ _ _ _ h1 ne (k hg) hu ho hd h3 hf)
theorem ExcAt.any{ρ:LA->Addr}{U:LA->Prop}{h g:Heap}{fr:Option Addr}{e C:Addr}(x:ExcAt ρ U h g none e C):ExcAt ρ U h g fr e C:=by
 induction x with
 |mk _ _ _ a b c c0 d f i=>exact .mk _ _ _ a b c c0 d f (by
  induction i with
  |no h1=>exact .no h1
  |tb _ _ _ _ h1 ne hg hu ho hd h3 hf=>exact .tb _ _ _ _ h1 ne hg hu ho hd h3 (hf.imp_right λzz=>(by refine aT zz λ_ z _=> ?_;exact nomatch z)))
inductive Out(cx:Cx)(n:Nat)(fd:Fd)(A:Around)(ρ:LA->Addr)(σ:MH)(s:Shared){α β:Type}(R:cg α β)(Q:α->Loc->MH->Prop)(b:β)(s':Shared):Prop
 |mk (a:α)(ρ':LA->Addr)(σ':MH)(loc':Loc)(S:Step fd ρ σ.us s ρ' σ'.us s')(G:Good cx n fd A ρ' σ' loc' s')(r:R ρ' σ'.us s'.heap a b)(q:Q a loc' σ')
inductive eA(cx:Cx)(n:Nat)(fd:Fd)(A:Around)(ρ:LA->Addr)(σ:MH)(s:Shared)(X:Addr->Loc->MH->Prop)(ev:Value)(s':Shared):Prop
 |mk (e C:Addr)(ρ':LA->Addr)(σ':MH)(loc':Loc)(he:ev= .ref e)(S:Step fd ρ σ.us s ρ' σ'.us s')(G:Good cx n fd A ρ' σ' loc' s')(x:ExcAt ρ' σ'.us s'.heap s.heap fd.env.frame e C)(q:X C loc' σ')
noncomputable def aM(cx:Cx)(n:Nat)(fd:Fd)(p:Pre){α β:Type}(R:cg α β)(t:Sem β)(m:P α):Prop:=
 ∀A ρ σ loc s Q X,Good cx n fd A ρ σ loc s->p ρ σ.us s.heap->m loc σ Q X->cW cx.M A t (Out cx n fd A ρ σ s R Q) (eA cx n fd A ρ σ s X) s
noncomputable def mJ(cx:Cx)(n:Nat)(fd:Fd)(p:Pre){α β:Type}(R:cg α β)(t:Sem β)(m:P α):Prop:=
 ∀A ρ σ loc s Q X,Good cx n fd A ρ σ loc s->p ρ σ.us s.heap->m loc σ Q X->wpAny cx.M A t (Out cx n fd A ρ σ s R Q) (eA cx n fd A ρ σ s X) s
theorem mJ.n{cx:Cx}{n:Nat}{fd:Fd}{p:Pre}{α β:Type}{R:cg α β}{t:Sem β}{m:P α}(h:mJ cx n fd p R t m):aM cx n fd p R t m:=λA ρ σ loc s Q X G hp hm=> .of (h A ρ σ loc s Q X G hp hm)
noncomputable abbrev Pre.tt : Pre:=λ_ _ _=>True
noncomputable abbrev Pre.and(p q:Pre):Pre:=λρ U h=>p ρ U h/\q ρ U h
noncomputable abbrev eQ(cx:Cx)(n:Nat)(fd:Fd){α β:Type}(R:cg α β)(t:Sem β)(m:P α):Prop:=aM cx n fd .tt R t m
noncomputable abbrev bO(cx:Cx)(n:Nat)(fd:Fd)(e:Expr)(m:P MV):Prop:=eQ cx n fd VR (eval e fd.env) m
noncomputable abbrev cg.unit : cg Unit Unit:=λ_ _ _ _ _=>True
section
variable {cx:Cx}{n:Nat}{fd:Fd}{A:Around}{ρ ρ':LA->Addr}{σ σ':MH}{loc loc':Loc}{s s':Shared}{α β γ δ:Type}{R:cg α β}{R':cg γ δ}{p q:Pre}{Q:α->Loc->MH->Prop}{X:Addr->Loc->MH->Prop}
theorem Out.pre(x:Step fd ρ σ.us s ρ' σ'.us s'){b:β}{s'':Shared}(y:Out cx n fd A ρ' σ' s' R Q b s''):Out cx n fd A ρ σ s R Q b s'':=by
 obtain⟨a,r,σ₂,l,h1,h2,h3,h4⟩:=y
 exact⟨a,r,σ₂,l,x.trans h1,h2,h3,h4⟩
theorem eA.pre(x:Step fd ρ σ.us s ρ' σ'.us s'){b:Value}{s'':Shared}(y:eA cx n fd A ρ' σ' s' X b s''):eA cx n fd A ρ σ s X b s'':=by
 obtain⟨e,C,r,σ₂,l,h0,h1,h2,h3,h4⟩:=y
 exact⟨e,C,r,σ₂,l,h0,x.trans h1,h2,h3.le x.ex,h4⟩
theorem Out.now(G:Good cx n fd A ρ σ loc s){a:α}{b:β}(r:R ρ σ.us s.heap a b)(h:Q a loc σ):Out cx n fd A ρ σ s R Q b s:=⟨a,ρ,σ,loc, .refl,G,r,h⟩
theorem aM.bind{t:Sem β}{f:β->Sem δ}{m:P α}{g:α->P γ}(h1:aM cx n fd p R t m)(h2:∀a b,aM cx n fd (λρ U h=>R ρ U h a b) R' (f b) (g a)) :
  aM cx n fd p R' (t >>= f) (m.bind g):=by
 intro A ρ σ loc s Q X G hp hm
 refine ai (aD (h1 A ρ σ loc s _ X G hp hm) (λb s' h=> ?_) λe s' h=>h)
 obtain⟨a,ρ',σ',loc',S,G',r,h⟩:=h
 exact aD (h2 a b A ρ' σ' loc' s' Q X G' r h) (λ_ _ y=>y.pre S) λ_ _ y=>y.pre S
theorem aM.frame{t:Sem β}{m:P α}(hq:bM q)(h:aM cx n fd p R t m):aM cx n fd (λρ U h=>p ρ U h/\q ρ U h) (λρ U h a b=>R ρ U h a b/\q ρ U h) t m:=by
 intro A ρ σ loc s Q X G hp hm
 refine aD (h A ρ σ loc s Q X G hp.1 hm) (λb s' y=> ?_) λe s' y=>y
 obtain⟨a,ρ',σ',loc',S,G',r,h⟩:=y
 exact⟨a,ρ',σ',loc',S,G',⟨r,hq _ _ _ _ _ _ (S.keeps G) hp.2⟩,h⟩
theorem aM.weak{t:Sem β}{m:P α}(hq:∀ρ U h,q ρ U h->p ρ U h)(h:aM cx n fd p R t m):aM cx n fd q R t m:=
 λA ρ σ loc s Q X G hp hm=>h A ρ σ loc s Q X G (hq _ _ _ hp) hm
theorem aM.holding{vs:List Value}{t:Sem β}{m:P α}(h:aM cx n fd p R t m):aM cx n fd p R (holding vs t) m:=
 λA ρ σ loc s Q X G hp hm=>aJ (h A ρ σ loc s Q X G hp hm)
theorem aM.standAt{pos:Pos}{t:Unit->Sem β}{m:P α}(h:aM cx n fd p R (t ()) m):aM cx n fd p R (standAt pos >>= t) m:=
 λA ρ σ loc s Q X G hp hm=>ai (bB (h A ρ σ loc s Q X G hp hm))
theorem aM.pure{a:α}{b:β}(r:∀ρ U h,p ρ U h->R ρ U h a b):aM cx n fd p R (pure b) (P.ret a):=
 λ_ _ _ _ _ _ _ G hp hm=>ax (Out.now G (r _ _ _ hp) hm)
theorem bM.vr{mv:MV}{v:Value}:bM λρ U h=>VR ρ U h mv v:=λ_ _ _ _ _ _ k x=>x.mono k
theorem bM.and(hp:bM p)(hq:bM q):bM λρ U h=>p ρ U h/\q ρ U h:=λ_ _ _ _ _ _ k x=>⟨hp _ _ _ _ _ _ k x.1,hq _ _ _ _ _ _ k x.2⟩
theorem bM.tt : bM .tt:=λ_ _ _ _ _ _ _ _=>trivial
end
section
variable {cx:Cx}{n:Nat}{fd:Fd}{A:Around}{ρ ρ':LA->Addr}{σ:MH}{loc:Loc}{s:Shared}{l:LA}{a:Addr}
theorem get?_push_back{h:Heap}{a:Addr}{o x:Obj}(lt:a < h.objs.size)(e:(h.push o).get? a=some x):h.get? a=some x:=by
 refine dA (Heap.get?_some_iff.mp e) λe1 e2=> ?_
 refine Heap.get?_some_iff.mpr ⟨?_,e2⟩
 obtain⟨ob,li⟩:=h
 simp only[Heap.push,Array.getElem?_push,if_neg (show a≠ob.size from bw lt)] at e1
 exact e1
theorem iL{a b:Nat}(h:a<=b)(e:b < a):False:=iw.mpr h e
theorem Good.tok(G:Good cx n fd A ρ σ loc s)(t:Nat):Good cx n fd A ρ σ loc { s with toks:=t }:=⟨G.obj,G.inj,G.low,G.top,G.loc,G.foot,G.st,G.ak,G.gens⟩
theorem Good.move(G:Good cx n fd A ρ σ loc s){h':Heap}{t:Nat}{g:LA->Option MO}{loc':Loc}(hO:∀l o,g l=some o->σ.us l/\lM cx.prog cx.w ρ σ.us h' (ρ l) o)(hN:∀l,σ.us l->∃o,h'.get? (ρ l)=some o/\¬IsTup o)
  (h0:∀b o,cx.h0.get? b=some o->h'.get? b=some o)(hL:ii ρ σ.us h' fd.env fd.names loc')(hS:∀ {a k},Spot fd a k->At cx.h0.objs.size ρ σ.us s.heap a k->∀o,s.heap.get? a=some o->yo k o->∃o',h'.get? a=some o'/\yo k o') :
  Good cx n fd A ρ ⟨g,σ.us⟩ loc' { s with heap:=h',toks:=t }:=
 ⟨hO,G.inj,λl u=>⟨(G.low l u).1,hN l u⟩,h0,hL,λsp=>have p:=G.foot sp;⟨p.z,p.u,let ⟨o,e,f⟩:=p.e;hS sp p o e f⟩,G.st,G.ak,G.gens⟩
theorem Step.tok{U:LA->Prop}(t:Nat):Step fd ρ U s ρ U { s with toks:=t }:=
 ⟨⟨s.heap,t,rfl⟩,λ_ o e=>⟨o,e⟩,λ_ u=>⟨u,rfl⟩,λ_ u n=>absurd u n,λ_ _ e _ _ _=>e,λ_ o e _ _ _=>⟨o.slots,e⟩⟩
theorem ii.mono{U U':LA->Prop}{ρ':LA->Addr}{h h':Heap}{env:Env}{names:List Str}(k:fh ρ U h ρ' U' h')
  (hl:∀m,h.Ns env.locals m->h'.Ns env.locals m)(hc:∀c∈env.cells,∀o,h.get? c.2=some o->h'.get? c.2=some o)
  (x:ii ρ U h env names loc):ii ρ' U' h' env names loc:=by
 obtain⟨m,ns,q⟩:=x
 refine⟨m,hl m ns,λi y mv a b=> ?_⟩
 refine⟨λz=> ?_,λz=> ?_⟩
 ·refine aT (((q i y mv a b).1) z) λv f g=> ?_;exact⟨v,f,g.mono k⟩
 ·refine eW (((q i y mv a b).2) z) λc v f zo3_ g3=> ?_;refine aT zo3_ λoc g1 g2=> ?_
  exact⟨c,v,f,⟨oc,hc _ (mem_of_lookup f) _ g1,g2⟩,g3.mono k⟩
structure jI(L:Addr)(h h':Heap):Prop where
 keep : ∀a o,a≠L->h.get? a=some o->h'.get? a=some o
 ns : ∀m,h.Ns L m->h'.Ns L m
theorem jI.ex{L:Addr}{h h':Heap}(g:jI L h h')(hL:∃m,h.Ns L m)(a:Addr)(o:Obj)(e:h.get? a=some o):∃o',h'.get? a=some o':=by
 by_cases q : a=L
 ·refine cN hL λm ns=> ?_
  refine iE (g.ns m ns) λo' _ _ z _=> ?_
  exact⟨o',q▸z⟩
 ·exact⟨o,g.keep a o q e⟩
theorem jI.refl{L:Addr}{h:Heap}:jI L h h:=⟨λ_ _ _ e=>e,λ_ x=>x⟩
theorem jI.push{L:Addr}{h:Heap}(o:Obj):jI L h (h.push o):=
 ⟨λ_ _ _ e=>aI _ e,λ_ z=>z.push o⟩
theorem Good.locals(G:Good cx n fd A ρ σ loc s):∃m,s.heap.Ns fd.env.locals m:=(by obtain⟨m,ns,_⟩:=G.loc;exact⟨m,ns⟩)
theorem Good.oR(G:Good cx n fd A ρ σ loc s):cx.h0.objs.size<=s.heap.objs.size:=by
 obtain⟨a,_,_,o,e,_⟩:=G.cI _ G.di
 exact ad a (aL (aR e))
theorem ii.ns{U:LA->Prop}{h:Heap}{env:Env}{names:List Str}(x:ii ρ U h env names loc):∃m,h.Ns env.locals m:=(by obtain⟨m,ns,_⟩:=x;exact⟨m,ns⟩)
theorem Good.kept(G:Good cx n fd A ρ σ loc s){h':Heap}{t:Nat}(D:Addr->Prop)(hk:∀a o,¬D a->s.heap.get? a=some o->h'.get? a=some o)(hT:∀a o,s.heap.get? a=some o->IsTup o->¬D a)(hN:∀l,σ.us l->¬D (ρ l))
  (h0:∀b o,cx.h0.get? b=some o->¬D b)(hL:∀m,s.heap.Ns fd.env.locals m->h'.Ns fd.env.locals m)(hC:∀c∈fd.env.cells,¬D c.2)(hS:∀ {a k},Spot fd a k->D a->∀o,s.heap.get? a=some o->yo k o->∃o',h'.get? a=some o'/\yo k o') :
  Good cx n fd A ρ σ loc { s with heap:=h',toks:=t }:=
 have k : fh ρ σ.us s.heap ρ σ.us h':=⟨λ_ u=>⟨u,rfl⟩,λa o e c=>hk a o (hT a o e c) e⟩
 G.move (λl x e=>have z:=G.obj l x e;⟨z.1,z.2.mono k λ_=>hk _ _ (hN l z.1)⟩) (λl u=>let ⟨_,o,e,f⟩:=G.low l u;⟨o,hk _ _ (hN l u) e,f⟩) (λb o e=>hk b o (h0 b o e) (G.top b o e))
  (G.loc.mono k hL λc hc o e=>hk _ o (hC c hc) e) λ{a _} sp _ o e f=>(Classical.em (D a)).elim (λd=>hS sp d o e f) λd=>⟨o,hk a o d e,f⟩
theorem yo.ns{k:Kd}{h':Heap}{L:Addr}{m:Str->Option Value}(ns:h'.Ns L m)(hk:k= .any):∃o',h'.get? L=some o'/\yo k o':=by
 refine rZ ns λo es ep e d _=> ?_
 exact⟨o,e,hk▸ca d⟩
theorem Good.only(G:Good cx n fd A ρ σ loc s){k:Kd}(sp:Spot fd fd.env.locals k):k= .any:=by
 generalize e : fd.env.locals=a at sp
 induction sp with
 |cI=>rfl
 |cell h=>exact (G.iu _ h e.symm).elim
 |frame h=>exact (G.st.mo _ G.di (e▸h)).elim
theorem Good.grow(G:Good cx n fd A ρ σ loc s){h':Heap}(g:jI fd.env.locals s.heap h')(t:Nat):Good cx n fd A ρ σ loc { s with heap:=h',toks:=t }:=
 have p:=G.foot (.cI G.di)
 have ⟨_,ns⟩:=G.locals
 G.kept (·=fd.env.locals) (λa o d=>g.keep a o d) (λa o e c q=>(G.rD e c).2.1 (q▸G.di)) p.u (λb o e q=>iL p.z (q▸aR e)) g.ns G.iu
  λsp d _ _ _=>d▸yo.ns (g.ns _ ns) (G.only (d▸sp))
theorem Step.grow(hm:fd.env.locals∈fd.cI)(hL:∃m,s.heap.Ns fd.env.locals m){U:LA->Prop}{h':Heap}(g:jI fd.env.locals s.heap h')(t:Nat):Step fd ρ U s ρ U { s with heap:=h',toks:=t }:=
 ⟨⟨_,t,rfl⟩,g.ex hL,λ_ u=>⟨u,rfl⟩,λ_ u n=>absurd u n,λa o e _ m _=>g.keep a o (λq=>m (q▸hm)) e,λa x e _ m _=>⟨x.slots,g.keep a x (λq=>m (q▸hm)) e⟩⟩
noncomputable def MH.set(σ:MH)(l:LA)(o:MO):MH:=⟨λx=>if x=l then some o else σ.get x,σ.us⟩
noncomputable def MH.new(σ:MH)(l:LA)(o:MO):MH:=⟨λx=>if x=l then some o else σ.get x,λx=>x=l∨σ.us x⟩
theorem Good.upd(G:Good cx n fd A ρ σ loc s){l:LA}(hl:σ.us l){o':MO}{x':Obj}{h':Heap}{t:Nat}(hsz:h'.objs.size=s.heap.objs.size)(hother:∀a,a≠ρ l->h'.get? a=s.heap.get? a)
  (hx:h'.get? (ρ l)=some x')(hnt:¬IsTup x')(hrel:fh ρ σ.us s.heap ρ σ.us h'->lM cx.prog cx.w ρ σ.us h' (ρ l) o') :
  Good cx n fd A ρ (σ.set l o') loc { s with heap:=h',toks:=t }/\Step fd ρ σ.us s ρ (σ.set l o').us { s with heap:=h',toks:=t }:=by
 have nf : ∀a,(∀x,σ.us x->ρ x≠a)->h'.get? a=s.heap.get? a:=λa f=>hother a λq=>f l hl q.symm
 have k : fh ρ σ.us s.heap ρ σ.us h':=⟨λ_ u=>⟨u,rfl⟩,λa o e c=>(nf a (G.rD e c).1).trans e⟩
 refine⟨G.move (λx o e=> ?_) (λx u=> ?_) (λb x e=>(hother b λq=> ?_).trans (G.top b x e)) (G.loc.mono k (λm z=> ?_) λc hc x e=>(nf _ (G.foot (.cell hc)).u).trans e) λ_ p o e f=>⟨o,(nf _ p.u).trans e,f⟩,
  ⟨_,t,rfl⟩,λa o e=> ?_,λ_ u=>⟨u,rfl⟩,λ_ u z=>absurd u z,λa o e f _ _=>(nf a f).trans e,λa o e f _ _=>⟨o.slots,(nf a f).trans e⟩⟩
 ·by_cases q : x=l
  ·cases (if_pos q).symm.trans e
   exact⟨q▸hl,q▸hrel k⟩
  ·have z:=G.obj x o ((if_neg q).symm.trans e)
   exact⟨z.1,z.2.mono k λ_=>(hother _ λy=>q (G.inj x l z.1 hl y)).trans⟩
 ·by_cases q : ρ x=ρ l
  ·exact⟨x',q▸hx,hnt⟩
  ·exact let ⟨_,o,h2,h3⟩:=G.low x u;⟨o,(hother _ q).trans h2,h3⟩
 ·exact iL (G.low l hl).1 (q▸aR e)
 ·refine iE z λo es ep e r=> ?_
  exact⟨o,es,ep,(nf _ (G.foot (.cI G.di)).u).trans e,r⟩
 ·by_cases q : a=ρ l
  ·exact⟨x',q▸hx⟩
  ·exact⟨o,(hother a q).trans e⟩
structure oF(ρ:LA->Addr)(l:LA)(a:Addr)(ρ':LA->Addr):Prop where
 here : ρ' l=a
 old : ∀y,y≠l->ρ' y=ρ y
theorem Ad(ρ:LA->Addr)(l:LA)(a:Addr):∃ρ',oF ρ l a ρ':=⟨λy=>if y=l then a else ρ y,if_pos rfl,λ_ h=>if_neg h⟩
theorem oF.us(N:oF ρ l a ρ')(hl:¬σ.us l){x:LA}(u:σ.us x):ρ' x=ρ x:=N.old x λq=>hl (q▸u)
theorem oF.keep(N:oF ρ l a ρ')(hl:¬σ.us l){o:MO}{h:Heap}:fh ρ σ.us h ρ' (σ.new l o).us h:=⟨λ_ u=>⟨.inr u,N.us hl u⟩,λ_ _ e _=>e⟩
theorem oF.ref(N:oF ρ l a ρ'){o:MO}{h:Heap}:VR ρ' (σ.new l o).us h (.ref l) (.ref a):=N.here▸ .ref (.inl rfl)
theorem oF.un(N:oF ρ l a ρ')(hl:¬σ.us l){o:MO}{b:Addr}(nb:b≠a)(f:∀x,σ.us x->ρ x≠b)(x:LA)(u:(σ.new l o).us x):ρ' x≠b:=λq=>by
 refine Or.elim u (λu=> ?_) λu=> ?_
 ·exact nb (q.symm.trans (u▸N.here))
 ·exact f x u ((N.us hl u).symm.trans q)
theorem Good.name(G:Good cx n fd A ρ σ loc s)(hl:¬σ.us l)(N:oF ρ l a ρ'){o':MO}{x:Obj}(hx:s.heap.get? a=some x)(hnt:¬IsTup x)(h0:cx.h0.objs.size<=a)
  (hf:∀l,σ.us l->ρ l≠a)(hm:∀ {k},¬Spot fd a k)
  (hrel:fh ρ σ.us s.heap ρ' (σ.new l o').us s.heap->lM cx.prog cx.w ρ' (σ.new l o').us s.heap a o'):Good cx n fd A ρ' (σ.new l o') loc s:=by
 have k:=N.keep hl (o:=o') (h:=s.heap)
 refine⟨λy ob e=> ?_,λx y u v q=> ?_,λx u=> ?_,G.top,G.loc.mono k (λ_ z=>z) (λ_ _ _ e=>e),λsp=>have p:=G.foot sp;⟨p.z,N.un hl (λq=>hm (q▸sp)) p.u,p.e⟩,G.st,G.ak,G.gens⟩
 ·by_cases q : y=l
  ·cases (if_pos q).symm.trans e
   cases q
   exact⟨.inl rfl,N.here.symm▸hrel k⟩
  ·have z:=G.obj y ob ((if_neg q).symm.trans e)
   exact⟨.inr z.1,N.old y q▸z.2.mono k λ_ hz=>hz⟩
 ·refine Or.elim u (λu=> ?_) λu=> ?_<;>refine Or.elim v (λv=> ?_) λv=> ?_
  ·exact u.trans v.symm
  ·exact absurd ((N.us hl v).symm.trans (q.symm.trans (u▸N.here))) (hf y v)
  ·exact absurd ((N.us hl u).symm.trans (q.trans (v▸N.here))) (hf x u)
  ·exact G.inj x y u v ((N.us hl u).symm.trans (q.trans (N.us hl v)))
 ·rcases u with u | u
  ·rw[u,N.here];exact⟨h0,_,hx,hnt⟩
  ·rw[N.us hl u];exact G.low x u
theorem Step.named{l:LA}{o:MO}{a:Addr}{s₀:Shared}{ρ₀ ρ₁:LA->Addr}{U:LA->Prop}(S:Step fd ρ₀ U s₀ ρ σ.us s)(hl:¬σ.us l)(N:oF ρ l a ρ₁)(hn:s₀.heap.get? a=none):Step fd ρ₀ U s₀ ρ₁ (σ.new l o).us s:=by
 refine⟨S.rest,S.ex,λx u=>⟨.inr (S.us x u).1,(N.us hl (S.us x u).1).trans (S.us x u).2⟩,λx u nu=> ?_,S.keep,S.gc⟩
 refine Or.elim u (λu=> ?_) λu=> ?_
 ·refine ae u▸ ?_;refine (ah _ N.here).trans ?_;exact hn
 ·refine (ah _ (N.us hl u)).trans ?_;exact S.fresh x u nu
theorem Good.alloc(G:Good cx n fd A ρ σ loc s)(hl:¬σ.us l)(N:oF ρ l a ρ'){o':MO}{x:Obj}{h':Heap}(t:Nat)(g:jI fd.env.locals s.heap h')(ha:s.heap.objs.size<=a)
  (hx:h'.get? a=some x)(hnt:¬IsTup x)(hrel:fh ρ σ.us s.heap ρ' (σ.new l o').us h'->lM cx.prog cx.w ρ' (σ.new l o').us h' a o') :
  Good cx n fd A ρ' (σ.new l o') loc { s with heap:=h',toks:=t }/\Step fd ρ σ.us s ρ' (σ.new l o').us { s with heap:=h',toks:=t }:=by
 have S:=Step.grow (ρ:=ρ) (U:=σ.us) G.di G.locals g t
 have out : ∀ {b},(∃o,s.heap.get? b=some o)->b≠a:=λzz q=>(by refine cN zz λo e=> ?_;exact iL ha (q▸aR e))
 refine⟨(G.grow g t).name hl N hx hnt (ad G.oR ha) (λy u=>out (let ⟨_,o,e,_⟩:=G.low y u;⟨o,e⟩)) (λsp=>let ⟨o,e,_⟩:=(G.foot sp).e;out ⟨o,e⟩ rfl) (λk=>hrel ((S.keeps G).trans k)),
  S.rest,S.ex,λx u=>⟨.inr u,N.us hl u⟩,λy u z=> ?_,S.keep,S.gc⟩
 refine Or.elim u (λu=> ?_) λu=> ?_
 ·refine ae u▸ ?_;refine (ah _ N.here).trans ?_
  cases q : s.heap.get? a with
  |none=>rfl
  |some o=>exact (out ⟨o,q⟩ rfl).elim
 ·exact absurd u z
theorem Good.push(G:Good cx n fd A ρ σ loc s)(o:Obj)(t:Nat):Good cx n fd A ρ σ loc { s with heap:=s.heap.push o,toks:=t }:=G.grow (.push o) t
end
noncomputable abbrev cg.bool : cg Bool Bool:=λ_ _ _ a b=>a=b
section
variable {cx:Cx}{n:Nat}{fd:Fd}{p q:Pre}{A:Around}{ρ:LA->Addr}{σ:MH}{loc:Loc}{s:Shared}{Q:MV->Loc->MH->Prop}{E:Value->Shared->Prop}
noncomputable abbrev P.aa(i:Nat):P MV:=λloc σ Q _=>match loc[i]? with
 |some (some v)=>Q v loc σ
 |_=>False
theorem Ce{x:Str}{pos:Pos}{i:Nat}(hi:fd.names[i]?=some x)(hk:fd.env.scope.kind= .function)
  (hl:fd.env.kindOf x=some .local∨fd.env.kindOf x=some .cell∨fd.env.kindOf x=some .free)(hd:(x==("__debug__" : Str))=false) (hd2:(x==("__classdict__" : Str))=false) :
  bO cx n fd (.Name x pos) (P.aa i):=by
 intro A ρ σ loc s Q X G _ hm
 apply cW.of
 simp only[P.aa] at hm
 split at hm
 ·rename_i mv e
  obtain⟨m,ns,lr⟩:=G.loc
  refine dA (lr i x mv hi e) λq1 q2=> ?_
  refine wpAny_Name ?_ hd
  rcases hl with hl | hl | hl
  ·refine aT (q1 hl) λv e1 r=> ?_
   exact wpAny_loadName_local hk hl ns e1 (Out.now G r hm)
  ·obtain⟨c,v,e1,e2,r⟩:=q2 (.inl hl)
   exact wpAny_loadName_cell hk hl e1 e2 (Out.now G r hm)
  ·obtain⟨c,v,e1,e2,r⟩:=q2 (.inr hl)
   exact wpAny_loadName_free hk hl e1 e2 (Out.now G r hm) hd2
 ·exact hm.elim
noncomputable def VC(mv:MV)(v:Value):Prop:=∀ρ U h,VR ρ U h mv v
theorem ti{A:Around}{ρ:LA->Addr}{σ:MH}{loc:Loc}{s:Shared}(G:Good cx n fd A ρ σ loc s){x:Str}{pos:Pos}{v:Value}{Q:Value->Shared->Prop}{E:Value->Shared->Prop}
  (hk:fd.env.scope.kind= .function)(hx:fd.env.kindOf x=some .globalImplicit)(hg:fd.env.globals=mainGlobals)(hd:(x==("__debug__" : Str))=false)
  (e:nsIn cx.K mainGlobals x=some (some v))(h:Q v s):wpAny cx.M A (eval (.Name x pos) fd.env) Q E s:=
 Name_function_global hk hx (loadGlobal_global (env:=fd.env) (by refine ae hg▸ ?_;exact cx.g.keeps G.top) (mg_of cx.X cx.g e) h) hd
theorem xP{A:Around}{ρ:LA->Addr}{σ:MH}{loc:Loc}{s:Shared}(G:Good cx n fd A ρ σ loc s){x:Str}{pos:Pos}{v:Value}{Q:Value->Shared->Prop}{E:Value->Shared->Prop}
  (hk:fd.env.scope.kind= .function)(hx:fd.env.kindOf x=some .globalImplicit)(hg:fd.env.globals=mainGlobals)(hb:fd.env.builtins=builtinsNs)(hd:(x==("__debug__" : Str))=false)
  (e:nsIn cx.K mainGlobals x=some none)(hv:bootBuiltins x=some v)(hn:x ≠ "__name__") (h:Q v s):wpAny cx.M A (eval (.Name x pos) fd.env) Q E s:=
 Name_function_global hk hx (loadGlobal_builtin (env:=fd.env) (by rw[hg];exact cx.g.keeps G.top) (mg_none_of cx.X cx.g e) (by rw[hb];exact cx.b.keeps G.top) ((cx.bt x hn).trans hv) h) hd
theorem DV{x:Str}{pos:Pos}{v:Value}{mv:MV}(hc:VC mv v)(hk:fd.env.scope.kind= .function)(hx:fd.env.kindOf x=some .globalImplicit)(hg:fd.env.globals=mainGlobals)
  (hd:(x==("__debug__" : Str))=false) (e:nsIn cx.K mainGlobals x=some (some v)):bO cx n fd (.Name x pos) (P.ret mv):=
 λ_ _ _ _ _ _ _ G _ hm=> .of<|ti G hk hx hg hd e (Out.now G (hc _ _ _) hm)
noncomputable def kH : Const->Option MV
 | .none=>some .none
 | .bool b=>some (.bool b)
 | .int i=>some (.int i)
 | .bytes b=>some (.bytes b)
 |_=>none
theorem z9{c:Const}{k:Nat}{pos:Pos}{mv:MV}(h:kH c=some mv):bO cx n fd (.Constant c k pos) (P.ret mv):=by
 intro A ρ σ loc s Q X G _ hm
 apply cW.of
 show wpAny _ _ (constValue fd.env c) _ _ _
 cases c<;>simp only[kH,Option.some.injEq,reduceCtorEq] at h<;>subst h
 ·exact ao (Out.now G .none hm)
 ·exact ao (Out.now G .bool hm)
 ·exact wpAny_mkInt (Out.pre (Step.tok _) (Out.now (G.tok _) .int hm))
 ·exact λ_ _ _=>Out.pre (Step.tok _) (Out.now (G.tok _) .bytes hm)
theorem yv{x:String}{k:Nat}{pos:Pos}:bO cx n fd (.Constant (.str (Str.ofString x)) k pos) (P.ret (.str x)):=
 λ_ _ _ _ _ _ _ G _ hm=> .of<|wpAny_mkText (Out.pre (Step.tok _) (Out.now (G.tok _) .str hm))
noncomputable abbrev P.truth(a:MV):P Bool:=λloc σ Q _=>match a with
 | .none=>Q false loc σ
 | .bool b=>Q b loc σ
 | .int i=>Q (i != 0) loc σ
 | .bytes b=>b.length<=100000/\Q (!b.isEmpty) loc σ
 |_=>False
theorem sQ{a:MV}{v:Value}:mJ cx n fd (λρ U h=>VR ρ U h a v) cg.bool (truthy v) (P.truth a):=by
 intro A ρ σ loc s Q X G hp hm
 cases a<;>simp only[P.truth] at hm
 ·rw[hp.none_inv];exact ao (a:=false) (Out.now G rfl hm)
 ·rw[hp.bool_inv];exact ao (Out.now G rfl hm)
 ·obtain⟨t,e⟩:=hp.int_inv;rw[e];exact PySem.P.truthy_int (Out.now G rfl hm)
 ·obtain⟨t,e⟩:=hp.d7
  rw[e]
  refine truthy_bytes (by rw[d9];exact ad hm.1 (by decide)) ?_
  refine Out.pre (Step.tok _) (Out.now (G.tok _) ?_ hm.2)
  rename_i b
  cases b<;>simp[cg.bool]
  exact bi_ine.mp rfl
theorem fO{a:MV}{v:Value}:aM cx n fd (λρ U h=>VR ρ U h a v) cg.bool (truthy v) (P.truth a):=sQ.n
inductive jV(loc:Loc)(σ:MH)(Q:MV->Loc->MH->Prop):Operator->MV->MV->Prop where
 |add {x y} (h:Q (.int (x+y)) loc σ):jV loc σ Q .Add (.int x) (.int y)
 |sub {x y} (h:Q (.int (x - y)) loc σ):jV loc σ Q .Sub (.int x) (.int y)
 |mul {x y} (a:x.natAbs < 2^32/\y.natAbs < 2^32)(h:Q (.int (x * y)) loc σ):jV loc σ Q .Mult (.int x) (.int y)
 |fdiv {x y} (a:y≠0/\x.natAbs < 2^60/\y.natAbs < 2^60)(h:Q (.int (x.fdiv y)) loc σ):jV loc σ Q .FloorDiv (.int x) (.int y)
 |mod {x y} (a:y≠0)(h:Q (.int (x.fmod y)) loc σ):jV loc σ Q .Mod (.int x) (.int y)
 |shl {x y} (a:0<=y/\y<=1000/\x.natAbs < 2^64)(h:Q (.int (x * 2^y.toNat)) loc σ):jV loc σ Q .LShift (.int x) (.int y)
 |shr {x y} (a:0<=y)(h:Q (.int (x.fdiv (2^y.toNat))) loc σ):jV loc σ Q .RShift (.int x) (.int y)
 |band {x y} (h:Q (.int (Builtin.bitAnd x y)) loc σ):jV loc σ Q .BitAnd (.int x) (.int y)
 |bor {x y} (h:Q (.int (Builtin.bitOr x y)) loc σ):jV loc σ Q .BitOr (.int x) (.int y)
 |pow (h:Q (.int (10^12)) loc σ):jV loc σ Q .Pow (.int 10) (.int 12)
 |Ea {x y} (a:x.length+y.length<=100000)(h:Q (.bytes (x++y)) loc σ):jV loc σ Q .Add (.bytes x) (.bytes y)
 |Gz {x y} (a:0<=y/\y<=1000/\x.length<=16/\x≠[])(h:Q (.bytes (List.replicate y.toNat x).flatten) loc σ):jV loc σ Q .Mult (.bytes x) (.int y)
 |Ll {k l vs ws r} (e:σ.get k=some (.list vs))(f:σ.get l=some (.list ws))(a:vs.length+ws.length<=100000)(n:¬σ.us r)(h:Q (.ref r) loc (σ.new r (.list (vs++ws)))):jV loc σ Q .Add (.ref k) (.ref l)
 |mulL {k y vs r} (e:σ.get k=some (.list vs))(a:0<=y/\y<=1000/\vs.length<=64/\vs≠[])(n:¬σ.us r)(h:Q (.ref r) loc (σ.new r (.list (List.replicate y.toNat vs).flatten))):jV loc σ Q .Mult (.ref k) (.int y)
noncomputable abbrev P.bin(op:Operator)(a b:MV):P MV:=λloc σ Q _=>jV loc σ Q op a b
noncomputable abbrev E0 : Heap:=⟨#[],{}⟩
theorem Dm(a:Addr):E0.get? a=none:=by unfold Heap.get?;simp
noncomputable def qH(h:Heap)(L:Addr):List (Addr×Obj):=(List.range h.objs.size).filterMap λa=>if a=L then none else (h.get? a).map λo=>(a,o)
theorem lH{h:Heap}{L a:Addr}{o:Obj}:(a,o)∈qH h L↔h.get? a=some o/\a≠L:=by
 unfold qH
 refine (cS).trans ?_
 constructor
 ·rintro ⟨b,_,e⟩
  by_cases q : b=L
  ·simp[q] at e
  ·rw[if_neg q] at e
   refine aT (bl.mp e) λo' e1 e2=> ?_
   cases e2;exact⟨e1,q⟩
 ·rintro ⟨e,q⟩
  exact⟨a,List.mem_range.mpr (aR e),by refine ((if_neg q)).trans ?_;exact ah _ e⟩
theorem DB{h:Heap}{L:Addr}{m:Str->Option Value}(ns:h.Ns L m):Fr E0 L h m:=⟨ns,λb o e=>(by cases e),bC _⟩
theorem ui{h:Heap}{L:Addr}:News E0 L h (qH h L):=λ_ hp=>⟨(lH.mp hp).1,(lH.mp hp).2,Dm _⟩
theorem Gr{h:Heap}{a:Addr}{m m':Str->Option Value}(x:h.Ns a m)(y:h.Ns a m'):m=m':=by
 refine EP x λo es ep e d _ f=> ?_
 refine EP y λo' es' ep' e' d' _ f'=> ?_
 replace e':=e▸e';cases e'
 replace d':=d▸d';cases d'
 funext z;refine (f z)▸ ?_;exact (f' z)
theorem xn{h h':Heap}{L:Addr}{m:Str->Option Value}{pre:List (Addr×Obj)}(ns:h.Ns L m)(F:Fr E0 L h' m)(N:News E0 L h' (pre++qH h L)):jI L h h':=
 ⟨λ_ _ q e=>(N _ (bx _ (lH.mpr ⟨e,q⟩))).1,λ_ z=>Gr ns z▸F.ns⟩
theorem qa{h h':Heap}{L:Addr}{m:Str->Option Value}{o:Obj}(ns:h.Ns L m)(F:Fr E0 L h' m)(N:News E0 L h' ((h.objs.size,o)::qH h L)):jI L h h'/\h'.get? h.objs.size=some o:=
 ⟨xn (pre:=[(h.objs.size,o)]) ns F N,(N _ (.head _)).1⟩
theorem cQ{xs:Array Value}{ep:Nat}:¬IsTup { cls:= .type "list",data:= .seq xs ep }:=j8 (by intro h;injection h with h;revert h;decide)
theorem Out.alloc(G:Good cx n fd A ρ σ loc s){r:LA}(hr:¬σ.us r){o:MO}{x:Obj}{h':Heap}(t:Nat)(g:jI fd.env.locals s.heap h'){a:Addr}(ha:s.heap.objs.size<=a)(hx:h'.get? a=some x)(hnt:¬IsTup x)
  (hrel:∀ρ',fh ρ σ.us s.heap ρ' (σ.new r o).us h'->lM cx.prog cx.w ρ' (σ.new r o).us h' a o)(hq:Q (.ref r) loc (σ.new r o)):Out cx n fd A ρ σ s VR Q (.ref a) { s with heap:=h',toks:=t }:=by
 refine cN (Ad ρ r a) λρ' N=> ?_
 exact⟨_,_,_,_,(G.alloc hr N t g ha hx hnt (hrel ρ')).2,(G.alloc hr N t g ha hx hnt (hrel ρ')).1,N.ref,hq⟩
theorem Out.iU(G:Good cx n fd A ρ σ loc s){r:LA}(hr:¬σ.us r){vs:List MV}{xs:Array Value}{ep:Nat}{h':Heap}(t:Nat)
  (g:jI fd.env.locals s.heap h'){a:Addr}(ha:s.heap.objs.size<=a)(hx:h'.get? a=some { cls:= .type "list",data:= .seq xs ep }) (hv:cR ρ σ.us s.heap vs xs.toList)
  (hq:Q (.ref r) loc (σ.new r (.list vs))):Out cx n fd A ρ σ s VR Q (.ref a) { s with heap:=h',toks:=t }:=Out.alloc (o:= .list vs) G hr t g ha hx cQ (λ_ k=>⟨xs,ep,hx,hv.mono k⟩) hq
theorem cR.flat{ρ:LA->Addr}{U:LA->Prop}{h:Heap}{vs:List MV}{ys:List Value}(x:cR ρ U h vs ys):∀k : Nat,cR ρ U h (List.replicate k vs).flatten (List.replicate k ys).flatten
 |0=>by simpa using cR.nil
 |k+1=>by exact x.append (x.flat k)
theorem tj{α:Type}(items:Array α):∀ (k:Nat)(acc:Array α),((List.replicate k items).foldl (λa b=>a++b) acc).toList=acc.toList++(List.replicate k items.toList).flatten
 |0,acc=>by simp
 |k+1,acc=>by
  rw[List.replicate_succ,List.foldl_cons,tj items k,List.replicate_succ];rw[Array.toList_append];exact (aH ..)
theorem JD{x y:Int}(hx:x.natAbs < 2^32)(hy:y.natAbs < 2^32):IntMulOk x y:=by
 mul_fits
theorem Good.list(G:Good cx n fd A ρ σ loc s){l:LA}{vs:List MV}(e:σ.get l=some (.list vs)):∃xs ep,s.heap.get? (ρ l)=some { cls:= .type "list",data:= .seq xs ep }/\cR ρ σ.us s.heap vs xs.toList:=(G.obj _ _ e).2
theorem CU(G:Good cx n fd A ρ σ loc s){k l r:LA}{vs ws:List MV}(e1:σ.get k=some (.list vs))(e2:σ.get l=some (.list ws))(hz:vs.length+ws.length<=100000)(hr:¬σ.us r)(hq:Q (.ref r) loc (σ.new r (.list (vs++ws)))) :
  wpAny cx.M A (binaryOp .Add (.ref (ρ k)) (.ref (ρ l))) (Out cx n fd A ρ σ s VR Q) E s:=by
 refine cN G.locals λmL ns=> ?_
 refine ey (G.list e1) λxs ep o1 r1=> ?_
 refine ey (G.list e2) λys eq o2 r2=> ?_
 refine add_lists (vs:=xs.toList) (ws:=ys.toList) (DB ns) ui ⟨_,o1,rfl,ep,rfl⟩ ⟨_,o2,rfl,eq,rfl⟩ (λh' F' N'=> ?_) (by refine ae aU▸ ?_;exact ad (bF (aw r1.len) (aw r2.len)) (ad (by assumption) (by decide)))
 exact Out.iU G hr _ (qa ns F' N').1 (aG _) (qa ns F' N').2 (r1.append r2) hq
theorem B8{a b:Nat}(h:a<=64)(g:b<=1000):a * b<=2^24:=ad (Nat.mul_le_mul h g) (by decide)
theorem BN(G:Good cx n fd A ρ σ loc s){k r:LA}{y:Int}{t:Tok}{vs:List MV}(e1:σ.get k=some (.list vs))(hz:0<=y/\y<=1000/\vs.length<=64/\vs≠[])(hr:¬σ.us r)(hq:Q (.ref r) loc (σ.new r (.list (List.replicate y.toNat vs).flatten))) :
  wpAny cx.M A (binaryOp .Mult (.ref (ρ k)) (.int y t)) (Out cx n fd A ρ σ s VR Q) E s:=by
 refine cN G.locals λmL ns=> ?_
 refine ey (G.list e1) λxs ep o1 r1=> ?_
 have ne : xs.isEmpty=false:=by
  refine Array.isEmpty_eq_false_iff.mpr ?_
  exact λz=>hz.2.2.2 (List.eq_nil_of_length_eq_zero (r1.len.symm.trans (by refine ae z▸ ?_;rfl)))
 refine mul_list (DB ns) ui o1 (bp (by decide) hz.1) (cU hz.2.1 (by decide)) (B8 (ad (aw r1.len) hz.2.2.1) (ad (Int.toNat_le.mpr hz.2.1) (by decide))) (λh' F' N'=> ?_)
 refine Out.iU G hr _ (qa ns F' N').1 (aG _) (qa ns F' N').2 ?_ hq
 rw[ne]
 show cR _ _ _ _ (Array.toList (List.foldl _ _ _))
 rw[tj]
 exact r1.flat y.toNat
theorem Kj{x:Int}(h:x.natAbs < 2^60):x.natAbs.log2 < 60∨x.natAbs=0:=by
 by_cases q : x.natAbs=0
 ·exact .inr q
 ·exact .inl ((Nat.log2_lt q).mpr h)
theorem FC{op:Operator}{a b:MV}{va vb:Value}:mJ cx n fd (λρ U h=>VR ρ U h a va/\VR ρ U h b vb) VR (binaryOp op va vb) (P.bin op a b):=by
 intro A ρ σ loc s Q X G hp hm
 obtain⟨ha,hb⟩:=hp
 have tk : ∀ {i:Int},Q (.int i) loc σ->Out cx n fd A ρ σ s VR Q (.int i s.toks) { s with toks:=s.toks+1 }:=λh=>Out.pre (Step.tok _) (Out.now (G.tok _) .int h)
 have tb : ∀ {i:List UInt8}{t k:Nat},Q (.bytes i) loc σ->Out cx n fd A ρ σ s VR Q (.bytes i.toArray t) { s with toks:=k }:=λh=>Out.pre (Step.tok _) (Out.now (G.tok _) .bytes h)
 have al:=λ{k l r vs ws}=>CU (E:=eA cx n fd A ρ σ s X) (Q:=Q) G (k:=k) (l:=l) (r:=r) (vs:=vs) (ws:=ws)
 have ml:=λ{k r y t vs}=>BN (E:=eA cx n fd A ρ σ s X) (Q:=Q) G (k:=k) (r:=r) (y:=y) (t:=t) (vs:=vs)
 generalize Out cx n fd A ρ σ s VR Q=Q' at tk tb al ml ⊢
 generalize eA cx n fd A ρ σ s X=E' at al ml ⊢
 induction hm with
 |add h=>apply VR.fK ha hb;exact λ_ _=>add_int (tk h)
 |sub h=>apply VR.fK ha hb;exact λ_ _=>sub_int (tk h)
 |mul a h=>apply VR.fK ha hb;exact λ_ _=>mul_int (tk h) (JD a.1 a.2)
 |fdiv a h=>apply VR.fK ha hb;exact λ_ _=>floordiv_int a.1 (tk h) (.inl (PyProof.noPylong_of_log2 (by
   refine Or.elim (Kj a.2.2) (λq=> ?_) λq=> ?_
   ·exact aC q (by decide)
   ·rw[q];decide)))
 |mod a h=>apply VR.fK ha hb;exact λ_ _=>mod_int' a (tk h)
 |shl a h=>apply VR.fK ha hb;exact λ_ _=>lshift_int_small a.1 (bp a.2.1 (by decide)) a.2.2 (tk h)
 |shr a h=>apply VR.fK ha hb;exact λ_ _=>rshift_int a (tk h)
 |band h=>apply VR.fK ha hb;exact λ_ _=>and_int (tk h)
 |bor h=>apply VR.fK ha hb;exact λ_ _=>or_int (tk h)
 |pow h=>apply VR.fK ha hb;exact λ_ _=>pow_int_small (by decide) (by decide) (by decide) (tk h)
 |Ea a h=>apply ha.dg;intro _;apply hb.dg;exact λ_=>bytes_add_K (by simp only[d9];exact ad a (by decide)) rfl λt' k=>tb h
 |Gz a h=>apply ha.dg;intro _;apply hb.eH;exact λ_=>bytes_mul_any a.2.2.2 (bp (by decide) a.1) (bp a.2.1 (by decide)) a.2.2.1 λt' k=>tb h
 |Ll e f a n h=>apply ha.eB;intro _;apply hb.eB;exact λ_=>al e f a n h
 |mulL e a n h=>apply ha.eB;intro _;apply hb.eH;exact λ_=>ml e a n h
theorem FM{op:Operator}{a b:MV}{va vb:Value}:aM cx n fd (λρ U h=>VR ρ U h a va/\VR ρ U h b vb) VR (binaryOp op va vb) (P.bin op a b):=FC.n
end
end Internal
namespace Internal
open PySem PySem.W PyProof.Rows PySem.Calls Builtin PySem.EqNone
noncomputable def MV.fe : MV->MV->Option Bool
 | .int a, .int b=>some (a==b)
 | .bytes a, .bytes b=>some (a==b)
 | .str a, .str b=>some (Str.ofString a==Str.ofString b)
 | .none, .none=>some true
 | .none, .bytes _=>some false
 | .bytes _, .none=>some false
 |_,_=>Option.none
theorem uX{P:MV->MV->Bool->Prop}{a b:MV}{k:Bool}(e:a.fe b=some k)(hi:∀x y,P (.int x) (.int y) (x==y))(hb:∀x y,P (.bytes x) (.bytes y) (x==y))(hs:∀x y,P (.str x) (.str y) (Str.ofString x==Str.ofString y))
  (hn:P .none .none true)(h1:∀y,P .none (.bytes y) false)(h2:∀x,P (.bytes x) .none false):P a b k:=by
 cases a with
 |int x=>cases b<;>first | exact aS e▸hi _ _ | cases e
 |bytes x=>cases b<;>first | exact aS e▸hb _ _ | exact aS e▸h2 _ | cases e
 |str x=>cases b<;>first | exact aS e▸hs _ _ | cases e
 |none=>cases b<;>first | exact aS e▸hn | exact aS e▸h1 _ | cases e
 |_=>exact nomatch b<;>cases e
section
variable {cx:Cx}{n:Nat}{fd:Fd}{prog:Program}{w:World}{A:Around}{E:Value->Shared->Prop}{s:Shared}{ρ:LA->Addr}{U:LA->Prop}{Q:Value->Shared->Prop}
theorem ny(b:Array UInt8)(t:Tok):Gives (Builtin.«NoneType.__eq__» ⟨[.none, .bytes b t],[]⟩) (.val (Value.notImplemented)):=
 .of_wp λM A E s Q h=>by obtain⟨hp,g,d,tk,os⟩:=s;wp_walk;exact⟨_,rfl,h⟩
theorem Dz : isSubtype (.type "NoneType") (.type "bytes")=pure false:=by rw[cA];kernel_rfl
theorem HP : isSubtype (.type "bytes") (.type "NoneType")=pure false:=by rw[cA];kernel_rfl
theorem mY(b:Array UInt8)(t:Tok):Gives (Builtin.«bytes.__eq__» ⟨[.bytes b t, .none],[]⟩) (.val (Value.notImplemented)):=
 .of_wp λM A E s Q h=>by
  obtain⟨hp,g,d,tk,os⟩:=s
  show wpAny M A (isInstance .none (.type "bytes") >>= λr=>if (!r)=true then (rule (toString "bytes." ++ toString "__eq__" ++ toString ".declined") >>= λ_=>ret .notImplemented)
   else (Bytes.payload (.bytes b t) >>= λx=>Bytes.payload .none >>= λy=>ret (.bool (Bytes.holds "__eq__" (Bytes.order x.toList y.toList))))) _ E _
  refine af (bG (by exact Dz) ?_)
  exact af (wpAny_rule (ao ⟨_,rfl,h⟩))
theorem r8{b:Array UInt8}{t:Tok}(h:Q (.bool false) s):wpAny (model prog w) A (compareOp .Eq (.bytes b t) .none) Q E s:=by
 exact wpAny_richCompare_eq_decline (k:=false) (λs'=>typeIs_bytes s' b t) (λ_=>rfl) (by decide) Dz FB.slot_bytes_eq F.slot_NoneType_eq_refl rfl
  (call_gives FB.slot_bytes_eq (typeIs_bytes s b t) FB.entry_bytes_eq (FB.args_bytes_eq_2 _ _) (mY b t)
   ⟨rfl,call_gives F.slot_NoneType_eq_refl rfl F.entry_NoneType_eq (F.args_NoneType_eq_2 _ _) (ny b t) ⟨rfl,h⟩⟩)
theorem sD{b:Array UInt8}{t:Tok}(h:Q (.bool false) s):wpAny (model prog w) A (compareOp .Eq .none (.bytes b t)) Q E s:=by
 exact wpAny_richCompare_eq_decline (k:=false) (λ_=>rfl) (λs'=>typeIs_bytes s' b t) (by decide) HP F.slot_NoneType_eq FB.slot_bytes_eq rfl
  (call_gives F.slot_NoneType_eq rfl F.entry_NoneType_eq (F.args_NoneType_eq_2 _ _) (ny b t)
   ⟨rfl,call_gives FB.slot_bytes_eq (typeIs_bytes s b t) FB.entry_bytes_eq (FB.args_bytes_eq_2 _ _) (mY b t) ⟨rfl,h⟩⟩)
theorem yJ{a b:MV}{va vb:Value}{k:Bool}(ha:VR ρ U s.heap a va)(hb:VR ρ U s.heap b vb)(e:a.fe b=some k)(h:Q (.bool k) s):wpAny (model prog w) A (compareOp .Eq va vb) Q E s:=by
 revert ha hb h
 refine uX (P:=λa b k=>VR ρ U s.heap a va->VR ρ U s.heap b vb->Q (.bool k) s->wpAny (model prog w) A (compareOp .Eq va vb) Q E s) e (λx y ha hb=> ?_) (λx y ha hb=> ?_) (λx y ha hb=> ?_) (λha hb=> ?_) (λy ha hb=> ?_) (λx ha hb=> ?_)
 ·apply ha.eH;intro t;apply hb.eH;intro u;exact eq_int
 ·apply ha.dg;intro t;apply hb.dg;intro u;exact eq_bytes
 ·apply ha.A8;intro t;apply hb.A8;intro u;exact eq_str
 ·cases ha.none_inv;cases hb.none_inv;exact eq_none_none
 ·cases ha.none_inv;apply hb.dg;intro u;exact sD
 ·cases hb.none_inv;apply ha.dg;intro u;exact r8
theorem mX{a b:MV}{v:Value}{k:Bool}{h:Heap}(ha:VR ρ U h a v)(hb:VR ρ U h b v)(e:a.fe b=some k):k=true:=by
 revert ha hb
 refine uX (P:=λa b k=>VR ρ U h a v->VR ρ U h b v->k=true) e (λx y ha hb=> ?_) (λx y ha hb=> ?_) (λx y ha hb=> ?_) (λ_ _=>rfl) (λy ha hb=> ?_) (λx ha hb=> ?_)
 ·refine cN ha.int_inv λt zr1_=> ?_;subst zr1_;obtain⟨u,e⟩:=hb.int_inv;cases e;exact beq_self_eq_true _
 ·refine cN ha.d7 λt zr1_=> ?_;subst zr1_;obtain⟨u,e⟩:=hb.d7;cases e;exact beq_self_eq_true _
 ·refine cN ha.str_inv λt zr1_=> ?_;subst zr1_;obtain⟨u,e⟩:=hb.str_inv;exact (Value.str.inj e).1▸beq_self_eq_true _
 ·cases ha.none_inv;obtain⟨u,e⟩:=hb.d7;cases e
 ·cases hb.none_inv;obtain⟨u,e⟩:=ha.d7;cases e
theorem kF{va vb:Value}{Q:Bool->Shared->Prop}{k:Bool}(hs:va=vb->k=true)(hnf:∀x t,va≠ .float x t)(h:Q k s)(hc:∀Q : Value->Shared->Prop,Q (.bool k) s->wpAny (model prog w) A (compareOp .Eq va vb) Q E s) :
  wpAny (model prog w) A (eqBool va vb) Q E s:=by
 refine bk ?_
 by_cases q : va=vb
 ·have:=hs q;subst this
  refine ae (if_pos (by exact eI.mpr q))▸ ?_
  exact af (wpAny_rule (ao h))
 ·rw[if_neg (by simp[q])]
  have : wpAny (model prog w) A (richCompare .Eq va vb >>= truthOfDropped) Q E s:=by
   refine af ?_
   refine hc _ ?_
   exact ao h
  clear h hc hs q
  cases va with
  |float x t=>exact absurd rfl (hnf _ _)
  |_=>exact this
theorem VR.wN{a:MV}{va:Value}{h:Heap}(ha:VR ρ U h a va):∀x t,va≠ .float x t:=by
 intro x t
 cases a
 ·refine ae ha.none_inv▸ ?_;simp
 ·rw[ha.bool_inv];simp
 ·refine cN ha.int_inv λt zr1_=> ?_;subst zr1_;simp
 ·refine cN ha.str_inv λt zr1_=> ?_;subst zr1_;simp
 ·refine cN ha.d7 λt zr1_=> ?_;subst zr1_;simp
 ·refine xt ha.dN λt _ _ _ zr4_ _=> ?_;subst zr4_;simp
 ·rw[ha.bU.1];simp
theorem wK{a b:MV}{va vb:Value}{k:Bool}{Q:Bool->Shared->Prop}(ha:VR ρ U s.heap a va)(hb:VR ρ U s.heap b vb)(e:a.fe b=some k)(h:Q k s):wpAny (model prog w) A (eqBool va vb) Q E s:=
 kF (λq=>mX ha (q▸hb) e) ha.wN h λ_ hq=>yJ ha hb e hq
end
end Internal
namespace Internal
open PySem PySem.W PyProof.Rows PySem.Calls Builtin PySem.EqNone PySem.SeqAt
noncomputable def xu : Value->Value->Bool
 | .int a _, .int b _=>a==b
 | .bytes a _, .bytes b _=>a.toList==b.toList
 | .str a _, .str b _=>a==b
 | .none, .none=>true
 |_,_=>false
section
variable {prog:Program}{w:World}{A:Around}{E:Value->Shared->Prop}{s:Shared}{ρ:LA->Addr}{U:LA->Prop}
theorem w6{a b:MV}{va vb:Value}{k:Bool}{h:Heap}(ha:VR ρ U h a va)(hb:VR ρ U h b vb)(e:a.fe b=some k):xu va vb=k:=by
 revert ha hb
 refine uX (P:=λa b k=>VR ρ U h a va->VR ρ U h b vb->xu va vb=k) e (λx y ha hb=> ?_) (λx y ha hb=> ?_) (λx y ha hb=> ?_) (λha hb=> ?_) (λy ha hb=> ?_) (λx ha hb=> ?_)
 ·apply ha.eH;intro t;apply hb.eH;intro u;rfl
 ·apply ha.dg;intro t;apply hb.dg;intro u;rfl
 ·apply ha.A8;intro t;apply hb.A8;intro u;rfl
 ·cases ha.none_inv;cases hb.none_inv;rfl
 ·cases ha.none_inv;apply hb.dg;intro u;rfl
 ·cases hb.none_inv;apply ha.dg;intro u;rfl
theorem GE{a b:MV}{va vb:Value}{k:Bool}(ha:VR ρ U s.heap a va)(hb:VR ρ U s.heap b vb)(e:a.fe b=some k):EqAt A s va vb k:=
 λ_ _ _ _ hq=>wK ha hb e hq
theorem e8{vs:List MV}{xs:Array Value}{h:Heap}(r:cR ρ U h vs xs.toList){j:Nat}(hj:j < xs.size):∃v,vs[j]?=some v/\VR ρ U h v xs[j]:=by
 have hj' : j < vs.length:=by refine r.len▸ ?_;simpa using hj
 refine aT (r.get (i:=j) (v:=vs[j]) (by exact ay hj')) λy e q=> ?_
 refine⟨vs[j],by exact ay hj', ?_⟩
 replace e:=c9▸e
 have:=Array.getElem?_eq_some_iff.mp e
 obtain⟨_,rfl⟩:=this
 exact q
noncomputable def pair(eqf:MV->MV->Option Bool)(vs ws:List MV)(j:Nat):Bool:=match vs[j]?,ws[j]? with
 |some a,some b=>(eqf a b).getD false
 |_,_=>false
noncomputable def f0(eqf:MV->MV->Option Bool):List MV->List MV->Bool
 |x::xs,y::ys=>(eqf x y).isSome&&f0 eqf xs ys
 |_,_=>true
theorem q6{eqf:MV->MV->Option Bool}:∀ {vs ws:List MV},f0 eqf vs ws=true->∀ (j:Nat){a b:MV},vs[j]?=some a->ws[j]?=some b->eqf a b=some (pair eqf vs ws j)
 | [],_,_,_,_,_,e,_=>by simp at e
 |_::_,[],_,_,_,_,_,e=>by simp at e
 |x::xs,y::ys,h,0,a,b,e1,e2=>by
  simp only[List.getElem?_cons_zero,Option.some.injEq] at e1 e2
  subst e1 e2
  simp only[f0,Bool.and_eq_true] at h
  obtain⟨k,hk⟩:=cb.mp h.1
  simp[pair,hk]
 |x::xs,y::ys,h,j+1,a,b,e1,e2=>by
  simp only[List.getElem?_cons_succ] at e1 e2
  simp only[f0,Bool.and_eq_true] at h
  have:=q6 h.2 j e1 e2
  simpa [pair] using this
noncomputable def o8(eqf:MV->MV->Option Bool):List MV->List MV->Bool
 | [],[]=>true
 |x::xs,y::ys=>(eqf x y).getD false&&o8 eqf xs ys
 |_,_=>false
theorem qN(p:Nat->Bool)(n:Nat):(List.range (n+1)).all p=(p 0&&(List.range n).all λj=>p (j+1)):=by
 rw[List.range_succ_eq_map];exact ah _ List.all_map
theorem nF(eqf:MV->MV->Option Bool):∀vs ws : List MV,((List.range (min vs.length ws.length)).all (pair eqf vs ws)&&vs.length==ws.length)=o8 eqf vs ws
 | [],[]=>by exact Bool.and_self ((List.range (Min.min [].length [].length)).all (pair eqf [] []))
 | [],_::_=>by rfl
 |_::_,[]=>by exact ae ((λ{a b}=>Bool.eq_and_self.mpr) (congrFun rfl))
 |x::xs,y::ys=>by
  refine ae cy▸ ?_;rw[cy,Nat.succ_min_succ,qN,o8];refine (nF eqf xs ys)▸ ?_
  refine ae (show pair eqf (x::xs) (y::ys) 0=(eqf x y).getD false by exact Bool.le_antisymm (λa=>a) λa=>a)▸ae (show (λj=>pair eqf (x::xs) (y::ys) (j+1))=pair eqf xs ys by funext j;rfl)▸ ?_;refine (Bool.and_assoc ..).trans ?_
  simp
theorem uB{a:Addr}{o:Obj}{xs:Array Value}{ep:Nat}(e:s.heap.get? a=some o)(c:o.cls= .type "tuple") (d:o.data= .seq xs ep):s.heap.IsTuple a xs:=⟨o,e,c,ep,d⟩
noncomputable def MV.ia : MV->MV->Option Bool
 | .tup xs, .tup ys=>if f0 MV.fe xs ys then some (o8 MV.fe xs ys) else Option.none
 | .tup _, .none=>some false
 | .none, .tup _=>some false
 |a,b=>a.fe b
theorem vV{P:MV->MV->Bool->Prop}{a b:MV}{k:Bool}(e:a.ia b=some k)(hf:a.fe b=some k->P a b k)(ht:∀x y,f0 MV.fe x y=true->P (.tup x) (.tup y) (o8 MV.fe x y))(h1:∀x,P (.tup x) .none false)(h2:∀y,P .none (.tup y) false):P a b k:=by
 cases a with
 |tup x=>cases b with
  |tup y=>
   have e : (if f0 MV.fe x y then some (o8 MV.fe x y) else Option.none)=some k:=e
   cases q : f0 MV.fe x y with
   |true=>rw[q] at e;exact aS e▸ht x y q
   |false=>(replace e:=q▸e);cases e
  |none=>exact aS e▸h1 x
  |_=>exact hf e
 |none=>cases b with
  |tup y=>exact aS e▸h2 y
  |_=>exact hf e
 |_=>exact hf e
theorem HR{xs ys:List MV}{va vb:Value}(hu:A.units < cLine)(ha:VR ρ U s.heap (.tup xs) va)(hb:VR ρ U s.heap (.tup ys) vb)(ht:f0 MV.fe xs ys=true):RcAt A s va vb (o8 MV.fe xs ys):=by
 refine qE ha.dN λa o X ep zr4_ e1 c1 d1 r1=> ?_;subst zr4_
 refine qE hb.dN λb o2 Y ep2 zr4_ e2 c2 d2 r2=> ?_;subst zr4_
 have:=RcAt.tuples (A:=A) (e:=pair MV.fe xs ys) (uB e1 c1 d1) (uB e2 c2 d2) hu λj h1 h2=>by
  refine aT (e8 r1 h1) λx p1 q1=> ?_
  refine aT (e8 r2 h2) λy p2 q2=> ?_
  exact GE q1 q2 (q6 ht j p1 p2)
 rw[(show X.size=xs.length by simpa using r1.len),(show Y.size=ys.length by simpa using r2.len),nF] at this
 exact this
theorem vP{xs:List MV}{va:Value}(hu:A.units < cLine)(ha:VR ρ U s.heap (.tup xs) va):RcAt A s va .none false:=by
 refine qE ha.dN λa o X ep zr4_ e1 c1 d1 r1=> ?_;subst zr4_
 exact RcAt.tuple_none (uB e1 c1 d1) hu
theorem vU{xs:List MV}{va:Value}(hu:A.units < cLine)(ha:VR ρ U s.heap (.tup xs) va):RcAt A s .none va false:=by
 refine qE ha.dN λa o X ep zr4_ e1 c1 d1 r1=> ?_;subst zr4_
 exact RcAt.none_tuple (uB e1 c1 d1) hu
theorem KO{a b:MV}{va vb:Value}{k:Bool}(ha:VR ρ U s.heap a va)(hb:VR ρ U s.heap b vb)(e:a.fe b=some k):RcAt A s va vb k:=
 λ_ _ _ _ hq=>yJ ha hb e hq
theorem Dy{a b:MV}{va vb:Value}{k:Bool}(hu:A.units < cLine)(ha:VR ρ U s.heap a va)(hb:VR ρ U s.heap b vb)(e:a.ia b=some k):RcAt A s va vb k:=by
 revert ha hb
 refine vV (P:=λa b k=>VR ρ U s.heap a va->VR ρ U s.heap b vb->RcAt A s va vb k) e (λe ha hb=>KO ha hb e) (λx y ht ha hb=>HR hu ha hb ht) (λx ha hb=> ?_) λy ha hb=> ?_
 ·cases hb.none_inv;exact vP hu ha
 ·cases ha.none_inv;exact vU hu hb
end
section
variable {prog:Program}{w:World}{A:Around}{E:Value->Shared->Prop}{s:Shared}{ρ:LA->Addr}{U:LA->Prop}
theorem wt{h:Heap}:∀ {xs ys:List MV}{vs:List Value},cR ρ U h xs vs->cR ρ U h ys vs->f0 MV.fe xs ys=true->o8 MV.fe xs ys=true
 | [],ys,vs,ha,hb,_=>by
  have:=ha.nil_inv;subst this
  cases ys with
  |nil=>rfl
  |cons y ys=>refine ey hb.cons_inv λ_ _ q _=> ?_;cases q
 |x::xs,ys,vs,ha,hb,ht=>by
  refine eW ha.cons_inv λv vs' q a1 a2=> ?_
  subst q
  cases ys with
  |nil=>have:=hb.nil_inv;cases this
  |cons y ys=>
   refine eW hb.cons_inv λv' vs'' q b1 b2=> ?_
   cases q
   simp only[f0,Bool.and_eq_true] at ht
   obtain⟨k,hk⟩:=cb.mp ht.1
   have:=mX a1 b1 hk
   subst this
   simp only[o8,hk,Option.getD_some,Bool.true_and]
   exact wt a2 b2 ht.2
theorem BI{a b:MV}{v:Value}{k:Bool}{h:Heap}(ha:VR ρ U h a v)(hb:VR ρ U h b v)(e:a.ia b=some k):k=true:=by
 revert ha hb
 refine vV (P:=λa b k=>VR ρ U h a v->VR ρ U h b v->k=true) e (λe ha hb=>mX ha hb e) (λx y ht ha hb=> ?_) (λx ha hb=> ?_) λy ha hb=> ?_
 ·refine qE ha.dN λx o X ep zr4_ e1 _ d1 r1=> ?_;subst zr4_
  refine qE hb.dN λy o2 Y ep2 q e2 _ d2 r2=> ?_
  cases q
  cases e1.symm.trans e2
  cases d1.symm.trans d2
  exact wt r1 r2 ht
 ·cases hb.none_inv;obtain⟨_,_,_,_,q,_⟩:=ha.dN;cases q
 ·cases ha.none_inv;obtain⟨_,_,_,_,q,_⟩:=hb.dN;cases q
theorem HF{a b:MV}{va vb:Value}{k:Bool}(hu:A.units < cLine)(ha:VR ρ U s.heap a va)(hb:VR ρ U s.heap b vb)(e:a.ia b=some k):EqAt A s va vb k:=
 λprog w E _ hq=>kF (λq=>BI ha (q▸hb) e) ha.wN hq λ_ h=>Dy hu ha hb e prog w E _ h
theorem u7{l b:Addr}{X Y:Array Value}{vs ws:List MV}(hu:A.units+1 < cLine)(hl:s.heap.IsList l X)(hb:s.heap.IsList b Y)(r1:cR ρ U s.heap vs X.toList)(r2:cR ρ U s.heap ws Y.toList)
  (ht:f0 MV.ia vs ws=true):RcAt A s (.ref l) (.ref b) (o8 MV.ia vs ws)/\RcNeAt A s (.ref l) (.ref b) (!o8 MV.ia vs ws):=by
 have l1 : X.size=vs.length:=by simpa using r1.len
 have l2 : Y.size=ws.length:=by simpa using r2.len
 by_cases q : X.size=Y.size
 ·have he : ∀j (h1:j < X.size)(h2:j < Y.size),EqAt A.in1 s X[j] Y[j] (pair MV.ia vs ws j):=λj h1 h2=>by
   refine aT (e8 r1 h1) λx p1 q1=> ?_
   refine aT (e8 r2 h2) λy p2 q2=> ?_
   exact HF (by simpa using hu) q1 q2 (q6 ht j p1 p2)
  have z : (List.range X.size).all (pair MV.ia vs ws)=o8 MV.ia vs ws:=by
   rw[<-nF];refine l1▸ ?_;rw[<-l2,<-q];refine ae (Nat.min_self ..)▸ ?_;simp
  exact⟨z▸RcAt.lists hl hb q (az (Nat.le_add_right_of_le (aG _)) hu) he,z▸RcNeAt.lists hl hb q (az (Nat.le_add_right_of_le (aG _)) hu) he⟩
 ·have z : o8 MV.ia vs ws=false:=by rw[<-nF];refine l1▸ ?_;refine l2▸ ?_;simp[q]
  refine ae z▸ ?_
  exact⟨RcAt.lists_lengths hl hb (by simpa using q) (az (Nat.le_add_right_of_le (aG _)) hu),RcNeAt.lists_lengths hl hb (by simpa using q) (az (Nat.le_add_right_of_le (aG _)) hu)⟩
theorem nZ{vs:List MV}{X:Array Value}{x:MV}{vx:Value}(r:cR ρ U s.heap vs X.toList)(hx:VR ρ U s.heap x vx)(ht:vs.all (λv=>(v.fe x).isSome)=true) :
  X.any (λy=>xu y vx)=vs.any (λv=>(v.fe x).getD false)/\∀y∈X,EqAt A s y vx (xu y vx):=by
 have aux : ∀ {ys:List Value},cR ρ U s.heap vs ys->ys.any (λy=>xu y vx)=vs.any (λv=>(v.fe x).getD false)/\∀y∈ys,EqAt A s y vx (xu y vx):=by
  clear r
  induction vs with
  |nil=>intro ys r;refine ae r.nil_inv▸ ?_;exact⟨rfl,λ_ h=>absurd h List.not_mem_nil⟩
  |cons v vs ih=>
   intro ys r
   refine eW r.cons_inv λy ys' zr2_ a b=> ?_;subst zr2_
   have ht:=an.mp (List.all_cons.symm.trans ht)
   refine cN (cb.mp ht.1) λk hk=> ?_
   refine⟨by refine (List.any_cons).trans ?_;rw[List.any_cons];refine (ah _ (ih ht.2 b).1).trans ?_;rw[(w6 a hx hk),hk];rfl,λz hz=> ?_⟩
   rcases aK.mp hz with rfl | hz
   ·refine ae (w6 a hx hk)▸ ?_;exact GE a hx hk
   ·exact (ih ht.2 b).2 z hz
 exact⟨Array.any_toList.symm.trans (aux r).1,λy hy=>(aux r).2 y (Array.mem_toList_iff.mpr hy)⟩
end
section
variable {cx:Cx}{n:Nat}{fd:Fd}
noncomputable def M5 : MV->Bool
 | .none=>true
 |_=>false
theorem VR.isN{ρ:LA->Addr}{U:LA->Prop}{h:Heap}{a:MV}{v:Value}(r:VR ρ U h a v):(v== .none)=Internal.M5 a:=by
 cases a with
 |none=>(refine ae r.none_inv▸ ?_);rfl
 |bool=>(refine ae r.bool_inv▸ ?_);rfl
 |int=>refine cN r.int_inv λ_ e=> ?_;refine ae e▸ ?_;rfl
 |str=>refine cN r.str_inv λ_ e=> ?_;rw[e];rfl
 |bytes=>refine cN r.d7 λ_ e=> ?_;rw[e];rfl
 |tup=>refine xt r.dN λ_ _ _ _ e _=> ?_;refine ae e▸ ?_;rfl
 |ref=>(refine ae r.bU.1▸ ?_);rfl
inductive Ks(σ:MH):MV->MV->Bool->Prop where
 |none {a}:Ks σ a .none (Internal.M5 a)
 |ref {l m C d} (e:σ.get l=some (.inst C d))(u:σ.us m):Ks σ (.ref l) (.ref m) (decide (l=m))
inductive iP(loc:Loc)(σ:MH)(Q:MV->Loc->MH->Prop):CmpOp->MV->MV->Prop where
 |lt {x y} (h:Q (.bool (decide (x < y))) loc σ):iP loc σ Q .Lt (.int x) (.int y)
 |le {x y} (h:Q (.bool (decide (x<=y))) loc σ):iP loc σ Q .LtE (.int x) (.int y)
 |gt {x y} (h:Q (.bool (decide (x > y))) loc σ):iP loc σ Q .Gt (.int x) (.int y)
 |ge {x y} (h:Q (.bool (decide (x≥y))) loc σ):iP loc σ Q .GtE (.int x) (.int y)
 |ne {x y} (h:Q (.bool (x != y)) loc σ):iP loc σ Q .NotEq (.int x) (.int y)
 |Lu {x y} (h:Q (.bool (!(x==y))) loc σ):iP loc σ Q .NotEq (.bool x) (.bool y)
 |is {x y k} (e:Ks σ x y k)(h:Q (.bool k) loc σ):iP loc σ Q .Is x y
 |vm {x y k} (e:Ks σ x y k)(h:Q (.bool (!k)) loc σ):iP loc σ Q .IsNot x y
 |Lg {k l vs ws} (e:σ.get k=some (.list vs))(f:σ.get l=some (.list ws))(t:f0 MV.ia vs ws=true)(h:Q (.bool (o8 MV.ia vs ws)) loc σ):iP loc σ Q .Eq (.ref k) (.ref l)
 |MP {k l o vs ws} (e:σ.get k=some (.fz o vs))(f:σ.get l=some (.list ws))(t:f0 MV.ia vs ws=true)(h:Q (.bool (o8 MV.ia vs ws)) loc σ):iP loc σ Q .Eq (.ref k) (.ref l)
 |Jz {k l vs ws} (e:σ.get k=some (.list vs))(f:σ.get l=some (.list ws))(t:f0 MV.ia vs ws=true)(h:Q (.bool (!o8 MV.ia vs ws)) loc σ):iP loc σ Q .NotEq (.ref k) (.ref l)
 |eq {x y k} (e:x.ia y=some k)(h:Q (.bool k) loc σ):iP loc σ Q .Eq x y
 |MQ {x l vs} (e:σ.get l=some (.list vs))(t:vs.all (λv=>(v.fe x).isSome)=true)(h:Q (.bool (vs.any λv=>(v.fe x).getD false)) loc σ):iP loc σ Q .In x (.ref l)
 |Nh {x l vs} (e:σ.get l=some (.list vs))(t:vs.all (λv=>(v.fe x).isSome)=true)(h:Q (.bool (!vs.any λv=>(v.fe x).getD false)) loc σ):iP loc σ Q .NotIn x (.ref l)
 |inD {k l es} (e:σ.get l=some (.bS es))(h:Q (.bool (es.lookup k).isSome) loc σ):iP loc σ Q .In (.int k) (.ref l)
 |Nf {x vs} (t:vs.all (λv=>(v.fe x).isSome)=true)(h:Q (.bool (vs.any λv=>(v.fe x).getD false)) loc σ):iP loc σ Q .In x (.tup vs)
 |Lh {x vs} (t:vs.all (λv=>(v.fe x).isSome)=true)(h:Q (.bool (!vs.any λv=>(v.fe x).getD false)) loc σ):iP loc σ Q .NotIn x (.tup vs)
noncomputable abbrev P.cmp(op:CmpOp)(a b:MV):P MV:=λloc σ Q _=>iP loc σ Q op a b
end
theorem pb : ∀ {a b:List Char},a.map Char.toNat=b.map Char.toNat->a=b
 | [],[],_=>rfl
 | [],_::_,h=>by simp at h
 |_::_,[],h=>by simp at h
 |x::xs,y::ys,h=>by
  simp only[List.map_cons,List.cons.injEq] at h
  exact ae (pb h.2)▸ae (Char.toNat_inj.mp h.1)▸rfl
theorem gw{a b:String}(h:Str.ofString a=Str.ofString b):a=b:=by
 rw[Str.ofString_eq_toList,Str.ofString_eq_toList] at h
 have:=pb (a:=a.toList) (b:=b.toList) (by simpa using h)
 exact String.ext_iff.mpr (by simpa using this)
section
variable {ρ:LA->Addr}{U:LA->Prop}{h:Heap}{κ K:Type} [BEq κ] [LawfulBEq κ] [DecidableEq K] {enc:κ->K}
omit [BEq κ] [LawfulBEq κ] in
theorem uw{a k:K}{y:Value}{ys:List (K×Value)}:valueAt ((a,y)::ys) k=if a=k then some y else valueAt ys k:=by
 unfold valueAt
 refine (ah _ List.find?_cons).trans ?_
 by_cases q : a=k
 ·rw[if_pos q,aZ q];rfl
 ·rw[if_neg q,bz q]
theorem iy.lookup(inj:∀a b,enc a=enc b->a=b){es:List (κ×MV)}{kvs:List (K×Value)}(x:iy ρ U h enc es kvs)(k:κ):w3 ρ U h (es.lookup k) (valueAt kvs (enc k)):=by
 induction x with
 |nil=>exact .no
 |@cons k' v y es ys a b ih=>
  rw[List.lookup_cons,uw]
  cases q : k==k' with
  |true=>rw[if_pos (ah enc (eI.mp q).symm)];exact .so a
  |false=>rw[if_neg λz=>ne_of_beq_false q (inj _ _ z).symm];exact ih
omit [BEq κ] [LawfulBEq κ] [DecidableEq K] in
theorem iy.len{es:List (κ×MV)}{kvs:List (K×Value)}(x:iy ρ U h enc es kvs):kvs.length=es.length:=by
 induction x with
 |nil=>rfl
 |cons _ _ ih=>exact ah Nat.succ ih
end
section
variable {cx:Cx}{n:Nat}{fd:Fd}
theorem sO{A:Around}{ρ:LA->Addr}{σ:MH}{loc:Loc}{s:Shared}{E:Value->Shared->Prop}(G:Good cx n fd A ρ σ loc s){a b:MV}{va vb:Value}(ha:VR ρ σ.us s.heap a va)(hb:VR ρ σ.us s.heap b vb){k:Bool}(e:Ks σ a b k)
  {Q:Bool->Shared->Prop}(h:Q k s):wpAny cx.M A (isSame va vb) Q E s:=by
 induction e with
 |none=>(refine ae hb.none_inv▸ ?_);exact bG (PySem.isSame_none va) (ha.isN▸h)
 |@ref l m C d e u=>
  refine dA ha.bU λea ul=> ?_
  refine ae ea▸ae hb.bU.1▸ ?_
  by_cases q : l=m
  ·subst q;exact wpAny_isSame_ref_self (aZ (p:=l=l) rfl▸h)
  ·obtain⟨_,o2,e2,_⟩:=G.low m u
   exact wpAny_isSame_ref_other (λz=>q (G.inj _ _ ul u z)) (G.obj _ _ e).2.1 e2 (λz=>nomatch z) (bz q▸h)
theorem eE{A:Around}{ρ:LA->Addr}{σ:MH}{loc:Loc}{s:Shared}(G:Good cx n fd A ρ σ loc s){l:LA}(hl:σ.us l):(ρ l==sysModules)=false:=by
 refine beq_eq_false_iff_ne.mpr λq=> ?_
 exact iL ((G.low l hl).1) (q▸(az (by decide +kernel) cx.g.lt))
theorem Good.isList{A:Around}{ρ:LA->Addr}{σ:MH}{loc:Loc}{s:Shared}(G:Good cx n fd A ρ σ loc s){l:LA}{vs:List MV}(e:σ.get l=some (.list vs)):∃X,s.heap.IsList (ρ l) X/\cR ρ σ.us s.heap vs X.toList:=by
 refine ey (G.list e) λX ep o r=> ?_;exact⟨X,⟨_,o,rfl,ep,rfl⟩,r⟩
theorem Good.Je{A:Around}{ρ:LA->Addr}{σ:MH}{loc:Loc}{s:Shared}(G:Good cx n fd A ρ σ loc s){l:LA}{o:Obj}{vs:List MV}(e:σ.get l=some (.fz o vs)):∃X,s.heap.IsList (ρ l) X/\cR ρ σ.us s.heap vs X.toList:=by
 obtain⟨o1,X,ep,rfl,r⟩:=(G.obj _ _ e).2;exact⟨X,⟨_,o1,rfl,ep,rfl⟩,r⟩
theorem VR.isTup{ρ:LA->Addr}{U:LA->Prop}{h:Heap}{vs:List MV}{v:Value}(x:VR ρ U h (.tup vs) v):∃a X,v= .ref a/\h.IsTuple a X/\cR ρ U h vs X.toList:=by
 refine qE x.dN λa o X ep zr4_ e c d r=> ?_;subst zr4_;exact⟨a,X,rfl,⟨o,e,c,ep,d⟩,r⟩
theorem Good.inD{A:Around}{ρ:LA->Addr}{σ:MH}{loc:Loc}{s:Shared}(G:Good cx n fd A ρ σ loc s){l:LA}{es:List (Int×MV)}(e:σ.get l=some (.bS es)):∃kvs,s.heap.DictOf (intKind cx.prog cx.w) (ρ l) kvs/\∀k,(valueAt kvs k).isSome=(es.lookup k).isSome:=by
 refine aT ((G.obj _ _ e).2) λkvs d r=> ?_
 exact⟨kvs,d,λk=>(r.lookup (λ_ _ z=>z) k).same⟩
theorem EG{op:CmpOp}{a b:MV}{va vb:Value}:mJ cx n fd (λρ U h=>VR ρ U h a va/\VR ρ U h b vb) VR (compareOp op va vb) (P.cmp op a b):=by
 intro A ρ σ loc s Q X G hp hm
 obtain⟨ha,hb⟩:=hp
 have hu : A.units+1 < cLine:=az (bF (a9 ..) (by decide:1<=100)) G.ak.un
 have tk : ∀ {k:Bool},Q (.bool k) loc σ->Out cx n fd A ρ σ s VR Q (.bool k) s:=λh=>Out.now G .bool h
 have tt : ∀ {k:Bool},Q (.bool k) loc σ->Out cx n fd A ρ σ s VR Q (.bool k) { s with toks:=s.toks+1 }:=λh=>Out.pre (Step.tok _) (Out.now (G.tok _) .bool h)
 generalize Out cx n fd A ρ σ s VR Q=Q' at tk tt ⊢
 generalize eA cx n fd A ρ σ s X=E' at ⊢
 induction hm with
 |lt h=>apply VR.fK ha hb;exact λ_ _=>lt_int (tk h)
 |le h=>apply VR.fK ha hb;exact λ_ _=>le_int (tk h)
 |gt h=>apply VR.fK ha hb;exact λ_ _=>gt_int (tk h)
 |ge h=>apply VR.fK ha hb;exact λ_ _=>ge_int (tk h)
 |ne h=>apply VR.fK ha hb;exact λ_ _=>ne_int (tk h)
 |Lu h=>refine ae ha.bool_inv▸ae hb.bool_inv▸ ?_;exact RcNeAt.bool_bool _ _ cx.prog cx.w _ _ (tk h)
 |is e h=>exact af (sO G ha hb e (ao (tk h)))
 |vm e h=>exact af (sO G ha hb e (ao (tk h)))
 |Lg e f t h=>
  obtain⟨X,i,r⟩:=G.isList e
  obtain⟨Y,j,q⟩:=G.isList f
  refine ae ha.bU.1▸ae hb.bU.1▸ ?_
  exact (u7 hu i j r q t).1 cx.prog cx.w _ _ (tk h)
 |MP e f t h=>
  refine aT (G.Je e) λX i r=> ?_
  obtain⟨Y,j,q⟩:=G.isList f
  refine ae ha.bU.1▸ae hb.bU.1▸ ?_
  exact (u7 hu i j r q t).1 cx.prog cx.w _ _ (tk h)
 |Jz e f t h=>
  obtain⟨X,i,r⟩:=G.isList e
  obtain⟨Y,j,q⟩:=G.isList f
  refine ae ha.bU.1▸ae hb.bU.1▸ ?_
  exact (u7 hu i j r q t).2 cx.prog cx.w _ _ (tk h)
 |eq e h=>exact Dy (by exact wP hu) ha hb e cx.prog cx.w _ _ (tk h)
 |MQ e t h=>
  obtain⟨X,i,r⟩:=G.isList e
  have z:=nZ (A:=A.in1) r ha t
  refine ae hb.bU.1▸ ?_
  exact in_listAt (λy=>xu y va) i z.2 (z.1▸tk h)
 |Nh e t h=>
  obtain⟨X,i,r⟩:=G.isList e
  have z:=nZ (A:=A.in1) r ha t
  refine ae hb.bU.1▸ ?_
  exact notIn_listAt (λy=>xu y va) i z.2 (z.1▸tk h)
 |inD e h=>
  refine aT (G.inD e) λkvs d r=> ?_
  apply ha.eH;intro t;apply hb.eB;intro u
  exact wpAny_in_of (knd:=intKind cx.prog cx.w) (beq_self_eq_true _) (eE G u) d.mapOf (tt (r _▸h))
 |Nf t h=>
  obtain⟨c,X,rfl,i,r⟩:=hb.isTup
  have z:=nZ (A:=A.in1) r ha t
  exact in_tupleAt (λy=>xu y va) i z.2 (z.1▸tk h)
 |Lh t h=>
  obtain⟨c,X,rfl,i,r⟩:=hb.isTup
  have z:=nZ (A:=A.in1) r ha t
  exact notIn_tupleAt (λy=>xu y va) i z.2 (z.1▸tk h)
theorem kB{op:CmpOp}{a b:MV}{va vb:Value}:aM cx n fd (λρ U h=>VR ρ U h a va/\VR ρ U h b vb) VR (compareOp op va vb) (P.cmp op a b):=EG.n
end
end Internal
namespace Internal
open PySem PySem.W PyProof.Rows PySem.Calls
noncomputable abbrev P.cond{α:Type}(t:P Bool)(a b:P α):P α:=λloc σ Q X=>t loc σ (λc loc' σ'=>bif c then a loc' σ' Q X else b loc' σ' Q X) X
section
variable {cx:Cx}{n:Nat}{fd:Fd}
noncomputable abbrev gx(cx:Cx)(n:Nat)(fd:Fd)(e:Expr)(m:P Bool):Prop:=eQ cx n fd cg.bool (isTrue e fd.env (eval e fd.env)) m
theorem eD{M:Model}{A:Around}{E:Value->Shared->Prop}{s:Shared}{vs keep:List Value}{Q:Unit->Shared->Prop}(h:Q () s):cW M A (release vs keep) Q E s:= .of (wpAny_release h)
theorem aM.tt{α β:Type}{R:cg α β}{p:Pre}{t:Sem β}{m:P α}(h:eQ cx n fd R t m):aM cx n fd p R t m:=h.weak λ_ _ _ _=>trivial
theorem aM.gS{e:Expr}{m:P MV}{p:Pre}(hp:bM p)(h:bO cx n fd e m):aM cx n fd p (λρ U h a b=>VR ρ U h a b/\p ρ U h) (eval e fd.env) m:=
 (aM.frame hp h).weak λ_ _ _ q=>⟨trivial,q⟩
theorem aM.operate{p:Pre}{R:cg MV Value}{ops:List Value}{t:Sem Value}{m:P MV}(h:aM cx n fd p R t m):aM cx n fd p R (operate ops t) m:=
 λA ρ σ loc s Q X G hp hm=>kt (h A ρ σ loc s Q X G hp hm)
theorem AZ{l r:Expr}{op:Operator}{pos:Pos}{m1 m2:P MV}(h1:bO cx n fd l m1)(h2:bO cx n fd r m2) :
  bO cx n fd (.BinOp l op r pos) (m1.bind λa=>m2.bind λb=>P.bin op a b):=by
 refine aM.bind h1 λa va=> ?_
 refine aM.bind (aM.holding (aM.gS bM.vr h2)) λb vb=> ?_
 refine aM.standAt (aM.operate (FM.weak λρ U h q=> ?_))
 exact⟨q.2,q.1⟩
theorem tA{l r:Expr}{op:CmpOp}{pos:Pos}{m1 m2:P MV}(h1:bO cx n fd l m1)(h2:bO cx n fd r m2)(hb:lastMarks [op] [r]=false) :
  bO cx n fd (.Compare l [op] [r] pos) (m1.bind λa=>m2.bind λb=>P.cmp op a b):=by
 have e : eval (.Compare l [op] [r] pos) fd.env=(eval l fd.env >>= λa=>holding [a] (eval r fd.env) >>= λb=>standAt pos >>= λ_=>operate [a,b] (compareOp op a b)):=by
  show (eval l fd.env >>= λa=>compareChain pos a [op] (markedEach [op] [r] [eval r fd.env]))=_
  refine ae (markedEach_of_false _ _ _ hb)▸ ?_;rfl
 show eQ cx n fd VR _ _
 refine ae e▸ ?_
 refine aM.bind h1 λa va=> ?_
 refine aM.bind (aM.holding (aM.gS bM.vr h2)) λb vb=> ?_
 exact aM.standAt (aM.operate (kB.weak λρ U h q=>⟨q.2,q.1⟩))
theorem rI{l r:Expr}{op:CmpOp}{pos:Pos}{m1 m2:P MV}(h1:bO cx n fd l m1)(h2:bO cx n fd r m2)(hb:lastMarks [op] [r]=false) :
  gx cx n fd (.Compare l [op] [r] pos) (m1.bind λa=>m2.bind λb=>(P.cmp op a b).bind P.truth):=by
 have e : isTrue (.Compare l [op] [r] pos) fd.env (eval (.Compare l [op] [r] pos) fd.env)=(eval l fd.env >>= λa=>holding [a] (eval r fd.env) >>= λb=>standAt pos >>= λ_=>operate [a,b] (compareOp op a b) >>= λc=>holding [c] (truthy c)):=by
  show (eval l fd.env >>= λa=>testChain pos a [op] (markedEach [op] [r] [eval r fd.env]))=_
  refine ae (markedEach_of_false _ _ _ hb)▸ ?_;rfl
 show eQ cx n fd cg.bool _ _
 refine ae e▸ ?_
 refine aM.bind h1 λa va=> ?_
 refine aM.bind (aM.holding (aM.gS bM.vr h2)) λb vb=> ?_
 refine aM.standAt (aM.bind (aM.operate (kB.weak λρ U h q=>⟨q.2,q.1⟩)) λc vc=>aM.holding fO)
theorem sx{l r1 r2:Expr}{o1 o2:CmpOp}{pos:Pos}{m1 m2 m3:P MV}(h1:bO cx n fd l m1)(h2:bO cx n fd r1 m2)(h3:bO cx n fd r2 m3)(hb:lastMarks [o1,o2] [r1,r2]=false) :
  gx cx n fd (.Compare l [o1,o2] [r1,r2] pos) (m1.bind λa=>m2.bind λb=>P.cond ((P.cmp o1 a b).bind P.truth) (m3.bind λc=>(P.cmp o2 b c).bind P.truth) (P.ret false)):=by
 have e : isTrue (.Compare l [o1,o2] [r1,r2] pos) fd.env (eval (.Compare l [o1,o2] [r1,r2] pos) fd.env)=(eval l fd.env >>= λa=>holding [a] (eval r1 fd.env) >>= λb=>standAt pos >>= λ_=>
   holding [a,b] (compareOp o1 a b) >>= λc=>release [a,b] [c] >>= λ_=>holding [c,b] (truthy c) >>= λt=>if t then
    (holding [b] (eval r2 fd.env) >>= λd=>standAt pos >>= λ_=>operate [b,d] (compareOp o2 b d) >>= λc=>holding [c] (truthy c)) else pure false):=by
  show (eval l fd.env >>= λa=>testChain pos a [o1,o2] (markedEach [o1,o2] [r1,r2] [eval r1 fd.env,eval r2 fd.env]))=_
  refine ae (markedEach_of_false _ _ _ hb)▸ ?_;rfl
 show eQ cx n fd cg.bool _ _
 rw[e]
 refine aM.bind h1 λa va=> ?_
 refine aM.bind (aM.holding (aM.gS bM.vr h2)) λb vb=> ?_
 refine aM.standAt ?_
 have hc : aM cx n fd (λρ U h=>(VR ρ U h b vb/\VR ρ U h a va)) (λρ U h x y=>VR ρ U h x y/\VR ρ U h b vb) (compareOp o1 va vb) (P.cmp o1 a b):=
  (aM.frame (q:=λρ U h=>VR ρ U h b vb) bM.vr (kB (op:=o1) (a:=a) (b:=b) (va:=va) (vb:=vb))).weak λ_ _ _ q=>⟨⟨q.2,q.1⟩,q.1⟩
 intro A ρ σ loc s Q X G hp hm
 refine ai (aJ (aD (hc A ρ σ loc s _ X G hp hm) (λvc s1 h=> ?_) λ_ _ y=>y))
 obtain⟨c,ρ1,σ1,l1,S1,G1,⟨rc,rb⟩,hq⟩:=h
 refine ai (eD (ai (aJ ?_)))
 refine aD ((aM.frame (q:=λρ U h=>VR ρ U h b vb) bM.vr (fO (cx:=cx) (n:=n) (fd:=fd) (a:=c) (v:=vc))) A ρ1 σ1 l1 s1 _ X G1 ⟨rc,rb⟩ hq) (λt s2 h=> ?_) λ_ _ y=>y.pre S1
 obtain⟨t',ρ2,σ2,l2,S2,G2,⟨e2,rb2⟩,hq2⟩:=h
 cases e2
 cases t with
 |false=>exact ax ((Out.now G2 rfl hq2).pre (S1.trans S2))
 |true=>
  have hrest : aM cx n fd (λρ U h=>VR ρ U h b vb) cg.bool (holding [vb] (eval r2 fd.env) >>= λd=>standAt pos >>= λ_=>operate [vb,d] (compareOp o2 vb d) >>= λc=>holding [c] (truthy c)) (m3.bind λc=>(P.cmp o2 b c).bind P.truth):=by
   refine aM.bind (aM.holding (aM.gS bM.vr h3)) λd vd=> ?_
   exact aM.standAt (aM.bind (aM.operate (kB.weak λρ U h q=>⟨q.2,q.1⟩)) λc vc=>aM.holding fO)
  exact aD (hrest A ρ2 σ2 l2 s2 Q X G2 rb2 hq2) (λ_ _ y=>y.pre (S1.trans S2)) λ_ _ y=>y.pre (S1.trans S2)
theorem aM.cond{α β:Type}{R:cg α β}{p:Pre}(hp:bM p){t:Sem Bool}{f g:Sem β}{mt:P Bool}{a b:P α}(ht:aM cx n fd p cg.bool t mt)(hf:aM cx n fd p R f a)(hg:aM cx n fd p R g b) :
  aM cx n fd p R (t >>= λc=>if c=true then f else g) (P.cond mt a b):=by
 intro A ρ σ loc s Q X G q hm
 refine ai (aD ((aM.frame hp ht) A ρ σ loc s _ X G ⟨q,q⟩ hm) (λt s1 h=> ?_) λ_ _ y=>y)
 obtain⟨t',ρ1,σ1,l1,S1,G1,⟨e,q1⟩,hq⟩:=h
 cases e
 cases t with
 |true=>exact aD (hf A ρ1 σ1 l1 s1 Q X G1 q1 hq) (λ_ _ y=>y.pre S1) λ_ _ y=>y.pre S1
 |false=>exact aD (hg A ρ1 σ1 l1 s1 Q X G1 q1 hq) (λ_ _ y=>y.pre S1) λ_ _ y=>y.pre S1
theorem zP{t a b:Expr}{pos:Pos}{mt:P Bool}{ma mb:P MV}(ht:gx cx n fd t mt)(ha:bO cx n fd a ma)(hb:bO cx n fd b mb):bO cx n fd (.IfExp t a b pos) (P.cond mt ma mb):=by
 exact aM.cond bM.tt ht ha hb
noncomputable abbrev P.not(m:P Bool):P Bool:=λloc σ Q X=>m loc σ (λb loc' σ'=>Q (!b) loc' σ') X
theorem BK{x:Expr}{pos:Pos}{m:P Bool}(h:gx cx n fd x m):gx cx n fd (.UnaryOp .Not x pos) (P.not m):=by
 exact aM.bind h λa b=>aM.pure λ_ _ _ e=>by exact ah _ e
theorem EO{x:Expr}{pos:Pos}{m:P MV}(h:bO cx n fd x m):bO cx n fd (.UnaryOp .Not x pos) ((m.bind P.truth).bind λb=>P.ret (.bool (!b))):=by
 show eQ cx n fd VR (eval x fd.env >>= λv=>standAt pos >>= λ_=>holding [v] (unaryOp .Not v)) (m.bind λa=>(P.truth a).bind λb=>P.ret (.bool (!b)))
 refine aM.bind h λa v=>aM.standAt (aM.holding ?_)
 intro A ρ σ loc s Q X G hp hm
 refine .of<|not_of (wpAny_mono (sQ (cx:=cx) (n:=n) (fd:=fd) A ρ σ loc s _ X G hp hm) (λb s1 h=> ?_) λ_ _ y=>y)
 obtain⟨c,ρ1,σ1,l1,S1,G1,e,hq⟩:=h
 subst e
 exact⟨_,ρ1,σ1,l1,S1,G1, .bool,hq⟩
theorem xA{e:Expr}{m:P MV}(he:isTrue e fd.env (eval e fd.env)=(eval e fd.env >>= λv=>standAt e.pos >>= λ_=>holding [v] (truthy v)))(h:bO cx n fd e m):gx cx n fd e (m.bind P.truth):=by
 show eQ cx n fd cg.bool _ _
 refine ae he▸ ?_
 exact aM.bind h λa v=>aM.standAt (aM.holding fO)
theorem uZ{pos:Pos}:gx cx n fd (.BoolOp .And [] pos) (P.ret true):=λ_ _ _ _ _ _ _ G _ hm=> .of<|isTrue_and_nil (Out.now G rfl hm)
theorem wl{pos:Pos}:gx cx n fd (.BoolOp .Or [] pos) (P.ret false):=λ_ _ _ _ _ _ _ G _ hm=> .of<|isTrue_or_nil (Out.now G rfl hm)
theorem qv{x:Expr}{rest:List Expr}{pos:Pos}{m m':P Bool}(h:gx cx n fd x m)(h':gx cx n fd (.BoolOp .And rest pos) m'):gx cx n fd (.BoolOp .And (x::rest) pos) (P.cond m m' (P.ret false)):=by
 have e : isTrue (.BoolOp .And (x::rest) pos) fd.env (eval (.BoolOp .And (x::rest) pos) fd.env)=(isTrue x fd.env (eval x fd.env) >>= λc=>if c=true then allTrue .And rest fd.env else pure false):=by
  show (do match BoolOp.And,<-isTrue x fd.env (eval x fd.env) with
   | .And,false=>pure false
   | .Or,true=>pure true
   |_,_=>allTrue .And rest fd.env)=_
  congr 1;funext c;cases c<;>rfl
 show eQ cx n fd cg.bool _ _
 refine ae e▸ ?_
 exact aM.cond bM.tt h h' (aM.pure λ_ _ _ _=>rfl)
theorem u9{x:Expr}{rest:List Expr}{pos:Pos}{m m':P Bool}(h:gx cx n fd x m)(h':gx cx n fd (.BoolOp .Or rest pos) m'):gx cx n fd (.BoolOp .Or (x::rest) pos) (P.cond m (P.ret true) m'):=by
 have e : isTrue (.BoolOp .Or (x::rest) pos) fd.env (eval (.BoolOp .Or (x::rest) pos) fd.env)=(isTrue x fd.env (eval x fd.env) >>= λc=>if c=true then pure true else allTrue .Or rest fd.env):=by
  show (do match BoolOp.Or,<-isTrue x fd.env (eval x fd.env) with
   | .And,false=>pure false
   | .Or,true=>pure true
   |_,_=>allTrue .Or rest fd.env)=_
  congr 1;funext c;cases c<;>rfl
 show eQ cx n fd cg.bool _ _
 refine ae e▸ ?_
 exact aM.cond bM.tt h (aM.pure λ_ _ _ _=>rfl) h'
theorem pe{x:Expr}{op:BoolOp}{pos:Pos}{m:P MV}(h:bO cx n fd x m):bO cx n fd (.BoolOp op [x] pos) m:=h
theorem yf{x y:Expr}{rest:List Expr}{pos:Pos}{m m':P MV}(h:bO cx n fd x m)(h':bO cx n fd (.BoolOp .And (y::rest) pos) m') :
  bO cx n fd (.BoolOp .And (x::y::rest) pos) (m.bind λa=>P.cond (P.truth a) m' (P.ret a)):=by
 have e : eval (.BoolOp .And (x::y::rest) pos) fd.env=(eval x fd.env >>= λv=>standAt pos >>= λ_=>holding [v] (truthy v) >>= λc=>if c=true then eval (.BoolOp .And (y::rest) pos) fd.env else pure v):=by
  show (do
   let v<-eval x fd.env
   standAt pos
   let c<-holding [v] (truthy v)
   match BoolOp.And,c with
   | .And,false | .Or,true=>pure v
   |_,_=>boolOp pos .And (eval y fd.env::evalEach rest fd.env))=_
  congr 1;funext v;congr 1;funext _;congr 1;funext c;cases c<;>rfl
 show eQ cx n fd VR _ _
 refine ae e▸ ?_
 refine aM.bind h λa v=>aM.standAt (aM.cond bM.vr (aM.holding fO) h'.tt (aM.pure λ_ _ _ q=>q))
theorem C5{x y:Expr}{rest:List Expr}{pos:Pos}{m m':P MV}(h:bO cx n fd x m)(h':bO cx n fd (.BoolOp .Or (y::rest) pos) m') :
  bO cx n fd (.BoolOp .Or (x::y::rest) pos) (m.bind λa=>P.cond (P.truth a) (P.ret a) m'):=by
 have e : eval (.BoolOp .Or (x::y::rest) pos) fd.env=(eval x fd.env >>= λv=>standAt pos >>= λ_=>holding [v] (truthy v) >>= λc=>if c=true then pure v else eval (.BoolOp .Or (y::rest) pos) fd.env):=by
  show (do
   let v<-eval x fd.env
   standAt pos
   let c<-holding [v] (truthy v)
   match BoolOp.Or,c with
   | .And,false | .Or,true=>pure v
   |_,_=>boolOp pos .Or (eval y fd.env::evalEach rest fd.env))=_
  congr 1;funext v;congr 1;funext _;congr 1;funext c;cases c<;>rfl
 show eQ cx n fd VR _ _
 refine ae e▸ ?_
 refine aM.bind h λa v=>aM.standAt (aM.cond bM.vr (aM.holding fO) (aM.pure λ_ _ _ q=>q) h'.tt)
end
end Internal
namespace Internal
open PySem PySem.W PyProof.Rows PySem.Calls Builtin Builtin.ObjectAttr
theorem mF{h:Heap}{a:Addr}{m:Str->Option Value}{o:Obj}(n:h.Ns a m)(e:h.get? a=some o)(x:Str):lookIn x o=some (m x):=by
 refine EP n λo' es ep e' d k f=> ?_
 replace e':=e▸e';cases e'
 unfold lookIn
 refine ae d▸ ?_
 dsimp only
 have hf:=f x
 unfold nsFind findBy at hf
 rw[<-Array.find?_toList] at hf
 cases q : es.toList.find? (·.key.isStr x) with
 |some en=>rw[q] at hf;rw[<-hf];rfl
 |none=>
  rw[q] at hf
  have : es.toList.any (·.refKey)=false:=by
   refine List.any_eq_false.mpr ?_
   intro en he
   refine fu (k en (by simpa using he)) λnm t z=> ?_
   simp[DictEntry.refKey,z]
  dsimp only
  refine ae this▸hf▸ ?_;rfl
noncomputable def gu(K:Frag)(C:Addr)(x:String):Bool:=
 plainGet K C (Str.ofString x)&&hasDictIn K C&&findIn K (.ref C) (Str.ofString x)==some none&&findIn K (.ref C) "__setattr__" == some (some (.builtin "object.__setattr__"))&&plainOver K C&&takerIn K C (Str.ofString x)==some none
structure Bh(K:Frag)(C:Addr)(x:String):Prop where
 pg : plainGet K C (Str.ofString x)=true
 hd : hasDictIn K C=true
 fi : findIn K (.ref C) (Str.ofString x)=some none
 sa : findIn K (.ref C) "__setattr__" = some (some (.builtin "object.__setattr__"))
 po : plainOver K C=true
 ta : takerIn K C (Str.ofString x)=some none
theorem sW{K:Frag}{C:Addr}{x:String}(h:gu K C x=true):Bh K C x:=by
 unfold gu at h
 simp only[Bool.and_eq_true,eI] at h
 refine dA h λzo0_ f=> ?_;refine dA zo0_ λzo0_ e=> ?_;obtain⟨⟨⟨a,b⟩,c⟩,d⟩:=zo0_
 exact⟨a,b,c,d,e,f⟩
theorem VR.handed{ρ:LA->Addr}{U:LA->Prop}{h:Heap}{mv:MV}{v:Value}(r:VR ρ U h mv v):handedIn v=true:=by
 cases mv
 ·refine (ah _ r.none_inv).trans ?_;rfl
 ·rw[r.bool_inv];rfl
 ·refine cN r.int_inv λt zr1_=> ?_;subst zr1_;rfl
 ·refine cN r.str_inv λt zr1_=> ?_;subst zr1_;rfl
 ·refine cN r.d7 λt zr1_=> ?_;subst zr1_;rfl
 ·refine xt r.dN λt _ _ _ zr4_ _=> ?_;subst zr4_;rfl
 ·rw[r.bU.1];rfl
theorem Ej.got{ρ:LA->Addr}{U:LA->Prop}{h:Heap}{fs:List (String×MV)}{m:Str->Option Value}(r:Ej ρ U h fs m){x:String}{mv:MV}(e:fs.lookup x=some mv):∃v,m (Str.ofString x)=some v/\VR ρ U h mv v:=
 (e▸r.1 x).got
section
variable {cx:Cx}{n:Nat}{fd:Fd}{A:Around}{ρ:LA->Addr}{σ:MH}{loc:Loc}{s:Shared}
structure J3(ρ:LA->Addr)(U:LA->Prop)(h:Heap)(l d:LA)(C:Addr)(fs:List (String×MV))(m:Str->Option Value)(od:Obj):Prop where
 ns : h.Ns1 (ρ d) m
 ho : h.get? (ρ d)=some od
 r : Ej ρ U h fs m
 I : InstAt h (ρ l) (instObj C (ρ d)) C (some od)
theorem Good.DX(G:Good cx n fd A ρ σ loc s){l d:LA}{C:Addr}{fs:List (String×MV)}(e1:σ.get l=some (.inst C d))(e2:σ.get d=some (.ns fs)):∃m od,J3 ρ σ.us s.heap l d C fs m od:=by
 refine aT ((G.obj _ _ e2).2) λm ns r=> ?_
 refine iE (_root_.id ns) λo es ep ho _=> ?_
 exact⟨m,o,ns,ho,r,(G.obj _ _ e1).2.1,rfl,rfl,ho⟩
inductive GD(okA:Addr->String->Bool)(x:String)(loc:Loc)(σ:MH)(Q:MV->Loc->MH->Prop):MV->Prop where
 |mk {l C d fs v} (e:σ.get l=some (.inst C d))(f:σ.get d=some (.ns fs))(a:okA C x=true)(g:fs.lookup x=some v)(h:Q v loc σ):GD okA x loc σ Q (.ref l)
noncomputable abbrev P.am(okA:Addr->String->Bool)(x:String)(v:MV):P MV:=λloc σ Q _=>GD okA x loc σ Q v
theorem oZ{okA:Addr->String->Bool}(hA:∀C x,okA C x=true->gu cx.K C x=true){x:String}{a:MV}{v:Value}{b:Bool}:aM cx n fd (λρ U h=>VR ρ U h a v) VR (getAttr v (Str.ofString x) b) (P.am okA x a):=by
 intro A ρ σ loc s Q X G hp hm
 induction hm with
 |mk e f a g h=>
  refine fu (G.DX e f) λm od i=> ?_
  refine aT (i.r.got g) λw e4 rv=> ?_
  have K:=sW (hA _ _ a)
  refine ae hp.bU.1▸ ?_
  exact .of (get_value (cx.X.keeps G.top) i.I (plainGet_of K.pg).1 (findObj_own (v:=w) K.hd K.fi rfl ((mF i.ns.ns i.ho _).trans (ah some e4))) rv.handed (Out.pre (Step.tok _) (Out.now (G.tok _) rv h)))
theorem sG{okA:Addr->String->Bool}(hA:∀C x,okA C x=true->gu cx.K C x=true){e:Expr}{x:String}{pos:Pos}{m:P MV}(h:bO cx n fd e m)(hb:attributeBase e (Str.ofString x) fd.env (eval e fd.env)=eval e fd.env) :
  bO cx n fd (.Attribute e (Str.ofString x) pos) (m.bind (P.am okA x)):=by
 have q : eval (.Attribute e (Str.ofString x) pos) fd.env=(eval e fd.env >>= λo=>standAt pos.atName >>= λ_=>holding [o] (getAttr o (Str.ofString x) true) >>= λr=>letTemporaryGo e o r >>= λ_=>pure r):=by
  show (attributeBase e (Str.ofString x) fd.env (eval e fd.env) >>= _)=_
  rw[hb]
 show eQ cx n fd VR _ _
 refine ae q▸ ?_
 refine aM.bind h λa v=>aM.standAt ?_
 intro A ρ σ loc s Q X G hp hm
 refine ai (aJ (aD (oZ hA A ρ σ loc s Q X G hp hm) (λr s1 h=> ?_) λ_ _ y=>y))
 exact ai (.of (wpAny_letTemporaryGo (ax h)))
noncomputable def gK(x:String)(v:MV):List (String×MV)->List (String×MV)
 | []=>[(x,v)]
 | (y,w)::r=>if y=x then (y,v)::r else (y,w)::gK x v r
theorem pn(x:String)(v:MV)(y:String):∀fs : List (String×MV),(gK x v fs).lookup y=if y=x then some v else fs.lookup y
 | []=>by
  skip
  refine (List.lookup_cons).trans ?_
  by_cases q : y=x
  ·simp[q]
  ·have : (y==x)=false:=by simpa using q
   simp[q,this]
 | (z,w)::r=>by
  dsimp only[gK]
  by_cases q : z=x
  ·refine (ah _ (if_pos q)).trans ?_
   subst q
   refine (List.lookup_cons).trans ?_;rw[List.lookup_cons]
   by_cases p : y=z
   ·simp[p]
   ·have : (y==z)=false:=by simpa using p
    simp[p,this]
  ·refine (ah _ (if_neg q)).trans ?_;refine (List.lookup_cons).trans ?_;rw[List.lookup_cons,(pn x v y r)]
   by_cases p : y=z
   ·subst p;simp[q]
   ·have : (y==z)=false:=by simpa using p
    rw[this]
theorem wG(x:String)(v:MV):∀fs : List (String×MV),Str.ofString x∈(gK x v fs).map λp=>Str.ofString p.1
 | []=>by exact List.mem_of_mem_head? rfl
 | (y,w)::r=>by
  dsimp only[gK]
  by_cases q : y=x
  ·rw[if_pos q];simp[q]
  ·rw[if_neg q];exact aB _ (wG x v r)
theorem sS(x:String)(v:MV){p:String×MV}:∀ {fs:List (String×MV)},p∈fs->Str.ofString p.1∈(gK x v fs).map λp=>Str.ofString p.1
 | (y,w)::r,h=>by
  dsimp only[gK]
  by_cases q : y=x
  ·rw[if_pos q]
   rcases aK.mp h with rfl | h
   ·simp
   ·exact aB _ (cq.mpr ⟨p,h,rfl⟩)
  ·rw[if_neg q]
   rcases aK.mp h with rfl | h
   ·simp
   ·exact aB _ (sS x v h)
inductive q7(okA:Addr->String->Bool)(x:String)(w:MV)(loc:Loc)(σ:MH)(Q:Unit->Loc->MH->Prop):MV->Prop where
 |mk {l C d fs} (e:σ.get l=some (.inst C d))(f:σ.get d=some (.ns fs))(a:okA C x=true)(n:fs.length<=100)(h:Q () loc (σ.set d (.ns (gK x w fs)))):q7 okA x w loc σ Q (.ref l)
noncomputable abbrev P.setattr(okA:Addr->String->Bool)(x:String)(v w:MV):P Unit:=λloc σ Q _=>q7 okA x w loc σ Q v
theorem Ej.fset{ρ:LA->Addr}{U:LA->Prop}{h:Heap}{fs:List (String×MV)}{m:Str->Option Value}(r:Ej ρ U h fs m){x:String}{b:MV}{w:Value}(hw:VR ρ U h b w):Ej ρ U h (gK x b fs) (λy=>if y=Str.ofString x then some w else m y):=by
 refine⟨λy=> ?_,λy hy=> ?_⟩
 ·show w3 _ _ _ _ (if Str.ofString y=Str.ofString x then some w else m (Str.ofString y))
  rw[pn]
  by_cases q : y=x
  ·rw[if_pos q,if_pos (ah _ q)];exact .so hw
  ·rw[if_neg q,if_neg λz=>q (gw z)];exact r.1 y
 ·rcases aK.mp (r.2.cons (Str.ofString x) w y hy) with q | q
  ·exact q▸wG x b fs
  ·obtain⟨p,hp,rfl⟩:=cq.mp q
   exact sS x b hp
theorem tB{prog:Program}{w':World}{A:Around}{E:Value->Shared->Prop}{Q:Unit->Shared->Prop}{s:Shared}{K:Frag}{C l d:Addr}{x:String}{w:Value}{od:Obj}{m:Str->Option Value}{fs:List (String×MV)}
  (XK:K.In s.heap)(k:Bh K C x)(I:InstAt s.heap l (instObj C d) C (some od))(ns:s.heap.Ns1 d m)(wi:Within m (fs.map λp=>Str.ofString p.1))(hl:fs.length<=100)
  (h:∀h' o',h'.Ns1 d (λy=>if y=Str.ofString x then some w else m y)->h'.objs.size=s.heap.objs.size->(∀a,a≠d->h'.get? a=s.heap.get? a)->h'.get? d=some o'->¬IsTup o'->Q () { s with heap:=h',toks:=s.toks+1+1 }) :
  wpAny (model prog w') A (setAttr (.ref l) (Str.ofString x) w) Q E s:=by
 refine dG λhn=> ?_
 refine aT (any_some k.hd) λcd hc hd'=> ?_
 refine hn (set_plain XK I k.sa (osa_open (s:={ s with toks:=s.toks+1 }) XK I k.po k.ta λb'=> ?_))
 refine af (ao (af (af (wpAny_loadPart I.1 (af ((looks_clsIn (M:=model prog w') (h:=({ s with toks:=s.toks+1 }:Shared).heap) XK hc).here ?_))))))
 refine ae hd'▸ ?_
 refine ao (a:=some d) (af (ao (af ?_)))
 refine wpAny_nsSet1 ns λh' ns' sb=> ?_
 refine dG λhn=> ?_
 refine rZ (ns'.count (wi.cons (Str.ofString x) _)) λo' es' ep' ho' hd2 hsz=> ?_
 refine hn (af (wpAny_lookBehind (s:={ s with heap:=h',toks:=s.toks+1+1 }) ho' (by refine (ah _ hd2).trans ?_;exact pastItsLine_dict (ad hsz (by rw[aU,cy,aq];exact ad (bD hl _) (by decide)))) (ao ?_)))
 exact h h' o' ns' sb.1 sb.2 ho' (ca hd2)
theorem pi{okA:Addr->String->Bool}(hA:∀C x,okA C x=true->gu cx.K C x=true){x:String}{a b:MV}{v w:Value}:aM cx n fd (λρ U h=>VR ρ U h a v/\VR ρ U h b w) cg.unit (setAttr v (Str.ofString x) w) (P.setattr okA x a b):=by
 intro A ρ σ loc s Q X G hp hm
 induction hm with
 |mk e f a nl h=>
  refine fu (G.DX e f) λm od i=> ?_
  refine ae hp.1.bU.1▸ ?_
  refine .of (tB (cx.X.keeps G.top) (sW (hA _ _ a)) i.I i.ns i.r.2 nl λh' o' ns' h1 h2 h3 h4=> ?_)
  have z:=G.upd (o':= .ns (gK x b _)) (t:=s.toks+1+1) (G.obj _ _ f).1 h1 h2 h3 h4 λk=>⟨_,ns',(i.r.mono k).fset (hp.2.mono k)⟩
  exact⟨(),_,_,_,z.2,z.1,trivial,h⟩
end
end Internal
namespace Internal
open PySem PySem.W PyProof.Rows PySem.Calls Builtin
noncomputable abbrev j4(b:List UInt8):Obj:={ cls:= .type "bytearray",data:= .bytearray b.toArray 0 }
noncomputable abbrev d6(h:Heap)(a:Addr)(b:List UInt8):Prop:=h.get? a=some (j4 b)
theorem gP{b:List UInt8}:¬Internal.IsTup (j4 b):=j8 (by intro h;injection h with h;revert h;decide)
theorem f8 : Slot "bytearray" "__getitem__" "bytearray.__getitem__" :=
 .of (owner := "bytearray") (n := "__getitem__") (by rfl) (by decide +kernel) (by decide +kernel) (by decide +kernel)
  (by first | exact .inl (by decide +kernel) | exact .inr (by decide +kernel)) (by exact (cA ..))
theorem mU : entryFor table "bytearray.__getitem__" = some Builtin.«bytearray.__getitem__»:=entryFor_of_tree (by kernel_rfl)
theorem o9(a b:Value):argsOk "bytearray.__getitem__" ⟨[a,b],[]⟩:=by kernel_rfl
theorem hW : Slot "bytearray" "__setitem__" "bytearray.__setitem__" :=
 .of (owner := "bytearray") (n := "__setitem__") (by rfl) (by decide +kernel) (by decide +kernel) (by decide +kernel)
  (by first | exact .inl (by decide +kernel) | exact .inr (by decide +kernel)) (by exact (cA ..))
theorem nj : entryFor table "bytearray.__setitem__" = some Builtin.«bytearray.__setitem__»:=entryFor_of_tree (by kernel_rfl)
theorem ph(a b c:Value):argsOk "bytearray.__setitem__" ⟨[a,b,c],[]⟩:=by kernel_rfl
section
variable {M:Model}{A:Around}{E:Value->Shared->Prop}{s:Shared}{a:Addr}{b:List UInt8}
theorem cu(e:d6 s.heap a b):s.TypeIs (.ref a) "bytearray" := ⟨_,e,rfl⟩
theorem dF(e:d6 s.heap a b){Q:Array UInt8->Shared->Prop}(h:Q b.toArray s):wpAny M A (Bytes.payload (.ref a)) Q E s:=by
 refine af (af (wpAny_load e ?_))
 exact ao (ao h)
theorem eO(e:d6 s.heap a b){f:Array UInt8->Array UInt8}{c:List UInt8}(hf:f b.toArray=c.toArray)(hz:c.length<=sizeLine){Q:Unit->Shared->Prop}
  (h:∀h',h'.objs.size=s.heap.objs.size->(∀x,x≠a->h'.get? x=s.heap.get? x)->d6 h' a c->Q () { s with heap:=h' }):wpAny M A (Bytes.write (.ref a) f) Q E s:=by
 unfold Bytes.write
 refine af (wpAny_load e ?_)
 have e2 : (s.heap.update a (Obj.mapBytearray f)).get? a=some (j4 c):=by
  have:=dJ (Obj.mapBytearray f) e rfl
  refine (this).trans ?_
  show some ({ cls:= .type "bytearray",data:= .bytearray (f b.toArray) 0 }:Obj)=_
  exact ae hf▸rfl
 refine af (wpAny_update e ?_)
 refine wpAny_lookBehind (s:={ s with heap:=s.heap.update a (Obj.mapBytearray f) }) e2 ?_ (h _ (by exact Heap.size_after_update s.heap a (Obj.mapBytearray f)) (λx n=>Heap.get?_update_other _ _ (Ne.symm n)) e2)
 show (if c.toArray.size > sizeLine then _ else _)=_
 exact (if_neg (by simp;exact fits_len_of_eq rfl hz))
theorem sub_int{i:Int}{t:Tok}(hr:Bytes.fitsIndex i=true){Q:Option Int->Shared->Prop}(h:Q (some i) s):wpAny M A (Bytes.subscript? (.int i t)) Q E s:=by
 dsimp only[Bytes.subscript?]
 refine af (bN (typeIs_int s i t) F.slot_int_index.lookup ?_)
 show wpAny M A (if (!Bytes.fitsIndex i)=true then _ else pure (some i)) _ E s
 refine ae hr▸ ?_
 exact ao h
theorem fits_of{i:Int}{n:Nat}(h0:0<=i)(h1:i < n)(hn:n<=1000000):Bytes.fitsIndex i=true:=by
 unfold Bytes.fitsIndex
 simp only[Bool.and_eq_true,decide_eq_true_eq]
 exact⟨bp (by decide) h0,aN h1 (bp (aW.mpr hn) (by decide))⟩
theorem kA{i:Int}{n:Nat}(h0:0<=i)(h1:i < n):seqIndex? i n=some i.toNat:=by
 dsimp only[seqIndex?]
 simp only[if_neg (cZ.mpr h0),h0,h1,decide_true,Bool.and_self,if_true]
 try simp
end
noncomputable def cut{α:Type}(xs:List α)(lo hi:Option Int):List α:=(xs.drop (lo.elim 0 (clipAt xs.length))).take (hi.elim xs.length (clipAt xs.length) - lo.elim 0 (clipAt xs.length))
theorem yT{α:Type}(xs:List α)(lo hi:Option Int):(cut xs lo hi).length<=xs.length:=by
 exact ad (List.length_take_le' _ _) (by rw[List.length_drop];exact Nat.sub_le _ _)
section
variable {prog:Program}{w:World}{A:Around}{E:Value->Shared->Prop}{s:Shared}{a:Addr}{b:List UInt8}
theorem Ij{i:Int}{t:Tok}(e:d6 s.heap a b)(h0:0<=i)(h1:i < b.length)(hz:b.length<=1000000){Q:Value->Shared->Prop}(h:Q (.int (b.getD i.toNat 0).toNat s.toks) { s with toks:=s.toks+1 }) :
  wpAny (model prog w) A (getItem (.ref a) (.int i t)) Q E s:=by
 refine wpAny_getItem_slot (cu e) (by decide) f8 (wpAny_call_entry f8 (cu e) mU ?_ (o9 _ _))
 show wpAny _ _ (Bytes.subscript? (.int i t) >>= λr=>_) _ E s
 refine af (sub_int (fits_of h0 h1 hz) ?_)
 refine af (dF e ?_)
 have hl : i.toNat < b.length:=by exact (Int.toNat_lt h0).mpr h1
 have e2 : (seqIndex? i b.toArray.size).bind (b.toArray[·]?)=some (b.getD i.toNat 0):=by
  rw[show b.toArray.size=b.length from by exact d9,kA h0 h1]
  simp[List.getD,ay hl]
 refine ae e2▸ ?_
 exact af (wpAny_mkInt (ao ⟨_,rfl,h⟩))
theorem kd{x:Addr}{l u:Value}{lo hi:Option Int}(hl:IsPart l lo)(hu:IsPart u hi)(hs:s.heap.IsSliceOf x l u .none){M:Model}{Q:Value×Value×Value->Shared->Prop}
  (h:Q (rawPart lo,rawPart hi,rawPart none) s):wpAny M A (Bytes.sliceParts (.ref x)) Q E s:=by
 obtain⟨o,ho,hc,hd⟩:=hs
 refine af (wpAny_field (x:= .none) ho hd rfl ?_)
 kby_none
 refine wpAny_ite (KBy.ite_no ((aE)) ?_)
 refine af (wpAny_field (x:=l) ho hd rfl ?_)
 cases hl<;>cases hu<;>(first
  | (kby_none;refine af (wpAny_field (x:= .none) ho hd rfl ?_);kby_none)
  | (kby_none;refine af (wpAny_field (x:= .int _ _) ho hd rfl ?_);kby_int)
  | (kby_int;refine af (wpAny_field (x:= .none) ho hd rfl ?_);kby_none)
  | (kby_int;refine af (wpAny_field (x:= .int _ _) ho hd rfl ?_);kby_int))<;>exact ao h
theorem s8{x:Addr}{l u:Value}(hs:s.heap.IsSliceOf x l u .none){M:Model}{Q:Option Int->Shared->Prop}(h:Q none s):wpAny M A (Bytes.subscript? (.ref x)) Q E s:=by
 refine pB hs λo ho hc hd=> ?_
 exact af (bN (⟨o,ho,hc⟩) slice_no_index (ao h))
theorem sP{lo hi:Option Int}{k:Nat}{M:Model}{Q:Int×Int×Int->Shared->Prop}(h:Q (((lo.elim 0 (clipAt k):Nat):Int),((hi.elim k (clipAt k):Nat):Int),1) s) :
  wpAny M A (sliceIndices (rawPart lo) (rawPart hi) (rawPart none) k) Q E s:=
 bG ((sliceIndices_raw lo hi none k (λe=>nomatch e)).trans (ah pure (sliceBounds_plain lo hi k))) h
theorem xc(b:List UInt8)(lo hi:Option Int):Bytes.sliced b.toArray ((lo.elim 0 (clipAt b.toArray.size):Nat):Int) ((hi.elim b.toArray.size (clipAt b.toArray.size):Nat):Int) 1=(cut b lo hi).toArray:=by
 delta Bytes.sliced cut
 rw[sliceRange_one];exact ah _ (pick_run ..)
theorem DD{x:Addr}{l u:Value}{lo hi:Option Int}(e:d6 s.heap a b)(hl:IsPart l lo)(hu:IsPart u hi)(hs:s.heap.IsSliceOf x l u .none)(hz:b.length<=1000000){Q:Value->Shared->Prop}
  (h:Q (.ref s.heap.objs.size) { s with heap:=s.heap.push (j4 (cut b lo hi)) }):wpAny (model prog w) A (getItem (.ref a) (.ref x)) Q E s:=by
 have hT : s.TypeIs (.ref x) "slice" := (by refine pB hs λo ho hc _=> ?_;exact⟨o,ho,hc⟩)
 refine wpAny_getItem_slot (cu e) (by decide) f8 (wpAny_call_entry f8 (cu e) mU ?_ (o9 _ _))
 show wpAny _ _ (Bytes.subscript? (.ref x) >>= λr=>_) _ E s
 refine af (s8 hs ?_)
 refine af (wpAny_typeOf hT ?_)
 refine af (kd hl hu hs ?_)
 refine af (dF e ?_)
 refine af (sP ?_)
 dsimp only
 refine ae (xc ..)▸ ?_
 refine af (wpAny_newObj_type (ao ⟨_,rfl,h⟩) ?_)
 show (cut b lo hi).toArray.size<=sizeLine
 refine ae d9▸ae aU▸ ?_
 have:=yT b lo hi
 exact ad (ad this hz) (by decide)
end
theorem Out.zw{cx:Cx}{n:Nat}{fd:Fd}{A:Around}{ρ:LA->Addr}{σ:MH}{loc:Loc}{s:Shared}{Q:MV->Loc->MH->Prop}(G:Good cx n fd A ρ σ loc s){vs:List MV}{xs:Array Value}{ep:Nat}{h':Heap}(t:Nat)
  (g:jI fd.env.locals s.heap h'){a:Addr}{o:Obj}(hx:h'.get? a=some o)(hc:o.cls= .type "tuple") (hd:o.data= .seq xs ep)(hv:cR ρ σ.us s.heap vs xs.toList)
  (hq:Q (.tup vs) loc σ):Out cx n fd A ρ σ s VR Q (.ref a) { s with heap:=h',toks:=t }:=by
 have S : Step fd ρ σ.us s ρ σ.us { s with heap:=h',toks:=t }:=Step.grow G.di G.locals g t
 exact⟨_,_,_,_,S,G.grow g t, .tup hx hc hd (hv.mono (S.keeps G)),hq⟩
theorem Out.vg{cx:Cx}{n:Nat}{fd:Fd}{A:Around}{ρ:LA->Addr}{σ:MH}{loc:Loc}{s:Shared}{Q:MV->Loc->MH->Prop}(G:Good cx n fd A ρ σ loc s){r:LA}(hr:¬σ.us r){b:List UInt8}{h':Heap}(t:Nat)
  (g:jI fd.env.locals s.heap h'){a:Addr}(ha:s.heap.objs.size<=a)(hx:d6 h' a b)(hq:Q (.ref r) loc (σ.new r (.bW b))):Out cx n fd A ρ σ s VR Q (.ref a) { s with heap:=h',toks:=t }:=Out.alloc (o:= .bW b) G hr t g ha hx gP (λ_ _=>hx) hq
inductive lx(loc:Loc)(σ:MH)(Q:MV->Loc->MH->Prop):MV->MV->Prop where
 |oct {b} {k:Int}(a:0<=k/\k < b.length/\b.length<=100000)(h:Q (.int (b.getD k.toNat 0).toNat) loc σ):lx loc σ Q (.bytes b) (.int k)
 |tup {vs} {k:Int} {v} (a:0<=k/\k < vs.length/\vs.length<=100000)(e:vs[k.toNat]?=some v)(h:Q v loc σ):lx loc σ Q (.tup vs) (.int k)
 |list {l} {k:Int} {vs v} (f:σ.get l=some (.list vs))(a:0<=k/\k < vs.length/\vs.length<=100000)(e:vs[k.toNat]?=some v)(h:Q v loc σ):lx loc σ Q (.ref l) (.int k)
 |ba {l} {k:Int} {b} (f:σ.get l=some (.bW b))(a:0<=k/\k < b.length/\b.length<=100000)(h:Q (.int (b.getD k.toNat 0).toNat) loc σ):lx loc σ Q (.ref l) (.int k)
 |dI {l k es v} (f:σ.get l=some (.bS es))(e:es.lookup k=some v)(h:Q v loc σ):lx loc σ Q (.ref l) (.int k)
 |dS {l x es v} (f:σ.get l=some (.dD es))(e:es.lookup x=some v)(h:Q v loc σ):lx loc σ Q (.ref l) (.str x)
noncomputable abbrev P.item(a i:MV):P MV:=λloc σ Q _=>lx loc σ Q a i
section
variable {cx:Cx}{n:Nat}{fd:Fd}
theorem iy.got{ρ:LA->Addr}{U:LA->Prop}{h:Heap}{κ K:Type} [BEq κ] [LawfulBEq κ] [DecidableEq K] {enc:κ->K}(inj:∀a b,enc a=enc b->a=b){es:List (κ×MV)}{kvs:List (K×Value)}(r:iy ρ U h enc es kvs){k:κ}{v:MV}(e:es.lookup k=some v) :
  ∃y,valueAt kvs (enc k)=some y/\VR ρ U h v y:=(e▸r.lookup inj k).got
theorem BX{a i:MV}{va vi:Value}:mJ cx n fd (λρ U h=>VR ρ U h a va/\VR ρ U h i vi) VR (getItem va vi) (P.item a i):=by
 intro A ρ σ loc s Q X G hp hm
 obtain⟨ha,hi⟩:=hp
 have tk : ∀ {j:Int},Q (.int j) loc σ->Out cx n fd A ρ σ s VR Q (.int j s.toks) { s with toks:=s.toks+1 }:=λh=>Out.pre (Step.tok _) (Out.now (G.tok _) .int h)
 have td : ∀ {j:MV} {y},Q j loc σ->VR ρ σ.us s.heap j y->Out cx n fd A ρ σ s VR Q y { s with toks:=s.toks+1 }:=λh r=>Out.pre (Step.tok _) (Out.now (G.tok _) r h)
 have nw : ∀ {j:MV} {y},Q j loc σ->VR ρ σ.us s.heap j y->Out cx n fd A ρ σ s VR Q y s:=λh r=>Out.now G r h
 generalize Out cx n fd A ρ σ s VR Q=Q' at tk td nw ⊢
 generalize eA cx n fd A ρ σ s X=E'
 induction hm with
 |oct a h=>apply ha.dg;intro _;apply hi.eH;exact λ_=>getItem_bytes (ad a.2.2 (by decide)) a.1 a.2.1 (tk h)
 |tup a e h=>
  refine eW ha.isTup λc xs zr2_ j r=> ?_;subst zr2_
  refine aT (r.get e) λy e3 ry=> ?_
  have l1:=r.len
  rw[bu] at l1
  apply hi.eH
  exact λ_=>getItem_tuple j (bp (by decide) a.1) (aN a.2.1 (bp (aW.mpr a.2.2) (by decide))) (l1▸kA a.1 a.2.1) (c9.symm.trans e3) (nw h ry)
 |list f a e h=>
  refine aT (G.isList f) λxs j r=> ?_
  obtain⟨y,e3,ry⟩:=r.get e
  refine ae ha.bU.1▸ ?_;apply hi.eH
  exact λ_=>wpAny_getItem_list j a.1 (aN a.2.1 (bp (aW.mpr a.2.2) (by decide))) (c9.symm.trans e3) (nw h ry)
 |ba f a h=>
  refine ae ha.bU.1▸ ?_;apply hi.eH
  exact λ_=>Ij (G.obj _ _ f).2 a.1 a.2.1 (ad a.2.2 (by decide)) (tk h)
 |dI f e h=>
  obtain⟨kvs,d,r⟩:=(G.obj _ _ f).2
  obtain⟨y,e3,ry⟩:=r.got (λ_ _ z=>z) e
  rw[ha.bU.1];apply hi.eH
  exact λ_=>wpAny_getItem_of (knd:=intKind cx.prog cx.w) (beq_self_eq_true _) d.mapOf e3 (td h ry)
 |dS f e h=>
  obtain⟨kvs,d,r⟩:=(G.obj _ _ f).2
  obtain⟨y,e3,ry⟩:=r.got (λ_ _ z=>gw z) e
  rw[ha.bU.1];apply hi.A8
  exact λ_=>wpAny_getItem_of (knd:=strKind cx.prog cx.w) (beq_self_eq_true _) d.mapOf e3 (td h ry)
noncomputable abbrev cg.slice : cg (Option Int×Option Int) Value:=λ_ _ h b v=>∃x l u,v= .ref x/\IsPart l b.1/\IsPart u b.2/\h.IsSliceOf x l u .none
inductive ot(lo hi:Option Int)(loc:Loc)(σ:MH)(Q:MV->Loc->MH->Prop):MV->Prop where
 |oct {b} (a:b.length<=100000)(h:Q (.bytes (cut b lo hi)) loc σ):ot lo hi loc σ Q (.bytes b)
 |tup {vs} (p:lo=some 1)(q:hi=none)(a:1<=vs.length/\vs.length<=100000)(h:Q (.tup (vs.drop 1)) loc σ):ot lo hi loc σ Q (.tup vs)
 |list {l vs r} (f:σ.get l=some (.list vs))(a:vs.length<=100000)(n:¬σ.us r)(h:Q (.ref r) loc (σ.new r (.list (cut vs lo hi)))):ot lo hi loc σ Q (.ref l)
 |fz {l o vs r} (f:σ.get l=some (.fz o vs))(a:vs.length<=100000)(n:¬σ.us r)(h:Q (.ref r) loc (σ.new r (.list (cut vs lo hi)))):ot lo hi loc σ Q (.ref l)
 |ba {l b r} (f:σ.get l=some (.bW b))(a:b.length<=100000)(n:¬σ.us r)(h:Q (.ref r) loc (σ.new r (.bW (cut b lo hi)))):ot lo hi loc σ Q (.ref l)
noncomputable abbrev P.slice(a:MV)(lo hi:Option Int):P MV:=λloc σ Q _=>ot lo hi loc σ Q a
theorem cR.cut{ρ:LA->Addr}{U:LA->Prop}{h:Heap}{vs:List MV}{ys:List Value}(lo hi:Option Int)(r:cR ρ U h vs ys):cR ρ U h (Internal.cut vs lo hi) (Internal.cut ys lo hi):=by
 unfold Internal.cut
 refine ae r.len▸ ?_
 exact (r.drop _).take _
theorem slice_list{A:Around}{ρ:LA->Addr}{σ:MH}{loc:Loc}{s:Shared}{Q:MV->Loc->MH->Prop}{E:Value->Shared->Prop}(G:Good cx n fd A ρ σ loc s){l:LA}{vs:List MV}{r:LA}{X:Array Value}{lo hi:Option Int}{x:Addr}{a b:Value}(hl:IsPart a lo)(hu:IsPart b hi)
  (hs:s.heap.IsSliceOf x a b .none)(i:s.heap.IsList (ρ l) X)(q:cR ρ σ.us s.heap vs X.toList)(hz:vs.length<=100000)(hr:¬σ.us r)(hq:Q (.ref r) loc (σ.new r (.list (Internal.cut vs lo hi)))) :
  wpAny cx.M A (getItem (.ref (ρ l)) (.ref x)) (Out cx n fd A ρ σ s VR Q) E s:=by
 have l1:=q.len
 rw[bu] at l1
 refine wpAny_getItem_list_slice i hs hl hu .none (λe=>nomatch e) ?_ (by refine ae aU▸ ?_;exact ad (ad (aw l1) hz) (by decide))
 refine Out.iU G hr s.toks (.push _) (aG _) (aP _ rfl) ?_ hq
 rw[slicePick_plain]
 have:=q.cut lo hi
 dsimp only[Internal.cut] at this ⊢
 simpa using this
theorem zQ{a:MV}{lo hi:Option Int}{va vi:Value}:mJ cx n fd (λρ U h=>cg.slice ρ U h (lo,hi) vi/\VR ρ U h a va) VR (getItem va vi) (P.slice a lo hi):=by
 intro A ρ σ loc s Q X G hp hm
 obtain⟨⟨x,l,u,rfl,hl,hu,hs⟩,ha⟩:=hp
 induction hm with
 |@oct b a h=>
  apply ha.dg;intro t
  refine getItem_meets (typeIs_bytes _ _ _) (by decide) FB.slot_bytes_getitem FB.entry_bytes_getitem (FB.args_bytes_getitem_2 _ _) (KBc.meets_slice2 b.toArray t _ hl hu) ⟨hs, ?_,λt' k=> ?_⟩
  ·refine ad (KBc.size_picked_le _ _ _) ?_
   refine ae d9▸ae aU▸ ?_;exact ad a (by decide)
  ·have e : KBy.picked b.toArray lo hi=(cut b lo hi).toArray:=by
    refine (KBc.picked_eq ..).trans ?_;unfold cut;simp
   refine ae e▸ ?_
   exact Out.pre (Step.tok _) (Out.now (G.tok _) .bytes h)
 |tup p q a h=>
  subst p q
  refine eW ha.isTup λc xs zr2_ j r=> ?_;subst zr2_
  have l1:=r.len
  rw[bu] at l1
  cases hu
  cases hl with
  |int _ t=>
  refine getItem_tuple_from (a:=1) j hs (by decide) (ad a.1 (ad (aw l1.symm) (aG _))) ?_ (by refine ae aU▸ ?_;exact ad (ad (aw l1) a.2) (by decide))
  exact Out.zw G s.toks (.push _) (aP _ rfl) rfl rfl (by simpa using r.drop 1) h
 |list f a n h=>obtain⟨X,i,q⟩:=G.isList f;refine ae ha.bU.1▸ ?_;exact slice_list G hl hu hs i q a n h
 |fz f a n h=>refine aT (G.Je f) λX i q=> ?_;refine ae ha.bU.1▸ ?_;exact slice_list G hl hu hs i q a n h
 |ba f a n h=>
  refine ae ha.bU.1▸ ?_
  exact DD (G.obj _ _ f).2 hl hu hs (ad a (by decide)) (Out.vg G n s.toks (.push _) (aG _) (aP _ rfl) h)
end
noncomputable def gX{κ:Type} [DecidableEq κ] (es:List (κ×MV))(k:κ)(v:MV):List (κ×MV):=if es.any (λe=>e.1=k) then es.map (λe=>if e.1=k then (e.1,v) else e) else es++[(k,v)]
noncomputable def DA{κ:Type} [DecidableEq κ] (es:List (κ×MV))(k:κ):List (κ×MV):=es.filter λe=>decide (e.1≠k)
section
variable {ρ:LA->Addr}{U:LA->Prop}{h:Heap}{κ K:Type}{enc:κ->K}
theorem iy.any [DecidableEq κ] [DecidableEq K] (inj:∀a b,enc a=enc b->a=b)(k:κ){es:List (κ×MV)}{ys:List (K×Value)}(x:iy ρ U h enc es ys):(ys.any λkv=>decide (kv.1=enc k))=es.any λe=>decide (e.1=k):=by
 induction x with
 |nil=>rfl
 |@cons k' _ _ _ _ _ _ ih=>(refine (List.any_cons).trans ?_;rw[List.any_cons];refine (ah _ ih).trans ?_;rw[decide_eq_decide.mpr (show enc k'=enc k↔k'=k from ⟨inj _ _,ah enc⟩)])
theorem iy.map [DecidableEq κ] [DecidableEq K] (inj:∀a b,enc a=enc b->a=b)(k:κ){w:MV}{z:Value}(hz:VR ρ U h w z){es:List (κ×MV)}{ys:List (K×Value)}(x:iy ρ U h enc es ys) :
  iy ρ U h enc (es.map λe=>if e.1=k then (e.1,w) else e) (ys.map λkv=>if kv.1=enc k then (kv.1,z) else kv):=by
 induction x with
 |nil=>exact .nil
 |@cons k' v y es ys a b ih=>
  show iy _ _ _ _ ((if k'=k then (k',w) else (k',v))::_) ((if enc k'=enc k then (enc k',z) else (enc k',y))::_)
  by_cases q : k'=k
  ·rw[if_pos q,if_pos (ah enc q)];exact .cons hz ih
  ·rw[if_neg q,if_neg λz=>q (inj _ _ z)];exact .cons a ih
theorem iy.app{k:κ}{w:MV}{z:Value}(hz:VR ρ U h w z){es:List (κ×MV)}{ys:List (K×Value)}(x:iy ρ U h enc es ys):iy ρ U h enc (es++[(k,w)]) (ys++[(enc k,z)]):=by
 induction x with
 |nil=>exact .cons hz .nil
 |cons a _ ih=>exact .cons a ih
theorem iy.stored [DecidableEq κ] [DecidableEq K] (inj:∀a b,enc a=enc b->a=b)(k:κ){w:MV}{z:Value}(hz:VR ρ U h w z){es:List (κ×MV)}{ys:List (K×Value)}(x:iy ρ U h enc es ys):iy ρ U h enc (gX es k w) (PySem.stored ys (enc k) z):=by
 delta gX PySem.stored
 rw[x.any inj k]
 split
 ·exact x.map inj k hz
 ·exact x.app hz
theorem iy.del [DecidableEq κ] [DecidableEq K] (inj:∀a b,enc a=enc b->a=b)(k:κ){es:List (κ×MV)}{ys:List (K×Value)}(x:iy ρ U h enc es ys):iy ρ U h enc (DA es k) (PySem.without ys (enc k)):=by
 delta DA PySem.without
 induction x with
 |nil=>exact .nil
 |@cons k' v y es ys a b ih=>
  refine ae List.filter_cons▸ ?_;rw[List.filter_cons]
  by_cases q : k'=k
  ·rw[if_neg (by simpa using q),if_neg (by simpa using ah enc q)];exact ih
  ·rw[if_pos (by simpa using q),if_pos (by simpa using λz=>q (inj _ _ z))];exact .cons a ih
end
theorem cR.erase{ρ:LA->Addr}{U:LA->Prop}{h:Heap}:∀ {vs:List MV}{ys:List Value}(k:Nat),cR ρ U h vs ys->cR ρ U h (vs.eraseIdx k) (ys.eraseIdx k)
 | [],_,_,x=>by refine ae x.nil_inv▸ ?_;exact cR.nil
 |_::_,_,0,x=>by refine eW x.cons_inv λy ys' q _ r=> ?_;subst q;simpa using r
 |_::_,_,k+1,x=>by refine eW x.cons_inv λy ys' q b r=> ?_;subst q;simpa using cR.cons b (r.erase k)
theorem yu{M:Model}{A:Around}{E:Value->Shared->Prop}{s:Shared}{i:Int}{t:Tok}(h0:0<=i)(h1:i < 256){Q:UInt8->Shared->Prop}(h:Q i.toNat.toUInt8 s):wpAny M A (Bytes.byteValue (.int i t)) Q E s:=by
 dsimp only[Bytes.byteValue]
 refine af (ao (a:=i) ?_)
 have : ¬(((decide (i < 0))||decide (i≥256))=true):=by simp;exact And.symm ⟨h1,h0⟩
 refine ae (if_neg this)▸ ?_
 exact ao h
section
variable {prog:Program}{w:World}{A:Around}{E:Value->Shared->Prop}{s:Shared}{a:Addr}{b:List UInt8}
theorem nE{o i v:Value}{T id:String}{Q:Unit->Shared->Prop}{M:Model}(hT:s.TypeIs o T)(hn:seqItemTypes.contains T=false)(aa:Slot T "__setitem__" id)
  (hc:wpAny M A (call (.builtin id) [o,i,v]) (λ_ s'=>Q () s') E s):wpAny M A (setItem o i v) Q E s:=by
 refine bk ?_
 refine af (wpAny_sequenceKey hT hn ?_)
 exact af (wpAny_callSpecial?_slot hT aa (wpAny_mono hc (λv s' h'=>ao h') λ_ _ e=>e))
theorem H1{i x:Int}{t u:Tok}(e:d6 s.heap a b)(h0:0<=i)(h1:i < b.length)(hz:b.length<=100000)(x0:0<=x)(x1:x < 256){Q:Unit->Shared->Prop}
  (h:∀h',h'.objs.size=s.heap.objs.size->(∀y,y≠a->h'.get? y=s.heap.get? y)->d6 h' a (b.set i.toNat x.toNat.toUInt8)->Q () { s with heap:=h' }) :
  wpAny (model prog w) A (setItem (.ref a) (.int i t) (.int x u)) Q E s:=by
 refine nE (cu e) (by decide) hW (wpAny_call_entry hW (cu e) nj ?_ (ph _ _ _))
 refine af (sub_int (fits_of h0 h1 (ad hz (by decide))) ?_)
 refine af (yu x0 x1 ?_)
 refine af (dF e ?_)
 refine ae (by exact kA h0 h1)▸ ?_
 refine af (eO e (c:=b.set i.toNat x.toNat.toUInt8) (List.setIfInBounds_toArray b i.toNat x.toNat.toUInt8) (by rw[aU,cL];exact ad hz (by decide)) λh' hs ho hb=> ?_)
 exact ao ⟨_,rfl,h h' hs ho hb⟩
end
theorem qp{κ:Type} [DecidableEq κ] (k:κ):∀ {es:List (κ×MV)},(es.lookup k).isSome=es.any λe=>decide (e.1=k)
 | []=>rfl
 | (k',v)::es=>by
  refine (ah _ List.lookup_cons).trans ?_;rw[List.any_cons];refine (qp k)▸ ?_
  by_cases q : k=k'
  ·subst q;simp
  ·have : (k==k')=false:=by simpa using q
   simp[this,Ne.symm q]
inductive iB(v:MV)(loc:Loc)(σ:MH)(Q:Unit->Loc->MH->Prop):MV->MV->Prop where
 |list {l} {k:Int} {vs} (f:σ.get l=some (.list vs))(a:0<=k/\k < vs.length/\vs.length<=100000)(h:Q () loc (σ.set l (.list (vs.set k.toNat v)))):iB v loc σ Q (.ref l) (.int k)
 |ba {l} {k x:Int} {b} (f:σ.get l=some (.bW b))(e:v= .int x)(a:0<=k/\k < b.length/\b.length<=100000/\0<=x/\x < 256)(h:Q () loc (σ.set l (.bW (b.set k.toNat x.toNat.toUInt8)))):iB v loc σ Q (.ref l) (.int k)
 |dI {l} {k:Int} {es} (f:σ.get l=some (.bS es))(a:es.length<=100000)(h:Q () loc (σ.set l (.bS (gX es k v)))):iB v loc σ Q (.ref l) (.int k)
 |dS {l x es} (f:σ.get l=some (.dD es))(a:es.length<=100000)(h:Q () loc (σ.set l (.dD (gX es x v)))):iB v loc σ Q (.ref l) (.str x)
noncomputable abbrev P.vj(a i v:MV):P Unit:=λloc σ Q _=>iB v loc σ Q a i
inductive qh(loc:Loc)(σ:MH)(Q:Unit->Loc->MH->Prop):MV->MV->Prop where
 |list {l} {k:Int} {vs} (f:σ.get l=some (.list vs))(a:0<=k/\k < vs.length/\vs.length<=100000)(h:Q () loc (σ.set l (.list (vs.eraseIdx k.toNat)))):qh loc σ Q (.ref l) (.int k)
 |dI {l} {k:Int} {es} (f:σ.get l=some (.bS es))(a:es.length<=100000/\es.any (λe=>e.1=k)=true)(h:Q () loc (σ.set l (.bS (DA es k)))):qh loc σ Q (.ref l) (.int k)
noncomputable abbrev P.vq(a i:MV):P Unit:=λloc σ Q _=>qh loc σ Q a i
section
variable {cx:Cx}{n:Nat}{fd:Fd}
theorem Out.set{A:Around}{ρ:LA->Addr}{σ:MH}{loc:Loc}{s:Shared}{Q:Unit->Loc->MH->Prop}(G:Good cx n fd A ρ σ loc s){l:LA}(hl:σ.us l){o':MO}{x':Obj}{h':Heap}(t:Nat)(hsz:h'.objs.size=s.heap.objs.size)
  (hother:∀a,a≠ρ l->h'.get? a=s.heap.get? a)(hx:h'.get? (ρ l)=some x')(hnt:¬Internal.IsTup x')(hrel:fh ρ σ.us s.heap ρ σ.us h'->lM cx.prog cx.w ρ σ.us h' (ρ l) o')(hq:Q () loc (σ.set l o')) :
  Out cx n fd A ρ σ s cg.unit Q () { s with heap:=h',toks:=t }:=by
 refine dA (G.upd hl (t:=t) hsz hother hx hnt hrel) λG' S'=> ?_
 exact⟨(),_,_,_,S',G',trivial,hq⟩
theorem pT{h:Heap}{a:Addr}{K:Type} [DecidableEq K] {knd:PySem.KeyKind cx.prog cx.w K}{kvs:List (K×Value)}(x:h.DictOf knd a kvs):∃o,h.get? a=some o/\¬Internal.IsTup o:=by
 refine EP x λo es ep e c d _=> ?_
 exact⟨o,e,ca d⟩
theorem F7{l:Addr}{items:Array Value}{ep:Nat}{k:Int}{t:Tok}{v:Value}{prog:Program}{w:World}{A:Around}{E:Value->Shared->Prop}{s:Shared}{Q:Unit->Shared->Prop}(e:s.heap.get? l=some { cls:= .type "list",data:= .seq items ep })
  (h0:0<=k)(h1:k < items.size)(hz:items.size<=100000)
  (hQ:∀h',h'.PlainList l (items.setIfInBounds k.toNat v)->Heap.SameBut l s.heap h'->Q () { s with heap:=h' }):wpAny (model prog w) A (setItem (.ref l) (.int k t) v) Q E s:=by
 refine nE (show s.heap.IsList l items from ⟨_,e,rfl,ep,rfl⟩).typeIs (by decide) slot_list_setitem (wpAny_call_entry slot_list_setitem (show s.heap.IsList l items from ⟨_,e,rfl,ep,rfl⟩).typeIs entry_list_setitem ?_ (args_list_setitem _ _ _))
 show wpAny _ _ (Builtin.List.listSubscript? (.int k t) >>= _) _ _ s
 refine af (wpAny_listSubscript_int (fitsIndex_of h0 (aN h1 (bp (aW.mpr hz) (by decide)))) ?_)
 obtain⟨j,rfl⟩:=Int.eq_ofNat_of_zero_le h0
 have hj : j < items.size:=by exact aX.mp h1
 refine af (af (wpAny_seqItemAt e rfl (ao ?_)))
 refine ae (Array.getElem?_eq_getElem hj)▸ ?_
 have hfin : (s.heap.update l (Obj.mapSeq (·.setIfInBounds j v))).PlainList l (items.setIfInBounds j v):=by
  exact⟨if (items.setIfInBounds j v).size==items.size then ep else ep+1,dJ (Obj.mapSeq (·.setIfInBounds j v)) e rfl⟩
 refine af (wpAny_setSeqItemAt e rfl ?_)
 exact ao ⟨.none,rfl,hQ _ hfin (Heap.SameBut.update ..)⟩
theorem pS{k:Nat}(h:k<=100000):k<=sizeLine:=by rw[aU];exact ad h (by decide)
theorem Out.Jb{A:Around}{ρ:LA->Addr}{σ:MH}{loc:Loc}{s:Shared}{Q:Unit->Loc->MH->Prop}(G:Good cx n fd A ρ σ loc s){l:LA}(hl:σ.us l){o':MO}{h':Heap}(t:Nat){K:Type} [DecidableEq K] {knd:PySem.KeyKind cx.prog cx.w K}{kvs:List (K×Value)}(d:h'.DictOf knd (ρ l) kvs)
  (sb:Heap.SameBut (ρ l) s.heap h')(hrel:fh ρ σ.us s.heap ρ σ.us h'->lM cx.prog cx.w ρ σ.us h' (ρ l) o')(hq:Q () loc (σ.set l o')):Out cx n fd A ρ σ s cg.unit Q () { s with heap:=h',toks:=t }:=by
 refine aT (pT d) λo' e' nt=> ?_
 exact Out.set G hl t sb.1 sb.2 e' nt hrel hq
theorem wu{a i v:MV}{va vi vv:Value}:mJ cx n fd (λρ U h=>VR ρ U h a va/\VR ρ U h i vi/\VR ρ U h v vv) cg.unit (setItem va vi vv) (P.vj a i v):=by
 intro A ρ σ loc s Q X G hp hm
 obtain⟨ha,hi,hv⟩:=hp
 generalize eA cx n fd A ρ σ s X=E'
 induction hm with
 |list f a h=>
  refine ey (G.list f) λxs ep o1 r1=> ?_
  have l1:=r1.len
  rw[bu] at l1
  apply ha.eB;intro ua;apply hi.eH;intro u
  refine F7 o1 a.1 (aN a.2.1 (aW.mpr (ad (aw l1.symm) (aG _)))) (ad (ad (aw l1) a.2.2) (by decide)) λh' ⟨ep',hl⟩ sb=> ?_
  exact Out.set (o':= .list _) G ua s.toks sb.1 sb.2 hl cQ (λkp=>⟨_,ep',hl,Array.toList_setIfInBounds.symm▸(r1.set _ hv).mono kp⟩) h
 |ba f e a h=>
  subst e
  apply ha.eB;intro ua;apply hi.eH;intro u;apply hv.eH;intro w
  exact H1 (G.obj _ _ f).2 a.1 a.2.1 a.2.2.1 a.2.2.2.1 a.2.2.2.2 λh' hs ho hb=>Out.set (o':= .bW _) G ua s.toks hs ho hb gP (λ_=>hb) h
 |dI f a h=>
  obtain⟨kvs,d,r⟩:=(G.obj _ _ f).2
  apply ha.eB;intro ua;apply hi.eH;intro u
  exact wpAny_setItem_pairs (knd:=intKind cx.prog cx.w) (beq_self_eq_true _) d (λh' d' sb=>Out.Jb (o':= .bS _) G ua _ d' sb (λkp=>⟨_,d',(r.mono kp).stored (λ_ _ z=>z) _ (hv.mono kp)⟩) h) (r.len▸pS a)
 |dS f a h=>
  obtain⟨kvs,d,r⟩:=(G.obj _ _ f).2
  apply ha.eB;intro ua;apply hi.A8;intro u
  exact wpAny_setItem_pairs (knd:=PySem.strKind cx.prog cx.w) (beq_self_eq_true _) d (λh' d' sb=>Out.Jb (o':= .dD _) G ua _ d' sb (λkp=>⟨_,d',(r.mono kp).stored (λ_ _ z=>gw z) _ (hv.mono kp)⟩) h) (r.len▸pS a)
theorem wj{a i:MV}{va vi:Value}:mJ cx n fd (λρ U h=>VR ρ U h a va/\VR ρ U h i vi) cg.unit (delItem va vi) (P.vq a i):=by
 intro A ρ σ loc s Q X G hp hm
 obtain⟨ha,hi⟩:=hp
 generalize eA cx n fd A ρ σ s X=E'
 induction hm with
 |list f a h=>
  refine ey (G.list f) λxs ep o1 r1=> ?_
  have l1:=r1.len
  rw[bu] at l1
  apply ha.eB;intro ua;apply hi.eH;intro u
  refine wpAny_delItem_plain ⟨ep,o1⟩ (by simp[Builtin.List.listFitsIndex];exact⟨bp (by decide) a.1,aN a.2.1 (bp (aW.mpr a.2.2) (by decide))⟩) (l1▸kA a.1 a.2.1) (λh' ⟨ep',hl⟩ sb=> ?_) (l1▸pS a.2.2)
  exact Out.set (o':= .list _) G ua s.toks sb.1 sb.2 hl cQ (λkp=>⟨_,ep',hl,by simpa using (r1.erase _).mono kp⟩) h
 |dI f a h=>
  obtain⟨kvs,d,r⟩:=(G.obj _ _ f).2
  apply ha.eB;intro ua;apply hi.eH;intro u
  refine bk (af (wpAny_sequenceKey d.typeIs (by decide) ?_))
  refine af (wpAny_callSpecial?_slot (name:=Str.ofString "__delitem__") d.typeIs PySem.F.slot_dict_delitem
   (call_meetsIn PySem.F.slot_dict_delitem d.typeIs PySem.F.entry_dict_delitem (PySem.F.args_dict_delitem_2 _ _) (meets_dict_delitem_pairs (intKind cx.prog cx.w) _ (beq_self_eq_true _)) ⟨kvs,d,r.len▸pS a.1, ?_,λh' d' sb=> ?_⟩))
  ·exact (r.lookup (λ_ _ z=>z) _).same.trans ((qp _).trans a.2)
  ·exact ao (Out.Jb (o':= .bS _) G ua _ d' sb (λkp=>⟨_,d',(r.mono kp).del (λ_ _ z=>z) _⟩) h)
end
end Internal
namespace Internal
open PySem PySem.W PyProof.Rows PySem.Calls
section
variable {cx:Cx}{n n1 n2:Nat}{fd fc:Fd}{A A':Around}{ρ ρ':LA->Addr}{σ σ':MH}{loc loc':Loc}{s s₁ s₂:Shared}
theorem yo.slots{k:Kd}{o:Obj}{sl:Array (Option Value)}(f:yo k o):yo k { o with slots:=sl }:=match k,f with
 | .any,f=>f
 | .cell,f=>f
 | .dict,f=>f
theorem Good.own(G:Good cx n fd A ρ σ loc s){a:Addr}(ha:a∈fd.cI):∃o,s.heap.get? a=some o:=(by obtain⟨_,_,_,o,e,_⟩:=G.cI a ha;exact⟨o,e⟩)
theorem Good.jk(G:Good cx n fd A ρ σ loc s){a:Addr}(h:a∈fd.gB.filterMap (·.frame)):a=fd.env.locals∨a∈fd.oP:=by
 rcases G.KV with k | ⟨k,kf,_⟩
 ·rw[k] at h;exact .inr h
 ·rw[k,List.filterMap_cons,kf] at h
  rcases aK.mp h with q | q
  ·exact .inl q
  ·exact .inr q
theorem Good.back(G:Good cx n1 fd A ρ σ loc s)(hrest:∃h' tk,s₁={ s with heap:=h',toks:=tk })(hk:∀a o,s.heap.get? a=some o->s₁.heap.get? a=some o)
  (S:Step fc ρ σ.us s₁ ρ' σ'.us s₂)(G':Good cx n2 fc A' ρ' σ' loc' s₂)(ho:fc.outer=fd.gB)(hm:∀a∈fc.cI,s.heap.get? a=none) :
  Good cx n1 fd A ρ' σ' loc s₂/\Step fd ρ σ.us s ρ' σ'.us s₂:=by
 have nm : ∀a o,s.heap.get? a=some o->a∉fc.cI:=λa o e m=>by replace e:=(hm a m)▸e;exact nomatch e
 have keep : ∀a o,s.heap.get? a=some o->(∀l,σ.us l->ρ l≠a)->a∉fd.oP->a≠fd.env.locals->s₂.heap.get? a=some o:=λa o e f m1 m2=>
  S.keep a o (hk a o e) f (nm a o e) (λq=>by rw[(show fc.oP=fd.gB.filterMap (·.frame) by show fc.outer.filterMap _=_;exact ah _ ho)] at q;exact (G.jk q).elim m2 m1)
 have gc : ∀a o,s.heap.get? a=some o->(∀l,σ.us l->ρ l≠a)->∃sl,s₂.heap.get? a=some { o with slots:=sl }:=λa o e f=>by
  by_cases q : a∈fc.oP
  ·exact S.gc a o (hk a o e) f (nm a o e) q
  ·exact⟨o.slots,S.keep a o (hk a o e) f (nm a o e) q⟩
 have ST : Step fd ρ σ.us s ρ' σ'.us s₂:=by
  refine⟨?_,λa o e=>S.ex a o (hk a o e),S.us,λl u z=> ?_,λa o e f m1 m2=>keep a o e f m2 λq=>m1 (q▸G.di),λa o e f m1 m2=>gc a o e f⟩
  ·refine fu hrest λh1 t1 zr2_=> ?_;subst zr2_
   refine fu S.rest λh2 t2 zr2_=> ?_;subst zr2_
   exact⟨h2,t2,rfl⟩
  ·cases q : s.heap.get? (ρ' l) with
   |none=>rfl
   |some o=>have:=S.fresh l u z;replace this:=(hk _ _ q)▸this;cases this
 have fo : ∀a o,s.heap.get? a=some o->(∀l,σ.us l->ρ l≠a)->∀l,σ'.us l->ρ' l≠a:=λa o e f l u q=>by
  by_cases z : σ.us l
  ·exact f l z ((S.us l z).2.symm.trans q)
  ·subst q;exact nomatch (ST.fresh l u z).symm.trans e
 refine⟨⟨G'.obj,G'.inj,G'.low,G'.top,G.loc.mono (ST.keeps G) (λm ns=> ?_) (λc hc o e=> ?_),λsp=>have p:=G.foot sp;⟨p.z,let ⟨o,e,_⟩:=p.e;fo _ o e p.u,let ⟨o,e,f⟩:=p.e;(by refine cN (gc _ o e p.u) λ_ e'=> ?_;exact⟨_,e',f.slots⟩)⟩,G.st,G.ak, ?_⟩,ST⟩
 ·refine iE ns λo es ep e r=> ?_
  refine cN (gc _ _ e (G.foot (.cI G.di)).u) λsl e'=> ?_
  exact⟨_,es,ep,e',r⟩
 ·exact keep _ _ e (G.foot (.cell hc)).u (G.st.co c hc) (G.iu c hc)
 ·obtain⟨h1,t1,rfl⟩:=hrest
  refine fu S.rest λh2 t2 zr2_=> ?_;subst zr2_
  exact G.gens
theorem Good.Jy(G:Good cx n fd A ρ σ loc s)(a:Addr)(ha:a∈fd.gB.filterMap (·.frame)):∃o es ep,s.heap.get? a=some o/\o.data= .dict es ep:=by
 refine Or.elim (G.jk ha) (λq=> ?_) λq=> ?_
 ·exact (by refine JW G.locals λ_ o es ep e d _=> ?_;exact⟨o,es,ep,q▸e,d⟩)
 ·exact (by obtain⟨o,e,es,ep,d⟩:=(G.foot (.frame q)).e;exact⟨o,es,ep,e,d⟩)
theorem Good.Jw(G:Good cx n fd A ρ σ loc s)(a:Addr)(ha:a∈fd.gB.filterMap (·.frame)):cx.h0.objs.size<=a/\∀l,σ.us l->ρ l≠a:=by
 refine Or.elim (G.jk ha) (λq=> ?_) λq=> ?_
 ·have p:=G.foot (.cI G.di);exact q▸⟨p.z,p.u⟩
 ·have p:=G.foot (.frame q);exact⟨p.z,p.u⟩
theorem Good.frames(G:Good cx n fd A ρ σ loc s)(kS:fd.env.frame=some fd.env.locals)(hkd:fd.env.scope.kind≠ .module){base:Heap}(hb:∀a∈fd.gB.filterMap (·.frame),base.get? a=none)
  (Em:fd.gB=fd.env::fd.outer):s.heap.FunFrames base (fd.env::fd.outer):=by
 refine cN G.locals λmL nsL=> ?_
 refine rZ (_root_.id nsL) λoL es ep eL dL restL=> ?_
 rw[Em,List.filterMap_cons] at hb;replace hb:=kS▸hb
 refine⟨hkd,⟨_,oL,kS,hb _ (.head _),eL,λvs z=>by replace z:=dL▸z;cases z⟩, ?_⟩
 have key : ∀l : List Env,(∀e∈l,e∈fd.outer)->s.heap.FunFrames base l:=by
  intro l
  induction l with
  |nil=>exact λ_=>trivial
  |cons e l ih=>
   intro hl
   obtain⟨a1,L,o,es,ep,a2,a3,a4,a5,a6⟩:=G.MS e (hl e (.head _))
   exact⟨a1,⟨L,o,a2,hb L (.tail _ (cS.mpr ⟨e,hl e (.head _),a2⟩)),a5,λvs z=>by replace z:=a6▸z;cases z⟩,ih λx hx=>hl x (.tail _ hx)⟩
 exact key _ λ_ h=>h
noncomputable abbrev bare(h:Heap)(fd:Fd)(e:Addr)(T:List Addr):Heap:=hideAll h (fd.gB.filterMap (·.frame)++e::T)
theorem Good.D8(G:Good cx n fd A ρ σ loc s)(htop:∀b o,cx.h0.get? b=some o->s₁.heap.get? b=some o){U:LA->Prop}{ρ₁:LA->Addr}(S:Step fd ρ₁ U s₁ ρ σ.us s)
  (hold:∀a,a∈fd.cI∨(∃c∈fd.env.cells,c.2=a)->∃o,s₁.heap.get? a=some o){e C:Addr}{oe:Obj}{vs:Array Value}(he:s.heap.get? e=some oe)(hd:oe.data= .fields vs)
  (hg:s₁.heap.get? e=none)(hu:∀l,σ.us l->ρ l≠e){T:List Addr}(hT:∀a∈T,(∀l,σ.us l->ρ l≠a)/\s₁.heap.get? a=none/\∃o vs,s.heap.get? a=some o/\o.data= .fields vs)
  {h':Heap}(l1:(bare s.heap fd e T).StaysIn h')(l4:∀b o,s.heap.get? b=some o->(∀vs,o.data≠ .fields vs)->∃sl,h'.get? b=some { o with slots:=sl }) :
  Good cx n fd A ρ σ loc { s with heap:=h' }/\Step fd ρ₁ U s₁ ρ σ.us { s with heap:=h' }/\
  (∀ {a0 fl:Value}{fr:Option Addr},h'.TracedAtW (bare s.heap fd e T) e (.ref C) a0 fl->(fl= .none∨∃l,fr=some l/\fl=rawInt l)->ExcAt ρ σ.us h' s₁.heap fr e C):=by
 have hk : ∀a o,a∉fd.gB.filterMap (·.frame)++e::T->s.heap.get? a=some o->h'.get? a=some o:=λa o d z=>l1 a o (hideAll_get _ z d)
 have nofield : ∀a o,s.heap.get? a=some o->(∀vs,o.data≠ .fields vs)->a∉e::T:=λa o z nf m=>by
  refine Or.elim (aK.mp m) (λq=> ?_) λq=> ?_
  ·exact nf vs (aS (he.symm.trans (q▸z))▸hd)
  ·exact (by obtain⟨_,_,o',vs',z',d'⟩:=hT a q;exact nf vs' (aS (z'.symm.trans z)▸d'))
 have old : ∀a o,s₁.heap.get? a=some o->a∉e::T:=λa o z m=>by
  refine Or.elim (aK.mp m) (λq=> ?_) λq=> ?_
  ·cases q;exact nomatch hg.symm.trans z
  ·exact nomatch (hT a q).2.1.symm.trans z
 have dictF : ∀a∈fd.gB.filterMap (·.frame),∀o,s.heap.get? a=some o->∃es ep,o.data= .dict es ep:=λa m o z=>
  let ⟨_,es,ep,z',d'⟩:=G.Jy a m;⟨es,ep,aS (z'.symm.trans z)▸d'⟩
 have gc : ∀a o,s.heap.get? a=some o->a∉e::T->∃sl,h'.get? a=some { o with slots:=sl }:=λa o z m=>by
  by_cases q : a∈fd.gB.filterMap (·.frame)
  ·exact l4 a o z λvs y=>let ⟨_,_,d⟩:=dictF a q o z;nomatch d.symm.trans y
  ·exact⟨o.slots,hk a o (λx=>(bI.mp x).elim q m) z⟩
 have named : ∀l,σ.us l->ρ l∉fd.gB.filterMap (·.frame)++e::T:=λl u q=>by
  refine Or.elim (bI.mp q) (λq=> ?_) λq=> ?_
  ·exact (G.Jw _ q).2 l u rfl
  ·refine Or.elim (aK.mp q) (λq=> ?_) λq=> ?_
   ·exact hu l u q
   ·exact (hT _ q).1 l u rfl
 have D7 : ∀ {a k},Spot fd a k->∀o,s.heap.get? a=some o->yo k o->a∉e::T:=λsp o z f=>by
  induction sp with
  |cI h=>exact (by obtain⟨o',z'⟩:=hold _ (.inl h);exact old _ o' z')
  |cell h=>exact (by obtain⟨o',z'⟩:=hold _ (.inr ⟨_,h,rfl⟩);exact old _ o' z')
  |frame h=>exact nofield _ o z λvs y=>(by refine fu f λ_ _ d=> ?_;exact nomatch d.symm.trans y)
 refine⟨G.kept (·∈fd.gB.filterMap (·.frame)++e::T) hk (λa o z c m=> ?_) named (λb o z m=> ?_) (λm ns=> ?_) (λc hc m=> ?_) (λsp _ o z f=>(by refine cN (gc _ o z (D7 sp o z f)) λ_ z'=> ?_;exact⟨_,z',f.slots⟩)),
  ⟨?_,λa o z=> ?_,S.us,S.fresh,λa o z f m1 m2=> ?_,λa o z f m1 m2=> ?_⟩,λ{a0 fl fr} l3 hfl=> ?_⟩
 ·obtain⟨c1,xs,ep,c2⟩:=c
  refine Or.elim (bI.mp m) (λq=> ?_) λq=> ?_
  ·exact let ⟨_,_,d⟩:=dictF a q o z;nomatch d.symm.trans c2
  ·exact nofield a o z (λvs y=>nomatch c2.symm.trans y) q
 ·refine Or.elim (bI.mp m) (λq=> ?_) λq=> ?_
  ·exact iL (G.Jw _ q).1 (aR z)
  ·exact old b o (htop b o z) q
 ·refine rZ ns λo es ep z d r=> ?_
  refine cN (gc _ o z (nofield _ o z λvs y=>nomatch d.symm.trans y)) λsl z'=> ?_
  exact⟨_,es,ep,z',d,r⟩
 ·refine Or.elim (bI.mp m) (λq=> ?_) λq=> ?_
  ·exact (G.jk q).elim (G.iu c hc) (G.st.co c hc)
  ·exact (by refine cN (hold _ (.inr ⟨_,hc,rfl⟩)) λo' z'=> ?_;exact old _ o' z' q)
 ·refine fu S.rest λh1 t1 zr2_=> ?_;subst zr2_
  exact⟨h',t1,rfl⟩
 ·exact let ⟨o',z'⟩:=S.ex a o z;(by obtain⟨_,z''⟩:=gc a o' z' (old a o z);exact⟨_,z''⟩)
 ·exact hk a o (λm=>(bI.mp m).elim (λq=>(G.jk q).elim (λq=>m1 (q▸G.di)) m2) (old a o z)) (S.keep a o z f m1 m2)
 ·refine cN (S.gc a o z f m1 m2) λsl z'=> ?_
  exact (by obtain⟨sl2,z2⟩:=gc a _ z' (old a o z);exact⟨sl2,z2⟩)
 ·obtain⟨oe',vs',T',oT',ts',b1,⟨b2,b0⟩,b3,b4,b5,b6,b7,b8,b9⟩:=l3
  have bare : ∀o,s.heap.get? T'=some o->T'∈fd.gB.filterMap (·.frame)++e::T:=λo z=>dG λq=>nomatch b5.symm.trans (hideAll_get _ z q)
  refine⟨oe',vs',a0,b1,b2,b3,b0,hg,hu, .tb T' oT' ts' fl b4 b6 ?_ (λl u q=> ?_) b7 b8 b9 hfl⟩
  ·cases z : s₁.heap.get? T' with
   |none=>rfl
   |some o=>
    exfalso
    refine cN (S.ex T' o z) λo' z'=> ?_
    refine Or.elim (bI.mp (bare o' z')) (λq=> ?_) λq=> ?_
    ·refine cN (gc T' o' z' (old T' o z)) λsl z3=> ?_
     refine fu (dictF T' q o' z') λ_ _ d=> ?_
     cases b7.symm.trans z3
     exact nomatch d.symm.trans b8
    ·exact old T' o z q
  ·exact (by obtain⟨_,o,z,_⟩:=G.low l u;exact named l u (q▸bare o (q▸z)))
theorem Good.note(G:Good cx n fd A ρ σ loc s)(htop:∀b o,cx.h0.get? b=some o->s₁.heap.get? b=some o){U:LA->Prop}{ρ₁:LA->Addr}(S:Step fd ρ₁ U s₁ ρ σ.us s){e C:Addr}(x:ExcAt ρ σ.us s.heap s₁.heap fd.env.frame e C)
  (hold:∀a,a∈fd.cI∨(∃c∈fd.env.cells,c.2=a)->∃o,s₁.heap.get? a=some o)(Em:fd.gB=fd.env::fd.outer)(kS:fd.env.frame=some fd.env.locals)(hkd:fd.env.scope.kind≠ .module){Q:Unit->Shared->Prop}{E:Value->Shared->Prop}{M:Model}
  (h:∀s',Good cx n fd A ρ σ loc s'->Step fd ρ₁ U s₁ ρ σ.us s'->ExcAt ρ σ.us s'.heap s₁.heap fd.env.frame e C->
   (∃oe vs T oT ts,s'.heap.get? e=some oe/\oe.data= .fields vs/\vs[1]?=some (.ref T)/\T≠e/\s'.heap.get? T=some oT/\oT.data= .fields ts/\ts[3]?=some (rawInt fd.env.locals))->Q () s'):wpAny M A (noteFrame (.ref e) fd.env) Q E s:=by
 obtain⟨oe,vs,a0,he,hcls,hd,h0,hg,hu,hT⟩:=_root_.id x
 have frA : A.frames=some (fd.env::fd.outer):=Em▸G.ak.fr
 have fin : ∀ (T:List Addr),(∀a∈T,(∀l,σ.us l->ρ l≠a)/\s₁.heap.get? a=none/\∃o vs,s.heap.get? a=some o/\o.data= .fields vs)->
   ∀h',Heap.NotedW (bare s.heap fd e T) (fd.env::fd.outer) e (.ref C) a0 (rawInt fd.env.locals) s.heap h'->Q () { s with heap:=h' }:=by
  intro T hT h' ⟨l1,l2,l3,l4⟩
  refine ip (G.D8 (C:=C) htop S hold he hd hg hu hT l1 l4) λG' S' X'=> ?_
  refine h _ G' S' (X' l3 (.inr ⟨_,kS,rfl⟩)) ?_
  obtain⟨oe',vs',T',oT',ts',b1,⟨b2,b0⟩,b3,b4,b5,b6,b7,b8,b9⟩:=l3
  exact⟨oe',vs',T',oT',ts',b1,b3,b4,b6,b7,b8,b9⟩
 rcases hT with h1 | ⟨T,oT,ts,fl,h1,hTe,hTg,hTu,hTo,hTd,h3,hfl⟩
 ·unfold noteFrame
  refine ae kS▸ ?_
  refine af (wpAny_field he hd h1 ?_)
  refine wpAny_entryW (base:=bare s.heap fd e []) frA (G.frames kS hkd (λa ha=>hideAll_none _ (bJ _ ha)) Em) kS he (λb o z=>of_hideAll _ z) (hideAll_none _ (bx _ (.head _))) hd (Array.getElem?_eq_some_iff.mp h1).1 h0 ?_
  refine ae hcls▸ ?_
  exact fin [] (λ_ h=>nomatch h)
 ·have hTs : ∀a∈[T],(∀l,σ.us l->ρ l≠a)/\s₁.heap.get? a=none/\∃o vs,s.heap.get? a=some o/\o.data= .fields vs:=λa ha=>by
   cases av.mp ha
   exact⟨hTu,hTg,oT,ts,hTo,hTd⟩
  rcases hfl with rfl | ⟨l,hl,rfl⟩
  ·exact wpAny_noteFrame_onW (base:=bare s.heap fd e [T]) frA (G.frames kS hkd (λa ha=>hideAll_none _ (bJ _ ha)) Em) kS
    ⟨oe,vs,T,oT,ts,he,⟨hcls,h0⟩,hd,h1,hideAll_none _ (bx _ (.tail _ (.head _))),hTe,hTo,hTd,h3⟩ (λb o z=>of_hideAll _ z) (hideAll_none _ (bx _ (.head _))) (fin [T] hTs)
  ·replace hl:=kS▸hl;cases hl
   refine wpAny_noteFrame_againW (base:=E0) kS ⟨oe,vs,T,oT,ts,he,⟨rfl,h0⟩,hd,h1,Dm _,hTe,hTo,hTd,h3⟩ ?_
   exact h s G S x ⟨oe,vs,T,oT,ts,he,hd,h1,hTe,hTo,hTd,h3⟩
theorem Good.vo(G:Good cx n fd A ρ σ loc s)(htop:∀b o,cx.h0.get? b=some o->s₁.heap.get? b=some o){U:LA->Prop}{ρ₁:LA->Addr}(S:Step fd ρ₁ U s₁ ρ σ.us s){e C:Addr}{fr:Option Addr}(x:ExcAt ρ σ.us s.heap s₁.heap fr e C)
  (hold:∀a,a∈fd.cI∨(∃c∈fd.env.cells,c.2=a)->∃o,s₁.heap.get? a=some o)(f:Option Addr){Q:Unit->Shared->Prop}{E:Value->Shared->Prop}{M:Model}
  (h:∀s',Good cx n fd A ρ σ loc s'->Step fd ρ₁ U s₁ ρ σ.us s'->ExcAt ρ σ.us s'.heap s₁.heap f e C->Q () s'):wpAny M A' (setFlight (.ref e) f) Q E s:=by
 obtain⟨oe,vs,a0,he,hcls,hd,h0,hg,hu,hT⟩:=_root_.id x
 rcases hT with h1 | ⟨T,oT,ts,fl,h1,hTe,hTg,hTu,hTo,hTd,h3,hfl⟩
 ·refine af (wpAny_field he hd h1 ?_)
  exact ao (h s G S ⟨oe,vs,a0,he,hcls,hd,h0,hg,hu, .no h1⟩)
 ·refine af (wpAny_field he hd h1 ?_)
  have hsz3 : 3 < ts.size:=(Array.getElem?_eq_some_iff.mp h3).1
  have hTs : ∀a∈[T],(∀l,σ.us l->ρ l≠a)/\s₁.heap.get? a=none/\∃o vs,s.heap.get? a=some o/\o.data= .fields vs:=λa ha=>by
   cases av.mp ha
   exact⟨hTu,hTg,oT,ts,hTo,hTd⟩
  have other : ∀b,b≠T->(s.heap.update T (Obj.mapFields (·.setIfInBounds 3 (f.elim Value.none λf=>rawInt f)))).get? b=s.heap.get? b:=λb hb=>Heap.get?_update_other _ _ (Ne.symm hb)
  refine wpAny_setField hTo hTd hsz3 ?_
  obtain⟨G',S',X'⟩:=G.D8 (C:=C) (T:=[T]) (h':=s.heap.update T (Obj.mapFields (·.setIfInBounds 3 (f.elim Value.none λf=>rawInt f)))) htop S hold he hd hg hu hTs (λb o z=>(other b λq=>by
    rw[q] at z;replace z:=(hideAll_none _ (bx _ (.tail _ (.head _))))▸z;cases z).trans (of_hideAll _ z)) (λb o z nf=>⟨o.slots,(other b λq=>by rw[q] at z;replace z:=hTo▸z;cases z;exact nf ts hTd).trans z⟩)
  refine h _ G' S' (X' (a0:=a0) (fl:=f.elim Value.none λf=>rawInt f) ⟨oe,vs,T,_,_,(other e (Ne.symm hTe)).trans he,⟨hcls,h0⟩,hd,h1,hideAll_none _ (bx _ (.tail _ (.head _))),hTe,
   dJ _ hTo (Obj.isFreed_of_fields (Obj.data_mapFields hTd _)),Obj.data_mapFields hTd _,by exact Array.getElem?_setIfInBounds_self_of_lt hsz3⟩ ?_)
  cases f with
  |none=>exact .inl rfl
  |some l=>exact .inr ⟨l,rfl,rfl⟩
theorem Good.left(G:Good cx n fd A ρ σ loc s)(htop:∀b o,cx.h0.get? b=some o->s₁.heap.get? b=some o){U:LA->Prop}{ρ₁:LA->Addr}(S:Step fd ρ₁ U s₁ ρ σ.us s){e C:Addr}(x:ExcAt ρ σ.us s.heap s₁.heap fd.env.frame e C)
  (hold:∀a,a∈fd.cI∨(∃c∈fd.env.cells,c.2=a)->∃o,s₁.heap.get? a=some o)(Em:fd.gB=fd.env::fd.outer)(kS:fd.env.frame=some fd.env.locals)(hkd:fd.env.scope.kind≠ .module){Q:Unit->Shared->Prop}{E:Value->Shared->Prop}{M:Model}
  (h:∀s',Good cx n fd A ρ σ loc s'->Step fd ρ₁ U s₁ ρ σ.us s'->ExcAt ρ σ.us s'.heap s₁.heap none e C->Q () s'):wpAny M A (leaving fd.env (.ref e)) Q E s:=by
 refine af (G.note htop S x hold Em kS hkd λs' G' S' x' _=> ?_)
 exact G'.vo htop S' x' hold none h
end
set_option genCtorIdx true in
inductive MF where
 |next | brk | cont
 |ret (v:MV)
inductive wg(ρ:LA->Addr)(U:LA->Prop)(h:Heap):MF->Flow->Prop where
 |next : wg ρ U h .next .next
 |brk : wg ρ U h .brk .brk
 |cont : wg ρ U h .cont .cont
 |ret {v x} (r:VR ρ U h v x):wg ρ U h (.ret v) (.ret x)
noncomputable abbrev cg.mA : cg MF Flow:=wg
noncomputable abbrev jH(cx:Cx)(n:Nat)(fd:Fd)(ss:List Stmt)(m:P MF):Prop:=eQ cx n fd cg.mA (execs ss fd.env) m
noncomputable abbrev PH(α:Type):=MH->(α->MH->Prop)->(Addr->MH->Prop)->Prop
noncomputable abbrev P.MR{α:Type}(m:PH α):P α:=λloc σ Q X=>m σ (λv σ'=>Q v loc σ') (λC σ'=>X C loc σ')
noncomputable def Km(cx:Cx)(n:Nat)(fd:Fd)(A:Around)(ρ:LA->Addr)(σ:MH)(s:Shared)(loc:Loc)(Q:MV->MH->Prop)(X:Addr->MH->Prop)(r:Result)(s':Shared):Prop:=match r with
 | .ok (.ret v)=>Out cx n fd A ρ σ s VR (λv l σ'=>l=loc/\Q v σ') v s'
 | .ok _=>False
 | .error e=>eA cx n fd A ρ σ s (λC l σ'=>l=loc/\X C σ') e s'
noncomputable def kD(cx:Cx)(n:Nat)(f:Value)(args:List MV)(m:PH MV):Prop:=
 ∀fd A ρ σ loc s vs Q X,Good cx n fd A ρ σ loc s->cR ρ σ.us s.heap args vs->m σ Q X->codeN cx.M A (.call f ⟨vs,[]⟩) (Km cx n fd A ρ σ s loc Q X) s
theorem gC : ∀ (ns:List (Str×NameKind))(L L':Nat)(a a':List (Str×Addr)),a.map (·.1)=a'.map (·.1)->(cellsFrom L ns a).map (·.1)=(cellsFrom L' ns a').map (·.1)
 | [],_,_,_,_,h=>h
 | (x,k)::r,L,L',a,a',h=>by
  dsimp only[cellsFrom]
  split
  ·exact gC r _ _ _ _ (by rw[List.map_cons];exact ah _ h)
  ·exact gC r _ _ _ _ h
theorem lookup_mem{x:Str}:∀ {cs:List (Str×Addr)},x∈cs.map (·.1)->(cs.lookup x).isSome=true
 | (y,c)::r,h=>by
  refine (ah _ List.lookup_cons).trans ?_
  by_cases q : x==y
  ·refine ae q▸ ?_;rfl
  ·have q' : (x==y)=false:=by simpa using q
   refine ae q'▸ ?_
   rcases aK.mp h with z | z
   ·exact absurd (eI.mpr z) q
   ·exact lookup_mem z
theorem th{x:Str}{c:Addr}:∀ {cs:List (Str×Addr)},(cs.map (·.1)).Nodup->(x,c)∈cs->cs.lookup x=some c
 | (y,d)::r,nd,h=>by
  replace nd:=List.nodup_cons.mp nd
  refine (List.lookup_cons).trans ?_
  refine Or.elim (aK.mp h) (λz=> ?_) λz=> ?_
  ·cases z;simp
  ·have : x≠y:=λq=>nd.1 (q▸cq.mpr ⟨_,z,rfl⟩)
   refine ae (show (x==y)=false by simpa using this)▸ ?_;exact th nd.2 z
structure uf where
 addr : Addr
 fn : FuncData
 body : List Stmt
 names : List Str
 arity : Nat
 dv : List Value
 dm : List MV
structure sj(cx:Cx)(d:uf):Prop where
 obj : ∃o,cx.h0.get? d.addr=some o/\o.data= .func d.fn
 code : cx.h0.CodeRec d.fn.code d.fn.qualname
 co : d.fn.scope.isCoroutine=false
 gen : d.fn.scope.isGenerator=false
 body : d.fn.body= .stmts d.body
 kind : d.fn.scope.kind= .function
 Na : d.fn.closure=[]
 gl : d.fn.globals=mainGlobals
 bi : d.fn.builtins=builtinsNs
 nd : (d.names.take d.arity).Nodup
 ar : d.arity<=d.names.length
 par : ∀x∈d.names.take d.arity,d.fn.scope.names.lookup x=some .local∨(d.fn.scope.names.lookup x=some .cell/\x∈(cellsFrom 0 d.fn.scope.names []).map (·.1))
 cn : ((cellsFrom 0 d.fn.scope.names []).map (·.1)).Nodup
 dl : d.dm.length=d.dv.length
 dr : ∀ρ U h,cR ρ U h d.dm d.dv
 bind : ∀ (s:Shared)(vals:List Value),(∀b o,cx.h0.get? b=some o->s.heap.get? b=some o)->vals.length<=d.arity->d.arity<=vals.length+d.dv.length->
  BindsTo s d.fn ⟨vals,[]⟩ ((d.names.take d.arity).zip (vals++d.dv.drop (d.dv.length - (d.arity - vals.length))))
noncomputable abbrev Fd.call(fd:Fd)(d:uf)(L:Addr):Fd:=
 { env:=callEnvC d.fn L d.addr,names:=d.names,cI:=L::(callEnvC d.fn L d.addr).cells.map (·.2),outer:=fd.gB,gB:=callEnvC d.fn L d.addr::fd.gB }
theorem tf(k:Str->Option NameKind)(x:Str):∀ (b:List (Str×Value))(m:Str->Option Value),x∉b.map (·.1)->bindL k b m x=m x
 | [],_,_=>rfl
 | (y,v)::r,m,h=>by
  rw[List.map_cons,aK] at h;replace h:=not_or.mp h
  refine ((tf k x r _ h.2)).trans ?_
  split
  ·simp[h.1]
  ·rfl
theorem tc(k:Str->Option NameKind)(x:Str):∀ (b:List (Str×Value))(m:Str->Option Value),x∉b.map (·.1)->bindC k b m x=m x
 | [],_,_=>rfl
 | (y,v)::r,m,h=>by
  rw[List.map_cons,aK] at h;replace h:=not_or.mp h
  refine ((tc k x r _ h.2)).trans ?_
  split
  ·rfl
  ·simp[h.1]
theorem yC(k:Str->Option NameKind):∀ (b:List (Str×Value))(m c:Str->Option Value)(i:Nat)(x:Str)(v:Value),(b.map (·.1)).Nodup->b[i]?=some (x,v)->
  (k x=some .local->bindL k b m x=some v)/\(k x≠some .local->bindC k b c x=some v)
 | [],_,_,_,_,_,_,h=>by simp at h
 | (y,w)::r,m,c,0,x,v,nd,h=>by
  simp only[List.getElem?_cons_zero,Option.some.injEq,Prod.mk.injEq] at h
  obtain⟨rfl,rfl⟩:=h
  rw[List.map_cons,List.nodup_cons] at nd
  refine⟨λq=> ?_,λq=> ?_⟩
  ·rw[bindL];refine ((tf k y r _ nd.1)).trans ?_;rw[if_pos q];simp
  ·rw[bindC];refine ((tc k y r _ nd.1)).trans ?_;rw[if_neg q];simp
 | (y,w)::r,m,c,i+1,x,v,nd,h=>by
  simp only[List.getElem?_cons_succ] at h
  rw[List.map_cons,List.nodup_cons] at nd
  refine dA (yC k r (if k y=some .local then λz=>if z=y then some w else m z else m) (if k y=some .local then c else λz=>if z=y then some w else c z) i x v nd.2 h) λh1 h2=> ?_
  exact⟨λq=>by exact h1 q,λq=>by exact h2 q⟩
noncomputable def ux(d:uf)(args:List MV):Loc:=(args++d.dm.drop (d.dm.length - (d.arity - args.length))).map some++List.replicate (d.names.length - d.arity) none
section
variable {cx:Cx}{n:Nat}{fd:Fd}{A:Around}{ρ ρ':LA->Addr}{σ σ':MH}{loc:Loc}{s s₁:Shared}{d:uf}
theorem sM{as:List MV}{k i:Nat}{mv:MV}(h:(as.map some++List.replicate k none)[i]?=some (some mv)):as[i]?=some mv:=by
 rw[List.getElem?_append] at h
 split at h
 ·rw[bc] at h
  exact (by refine aT (bl.mp h) λ_ h1 h2=> ?_;exact h1.trans h2)
 ·replace h:=List.getElem?_replicate▸h
  split at h<;>exact nomatch h
theorem zS{names:List Str}{ar k:Nat}{E:Env}{U:LA->Prop}{h:Heap}{as:List MV}{xs:List Value}(nd:(names.take ar).Nodup)(hle:ar<=names.length)(all:cR ρ U h as xs)(al:as.length=ar)
  (ns:h.Ns E.locals (bindL E.kindOf ((names.take ar).zip xs) λ_=>none))(hp:∀x∈names.take ar,E.kindOf x=some .local∨∃c,E.cells.lookup x=some c)
  (hc:∀x c,E.cells.lookup x=some c->h.IsCell c (bindC E.kindOf ((names.take ar).zip xs) (λ_=>none) x)):ii ρ U h E names (as.map some++List.replicate k none):=by
 refine⟨_,ns,λi x mv hx hl=> ?_⟩
 refine aT (all.get (sM hl)) λv hv1 hv2=> ?_
 have hx' : (names.take ar)[i]?=some x:=by refine (List.getElem?_take).trans ?_;refine ((if_pos (al▸(be.mp (sM hl)).1))).trans ?_;exact hx
 obtain⟨b1,b2⟩:=yC E.kindOf _ (λ_=>none) (λ_=>none) i x v (by rw[List.map_fst_zip (by refine ae bK▸ae all.len▸ae al▸ ?_;exact Nat.min_le_left _ _)];exact nd) (List.getElem?_zip_eq_some.mpr ⟨hx',hv1⟩)
 refine⟨λq=>⟨v,b1 q,hv2⟩,λq=> ?_⟩
 have q' : E.kindOf x≠some .local:=by refine Or.elim q (λq=> ?_) λq=> ?_<;>rw[q]<;>decide
 refine cN ((hp x (au hx')).resolve_left q') λc e=> ?_
 exact⟨c,v,e,b2 q'▸hc x c e,hv2⟩
structure qL(cx:Cx)(n:Nat)(gB:List Env)(A:Around)(ρ:LA->Addr)(σ:MH)(s:Shared):Prop where
 obj : ∀l o,σ.get l=some o->σ.us l/\lM cx.prog cx.w ρ σ.us s.heap (ρ l) o
 inj : ∀l l',σ.us l->σ.us l'->ρ l=ρ l'->l=l'
 low : ∀l,σ.us l->cx.h0.objs.size<=ρ l/\∃o,s.heap.get? (ρ l)=some o/\¬IsTup o
 top : ∀b o,cx.h0.get? b=some o->s.heap.get? b=some o
 sz : cx.h0.objs.size<=s.heap.objs.size
 fr : ∀a∈gB.filterMap (·.frame),At cx.h0.objs.size ρ σ.us s.heap a .dict
 km : ∀e∈gB,e.scope.kind≠ .module/\∃L,e.frame=some L
 ak : LJ n A gB
 gens : s.gens=#[]
theorem Good.base(G:Good cx n fd A ρ σ loc s):qL cx n fd.gB A ρ σ s:=
 ⟨G.obj,G.inj,G.low,G.top,G.oR,λa m=>⟨(G.Jw a m).1,(G.Jw a m).2,(by refine iE (G.Jy a m) λo es ep e d=> ?_;exact⟨o,e,es,ep,d⟩)⟩,λe he=>by
  rcases G.KV with q | ⟨q,qf,qk⟩
  ·exact G.st.km e (q▸he)
  ·refine Or.elim (aK.mp (q▸he)) (λz=> ?_) λz=> ?_
   ·exact z▸⟨qk,_,qf⟩
   ·exact G.st.km e z,G.ak,G.gens⟩
variable {gB:List Env}
theorem qL.Jg(G:qL cx (n+1) gB A ρ σ s){E:Env}{names:List Str}{loc':Loc}(hf:E.frame=some E.locals)(hk:E.scope.kind≠ .module)(hL:s.heap.objs.size<=E.locals)(ap:E.cells.Pairwise λx y=>x.2≠y.2)(ab:∀c∈E.cells,E.locals < c.2)
  (keep:∀a o,s.heap.get? a=some o->s₁.heap.get? a=some o)(lr:ii ρ σ.us s₁.heap E names loc')(hc:∀c∈E.cells,∃o,s₁.heap.get? c.2=some o/\∃v,o.data= .cell v)(hg:s₁.gens=#[]) :
  Good cx n { env:=E,names,cI:=E.locals::E.cells.map (·.2),outer:=gB,gB:=E::gB } (A.deeper E) ρ σ loc' s₁:=by
 have new : ∀a,s.heap.objs.size<=a->cx.h0.objs.size<=a/\(∀l,σ.us l->ρ l≠a)/\a∉gB.filterMap (·.frame):=λa h=>
  ⟨ad G.sz h,λl u q=>let ⟨_,o,e,_⟩:=G.low l u;iL h (q▸aR e),λq=>(by refine aT ((G.fr a q).e) λo e _=> ?_;exact iL h (aR e))⟩
 have cz : ∀c∈E.cells,s.heap.objs.size<=c.2:=λc m=>ad hL (aL (ab c m))
 have cI : ∀a∈E.locals::E.cells.map (·.2),s.heap.objs.size<=a/\∃o,s₁.heap.get? a=some o/\¬IsTup o:=λa m=>by
  refine Or.elim (aK.mp m) (λq=> ?_) λq=> ?_
  ·exact q▸⟨hL,(by refine JW lr.ns λ_ o _ _ e d _=> ?_;exact⟨o,e,ca d⟩)⟩
  ·exact let ⟨c,m,e⟩:=cq.mp q;e▸⟨cz c m,(by obtain⟨o,z,_,d⟩:=hc c m;exact⟨o,z,je d⟩)⟩
 refine⟨λl o e=>have z:=G.obj l o e;⟨z.1,z.2.mono (⟨λ_ u=>⟨u,rfl⟩,λa o e _=>keep a o e⟩) (keep _)⟩,G.inj,λl u=>let ⟨a,o,b,c⟩:=G.low l u;⟨a,o,keep _ _ b,c⟩,λb o e=>keep b o (G.top b o e),lr,λsp=> ?_,
  ⟨.head _,ap,λc m=>Nat.ne_of_gt (ab c m),λa m=>(new a (cI a m).1).2.2,λc m=>(new _ (cz c m)).2.2,G.km, .inr ⟨rfl,hf,hk⟩⟩, ?_,hg⟩
 ·induction sp with
  |cI h=>have z:=cI _ h;have y:=new _ z.1;exact⟨y.1,y.2.1,z.2⟩
  |cell h=>have y:=new _ (cz _ h);exact⟨y.1,y.2.1,hc _ h⟩
  |frame h=>exact have p:=G.fr _ h;⟨p.z,p.u,(by refine aT p.e λo e d=> ?_;exact⟨o,keep _ o e,d⟩)⟩
 ·have ak:=G.ak
  refine⟨ak.hh, ?_, ?_, ?_⟩
  ·exact Kb ak.dep (bb (aj rfl) _)
  ·exact Kx ak.un (bb (aj rfl) _)
  ·show A.frames.map _=_;refine (ah _ ak.fr).trans ?_;rfl
theorem qL.enter(G:qL cx (n+1) gB A ρ σ s)(F:sj cx d){args:List MV}{vals:List Value}(hv:cR ρ σ.us s.heap args vals)(h1:args.length<=d.arity)(h2:d.arity<=args.length+d.dm.length)
  (I:InCallC s (callEnvC d.fn s.heap.objs.size d.addr).locals (bindL (callEnvC d.fn s.heap.objs.size d.addr).kindOf ((d.names.take d.arity).zip (vals++d.dv.drop (d.dv.length - (d.arity - vals.length)))) λ_=>none) (callEnvC d.fn s.heap.objs.size d.addr).cells
    (bindC (callEnvC d.fn s.heap.objs.size d.addr).kindOf ((d.names.take d.arity).zip (vals++d.dv.drop (d.dv.length - (d.arity - vals.length)))) λ_=>none) s₁) :
  Good cx n ⟨callEnvC d.fn s.heap.objs.size d.addr,d.names,s.heap.objs.size::(callEnvC d.fn s.heap.objs.size d.addr).cells.map (·.2),gB,callEnvC d.fn s.heap.objs.size d.addr::gB⟩ (A.deeper (callEnvC d.fn s.heap.objs.size d.addr)) ρ σ (ux d args) s₁:=by
 have k : fh ρ σ.us s.heap ρ σ.us s₁.heap:=⟨λ_ u=>⟨u,rfl⟩,λa o e _=>I.toInCall.keep a o e⟩
 have fst : (callEnvC d.fn s.heap.objs.size d.addr).cells.map (·.1)=(cellsFrom 0 d.fn.scope.names []).map (·.1):=gC _ _ _ [] [] rfl
 have hp : ∀x∈d.names.take d.arity,(callEnvC d.fn s.heap.objs.size d.addr).kindOf x=some .local∨∃c,(callEnvC d.fn s.heap.objs.size d.addr).cells.lookup x=some c:=λx m=>
  (F.par x m).imp_right λz=>cb.mp (lookup_mem (fst▸z.2))
 have hg : s₁.gens=#[]:=(by refine fu I.toInCall.same λ_ _ e=> ?_;exact e▸G.gens)
 refine G.Jg rfl (by refine ae (show (callEnvC d.fn s.heap.objs.size d.addr).scope=d.fn.scope from rfl)▸ae F.kind▸ ?_;decide) (aG _) I.apart (λc m=>I.above c.1 c.2 m) I.toInCall.keep ?_ (λc m=>(by refine aT (I.cell c.1 c.2 (th (fst▸F.cn) m)) λo e dd=> ?_;exact⟨o,e,_,dd⟩)) hg
 generalize callEnvC d.fn s.heap.objs.size d.addr=E at *
 have vl : vals.length=args.length:=hv.len
 have ds : (d.dm.drop (d.dm.length - (d.arity - args.length))).length=d.arity - args.length:=List.length_drop.trans (Nat.sub_sub_self (Nat.sub_le_iff_le_add'.mpr h2))
 refine zS F.nd F.ar (cR.append (hv.mono k) (by refine ae vl▸ae F.dl▸ ?_;exact (F.dr _ _ _).drop _)) (by refine (aA).trans ?_;refine (ah _ ds).trans ?_;exact Nat.add_sub_of_le h1) I.toInCall.ns hp I.cell
noncomputable abbrev fZ : MF->MV
 | .ret v=>v
 |_=> .none
noncomputable abbrev PH.fn(d:uf)(args:List MV)(m:P MF):PH MV:=λσ Q X=>(args.length<=d.arity/\d.arity<=args.length+d.dm.length)/\m (ux d args) σ (λf _ σ'=>Q (fZ f) σ') (λC _ σ'=>X C σ')
theorem rf{body:List Stmt}{env:Env}{prog:Program}{w:World}{R:Result->Shared->Prop}
  (h:cW (model prog w) (A.deeper env) (execs body env) (λf s'=>R (.ok (.ret (match f with | .ret v=>v | _=> .none))) s')
   (λe s'=>cW (model prog w) (A.deeper env) (leaving env e) (λ_ s''=>R (.error e) s'') (λe' s''=>R (.error e') s'') s') s) :
  codeN (model prog w) A (.func body env) R s:=by
 refine bP (λ_ _ _ _=>rfl) ?_
 show cW _ (A.deeper env) (do point;match<-(execs body env).onRaise (leaving env) with | .ret v=>ret v | _=>ret .none) _ _ s
 refine ai (.of (wpAny_point (ai (dw (aD h (λf s' h'=> ?_) λ_ _ h'=>h')))))
 cases f<;>exact ax h'
noncomputable abbrev uf.bound(d:uf)(vals:List Value):List (Str×Value):=(d.names.take d.arity).zip (vals++d.dv.drop (d.dv.length - (d.arity - vals.length)))
noncomputable abbrev uf.env(d:uf)(L:Addr):Env:=callEnvC d.fn L d.addr
theorem om(F:sj cx d){vals:List Value}(top:∀b o,cx.h0.get? b=some o->s.heap.get? b=some o)(hdep:A.depth < recursionLimit)(h1:vals.length<=d.arity)(h2:d.arity<=vals.length+d.dv.length){Q:Fin->Shared->Prop}{E:Value->Shared->Prop}
  (h:∀s₁,InCallC s (d.env s.heap.objs.size).locals (bindL (d.env s.heap.objs.size).kindOf (d.bound vals) λ_=>none) (d.env s.heap.objs.size).cells (bindC (d.env s.heap.objs.size).kindOf (d.bound vals) λ_=>none) s₁->Q (.again (.func d.body (d.env s.heap.objs.size))) s₁) :
  wpAny cx.M A (callAny (.ref d.addr) ⟨vals,[]⟩) Q E s:=by
 refine aT F.obj λo ho hd=> ?_
 refine EV F.code λc oc vs tq hc hoc hdc hq=> ?_
 refine af (wpAny_load (top _ _ ho) ?_)
 simp only[hd,callFunction,F.co,F.gen,F.body,hc,F.Na,F.gl,F.bi]
 refine af (m:=field (.ref c) 1) (wpAny_field (top _ _ hoc) hdc hq (af (ao (af (F.bind s vals top h1 h2 _ _ _ _ ?_)))))
 refine af (wpAny_newFunctionEnv_cells F.kind (λx hx=> ?_) λenv he s₁ I=> ?_)
 ·exact (F.par x.1 (List.of_mem_zip hx).1).imp_right λz=>⟨z.1,lookup_mem (by rw[gC _ _ 0 [] [] rfl];exact z.2)⟩
 have he : env=d.env s.heap.objs.size:=by refine (he).trans ?_;delta uf.env callEnvC;exact ae F.gl▸ae F.bi▸ae hc▸rfl
 subst he
 exact af (wpAny_enterFrame ((by refine aT cx.nl λmc q1 q2=> ?_;exact⟨mc,q1.keeps λb o z=>I.toInCall.keep b o (top b o z),q2⟩)) hdep (ao (h s₁ I)))
theorem EA{args:List MV}{m:P MF}(F:sj cx d)(hb:∀fd L,jH cx n (Fd.call fd d L) d.body m):kD cx (n+1) (.ref d.addr) args (PH.fn d args m):=by
 intro fd A ρ σ loc s vals Q X G hv hm
 have zo0_:=hm.1;have h1:=zo0_.1;have h2:=zo0_.2
 refine bP (λ_ _ _ _=>rfl) (.of (om F G.top (by have:=G.ak.dep;show A.depth < _;exact az (Nat.le_add_right_of_le (Nat.le_add_right_of_le (aG _))) this) (hv.len▸h1) (by refine ae hv.len▸F.dl▸ ?_;exact h2) λs₁ I=>And.intro rfl ?_))
 have G1:=G.base.enter F hv h1 h2 I
 have I0:=I.toInCall
 have hmine : ∀a∈(Fd.call fd d s.heap.objs.size).cI,s.heap.get? a=none:=λa m=>by
  cases q : s.heap.get? a with
  |none=>rfl
  |some o=>
   rcases aK.mp m with z | z
   ·exact (iL (aw z.symm) (aR q)).elim
   ·exact (by refine aT (cq.mp z) λc hc e=> ?_;exact (iL (aL (I.above c.1 c.2 hc)) (e▸aR q)).elim)
 refine rf (aD (hb fd s.heap.objs.size _ ρ σ _ s₁ _ _ G1 trivial hm.2) (λf s₂ y=> ?_) λe s₂ y=> ?_)
 ·obtain⟨mf,ρ',σ',l',S,G2,r,hq⟩:=y
  refine dA (G.back I0.same I0.keep S G2 rfl hmine) λG3 S3=> ?_
  refine⟨fZ mf,ρ',σ',loc,S3,G3, ?_,rfl,hq⟩
  induction r with
  |ret r=>exact r
  |_=>exact .none
 ·obtain⟨e',C,ρ',σ',l',rfl,S,G2,x,hx⟩:=y
  refine .of (G2.left G1.top S x (λa h=> ?_) rfl rfl (by refine ae (show (Fd.call fd d s.heap.objs.size).env.scope=d.fn.scope from rfl)▸ae F.kind▸ ?_;decide) λs₃ G3 S3 x3=> ?_)
  ·rcases h with h | ⟨c,h,rfl⟩
   ·exact G1.own h
   ·exact (by refine aT ((G1.foot (.cell h)).e) λo e _=> ?_;exact⟨o,e⟩)
  ·refine dA (G.back I0.same I0.keep S3 G3 rfl hmine) λG4 S4=> ?_
   exact⟨e',C,ρ',σ',loc,rfl,S4,G4,(x3.any).le λa o z=>⟨o,I0.keep a o z⟩,rfl,hx⟩
end
end Internal
namespace Internal
open PySem PySem.W PyProof.Rows PySem.Calls Builtin Builtin.ObjectAttr Builtin.Getset_descriptor
section
variable {prog:Program}{w:World}{A:Around}{C:Addr}{R:Result->Shared->Prop}{s:Shared}
theorem eV{id:String}{args:Args}{b:Builtin}(ok:im (.builtin id args))(hq:(Code.builtin id args).quiet=true)(hb:entryFor table id=some b)
  (h:wpAny (model prog w) A.in1 (checkBuiltinCall id args) (λ_ s₁=>cW (model prog w) (A.under (.builtin id args)) (b args)
   (λfin s'=>match fin with | .done f=>R (.ok f) s' | .again c'=>c'.quiet=true/\codeN (model prog w) A c' R s') (λe s'=>R (.error e) s') s₁)
   (λe s'=>R (.error e) s') s):codeN (model prog w) A (.call (.builtin id) args) R s:=by
 refine bP (λ_ _ _ _=>rfl) ?_
 refine ai (.of (wpAny_mono h (λ_ s₁ h₁=>ax (And.intro hq (bP ok ?_))) λ_ _ h'=>h'))
 show cW _ _ (match entryFor table id with | some b=>b args | none=>unsupported ((withoutEnding? id "#data").getD id)) _ _ s₁
 refine ae hb▸ ?_;exact h₁
theorem Id{rest:List Value}{init:Value}(Y:Makes (model prog w) s.heap C)(hi:Looks (model prog w) s.heap (typeLookup (.ref C) "__init__") (some init))
  (hb:∀self,Looks (model prog w) s.heap (bindSpecial init self) (init,[self]))(hne:(some init != some (Value.builtin "object.__init__"))=true)
  (hq:codeN (model prog w) (A.under (.builtin "type.__call__" ⟨.ref C::rest,[]⟩)) (.call init ⟨.ref (s.heap.objs.size+1)::rest,[]⟩) (InitBack (s.heap.objs.size+1) R) { s with heap:=(s.heap.push emptyDict).push (instObj C s.heap.objs.size) }) :
  codeN (model prog w) A (.call (.ref C) ⟨rest,[]⟩) R s:=by
 have Y':=Y
 obtain⟨⟨oc,od,cd,sl,hC,e1,e2,e4⟩,made,base,self,top,call,typ⟩:=Y
 refine bP (λ_ _ _ _=>rfl) ?_
 show cW _ _ (callAny (.ref C) _) _ _ _
 refine ai (.of (wpAny_load hC ?_))
 skip
 refine ai (.of (call.here ?_))
 dsimp only
 refine ai (ax (ai (ax ?_)))
 refine ax (a:=Fin.again (.call (.builtin "type.__call__") ⟨.ref C::rest,[]⟩)) (And.intro rfl ?_)
 refine eV (λ_ v _ _=>ET (x:=Builtin.Bytes.sameRef _ v)) (Code.quiet_builtin _ (by decide +kernel)) entry_typeCall (check_slot tc_kind tc_split typ (tc_args _ _ _) ?_)
 unfold Builtin.«type.__call__»
 dsimp only
 refine ai (.of ((show Looks (model prog w) s.heap (mroOf (.ref C)) cd.mro from ((Looks.ld (part:=none) hC).andThen .now).andThen .now).here ?_))
 refine ae e4▸ ?_
 refine ai (.of (made.here ?_))
 refine ai (ax ?_)
 refine ai (aJ (.of (wpAny_call ?_)))
 obtain⟨hh,g,d,t,os⟩:=s
 refine new_K Y' hi (.inl hne) ?_
 have k : ∀b o,hh.get? b=some o->((hh.push emptyDict).push (instObj C hh.objs.size)).get? b=some o:=λb o e=>aI _ (aI _ e)
 have t1 : Looks (model prog w) ((hh.push emptyDict).push (instObj C hh.objs.size)) (typeOf (.ref (hh.objs.size+1))) (.ref C):=(Looks.ld (by heap_get)).andThen .now
 have inst : Looks (model prog w) ((hh.push emptyDict).push (instObj C hh.objs.size)) (isInstance (.ref (hh.objs.size+1)) (.ref C)) true:=t1.andThen (self.keeps k)
 refine ai (.of (inst.at ?_))
 refine ai (aJ ?_)
 dsimp only[callSpecial?,specialOf]
 refine ai (ai (.of (t1.at ?_)))
 refine .of ((hi.keeps k).at ?_)
 refine aJ (ai (.of (((hb (.ref (hh.objs.size+1))).keeps k).at ?_)))
 refine ai (iN ?_)
 refine eU hq λr s' z=> ?_
 rcases r with e | (v | _ | _ | _)<;>first | exact z | exact z.elim | skip
 obtain⟨rfl,z⟩:=z
 exact ax (ax z)
end
noncomputable abbrev PH.new(C:Addr)(init:MV->PH MV):PH MV:=λσ Q X=>∃l d,(¬σ.us l/\¬σ.us d/\l≠d)/\
 init (.ref l) ((σ.new d (.ns [])).new l (.inst C d)) (λv σ'=>(match v with | .none=>Q (.ref l) σ' | _=>False)) X
structure GO(cx:Cx)(C init:Addr):Prop where
 makes : makesIn cx.K C=true
 Mt : findIn cx.K (.ref C) "__init__" = some (some (.ref init))
 fn : typeIn cx.K (.ref init)=some (.type "function")
section
variable {cx:Cx}{n:Nat}{fd:Fd}{A:Around}{ρ ρ':LA->Addr}{σ σ':MH}{loc:Loc}{s s₁:Shared}
theorem Good.lower{A':Around}(G:Good cx (n+1) fd A ρ σ loc s)(h1:A'.handled=A.handled)(h2:A'.depth<=A.depth+4)(h3:A'.units<=A.units+40)(h4:A'.frames=A.frames):Good cx n fd A' ρ σ loc s:=
 ⟨G.obj,G.inj,G.low,G.top,G.loc,G.foot,G.st,⟨h1.trans G.ak.hh,Kb G.ak.dep h2,Kx G.ak.un h3,h4.trans G.ak.fr⟩,G.gens⟩
theorem Good.raise{A':Around}{n':Nat}(G:Good cx n fd A ρ σ loc s)(k:LJ n' A' fd.gB):Good cx n' fd A' ρ σ loc s:=
 ⟨G.obj,G.inj,G.low,G.top,G.loc,G.foot,G.st,k,G.gens⟩
theorem uE{C d:Addr}:¬IsTup (instObj C d):=j8 (by intro h;cases h)
theorem mO{h:Heap}{a:Addr}(e:h.get? a=some emptyDict):h.Ns1 a λ_=>none:=
 ⟨_,_,_,e,rfl,λen he=>by simp at he,List.Pairwise.nil,λ_=>rfl⟩
theorem Cg{C init:Addr}{args:List MV}{m:MV->PH MV}(K:GO cx C init)(hi:∀l,kD cx n (.ref init) (.ref l::args) (m (.ref l))):kD cx (n+1) (.ref C) args (PH.new C m):=by
 intro fd A ρ σ loc s vals Q X G hv hm
 refine ey hm λl d zo2_ hm=> ?_;refine ip zo2_ λhl hd hne=> ?_
 have XK : cx.K.In s.heap:=cx.X.keeps G.top
 refine Id (makes_of XK K.makes) (looks_findIn XK K.Mt) (λself=>bind_fn XK self K.fn) rfl ?_
 refine cN (Ad ρ d s.heap.objs.size) λρ1 N1=> ?_
 refine dA (G.alloc hd N1 (o':= .ns []) s.toks (.push emptyDict) (aG _) (aP _ rfl) (ca rfl) λk=>⟨_,mO (aP _ rfl),λx=> .no,λy hy=>absurd rfl hy⟩) λG1 S1=> ?_
 have e2:=aP (s.heap.push emptyDict) (o:=instObj C s.heap.objs.size) rfl
 replace e2:=(Heap.size_push ..)▸e2
 obtain⟨ρ2,N2⟩:=Ad ρ1 l (s.heap.objs.size+1)
 obtain⟨G2,S2⟩:=G1.alloc (λq=>q.elim hne hl) N2 (o':= .inst C d) s.toks (.push (instObj C s.heap.objs.size)) (by rw[Heap.size_push];exact aG _) e2 uE λk=>
  ⟨e2.trans (ah (λx=>some (instObj C x)) ((N2.old d (Ne.symm hne)).trans N1.here).symm), .inr (.inl rfl)⟩
 have G3:=G2.lower (A':=A.under (.builtin "type.__call__" ⟨.ref C::vals,[]⟩)) rfl (by show A.depth+Code.weight _<=_;refine ae (show Code.weight (.builtin "type.__call__" ⟨.ref C::vals,[]⟩)=1 by kernel_rfl)▸ ?_;exact bb (by decide) _) (by show A.units+Code.cUnits _<=_;refine ae (show Code.cUnits (.builtin "type.__call__" ⟨.ref C::vals,[]⟩)=1 by kernel_rfl)▸ ?_;exact bb (by decide) _) (by
  show pushEnvs (Code.envs (.builtin "type.__call__" ⟨.ref C::vals,[]⟩)) A.frames=A.frames
  rfl)
 have S12:=S1.trans S2
 refine eU (hi l fd _ _ _ loc _ _ _ X G3 (cR.cons (v:= .ref l) (N2.ref (σ:=σ.new d (.ns [])) (o:= .inst C d) (h:=(s.heap.push emptyDict).push (instObj C s.heap.objs.size))) (hv.mono (S12.keeps G))) hm) λr s' y=> ?_
 rcases r with e | (_ | _ | _ | v)
 ·obtain⟨e',C',ρ',σ',l',rfl,S,G4,x,rfl,hx⟩:=y
  exact⟨e',C',ρ',σ',_,rfl,S12.trans S,G4.raise G.ak,x.le S12.ex,rfl,hx⟩
 ·exact y.elim
 ·exact y.elim
 ·exact y.elim
 ·obtain⟨a,ρ',σ',l',S,G4,r,rfl,hq⟩:=y
  cases a<;>first | exact hq.elim | skip
  refine⟨r.none_inv, .ref l,ρ',σ',_,S12.trans S,G4.raise G.ak, ?_,rfl,hq⟩
  exact ((S.us l (.inl rfl)).2.trans N2.here)▸VR.ref (S.us l (.inl rfl)).1
end
end Internal
namespace Internal
open PySem PySem.W PyProof.Rows PySem.Calls
section
variable {cx:Cx}{n:Nat}{fd:Fd}
noncomputable abbrev jP(cx:Cx)(n:Nat)(fd:Fd)(pos:Pos)(es:List Expr)(m:P (List MV)):Prop:=eQ cx n fd cR (spliced (backTo pos (starEach es fd.env))) m
noncomputable def cm(e:Expr):Bool:=e.ctorIdx != 22
theorem fm{e:Expr}{rest:List Expr}{env:Env}(h:cm e=true):starEach (e::rest) env=(false,eval e env)::starEach rest env:=by
 cases e<;>first | rfl | cases h
theorem oK{pos:Pos}:jP cx n fd pos [] (P.ret []):=aM.pure λ_ _ _ _=> .nil
theorem lP{pos:Pos}{e:Expr}{es:List Expr}{m:P MV}{ms:P (List MV)}(hp:cm e=true)(h:bO cx n fd e m)(hs:jP cx n fd pos es ms) :
  jP cx n fd pos (e::es) (m.bind λa=>ms.bind λas=>P.ret (a::as)):=by
 have q : spliced (backTo pos (starEach (e::es) fd.env))=(eval e fd.env >>= λv=>pure [v] >>= λhere=>holding here (spliced (backTo pos (starEach es fd.env))) >>= λr=>pure (here++r)):=by
  rw[fm hp];rfl
 show eQ cx n fd cR _ _
 refine ae q▸ ?_
 refine aM.bind h λa v=> ?_
 show aM cx n fd _ cR (holding [v] (spliced (backTo pos (starEach es fd.env))) >>= λr=>pure ([v]++r)) _
 refine aM.bind (aM.holding (aM.frame (bM.vr (mv:=a) (v:=v)) hs |>.weak λ_ _ _ q=>⟨trivial,q⟩)) λas vs=> ?_
 exact aM.pure λ_ _ _ q=> .cons q.2 q.1
theorem fq(pos:Pos):∀ {es:List Expr}{env:Env},es.all cm=true->(backTo pos (starEach es env)).any (·.1)=false/\(backTo pos (starEach es env)).length=es.length
 | [],_,_=>⟨rfl,rfl⟩
 |e::es,env,h=>by
  replace h:=(Bool.and_eq_true ..).mp h
  refine dA (fq pos (es:=es) (env:=env) h.2) λa b=> ?_
  refine ae (fm h.1)▸ ?_
  refine⟨?_, ?_⟩
  ·show (false||(backTo pos (starEach es env)).any (·.1))=false;refine (a).trans ?_;rfl
  ·show (backTo pos (starEach es env)).length+1=_;refine (ah _ b).trans ?_;rfl
noncomputable abbrev cP(cx:Cx)(n:Nat)(fd:Fd)(f:Value)(c:List MV->P MV):Prop:=∀as vs,aM cx n fd (λρ U h=>cR ρ U h as vs) VR (call f vs) (c as)
theorem cP.of{f:Value}{c:List MV->PH MV}(h:∀as,kD cx n f as (c as)):cP cx n fd f λas=>P.MR (c as):=by
 intro as vs A ρ σ loc s Q X G hv hm
 refine iN (eU (h as fd A ρ σ loc s vs _ _ G hv hm) λr s' y=> ?_)
 rcases r with e | (_ | _ | _ | v)
 ·obtain⟨e',C,ρ',σ',l',rfl,S,G',x,rfl,q⟩:=y
  exact⟨e',C,ρ',σ',_,rfl,S,G',x,q⟩
 ·exact y.elim
 ·exact y.elim
 ·exact y.elim
 ·obtain⟨a,ρ',σ',l',S,G',r,rfl,q⟩:=y
  exact⟨a,ρ',σ',_,S,G',r,q⟩
theorem Da{α:Type}{M:Model}{A:Around}{E:Value->Shared->Prop}{s:Shared}{vs:List Value}{m:Sem α}{Q:α->Shared->Prop}(h:cW M A m Q E s):cW M A (m.keep vs) Q E s:=
 λΓ p i d=>by rw[Sem.wp_keep];exact h Γ p i d
theorem i9{M:Model}{A:Around}{E:Value->Shared->Prop}{s:Shared}{f:Value}{args:List (Bool×Sem Value)}{Q:Args->Shared->Prop}(ha:args.any (·.1)=false)
  (h:cW M A (spliced args) (λvs s'=>Q ⟨vs,[]⟩ s') E s):cW M A (evalArgs f true args []) Q E s:=by
 cases args with
 |nil=>
  exact ai (aD h (λvs s' h'=>ai (ax (aJ (ai (ax (ai (ax (ax h')))))))) λ_ _ x=>x)
 |cons x r=>
  obtain⟨b,t⟩:=x
  have : b=false:=by rw[List.any_cons,Bool.or_eq_false_iff] at ha;exact ha.1
  subst this
  exact ai (aD h (λvs s' h'=>ai (ax (aJ (ai (ax (ai (ax (ax h')))))))) λ_ _ x=>x)
theorem nM{pos:Pos}{f:Value}{kp:Keeper}{fs:List MV}{first:List Value}{es:List Expr}{ms:P (List MV)}{c:List MV->P MV}(hk:Looks cx.M cx.h0 (keeperOf f) kp)(hkp:kp= .frame∨kp= .machine)(hes:es.all cm=true)
  (h:jP cx n fd pos es ms)(hc:cP cx n fd f c):aM cx n fd (λρ U h=>cR ρ U h fs first) VR (callWith pos f first (backTo pos (starEach es fd.env)) []) (ms.bind λas=>c (fs++as)):=by
 refine dA (fq pos (es:=es) (env:=fd.env) hes) λh1 h2=> ?_
 intro A ρ σ loc s Q X G hv hm
 unfold callWith
 refine ai (aJ ?_)
 refine i9 h1 (aD (h A ρ σ loc s _ X G trivial hm) (λvs s1 y=> ?_) λ_ _ y=>y)
 obtain⟨as,ρ1,σ1,l1,S1,G1,r1,hq⟩:=y
 refine ai (bB ?_)
 have tail : ∀ {t:Sem Value},cW cx.M A t (Out cx n fd A ρ1 σ1 s1 VR Q) (eA cx n fd A ρ1 σ1 s1 X) s1->cW cx.M A (t >>= λr=>holding [r] point >>= λ_=>pure r) (Out cx n fd A ρ σ s VR Q) (eA cx n fd A ρ σ s X) s1:=
  λht=>ai (aD ht (λr s₂ hr=>ai (aJ (.of (wpAny_point (ax (hr.pre S1)))))) λ_ _ y=>y.pre S1)
 have main:=hc (fs++as) (first++vs) A ρ1 σ1 l1 s1 Q X G1 ((hv.mono (S1.keeps G)).append r1) hq
 rw[h1,List.any_nil,Bool.or_false]
 refine ai (.of (hk A _ _ s1 (λb o e=>G1.top b o e) ?_))
 rcases hkp with rfl | rfl
 ·dsimp only
  split
  ·exact tail main
  ·exact tail (by exact Da main)
 ·exact tail main
end
noncomputable abbrev jY(cx:Cx)(f:Value):Prop:=∃k,(k=Keeper.frame∨k=Keeper.machine)/\Looks cx.M cx.h0 (keeperOf f) k
theorem fw{cx:Cx}(id:String):jY cx (.builtin id):=⟨.machine, .inr rfl,Looks.of_pure rfl⟩
theorem AI{cx:Cx}(id:String):jY cx (.type id):=⟨.machine, .inr rfl,Looks.of_pure rfl⟩
noncomputable def G8(K:Frag)(C:Addr)(x:String)(f:Addr):Bool:=plainGet K C (Str.ofString x)&&findIn K (.ref C) (Str.ofString x)==some (some (.ref f))&&isFn K (.ref f)&&keepIn K (.ref f)
structure Tb where
 aO : Addr->String->Option Addr
 am : Addr->String->Bool
structure I6(cx:Cx)(T:Tb):Prop where
 aO : ∀C x f,T.aO C x=some f->G8 cx.K C x f=true
 am : ∀C x,T.am C x=true->gu cx.K C x=true
theorem j9 : Slot "bytearray" "append" "bytearray.append" :=
 .of (owner := "bytearray") (n := "append") (by rfl) (by decide +kernel) (by decide +kernel) (by decide +kernel)
  (by first | exact .inl (by decide +kernel) | exact .inr (by decide +kernel)) (by exact (cA ..))
theorem qU : typeOf (.builtin "bytearray.append")=pure (.type "method_descriptor"):=by show builtinType _=_;rw[builtinType_eq_fast];kernel_rfl
theorem gE : Slot "bytearray" "extend" "bytearray.extend" :=
 .of (owner := "bytearray") (n := "extend") (by rfl) (by decide +kernel) (by decide +kernel) (by decide +kernel)
  (by first | exact .inl (by decide +kernel) | exact .inr (by decide +kernel)) (by exact (cA ..))
theorem ql : typeOf (.builtin "bytearray.extend")=pure (.type "method_descriptor"):=by show builtinType _=_;rw[builtinType_eq_fast];kernel_rfl
theorem DC : PlainAttrs "bytearray" :=
 ⟨⟨"bytearray.__getattribute__",by rfl,by decide +kernel⟩,by rfl⟩
noncomputable def mN(x:String):Option String:=if x = "append" then some "list.append" else if x = "remove" then some "list.remove" else if x = "index" then some "list.index" else if x = "count" then some "list.count" else none
noncomputable def uQ(x:String):Option String:=if x = "append" then some "bytearray.append" else if x = "extend" then some "bytearray.extend" else none
inductive qo(T:Tb)(x:String)(loc:Loc)(σ:MH)(Q:Value->Loc->MH->Prop):MV->Prop where
 |inst {l C d fs f} (e:σ.get l=some (.inst C d))(g:σ.get d=some (.ns fs))(n:fs.lookup x=none)(m:T.aO C x=some f)(h:Q (.ref f) loc σ):qo T x loc σ Q (.ref l)
 |list {l vs id} (e:σ.get l=some (.list vs))(m:mN x=some id)(h:Q (.builtin id) loc σ):qo T x loc σ Q (.ref l)
 |ba {l b id} (e:σ.get l=some (.bW b))(m:uQ x=some id)(h:Q (.builtin id) loc σ):qo T x loc σ Q (.ref l)
 |dI {l es} (e:σ.get l=some (.bS es))(m:x = "get") (h:Q (.builtin "dict.get") loc σ):qo T x loc σ Q (.ref l)
 |dB {l es} (e:σ.get l=some (.iS es))(m:x = "get") (h:Q (.builtin "dict.get") loc σ):qo T x loc σ Q (.ref l)
noncomputable abbrev P.method(T:Tb)(a:MV)(x:String):P Value:=λloc σ Q _=>qo T x loc σ Q a
theorem s9{x id:String}(m:mN x=some id):Slot "list" (Str.ofString x) id/\typeOf (.builtin id)=pure (.type "method_descriptor"):=by
 unfold mN at m
 by_cases q : x = "append"
 ·replace m:=(if_pos q)▸m;cases m;exact q▸⟨PySem.F.slot_list_append,PySem.F.type_list_append⟩
 replace m:=(if_neg q)▸m
 by_cases q : x = "remove"
 ·replace m:=(if_pos q)▸m;cases m;exact q▸⟨PySem.F.slot_list_remove,PySem.F.type_list_remove⟩
 replace m:=(if_neg q)▸m
 by_cases q : x = "index"
 ·replace m:=(if_pos q)▸m;cases m;exact q▸⟨PySem.F.slot_list_index,PySem.F.type_list_index⟩
 replace m:=(if_neg q)▸m
 by_cases q : x = "count"
 ·replace m:=(if_pos q)▸m;cases m;exact q▸⟨PySem.F.slot_list_count,PySem.F.type_list_count⟩
 replace m:=(if_neg q)▸m;cases m
theorem zj{x id:String}(m:uQ x=some id):Slot "bytearray" (Str.ofString x) id/\typeOf (.builtin id)=pure (.type "method_descriptor"):=by
 unfold uQ at m
 by_cases q : x = "append"
 ·replace m:=(if_pos q)▸m;cases m;exact q▸⟨j9,qU⟩
 replace m:=(if_neg q)▸m
 by_cases q : x = "extend"
 ·replace m:=(if_pos q)▸m;cases m;exact q▸⟨gE,ql⟩
 replace m:=(if_neg q)▸m;cases m
theorem zu{h:Heap}{a:Addr}{o:Obj}(e:h.get? a=some o)(d:o.dict=none):∀b,Value.ref a= .ref b->∃o,h.get? b=some o/\o.dict=none:=λb q=>by cases q;exact⟨o,e,d⟩
section
variable {cx:Cx}{n:Nat}{fd:Fd}{T:Tb}
noncomputable abbrev cg.aO(cx:Cx)(a:MV):cg Value (Value×List Value):=λρ U h f r=>r.1=f/\jY cx f/\cR ρ U h [a] r.2
theorem sH(TO:I6 cx T){a:MV}{va:Value}{x:String}{pl:Sem Bool}:mJ cx n fd (λρ U h=>VR ρ U h a va) (cg.aO cx a) (getMethod va (Str.ofString x) pl) (P.method T a x):=by
 intro A ρ σ loc s Q X G hp hm
 have fin : ∀ {f:Value},jY cx f->Q f loc σ->Out cx n fd A ρ σ s (cg.aO cx a) Q (f,[va]) s:=λk q=>Out.now G ⟨rfl,k, .cons hp .nil⟩ q
 have hr : ∀ {l},a= .ref l->va= .ref (ρ l):=λq=>(q▸hp : VR _ _ _ (.ref _) _).bU.1
 generalize Out cx n fd A ρ σ s (cg.aO cx a) Q=Q' at fin ⊢
 generalize eA cx n fd A ρ σ s X=E'
 clear hp
 induction hm with
 |inst e g nx m h=>
  have mb:=an.mp (TO.aO _ _ _ m)
  have mb2:=an.mp (an.mp mb.1).1
  refine fu (G.DX e g) λmm od i=> ?_
  have rx:=i.r.1 x
  rw[nx] at rx
  rw[hr rfl] at fin ⊢
  exact method_fn (cx.X.keeps G.top) i.I (plainGet_of mb2.1).1 (plainGet_of mb2.1).2 (eq_of_beq mb2.2) (eI.mp (an.mp mb.1).2) ((ah (Option.map _) ((mF i.ns.ns i.ho _).trans (ah some rx.nil))).trans rfl) (fin (looks_keep mb.2 cx.X) h)
 |list e m h=>
  refine ey (G.list e) λxs ep o1 _=> ?_
  rw[hr rfl] at fin ⊢
  exact getMethod_builtin ⟨_,o1,rfl⟩ PySem.F.plainAttrs_list (s9 m).1 (s9 m).2 (zu o1 rfl) (fin (fw _) h)
 |ba e m h=>
  rw[hr rfl] at fin ⊢
  exact getMethod_builtin (cu ((G.obj _ _ e).2)) DC (zj m).1 (zj m).2 (zu ((G.obj _ _ e).2) rfl) (fin (fw _) h)
 |dI e m h=>
  obtain⟨kvs,d,_⟩:=(G.obj _ _ e).2
  rw[hr rfl] at fin ⊢
  exact m▸getMethod_builtin d.typeIs PySem.F.plainAttrs_dict PySem.F.slot_dict_get PySem.F.type_dict_get d.mapOf.noDict (fin (fw _) h)
 |dB e m h=>
  obtain⟨kvs,d,_⟩:=(G.obj _ _ e).2
  rw[hr rfl] at fin ⊢
  exact m▸getMethod_builtin d.typeIs PySem.F.plainAttrs_dict PySem.F.slot_dict_get PySem.F.type_dict_get d.mapOf.noDict (fin (fw _) h)
noncomputable abbrev fk(cx:Cx)(n:Nat)(fd:Fd)(e:Expr)(f:Value):Prop:=∀A ρ σ loc s (Q E:Value->Shared->Prop),Good cx n fd A ρ σ loc s->Q f s->wpAny cx.M A (eval e fd.env) Q E s
theorem tZ{x:Str}{np pos:Pos}{f:Value}{args:List Expr}{ms:P (List MV)}{c:List MV->P MV}(hn:fk cx n fd (.Name x np) f)(hk:jY cx f)(hes:args.all cm=true)(h:jP cx n fd pos args ms)(hc:cP cx n fd f c) :
  bO cx n fd (.Call (.Name x np) args [] pos) (ms.bind c):=by
 intro A ρ σ loc s Q X G _ hm
 refine aT hk λk hk1 hk2=> ?_
 refine ai (.of (hn A ρ σ loc s _ _ G ?_))
 exact nM (fs:=[]) hk2 hk1 hes h hc A ρ σ loc s Q X G .nil hm
theorem tF(TO:I6 cx T){o:Expr}{x:String}{apos pos:Pos}{args:List Expr}{m:P MV}{ms:P (List MV)}{c:Value->List MV->P MV}(ho:bO cx n fd o m)(hb:attributeBase o (Str.ofString x) fd.env (eval o fd.env)=eval o fd.env)
  (hline:(apos.endLine==pos.line)=true)(hlen:args.length < 30)(hes:args.all cm=true)(h:∀p,jP cx n fd p args ms)(hc:∀f,cP cx n fd f (c f)) :
  bO cx n fd (.Call (.Attribute o (Str.ofString x) apos) args [] pos) (m.bind λa=>(P.method T a x).bind λf=>ms.bind λas=>c f (a::as)):=by
 have hf : methodCallForm (args.length+([]:List Keyword).length) (backTo pos (starEach args fd.env)) (backToKw pos (keywordEach [] fd.env))=true:=by
  refine dA (fq pos (es:=args) (env:=fd.env) hes) λh1 h2=> ?_
  unfold methodCallForm
  have : (backTo pos (starEach args fd.env)).all (!·.1)=true:=by
   refine (List.all_eq_not_any_not).trans ?_
   simp only[Bool.not_not]
   refine (ah _ h1).trans ?_;rfl
  refine ae this▸ ?_
  show (true&&true&&decide (args.length+0+0 < 30))=true
  simp[hlen]
 have q : eval (.Call (.Attribute o (Str.ofString x) apos) args [] pos) fd.env=(eval o fd.env >>= λov=>standAt apos.atName >>= λ_=>
   methodCall o (Str.ofString x) apos pos fd.env ov (args.length+([]:List Keyword).length) (backTo pos (starEach args fd.env)) (backToKw pos (keywordEach [] fd.env))):=by
  show (attributeBase o (Str.ofString x) fd.env (eval o fd.env) >>= _)=_
  rw[hb]
 show eQ cx n fd VR _ _
 rw[q]
 refine aM.bind ho λa va=>aM.standAt ?_
 dsimp only[methodCall]
 refine ae hf▸ ?_
 unfold methodCallPos
 simp only[Bool.not_true,Bool.false_or,hline,if_true]
 intro A ρ σ loc s Q X G hv hm
 refine ai (aJ (aD ((sH TO (a:=a) (va:=va) (x:=x)).n A ρ σ loc s _ X G hv hm) (λr s1 y=> ?_) λ_ _ y=>y))
 obtain⟨f,ρ1,σ1,l1,S1,G1,⟨r1,⟨k,hk1,hk2⟩,r3⟩,hq⟩:=y
 subst r1
 refine ai (ax ?_)
 exact aD (nM (fs:=[a]) hk2 hk1 hes (h pos) (hc _) A ρ1 σ1 l1 s1 Q X G1 r3 hq) (λ_ _ y=>y.pre S1) λ_ _ y=>y.pre S1
end
inductive It where
 |lst (l:LA)(i:Nat)
 |jK (x left step:Int)
 |nT (l:LA)(i:Nat)
 |rev (l:LA)(k:Nat)
 |rF (b:List UInt8)(i:Nat)
noncomputable def kR(ρ:LA->Addr)(h:Heap):It->Value->List Addr->Prop
 | .lst l i,v,as=>∃a,v= .ref a/\as=[a]/\h.IsListIter a (ρ l) i
 | .jK x left step,v,as=>∃a,v= .ref a/\as=[a]/\IsRangeIter h a x left step
 | .nT l i,v,as=>∃e a old,v= .ref e/\as=[e,a]/\e≠a/\IsEnum h e a (i:Nat) old/\h.IsListIter a (ρ l) i
 | .rev l k,v,as=>∃a,v= .ref a/\as=[a]/\h.IsRevIter a (ρ l) ((k:Int) - 1)
 | .rF b i,v,as=>∃a t,v= .ref a/\as=[a]/\KBw.IsBytesIter h a b.toArray t i
inductive Nx(σ:MH):It->Option (MV×It)->Prop where
 |lst {l i vs v} (e:σ.get l=some (.list vs))(g:vs[i]?=some v):Nx σ (.lst l i) (some (v, .lst l (i+1)))
 |Lc {l i vs} (e:σ.get l=some (.list vs))(g:vs[i]?=none):Nx σ (.lst l i) none
 |jK {x left step} (p:0 < left):Nx σ (.jK x left step) (some (.int x, .jK (x+step) (left - 1) step))
 |K6 {x left step} (p:¬0 < left):Nx σ (.jK x left step) none
 |nT {l i vs v} (e:σ.get l=some (.list vs))(g:vs[i]?=some v):Nx σ (.nT l i) (some (.tup [.int i,v], .nT l (i+1)))
 |Lf {l i vs} (e:σ.get l=some (.list vs))(g:vs[i]?=none):Nx σ (.nT l i) none
 |rev {l k vs v} (e:σ.get l=some (.list vs))(g:vs[k]?=some v):Nx σ (.rev l (k+1)) (some (v, .rev l k))
 |Li {l}:Nx σ (.rev l 0) none
 |rF {b i c} (g:b[i]?=some c):Nx σ (.rF b i) (some (.int c.toNat, .rF b (i+1)))
 |K2 {b i} (g:b[i]?=none):Nx σ (.rF b i) none
inductive GL(σ:MH)(it:It)(A:Prop)(B:MV->It->Prop):Prop
 |stop (h:Nx σ it none)(k:A)
 |turn {v it'} (h:Nx σ it (some (v,it')))(k:B v it')
noncomputable def c5(e:Expr):Bool:=e.ctorIdx==25
noncomputable def It.dT : It->Bool
 | .nT ..=>true
 |_=>false
section
variable {cx:Cx}{n:Nat}{fd:Fd}{A:Around}{ρ ρ':LA->Addr}{σ σ':MH}{loc:Loc}{s₀ s s':Shared}{U:LA->Prop}{ρ₀:LA->Addr}
structure gY(cx:Cx)(fd:Fd)(s₀:Shared)(ρ:LA->Addr)(U:LA->Prop)(s:Shared)(a:Addr):Prop where
 new : s₀.heap.get? a=none
 un : ∀l,U l->ρ l≠a
 cI : a∉fd.cI
 out : a∉fd.oP
 cell : ∀c∈fd.env.cells,c.2≠a
 top : ∀o,cx.h0.get? a≠some o
 ex : ∃o,s.heap.get? a=some o/\¬IsTup o
theorem gY.step(G:Good cx n fd A ρ σ loc s){a:Addr}(w:gY cx fd s₀ ρ σ.us s a)(S:Step fd ρ σ.us s ρ' σ'.us s'):gY cx fd s₀ ρ' σ'.us s' a/\∀o,s.heap.get? a=some o->s'.heap.get? a=some o:=by
 refine aT w.ex λo e nt=> ?_
 refine⟨⟨w.new,λl u q=> ?_,w.cI,w.out,w.cell,w.top,o,(λo e=>S.keep a o e w.un w.cI w.out) o e,nt⟩,(λo e=>S.keep a o e w.un w.cI w.out)⟩
 by_cases z : σ.us l
 ·rw[(S.us l z).2] at q;exact w.un l z q
 ·have:=S.fresh l u z;rw[q] at this;replace this:=e▸this;cases this
theorem gY.D7{a:Addr}{k:Kd}(w:gY cx fd s₀ ρ U s a)(sp:Spot fd a k):False:=by
 induction sp with
 |cI h=>exact w.cI h
 |cell h=>exact w.cell _ h rfl
 |frame h=>exact w.out h
theorem Good.gh(G:Good cx n fd A ρ σ loc s)(S:Step fd ρ₀ U s₀ ρ σ.us s){as:List Addr}(w:∀a∈as,gY cx fd s₀ ρ σ.us s a){h':Heap}(t:Nat)(hk:∀b o,b∉as->s.heap.get? b=some o->h'.get? b=some o) :
  Good cx n fd A ρ σ loc { s with heap:=h',toks:=t }/\Step fd ρ₀ U s₀ ρ σ.us { s with heap:=h',toks:=t }:=by
 have nw : ∀a o,s₀.heap.get? a=some o->a∉as:=λa o e m=>nomatch (w a m).new.symm.trans e
 refine⟨G.kept (·∈as) hk (λa o e c m=>(by refine aT ((w a m).ex) λ_ e' nt=> ?_;exact nt (aS (e'.symm.trans e)▸c))) (λl u m=>(w _ m).un l u rfl) (λb o e m=>(w b m).top o e)
  (λm ns=>(by refine iE ns λo es ep e r=> ?_;exact⟨o,es,ep,hk _ _ (λq=>(w _ q).cI G.di) e,r⟩)) (λc hc m=>(w _ m).cell c hc rfl) (λsp m=>((w _ m).D7 sp).elim),
  ⟨?_,λa o e=>(by obtain⟨o',e'⟩:=S.ex a o e;exact⟨o',hk _ _ (nw a o e) e'⟩),S.us,S.fresh,λa o e f m1 m2=>hk _ _ (nw a o e) (S.keep a o e f m1 m2),λa o e f m1 m2=>(by refine cN (S.gc a o e f m1 m2) λsl e'=> ?_;exact⟨sl,hk _ _ (nw a o e) e'⟩)⟩⟩
 refine fu S.rest λh1 t1 zr2_=> ?_;subst zr2_
 exact⟨h',t,rfl⟩
theorem Fk{e:Expr}(h:c5 e=true):∃a b c,e= .Tuple a b c:=by
 cases e<;>first | exact⟨_,_,_,rfl⟩ | exact absurd h aE
theorem v3{target:Expr}{a:Addr}{o:Obj}{T:String}{fs:Array Value}{v:Value}{M:Model}{E:Value->Shared->Prop}{Q:Unit->Shared->Prop}(ho:s.heap.get? a=some o)(hc:o.cls= .type T)(hd:o.data= .fields fs)
  (hT:(["enumerate", "zip", "dict_itemiterator", "dict_reverseitemiterator", "odict_iterator", "itertools.zip_longest", "itertools.pairwise"].contains T)=false) (h:Q () s):wpAny M A (letOwnedTupleGo target (.ref a) v) Q E s:=by
 have h : wpAny M A (pure ()) Q E s:=ao h
 have key : ∀ {b:Addr}{k:Sem Unit},wpAny M A (load a >>= λo=>match o.cls,o.data with
   | .type n, .fields vs=>if (["enumerate", "zip", "dict_itemiterator", "dict_reverseitemiterator", "odict_iterator", "itertools.zip_longest", "itertools.pairwise"].contains n&&vs[0]?==some (rawInt b))=true then k else pure ()
   |_,_=>pure ()) Q E s:=λ{b k}=>af (wpAny_load ho (by
  rw[hc,hd]
  show wpAny M A (if (_&&_)=true then k else pure ()) Q E s
  rw[hT]
  exact h))
 cases target<;>first
  |exact h
  | (cases v<;>first | exact h | exact key)
theorem gY.set{a:Addr}{h':Heap}{t:Nat}(w:gY cx fd s₀ ρ σ.us s a)(e:∃o,h'.get? a=some o/\¬IsTup o):gY cx fd s₀ ρ σ.us { s with heap:=h',toks:=t } a:=⟨w.new,w.un,w.cI,w.out,w.cell,w.top,e⟩
theorem dO{o:Obj}{vs:Array Value}(h:o.data= .fields vs):¬IsTup o:=λx=>by obtain⟨_,xs,ep,e⟩:=x;replace e:=h▸e;cases e
structure After(cx:Cx)(n:Nat)(fd:Fd)(A:Around)(ρ₀:LA->Addr)(U:LA->Prop)(s₀:Shared)(ρ:LA->Addr)(σ:MH)(loc:Loc)(s:Shared)(as:List Addr)(s':Shared):Prop where
 G : Good cx n fd A ρ σ loc s'
 S : Step fd ρ₀ U s₀ ρ σ.us s'
 keep : ∀b o,b∉as->s.heap.get? b=some o->s'.heap.get? b=some o
inductive Gk(cx:Cx)(fd:Fd)(s₀:Shared)(ρ:LA->Addr)(U:LA->Prop)(s':Shared)(v:Value)(as:List Addr):Option (MV×It)->Option Value->Prop
 |stop : Gk cx fd s₀ ρ U s' v as none none
 |item {mv it x} (r:VR ρ U s'.heap mv x)(I:kR ρ s'.heap it v as)(w:∀a∈as,gY cx fd s₀ ρ U s' a):Gk cx fd s₀ ρ U s' v as (some (mv,it)) (some x)
theorem Gk.Hc{v:Value}{as:List Addr}{mv:MV}{it:It}{r:Option Value}{P:Option Value->Prop}(h:Gk cx fd s₀ ρ U s' v as (some (mv,it)) r)(k:∀x,VR ρ U s'.heap mv x->kR ρ s'.heap it v as->(∀a∈as,gY cx fd s₀ ρ U s' a)->P (some x)):P r:=by
 cases h with
 |item r I w=>exact k _ r I w
theorem Et{a:Addr}{h':Heap}(sb:Heap.SameBut a s.heap h'):∀b o,b∉[a]->s.heap.get? b=some o->h'.get? b=some o:=λb o m e=>(sb.2 b (λq=>m (q▸ .head _))).trans e
theorem j7{as:List Addr}{h':Heap}(w:∀a∈as,gY cx fd s₀ ρ σ.us s a)(hk:∀b o,b∉as->s.heap.get? b=some o->h'.get? b=some o):fh ρ σ.us s.heap ρ σ.us h':=
 ⟨λ_ u=>⟨u,rfl⟩,λb o e c=>hk b o (λq=>by refine aT ((w b q).ex) λo' e' nt=> ?_;cases e.symm.trans e';exact nt c) e⟩
theorem next_item{a:Addr}{v y:Value}{mv:MV}{it':It}{target:Expr}{h':Heap}{tk:Nat}{o:Obj}{T:String}{fs:Array Value}(G:Good cx n fd A ρ σ loc s)(S:Step fd ρ₀ U s₀ ρ σ.us s)(w:∀b∈[a],gY cx fd s₀ ρ σ.us s b){K:Option Value->Shared->Prop}{E:Value->Shared->Prop}
  (h:∀r' s',After cx n fd A ρ₀ U s₀ ρ σ loc s [a] s'->Gk cx fd s₀ ρ σ.us s' v [a] (some (mv,it')) r'->K r' s')
  (sb:Heap.SameBut a s.heap h')(ho:h'.get? a=some o)(hc:o.cls= .type T)(hd:o.data= .fields fs)(hT:(["enumerate", "zip", "dict_itemiterator", "dict_reverseitemiterator", "odict_iterator", "itertools.zip_longest", "itertools.pairwise"].contains T)=false)
  (hv:fh ρ σ.us s.heap ρ σ.us h'->VR ρ σ.us h' mv y)(hI:kR ρ h' it' v [a]):wpAny cx.M A (letOwnedTupleGo target (.ref a) y) (λ_ s₂=>K (some y) s₂) E { s with heap:=h',toks:=tk }:=by
 exact v3 (s:={ s with heap:=h',toks:=tk }) ho hc hd hT (h _ _ ⟨(G.gh S w tk (Et sb)).1,(G.gh S w tk (Et sb)).2,Et sb⟩ (.item (hv (j7 w (Et sb))) hI λb hb=>av.mp hb▸(w a (.head _)).set ⟨o,ho,dO hd⟩))
theorem iA{as:List Addr}{v:Value}{h':Heap}(G:Good cx n fd A ρ σ loc s)(S:Step fd ρ₀ U s₀ ρ σ.us s)(w:∀b∈as,gY cx fd s₀ ρ σ.us s b){K:Option Value->Shared->Prop}
  (h:∀r' s',After cx n fd A ρ₀ U s₀ ρ σ loc s as s'->Gk cx fd s₀ ρ σ.us s' v as none r'->K r' s'){a:Addr}(ha:a∈as)(sb:Heap.ExtBut a s.heap h'):K none { s with heap:=h' }:=by
 have k : ∀b o,b∉as->s.heap.get? b=some o->h'.get? b=some o:=λb o m e=>sb b o (λq=>m (q▸ha)) e
 exact h none _ ⟨(G.gh S w s.toks k).1,(G.gh S w s.toks k).2,k⟩ .stop
theorem cR.none{h:Heap}{vs:List MV}{xs:Array Value}{i:Nat}(r:cR ρ U h vs xs.toList)(e:vs[i]?= .none):xs[i]?= .none:=by
 have l:=r.len
 rw[bu] at l
 exact Array.getElem?_eq_none_iff.mpr (l▸List.getElem?_eq_none_iff.mp e)
theorem v6{it:It}{v:Value}{as:List Addr}{target:Expr}(G:Good cx n fd A ρ σ loc s)(S:Step fd ρ₀ U s₀ ρ σ.us s)(I:kR ρ s.heap it v as)(w:∀a∈as,gY cx fd s₀ ρ σ.us s a)
  {r:Option (MV×It)}(hx:Nx σ it r)(ht:it.dT=true->c5 target=true){K:Option Value->Shared->Prop}{E:Value->Shared->Prop}
  (h:∀r' s',After cx n fd A ρ₀ U s₀ ρ σ loc s as s'->Gk cx fd s₀ ρ σ.us s' v as r r'->K r' s') :
  wpAny cx.M A (pyNext v) (λr' s₁=>match r' with
   |none=>K none s₁
   |some x=>wpAny cx.M A (letOwnedTupleGo target v x) (λ_ s₂=>K (some x) s₂) E s₁) E s:=by
 have hh:=G.ak.hh
 induction hx with
 |lst e g=>
  obtain⟨a,rfl,rfl,hI⟩:=I
  obtain⟨xs,i,r⟩:=G.isList e
  obtain⟨y,e3,ry⟩:=r.get g
  refine wpAny_pyNext_list_item hI i (c9.symm.trans e3) λh' hI' sb=> ?_
  have ⟨o,ho,hc,hd⟩:=hI'
  exact next_item G S w h sb ho hc hd (by decide) (λk=>ry.mono k) ⟨a,rfl,rfl,hI'⟩
 |Lc e g=>
  obtain⟨a,rfl,rfl,hI⟩:=I
  refine aT (G.isList e) λxs i r=> ?_
  exact wpAny_pyNext_list_end hh hI i (r.none g) λh' sb=>iA G S w h (.head _) sb
 |jK p=>
  obtain⟨a,rfl,rfl,hI⟩:=I
  exact wpAny_pyNext_range_item hI p λh' hI' sb=>next_item G S w h sb hI' rfl rfl (by decide) (λ_=> .int) ⟨a,rfl,rfl,hI'⟩
 |K6 p=>
  obtain⟨a,rfl,rfl,hI⟩:=I
  exact wpAny_pyNext_range_end hh hI (by exact cZ.mp p) λh' sb=>iA G S w h (.head _) sb
 |nT f g=>
  refine JV I λe a old zr3_ zr4_ hne hE hI=> ?_;subst zr3_;subst zr4_
  refine aT (G.isList f) λxs il r=> ?_
  refine aT (r.get g) λy e3 ry=> ?_
  refine wpAny_pyNext_enum_item hE hI il (c9.symm.trans e3) hne λh1 hEo hI1 hT1 hz1 hk1=> ?_
  refine LY (Fk (ht rfl)) λ_ _ _ zr3_=> ?_;subst zr3_
  ·refine wpAny_letOwnedTupleGo_enum hEo λh2 hE2 sb2=> ?_
   have hk : ∀b o,b∉[e,a]->s.heap.get? b=some o->h2.get? b=some o:=λb o m z=>
    (sb2.2 b λq=>m (q▸ .head _)).trans (hk1 b o (λq=>m (q▸ .head _)) (λq=>m (q▸ .tail _ (.head _))) z)
   have ⟨oi,hoi,hci,hdi⟩:=hI1
   have hoi:=(sb2.2 a (Ne.symm hne)).trans hoi
   refine h _ _ ⟨(G.gh S w (s.toks+1) hk).1,(G.gh S w (s.toks+1) hk).2,hk⟩ (.item (.tup ((sb2.2 _ (Nat.ne_of_gt (aR hE))).trans hT1) rfl rfl (.cons .int (.cons (ry.mono (j7 w hk)) .nil))) ⟨e,a,y,rfl,rfl,hne,hE2,⟨oi,hoi,hci,hdi⟩⟩ λb hb=> ?_)
   refine Or.elim (aK.mp hb) (λq=> ?_) λq=> ?_
   ·exact q▸(w e (.head _)).set ⟨_,hE2,dO rfl⟩
   ·exact av.mp q▸(w a (.tail _ (.head _))).set ⟨oi,hoi,dO hdi⟩
 |Lf f g=>
  refine JV I λe a old zr3_ zr4_ hne hE hI=> ?_;subst zr3_;subst zr4_
  refine aT (G.isList f) λxs i r=> ?_
  exact wpAny_pyNext_enum_end hh hE hI i (r.none g) λh' sb=>iA G S w h (.tail _ (.head _)) sb
 |@rev l k vs mv e g=>
  obtain⟨a,rfl,rfl,hI⟩:=I
  obtain⟨xs,i,r⟩:=G.isList e
  refine aT (r.get g) λy e3 ry=> ?_
  have hI0 : s.heap.IsRevIter a (ρ l) (k:Int):=(show ((k+1 : Nat):Int) - 1=(k:Int) by exact Int.sub_eq_iff_eq_add.mpr rfl)▸hI
  refine wpAny_pyNext_rev_item hI0 i (c9.symm.trans e3) λh' hI' sb=> ?_
  have ⟨o,ho,hc,hd⟩:=hI'
  exact next_item G S w h sb ho hc hd (by decide) (λk=>ry.mono k) ⟨a,rfl,rfl,hI'⟩
 |Li=>
  refine pB I λa zr1_ zr2_ hI=> ?_;subst zr1_;subst zr2_
  exact wpAny_pyNext_rev_end hh hI λh' sb=>iA G S w h (.head _) sb
 |rF g=>
  refine eW I λa t zr2_ zr3_ hI=> ?_;subst zr2_;subst zr3_
  refine KBw.next_item hI (by simpa using g) λh' hI' sb=> ?_
  have ⟨o,ho,hc,hd⟩:=hI'
  exact next_item G S w h sb ho hc hd (by decide) (λ_=> .int) ⟨a,t,rfl,rfl,hI'⟩
 |K2 g=>
  refine eW I λa t zr2_ zr3_ hI=> ?_;subst zr2_;subst zr3_
  exact KBw.next_end hh hI (by simpa using g) λh' sb=>iA G S w h (.head _) sb
end
noncomputable def xj(e:Expr):Bool:=e.ctorIdx==7
theorem tG{e:Expr}{env:Env}{x:Value}(h:xj e=false):foldedSetIterable e env x=pure x:=by
 cases e<;>first | rfl | cases h
theorem nJ{M:Model}{A:Around}{E K:Value->Shared->Prop}{s:Shared}{pos:Pos}{f:Value}{first:List Value}{args:List (Bool×Sem Value)}(hk:keeperOf f=pure .machine)(h1:args.any (·.1)=false)
  (h:cW M A (spliced args) (λvs s1=>cW M A (call f (first++vs)) K E s1) E s):cW M A (callWith pos f first args []) K E s:=by
 unfold callWith
 refine ai (aJ (i9 h1 (aD h (λvs s1 y=> ?_) λ_ _ y=>y)))
 refine ai (bB ?_)
 rw[h1,List.any_nil]
 rw[hk]
 refine ai (ax ?_)
 exact ai (aD y (λr s₂ hr=>ai (aJ (.of (wpAny_point (ax hr))))) λ_ _ y=>y)
theorem ur{ρ:LA->Addr}{U:LA->Prop}{h:Heap}{a:MV}{vs:List Value}(r:cR ρ U h [a] vs):∃y,vs=[y]/\VR ρ U h a y:=by
 refine eW r.cons_inv λy ys zr2_ r1 r2=> ?_;subst zr2_
 cases r2.nil_inv
 exact⟨y,rfl,r1⟩
theorem zn{ρ:LA->Addr}{U:LA->Prop}{h:Heap}{a b:MV}{vs:List Value}(r:cR ρ U h [a,b] vs):∃y z,vs=[y,z]/\VR ρ U h a y/\VR ρ U h b z:=by
 refine eW r.cons_inv λy ys zr2_ r1 r2=> ?_;subst zr2_
 refine aT (ur r2) λz zr1_ r3=> ?_;subst zr1_
 exact⟨y,z,rfl,r1,r3⟩
theorem Ak{ρ:LA->Addr}{U:LA->Prop}{h:Heap}{a b c:MV}{vs:List Value}(r:cR ρ U h [a,b,c] vs):∃x y z,vs=[x,y,z]/\VR ρ U h a x/\VR ρ U h b y/\VR ρ U h c z:=by
 refine eW r.cons_inv λy ys zr2_ r1 r2=> ?_;subst zr2_
 refine eW (zn r2) λz w zr2_ r3 r4=> ?_;subst zr2_
 exact⟨y,z,w,rfl,r1,r3,r4⟩
theorem cR.Jl{ρ:LA->Addr}{U:LA->Prop}{h:Heap}{a:MV}{vs:List Value}{P:List Value->Prop}(r:cR ρ U h [a] vs)(k:∀y,VR ρ U h a y->P [y]):P vs:=by
 refine aT (ur r) λy zr1_ q=> ?_;subst zr1_;exact k y q
theorem cR.El{ρ:LA->Addr}{U:LA->Prop}{h:Heap}{a b:MV}{vs:List Value}{P:List Value->Prop}(r:cR ρ U h [a,b] vs)(k:∀y z,VR ρ U h a y->VR ρ U h b z->P [y,z]):P vs:=by
 refine eW (zn r) λy z zr2_ q q'=> ?_;subst zr2_;exact k y z q q'
theorem cR.Mn{ρ:LA->Addr}{U:LA->Prop}{h:Heap}{a b c:MV}{vs:List Value}{P:List Value->Prop}(r:cR ρ U h [a,b,c] vs)(k:∀x y z,VR ρ U h a x->VR ρ U h b y->VR ρ U h c z->P [x,y,z]):P vs:=by
 refine iE (Ak r) λx y z zr3_ q=> ?_;subst zr3_;exact k x y z q.1 q.2.1 q.2.2
theorem cR.eB{ρ:LA->Addr}{U:LA->Prop}{h:Heap}{l:LA}{vs:List Value}{P:List Value->Prop}(r:cR ρ U h [.ref l] vs)(k:U l->P [.ref (ρ l)]):P vs:=by
 refine aT (ur r) λy zr1_ q=> ?_;subst zr1_;refine dA q.bU λzr0_ u=> ?_;subst zr0_;exact k u
inductive oH(cx:Cx)(n:Nat)(fd:Fd)(A:Around)(ρ:LA->Addr)(σ:MH)(s:Shared)(Q:It->Loc->MH->Prop)(v:Value)(s':Shared):Prop
 |mk (it:It)(as:List Addr)(ρ':LA->Addr)(σ':MH)(loc':Loc)(S:Step fd ρ σ.us s ρ' σ'.us s')(G:Good cx n fd A ρ' σ' loc' s')(I:kR ρ' s'.heap it v as)(W:∀a∈as,gY cx fd s ρ' σ'.us s' a)(q:Q it loc' σ')
noncomputable def qP(cx:Cx)(n:Nat)(fd:Fd)(e:Expr)(m:P It):Prop:=∀A ρ σ loc s Q X,Good cx n fd A ρ σ loc s->m loc σ Q X->
 cW cx.M A (eval e fd.env) (λx s1=>cW cx.M A (foldedSetIterable e fd.env x) (λx' s2=>cW cx.M A (pyIter x') (oH cx n fd A ρ σ s Q) (eA cx n fd A ρ σ s X) s2) (eA cx n fd A ρ σ s X) s1) (eA cx n fd A ρ σ s X) s
section
variable {cx:Cx}{n:Nat}{fd:Fd}{A:Around}{ρ ρ':LA->Addr}{σ σ':MH}{loc loc':Loc}{s s₀ s':Shared}{U:LA->Prop}{ρ₀:LA->Addr}
theorem gY.fresh(G:Good cx n fd A ρ σ loc s){a:Addr}(ha:s.heap.objs.size<=a){s₂:Shared}(S:Step fd ρ₀ U s₀ ρ σ.us s)(e:∃o,s₂.heap.get? a=some o/\¬IsTup o):gY cx fd s₀ ρ σ.us s₂ a:=by
 have out : ∀b,(∃o,s.heap.get? b=some o)->b≠a:=λb zz q=>(by refine cN zz λo e=> ?_;exact iL ha (q▸aR e))
 refine⟨?_,λl u=>out _ ((by obtain⟨_,o,e,_⟩:=G.low l u;exact⟨o,e⟩)),λm=>out a (G.own m) rfl,λm=> ?_,λc hc=>out _ ((by refine ey ((G.tu c hc).1) λo _ e _=> ?_;exact⟨o,e⟩)),λo q=>out a ⟨o,G.top a o q⟩ rfl,e⟩
 ·cases q : s₀.heap.get? a with
  |none=>rfl
  |some o=>refine cN (S.ex a o q) λo' e'=> ?_;exact (out a ⟨o',e'⟩ rfl).elim
 ·refine aT (cS.mp m) λev h1 h2=> ?_
  obtain⟨a1,L,o,es,ep,a2,a3,a4,a5,a6⟩:=G.MS ev h1
  replace h2:=a2▸h2;cases h2;exact out a ⟨o,a5⟩ rfl
theorem oH.pre{v:Value}{s'':Shared}{Q:It->Loc->MH->Prop}(S:Step fd ρ₀ U s₀ ρ σ.us s){σ₀:MH}(hU:U=σ₀.us)(o:oH cx n fd A ρ σ s Q v s''):oH cx n fd A ρ₀ σ₀ s₀ Q v s'':=by
 subst hU
 induction o with
 |mk it as ρ' σ' loc' S' G I W q=>
  exact⟨it,as,ρ',σ',loc',S.trans S',G,I,λa m=>have w:=W a m;⟨Option.eq_none_iff_forall_ne_some.mpr λo e=>((by refine cN (S.ex a o e) λ_ z=> ?_;exact nomatch w.new.symm.trans z)),w.un,w.cI,w.out,w.cell,w.top,w.ex⟩,q⟩
theorem oH.one{Q:It->Loc->MH->Prop}{it:It}{o:Obj}{vs:Array Value}{tk:Nat}(S:Step fd ρ₀ U s₀ ρ σ.us s){σ₀:MH}(hU:U=σ₀.us)(G:Good cx n fd A ρ σ loc s)(hd:o.data= .fields vs)(hf:o.isFreed=false)
  (I:(s.heap.push o).get? s.heap.objs.size=some o->kR ρ (s.heap.push o) it (.ref s.heap.objs.size) [s.heap.objs.size])(q:Q it loc σ):oH cx n fd A ρ₀ σ₀ s₀ Q (.ref s.heap.objs.size) { s with heap:=s.heap.push o,toks:=tk }:=by
 subst hU
 have e:=aP s.heap hf
 exact⟨it,[_],ρ,σ,loc,S.trans (Step.grow G.di G.locals (.push _) tk),G.push _ tk,I e,λa ha=>av.mp ha▸gY.fresh G (aG _) S ⟨_,e,dO hd⟩,q⟩
inductive CF(loc:Loc)(σ:MH)(Q:It->Loc->MH->Prop):MV->Prop where
 |rF {b} (h:Q (.rF b 0) loc σ):CF loc σ Q (.bytes b)
 |lst {l vs} (e:σ.get l=some (.list vs))(h:Q (.lst l 0) loc σ):CF loc σ Q (.ref l)
noncomputable abbrev P.D9(a:MV):P It:=λloc σ Q _=>CF loc σ Q a
theorem zF{e:Expr}{m:P MV}(he:xj e=false)(h:bO cx n fd e m):qP cx n fd e (m.bind P.D9):=by
 intro A ρ σ loc s Q X G hm
 refine aD (h A ρ σ loc s _ X G trivial hm) (λx s1 y=> ?_) λ_ _ y=>y
 obtain⟨a,ρ1,σ1,l1,S1,G1,r,hq⟩:=y
 refine ae (tG he)▸ ?_
 refine ax (.of ?_)
 generalize eA cx n fd A ρ σ s X=X'
 induction hq with
 |rF h=>
  apply r.dg;intro t
  exact KBw.pyIter_bytes (oH.one (it:= .rF _ 0) S1 rfl G1 rfl rfl (λe1=>⟨_,t,rfl,rfl,⟨_,e1,rfl,rfl⟩⟩) h)
 |lst e h=>
  apply r.eB;intro u
  exact (by refine aT (G1.isList e) λxs i _=> ?_;exact wpAny_pyIter_list i (oH.one (it:= .lst _ 0) S1 rfl G1 rfl rfl (λe2=>⟨_,rfl,rfl,⟨_,e2,rfl,rfl⟩⟩) h))
theorem n5{x:Str}{np pos:Pos}{args:List Expr}{ms:P (List MV)}{f:Value}{g:List MV->P It}(hn:fk cx n fd (.Name x np) f)(hk:keeperOf f=pure .machine)(hes:args.all cm=true)(h:jP cx n fd pos args ms)
  (H:∀A ρ σ loc s as vs Q X E,Good cx n fd A ρ σ loc s->cR ρ σ.us s.heap as vs->g as loc σ Q X->wpAny cx.M A (call f vs) (λx s1=>wpAny cx.M A (pyIter x) (oH cx n fd A ρ σ s Q) E s1) E s):qP cx n fd (.Call (.Name x np) args [] pos) (ms.bind g):=by
 intro A ρ σ loc s Q X G hm
 refine ai (.of (hn A ρ σ loc s _ _ G ?_))
 refine nJ hk (fq pos (es:=args) (env:=fd.env) hes).1 (aD (h A ρ σ loc s _ X G trivial hm) (λvs s1 y=> ?_) λ_ _ y=>y)
 obtain⟨as,ρ1,σ1,l1,S1,G1,r,hq⟩:=y
 refine .of (wpAny_mono (H A ρ1 σ1 l1 s1 as vs Q X _ G1 r hq) (λx s2 y=> ?_) λ_ _ z=>z)
 exact ax (.of (wpAny_mono y (λ_ _ z=>z.pre S1 rfl) λ_ _ z=>z))
inductive tT(loc:Loc)(σ:MH)(Q:It->Loc->MH->Prop):List MV->Prop where
 |one {b:Int} (p : -(2^60)<=b/\b < 2^60) (h:Q (.jK 0 (if 0 < b then b - 0 else 0) 1) loc σ):tT loc σ Q [.int b]
 |two {a b:Int} (p : -(2^60)<=a/\a < 2^60/\ -(2^60)<=b/\b < 2^60) (h:Q (.jK a (if a < b then b - a else 0) 1) loc σ):tT loc σ Q [.int a, .int b]
 |three {a b c:Int} (p : -(2^60)<=a/\a < 2^60/\ -(2^60)<=b/\b < 2^60/\0 < c/\c < 2^60) (h:Q (.jK a (if a < b then (b - a - 1) / c+1 else 0) c) loc σ):tT loc σ Q [.int a, .int b, .int c]
noncomputable abbrev P.zy(as:List MV):P It:=λloc σ Q _=>tT loc σ Q as
theorem fits{i:Int} (h : -(2^62)<=i/\i < 2^62):Builtin.Range.rangeFitsLong i=true:=an.mpr ⟨aZ (bp (by decide) h.1),aZ (aN h.2 (by decide))⟩
theorem IJ{i:Int} (h : -(2^60)<=i/\i < 2^60):Builtin.Range.rangeFitsLong i=true:=fits (⟨bp (by decide) h.1,aN h.2 (by decide)⟩)
theorem Ey{a b c:Int}(h:a < b)(hc:0 < c):0<=(b - a - 1) / c/\(b - a - 1) / c<=b - a - 1:=⟨Int.ediv_nonneg (Int.sub_nonneg_of_le (Int.sub_pos_of_lt h)) (by exact Int.le_of_lt hc),Int.ediv_le_self _ (Int.sub_nonneg_of_le (Int.sub_pos_of_lt h))⟩
theorem oz{a b c:Int} (ha : -(2^60)<=a/\a < 2^60) (hb : -(2^60)<=b/\b < 2^60) (hc:0 < c/\c < 2^60):Builtin.Range.small a b c=true:=by
 have d : -(2^62)<=Builtin.Range.rangeSize a b c/\Builtin.Range.rangeSize a b c < 2^62:=by
  rw[show Builtin.Range.rangeSize a b c=if a < b then (b - a - 1) / c+1 else 0 from if_pos hc.1]
  by_cases h : a < b
  ·rw[if_pos h]
   have:=Ey h hc.1
   generalize (b - a - 1) / c=z at this ⊢
   lia
  ·rw[if_neg h];decide
 exact an.mpr ⟨an.mpr ⟨an.mpr ⟨an.mpr ⟨IJ ha,IJ hb⟩,IJ ⟨by exact Int.le_of_lt (cU (by decide) hc.1),hc.2⟩⟩,fits d⟩,dp.mpr (.inr ((if_pos hc.1).trans (fits (by lia))))⟩
theorem xR{x:Str}{np pos:Pos}{args:List Expr}{ms:P (List MV)}(hn:fk cx n fd (.Name x np) (.type "range")) (hes:args.all cm=true)(h:jP cx n fd pos args ms):qP cx n fd (.Call (.Name x np) args [] pos) (ms.bind P.zy):=by
 refine n5 hn rfl hes h λA ρ σ loc s as vs Q X E G r hm=> ?_
 have fin : ∀ {a b c:Int}{t u v:Tok}{tk:Nat}{it:It},Builtin.Range.small a b c=true->it= .jK a (Builtin.Range.rangeSize a b c) c->Q it loc σ->
   wpAny cx.M A (pyIter (.ref s.heap.objs.size)) (oH cx n fd A ρ σ s Q) E { s with heap:=s.heap.push { cls:= .type "range",data:= .fields #[.int a t, .int b u, .int c v] },toks:=tk }:=by
  intro a b c t u v tk it hs hit hq
  subst hit
  exact wpAny_pyIter_range (IsRange.new _ a b c t u v) hs (oH.one (it:= .jK a _ c) (Step.grow G.di G.locals (.push _) tk) rfl (G.push _ tk) rfl rfl (λe=>⟨_,rfl,rfl,e⟩) hq)
 generalize oH cx n fd A ρ σ s Q=Q' at fin ⊢
 induction hm with
 |one p h=>
  apply r.Jl;intro y r;apply r.eH;intro t
  exact call_range_1 (fin (oz (by decide) p (by decide)) (by rw[rangeSize_one]) h)
 |two p h=>
  apply r.El;intro y z r1 r2;apply VR.fK r1 r2;intro t u
  exact call_range_2 (fin (oz ⟨p.1,p.2.1⟩ p.2.2 (by decide)) (by rw[rangeSize_one]) h)
 |@three a b c p h=>
  apply r.Mn;intro y z w r1 r2 r3;apply VR.fK r1 r2;intro t u;apply r3.eH;intro v
  have pc:=p.2.2.2.2
  exact call_range_3 (Int.ne_of_gt pc.1) (fin (oz ⟨p.1,p.2.1⟩ ⟨p.2.2.1,p.2.2.2.1⟩ pc) (by rw[show Builtin.Range.rangeSize a b c=if a < b then (b - a - 1) / c+1 else 0 from if_pos pc.1]) h)
   (.inl (PyProof.noPylong_of_log2 (aC ((Nat.log2_lt (by (omega))).mpr (show c.natAbs < 2^60 by (omega))) (by decide))))
inductive qd(f:LA->List MV->It)(loc:Loc)(σ:MH)(Q:It->Loc->MH->Prop):List MV->Prop where
 |mk {l vs} (e:σ.get l=some (.list vs))(p:vs.length<=100000)(h:Q (f l vs) loc σ):qd f loc σ Q [.ref l]
noncomputable abbrev P.vh(f:LA->List MV->It)(a:MV):P It:=λloc σ Q _=>qd f loc σ Q [a]
theorem Aq{x:Str}{np pos:Pos}{e:Expr}{m:P MV}(hn:fk cx n fd (.Name x np) (.type "enumerate")) (hp:cm e=true)(h:bO cx n fd e m) :
  qP cx n fd (.Call (.Name x np) [e] [] pos) (m.bind (P.vh λl _=> .nT l 0)):=by
 refine n5 (g:=λas loc σ Q _=>qd (λl _=> .nT l 0) loc σ Q as) hn rfl (by refine (List.all_cons).trans ?_;refine ae hp▸ ?_;rfl) (lP hp h oK) λA ρ σ loc s as vs Q X E G r hm=> ?_
 induction hm with
 |@mk l vs e p h=>
  apply r.eB;intro u
  refine ey ((G.obj _ _ e).2) λxs ep o1 _=> ?_
  refine call_enumerate_1 o1 λh' hE hI hz hk=>wpAny_pyIter_enum hE ?_
  refine⟨.nT l 0,[s.heap.objs.size+1,s.heap.objs.size],ρ,σ,loc,Step.grow G.di G.locals (⟨λa o _ e=>hk a o e,λm ns=>ns.keeps hk⟩) s.toks,G.grow (⟨λa o _ e=>hk a o e,λm ns=>ns.keeps hk⟩) s.toks,⟨_,_, .none,rfl,rfl,Nat.succ_ne_self _,hE,hI⟩,λa ha=> ?_,h⟩
  rcases aK.mp ha with q | q
  ·exact gY.fresh G (q▸cT _) .refl ⟨_,q▸hE,dO rfl⟩
  ·exact (by refine pB hI λoi hoi _ hdi=> ?_;exact av.mp q▸gY.fresh G (aG _) .refl ⟨oi,hoi,dO hdi⟩)
theorem Cq{x:Str}{np pos:Pos}{e:Expr}{m:P MV}(hn:fk cx n fd (.Name x np) (.type "reversed")) (hp:cm e=true)(h:bO cx n fd e m) :
  qP cx n fd (.Call (.Name x np) [e] [] pos) (m.bind (P.vh λl vs=> .rev l vs.length)):=by
 refine n5 (g:=λas loc σ Q _=>qd (λl vs=> .rev l vs.length) loc σ Q as) hn rfl (by refine (List.all_cons).trans ?_;exact ae hp▸rfl) (lP hp h oK) λA ρ σ loc s as vs Q X E G r hm=> ?_
 induction hm with
 |@mk l vs e p h=>
  apply r.eB;intro u
  refine aT (G.isList e) λxs i r1=> ?_
  refine call_reversed_list i (wpAny_pyIter_revIter ⟨_,aP s.heap rfl,rfl,rfl⟩ ?_)
  exact oH.one (it:= .rev l vs.length) (tk:=s.toks) .refl rfl G rfl rfl (λe2=>⟨_,rfl,rfl,⟨_,e2,rfl,(show (vs.length : Int)=xs.size from ah _ (r1.len.symm.trans bu))▸rfl⟩⟩) h
end
structure Ag(fd:Fd):Prop where
 Em : fd.gB=fd.env::fd.outer
 kS : fd.env.frame=some fd.env.locals
 hk : fd.env.scope.kind= .function
 cI : ∀c∈fd.env.cells,c.2∈fd.cI
 nd : fd.names.Nodup
 cn : (fd.env.cells.map (·.1)).Nodup
section
variable {cx:Cx}{n:Nat}{fd:Fd}{A:Around}{ρ ρ':LA->Addr}{σ σ':MH}{loc loc':Loc}{s s₀ s':Shared}
theorem Good.rt(G:Good cx n fd A ρ σ loc s){a:Addr}(ha:a∈fd.cI){h':Heap}(hk:∀b,b≠a->h'.get? b=s.heap.get? b)(hx:∃o,h'.get? a=some o/\¬IsTup o)(t:Nat)
  (hcell:∀c∈fd.env.cells,∃o v,h'.get? c.2=some o/\o.data= .cell v)(hl:fh ρ σ.us s.heap ρ σ.us h'->ii ρ σ.us h' fd.env fd.names loc') :
  Good cx n fd A ρ σ loc' { s with heap:=h',toks:=t }/\Step fd ρ σ.us s ρ σ.us { s with heap:=h',toks:=t }:=by
 have p:=G.foot (.cI ha)
 have kp : ∀b o,b≠a->s.heap.get? b=some o->h'.get? b=some o:=λb _ d=>(hk b d).trans
 refine⟨G.move (λl x e=>have z:=G.obj l x e;⟨z.1,z.2.mono ⟨λ_ u=>⟨u,rfl⟩,λb o e c=>kp b o (λq=>(G.rD e c).2.1 (q▸ha)) e⟩ λ_=>kp _ _ (p.u l z.1)⟩) (λl u=>(by obtain⟨_,o,e,f⟩:=G.low l u;exact⟨o,kp _ o (p.u l u) e,f⟩))
  (λb o e=>kp b o (λq=>iL p.z (q▸aR e)) (G.top b o e)) (hl ⟨λ_ u=>⟨u,rfl⟩,λb o e c=>kp b o (λq=>(G.rD e c).2.1 (q▸ha)) e⟩) (λsp _ o e f=> ?_),
  ⟨⟨h',t,rfl⟩,λb o e=> ?_,λ_ u=>⟨u,rfl⟩,λ_ u z=>absurd u z,λb o e f z1 _=>kp b o (λq=>z1 (q▸ha)) e,λb o e f z1 _=>⟨o.slots,kp b o (λq=>z1 (q▸ha)) e⟩⟩⟩
 ·induction sp with
  |@cI b h=>exact (Classical.em (b=a)).elim (λq=>q▸hx) λq=>⟨o,kp b o q e,f⟩
  |cell h=>exact (by refine ey (hcell _ h) λo v e d=> ?_;exact⟨o,e,v,d⟩)
  |@frame b h=>exact⟨o,kp b o (λq=>G.st.mo a ha (q▸h)) e,f⟩
 ·exact (Classical.em (b=a)).elim (λq=>q▸(by refine aT hx λo' e' _=> ?_;exact⟨o',e'⟩)) λq=>⟨o,kp b o q e⟩
noncomputable abbrev P.store(i:Nat)(v:MV):P Unit:=λloc σ Q _=>i < loc.length/\Q () (loc.set i (some v)) σ
theorem tR{loc:Loc}{i j:Nat}{v mv:MV}(h:(loc.set i (some v))[j]?=some (some mv)):(i=j/\mv=v)∨(i≠j/\loc[j]?=some (some mv)):=by
 replace h:=List.getElem?_set▸h
 split at h
 ·rename_i q
  split at h
  ·cases h;exact .inl ⟨q,rfl⟩
  ·cases h
 ·rename_i q;exact .inr ⟨q,h⟩
theorem zD(F:Ag fd){x:Str}{i:Nat}{a:MV}{v:Value}(hi:fd.names[i]?=some x)(hl:fd.env.kindOf x=some .local∨(fd.env.kindOf x=some .cell/\x∈fd.env.cells.map (·.1))) :
  mJ cx n fd (λρ U h=>VR ρ U h a v) cg.unit (bindName fd.env x v) (P.store i a):=by
 intro A ρ σ loc s Q X G hv hm
 obtain⟨hi2,hq⟩:=hm
 obtain⟨m,ns,lr⟩:=G.loc
 have same : ∀ {j:Nat}{y:Str},fd.names[j]?=some y->(y=x↔j=i):=λ{j y} hj=>by
  constructor
  ·rintro rfl
   exact (List.getElem?_inj (be.mp hj).1 F.nd).mp (hj.trans hi.symm)
  ·rintro rfl
   replace hi:=hj▸hi;cases hi;rfl
 refine wpAny_bindName ?_
 rcases hl with hl | ⟨hl,hc⟩
 ·refine wpAny_storeName_local hl ns (λh' ns' sb=> ?_) (by refine ae F.hk▸ ?_;rfl)
  refine rZ (_root_.id ns') λo es ep e d _=> ?_
  have cells : ∀c∈fd.env.cells,∀o,s.heap.get? c.2=some o->h'.get? c.2=some o:=λc hc o z=>(sb.2 _ (G.iu c hc)).trans z
  obtain⟨G',S'⟩:=G.rt (loc':=loc.set i (some a)) G.di sb.2 ⟨o,e,ca d⟩ (s.toks+1) (λc hc=>by
   refine ey ((G.tu c hc).1) λo w z1 z2=> ?_
   exact⟨o,w,cells c hc o z1,z2⟩) λk=>⟨_,ns',λj y mv hj hg=>by
    rcases tR hg with ⟨q,rfl⟩ | ⟨q,hg⟩
    ·have : y=x:=(same hj).mpr q.symm
     subst this
     refine⟨λ_=>⟨v,by exact if_pos rfl,hv.mono k⟩,λz=> ?_⟩
     rw[hl] at z;refine Or.elim z (λz=> ?_) λz=> ?_<;>cases z
    ·have ne : y≠x:=λz=>q ((same hj).mp z).symm
     have q1:=(lr j y mv hj hg).1;have q2:=(lr j y mv hj hg).2
     refine⟨λz=> ?_,λz=> ?_⟩
     ·refine aT (q1 z) λw f g=> ?_
      exact⟨w,by refine ((if_neg ne)).trans ?_;exact f,g.mono k⟩
     ·refine eW (q2 z) λc w f zo3_ g3=> ?_;refine aT zo3_ λoc g1 g2=> ?_
      exact⟨c,w,f,⟨oc,cells _ (mem_of_lookup f) _ g1,g2⟩,g3.mono k⟩⟩
  exact⟨(),_,_,_,S',G',trivial,hq⟩
 ·obtain⟨c,hcl⟩:=cb.mp (lookup_mem hc)
  have hcm:=mem_of_lookup hcl
  refine ey ((G.tu _ hcm).1) λoc w0 z1 z2=> ?_
  refine wpAny_storeName_cell F.hk hl hcl ⟨oc,z1,z2⟩ λh' hc' sb=> ?_
  refine aT (_root_.id hc') λo e d=> ?_
  obtain⟨G',S'⟩:=G.rt (loc':=loc.set i (some a)) (F.cI _ hcm) sb.2 ⟨o,e,je d⟩ s.toks (λc2 hc2=>by
   by_cases q : c2.2=c
   ·exact⟨o,_,q▸e,d⟩
   ·refine ey ((G.tu c2 hc2).1) λo2 w y1 y2=> ?_
    exact⟨o2,w,(sb.2 _ q).trans y1,y2⟩) λk=>⟨m,ns.sameBut sb (λq=>G.iu _ hcm q.symm),λj y mv hj hg=>by
    rcases tR hg with ⟨q,rfl⟩ | ⟨q,hg⟩
    ·have : y=x:=(same hj).mpr q.symm
     cases this
     exact⟨λz=>(by replace z:=hl▸z;exact nomatch z),λ_=>⟨c,v,hcl,hc',hv.mono k⟩⟩
    ·have ne : y≠x:=λz=>q ((same hj).mp z).symm
     refine⟨λz=> ?_,λz=> ?_⟩
     ·refine aT (((lr j y mv hj hg).1) z) λw f g=> ?_
      exact⟨w,f,g.mono k⟩
     ·refine eW (((lr j y mv hj hg).2) z) λc2 w f zo3_ g3=> ?_;refine aT zo3_ λoc2 g1 g2=> ?_
      refine⟨c2,w,f,⟨oc2,(sb.2 _ λq=>ne ?_).trans g1,g2⟩,g3.mono k⟩
      have:=mem_of_lookup f
      rw[q] at this
      exact name_of_addr G.st.D2 this hcm⟩
  exact⟨(),_,_,_,S',G',trivial,hq⟩
noncomputable abbrev ew(cx:Cx)(n:Nat)(fd:Fd)(t:Expr)(m:MV->P Unit):Prop:=∀a v,aM cx n fd (λρ U h=>VR ρ U h a v) cg.unit (assign t fd.env v) (m a)
theorem xY(F:Ag fd){x:Str}{pos:Pos}{i:Nat}(hi:fd.names[i]?=some x)(hl:fd.env.kindOf x=some .local∨(fd.env.kindOf x=some .cell/\x∈fd.env.cells.map (·.1))):ew cx n fd (.Name x pos) (P.store i):=by
 intro a v
 exact aM.standAt (zD F hi hl).n
theorem xN{okA:Addr->String->Bool}(hA:∀C x,okA C x=true->gu cx.K C x=true){o:Expr}{x:String}{pos:Pos}{m:P MV}(ho:bO cx n fd o m):ew cx n fd (.Attribute o (Str.ofString x) pos) (λa=>m.bind λb=>P.setattr okA x b a):=by
 intro a v
 refine aM.bind (aM.holding (aM.gS bM.vr ho)) λb ov=>aM.standAt ?_
 intro A ρ σ loc s Q X G hp hm
 refine ai (aJ (aD (pi hA A ρ σ loc s Q X G hp hm) (λr s1 h=> ?_) λ_ _ y=>y))
 exact eD h
theorem xr{o i:Expr}{pos:Pos}{m mi:P MV}(hs:∀a b c,i≠ .Slice a b none c)(ho:bO cx n fd o m)(hi:bO cx n fd i mi):ew cx n fd (.Subscript o i pos) (λa=>m.bind λb=>mi.bind λc=>P.vj b c a):=by
 intro a v
 have q : assign (.Subscript o i pos) fd.env v=(holding [v] (eval o fd.env) >>= λov=>holding [v,ov] (eval i fd.env) >>= λiv=>standAt pos >>= λ_=>holding [v,ov,iv] (setItem ov iv v) >>= λ_=>release [v,ov,iv] []):=by
  clear hi
  cases i<;>first | rfl | skip
  rename_i a b c d
  cases c with
  |none=>exact (hs a b d rfl).elim
  |some c=>rfl
 refine ae q▸ ?_
 refine aM.bind (aM.holding (aM.gS bM.vr ho)) λb ov=> ?_
 refine aM.bind (aM.holding (aM.gS (bM.and bM.vr bM.vr) hi)) λc iv=>aM.standAt ?_
 intro A ρ σ loc s Q X G hp hm
 refine ai (aJ (aD (wu.n A ρ σ loc s Q X G ⟨hp.2.1,hp.1,hp.2.2⟩ hm) (λr s1 h=> ?_) λ_ _ y=>y))
 exact eD h
noncomputable abbrev sU(cx:Cx)(n:Nat)(fd:Fd)(ts:List Expr)(m:List MV->P Unit):Prop:=∀as vs,aM cx n fd (λρ U h=>cR ρ U h as vs) cg.unit (assignInOrder ((assignEach ts fd.env).map (·.2)) vs) (m as)
noncomputable abbrev P.fail{α:Type}:P α:=λ_ _ _ _=>False
theorem zI : sU cx n fd [] (λas=>match as with | []=>P.ret () | _=>P.fail):=by
 intro as vs A ρ σ loc s Q X G hp hm
 cases as with
 |nil=>cases hp.nil_inv;exact ax (Out.now G trivial hm)
 |cons a as=>exact hm.elim
theorem fP{t:Expr}{ts:List Expr}{env:Env}(h:cm t=true):assignEach (t::ts) env=(false,assign t env)::assignEach ts env:=by
 cases t<;>first | rfl | cases h
theorem w9{t:Expr}{ts:List Expr}{m:MV->P Unit}{ms:List MV->P Unit}(hp:cm t=true)(h:ew cx n fd t m)(hs:sU cx n fd ts ms) :
  sU cx n fd (t::ts) (λas=>match as with | a::r=>(m a).bind λ_=>ms r | []=>P.fail):=by
 intro as vs
 refine ae (fP hp)▸ ?_
 cases as with
 |nil=>exact λ_ _ _ _ _ _ _ _ _ hm=>hm.elim
 |cons a as=>
  intro A ρ σ loc s Q X G hv hm
  refine eW hv.cons_inv λy ys zr2_ r1 r2=> ?_;subst zr2_
  refine ai (aJ (aD (h a y A ρ σ loc s _ X G r1 hm) (λu s1 z=> ?_) λ_ _ z=>z))
  obtain⟨_,ρ1,σ1,l1,S1,G1,_,hq⟩:=z
  exact aD (hs as ys A ρ1 σ1 l1 s1 Q X G1 (r2.mono (S1.keeps G)) hq) (λ_ _ z=>z.pre S1) λ_ _ z=>z.pre S1
theorem lZ : ∀ {ts:List Expr}{env:Env},ts.all cm=true->(assignEach ts env).length=ts.length/\(assignEach ts env).findIdx? (·.1)=none
 | [],_,_=>⟨rfl,rfl⟩
 |t::ts,env,h=>by
  replace h:=(Bool.and_eq_true ..).mp h
  refine dA (lZ (ts:=ts) (env:=env) h.2) λa b=> ?_
  refine ae (fP h.1)▸ ?_
  refine⟨by exact ah _ a, ?_⟩
  refine (List.findIdx?_cons).trans ?_;exact ae b▸rfl
noncomputable abbrev P.zv(k:Nat)(ms:List MV->P Unit)(a:MV):P Unit:=λloc σ Q X=>match a with
 | .tup vs=>vs.length=k/\ms vs loc σ Q X
 |_=>False
theorem vI{ts:List Expr}{x1:Nat}{pos:Pos}{ms:List MV->P Unit}(hp:ts.all cm=true)(hs:sU cx n fd ts ms):ew cx n fd (.Tuple ts x1 pos) (P.zv ts.length ms):=by
 intro a v A ρ σ loc s Q X G hv hm
 unfold P.zv at hm
 split at hm
 ·rename_i vs
  refine qE hv.dN λb o xs ep zr4_ e1 c1 d1 r1=> ?_;subst zr4_
  have hl:=hm.1;have hm:=hm.2
  refine ai (bB ?_)
  unfold unpack
  have l1:=r1.len
  rw[bu] at l1
  refine ae ((lZ (env:=fd.env) hp).2)▸ae (show (assignEach ts fd.env).length=xs.size by rw[((lZ (env:=fd.env) hp).1),l1,hl])▸ ?_
  refine ai (aJ (.of (wpAny_unpackItems_tuple G.ak.hh ⟨o,e1,c1,ep,d1⟩ λh' hx=> ?_)))
  have hk : ∀b o,s.heap.get? b=some o->h'.get? b=some o:=λb o e=>hx b o (bw (aR e)) e
  have gr : jI fd.env.locals s.heap h':=⟨λb o _ e=>hk b o e,λm ns=>ns.keeps hk⟩
  have S:=Step.grow (ρ:=ρ) (U:=σ.us) G.di G.locals gr s.toks
  exact aD (hs vs xs.toList A ρ σ loc _ Q X (G.grow gr s.toks) (r1.mono (S.keeps G)) hm) (λ_ _ z=>z.pre S) λ_ _ z=>z.pre S
 ·exact hm.elim
end
section
variable {cx:Cx}{n:Nat}{fd:Fd}{A:Around}{ρ ρ':LA->Addr}{σ σ':MH}{loc loc':Loc}{s s₀ s':Shared}{ρ₀:LA->Addr}{σ₀:MH}{loc₀:Loc}
theorem Good.holds(G:Good cx n fd A ρ σ loc s):∀a,a∈fd.cI∨(∃c∈fd.env.cells,c.2=a)->∃o,s.heap.get? a=some o:=λa h=>by
 rcases h with h | ⟨c,h,rfl⟩
 ·exact G.own h
 ·refine ey ((G.tu c h).1) λo _ e _=> ?_
  exact⟨o,e⟩
inductive yR(cx:Cx)(n:Nat)(fd:Fd)(A:Around)(ρ:LA->Addr)(σ:MH)(s:Shared)(X:Addr->Loc->MH->Prop)(ev:Value)(s':Shared):Prop
 |mk (e C:Addr)(ρ':LA->Addr)(σ':MH)(loc':Loc)(he:ev= .ref e)(S:Step fd ρ σ.us s ρ' σ'.us s')(G:Good cx n fd A ρ' σ' loc' s')(x:ExcAt ρ' σ'.us s'.heap s.heap fd.env.frame e C)(q:X C loc' σ')
  (t:∃oe vs T oT ts,s'.heap.get? e=some oe/\oe.data= .fields vs/\vs[1]?=some (.ref T)/\T≠e/\s'.heap.get? T=some oT/\oT.data= .fields ts/\ts[3]?=some (rawInt fd.env.locals))
theorem Dj{α:Type}(F:Ag fd)(G₀:Good cx n fd A ρ₀ σ₀ loc₀ s₀){X:Addr->Loc->MH->Prop}{t:Sem α}{Q:α->Shared->Prop}(h:cW cx.M A t Q (eA cx n fd A ρ₀ σ₀ s₀ X) s) :
  cW cx.M A (t.onRaise λx=>do noteFrame x fd.env;theTreesLotGoes x) Q (yR cx n fd A ρ₀ σ₀ s₀ X) s:=by
 refine dw (aD h (λ_ _ y=>y) λe s' y=> ?_)
 obtain⟨e',C,ρ',σ',l',rfl,S,G,x,hx⟩:=y
 refine ai (.of (G.note G₀.top S x G₀.holds F.Em F.kS (by refine ae F.hk▸ ?_;decide) λs₂ G₂ S₂ x₂ nt=> ?_))
 exact .of (wpAny_theTreesLotGoes ⟨e',C,ρ',σ',l',rfl,S₂,G₂,x₂,hx,nt⟩)
theorem zf(F:Ag fd)(G₀:Good cx n fd A ρ₀ σ₀ loc₀ s₀){X:Addr->Loc->MH->Prop}{c:Code}{Q:Flow->Shared->Prop}
  (h:codeN cx.M A c (λr s'=>match r with | .ok f=>Q f s' | .error e=>yR cx n fd A ρ₀ σ₀ s₀ X e s') s):cW cx.M A (runOwn c fd.env) Q (eA cx n fd A ρ₀ σ₀ s₀ X) s:=by
 refine dw (ue (eU h λr s' y=> ?_))
 cases r with
 |ok f=>exact y
 |error e=>
  obtain⟨e',C,ρ',σ',l',rfl,S,G,x,hx,oe,vs,T,oT,ts,b1,b2,b3,b4,b5,b6,b7⟩:=y
  refine ai (.of (wpAny_field b1 b2 b3 ?_))
  exact .of (G.vo G₀.top S x G₀.holds _ λs₂ G₂ S₂ x₂=>⟨e',C,ρ',σ',l',rfl,S₂,G₂,x₂,hx⟩)
noncomputable abbrev gd(cx:Cx)(n:Nat)(fd:Fd)(st:Stmt)(m:P MF):Prop:=eQ cx n fd cg.mA (exec st fd.env) m
noncomputable abbrev P.seq(m m':P MF):P MF:=λloc σ Q X=>m loc σ (λf l s=>match f with | .next=>m' l s Q X | f=>Q f l s) X
theorem qF : jH cx n fd [] (P.ret MF.next):=aM.pure λ_ _ _ _=> .next
theorem Av{st:Stmt}{ss:List Stmt}{m m':P MF}(h:gd cx n fd st m)(h':jH cx n fd ss m'):jH cx n fd (st::ss) (P.seq m m'):=by
 intro A ρ σ loc s Q X G _ hm
 refine ai (aD (h A ρ σ loc s _ X G trivial hm) (λf s1 y=> ?_) λ_ _ y=>y)
 obtain⟨mf,ρ1,σ1,l1,S1,G1,r,hq⟩:=y
 induction r with
 |next=>exact aD (h' A ρ1 σ1 l1 s1 Q X G1 trivial hq) (λ_ _ y=>y.pre S1) λ_ _ y=>y.pre S1
 |brk=>exact ax ⟨_,ρ1,σ1,l1,S1,G1,(by constructor),hq⟩
 |cont=>exact ax ⟨_,ρ1,σ1,l1,S1,G1,(by constructor),hq⟩
 |ret r=>exact ax ⟨_,ρ1,σ1,l1,S1,G1, .ret r,hq⟩
theorem AT{pos:Pos}:gd cx n fd (.Pass pos) (P.ret MF.next):=aM.standAt (t:=λ_=>pure Flow.next) (aM.pure λ_ _ _ _=> .next)
theorem xb{pos:Pos}:gd cx n fd (.Break pos) (P.ret MF.brk):=aM.standAt (t:=λ_=>pure Flow.brk) (aM.pure λ_ _ _ _=> .brk)
theorem tM{pos:Pos}:gd cx n fd (.Return none pos) (P.ret (MF.ret .none)):=aM.standAt (t:=λ_=>pure (Flow.ret .none)) (aM.pure λ_ _ _ _=> .ret .none)
theorem v5{e:Expr}{pos:Pos}{m:P MV}(h:bO cx n fd e m):gd cx n fd (.Return (some e) pos) (m.bind λv=>P.ret (MF.ret v)):=by
 show eQ cx n fd cg.mA (standAt pos >>= λ_=>eval e fd.env >>= λx=>pure (.ret x)) _
 exact aM.standAt (aM.bind h λa v=>aM.pure λ_ _ _ q=> .ret q)
theorem E3{t:Expr}{b e:List Stmt}{pos:Pos}{mt:P Bool}{mb me:P MF}(ht:gx cx n fd t mt)(hb:jH cx n fd b mb)(he:jH cx n fd e me):gd cx n fd (.If t b e pos) (P.cond mt mb me):=by
 exact aM.standAt (aM.cond bM.tt ht hb he)
noncomputable def P.rB(t:P Bool)(b els:P MF):Nat->P MF
 |0=>P.fail
 |N+1=>P.cond t (λloc σ Q X=>b loc σ (λf l s=>match f with
   | .next=>P.rB t b els N l s Q X
   | .cont=>P.rB t b els N l s Q X
   | .brk=>Q .next l s
   | .ret v=>Q (.ret v) l s) X) els
noncomputable abbrev P.while(t:P Bool)(b els:P MF):P MF:=λloc σ Q X=>∃N,P.rB t b els N loc σ Q X
theorem lW(F:Ag fd){test:Expr}{body orelse:List Stmt}{t:P Bool}{b els:P MF}(ht:gx cx n fd test t)(hb:jH cx n fd body b)(he:jH cx n fd orelse els)(G₀:Good cx n fd A ρ₀ σ₀ loc₀ s₀){Q:MF->Loc->MH->Prop}{X:Addr->Loc->MH->Prop} :
  ∀ (N:Nat)(ρ:LA->Addr)(σ:MH)(loc:Loc)(s:Shared),Good cx n fd A ρ σ loc s->Step fd ρ₀ σ₀.us s₀ ρ σ.us s->P.rB t b els N loc σ Q X->
  codeN cx.M A (.whileLoop test body orelse fd.env) (λr s'=>match r with | .ok f=>Out cx n fd A ρ₀ σ₀ s₀ cg.mA Q f s' | .error e=>yR cx n fd A ρ₀ σ₀ s₀ X e s') s
 |0,_,_,_,_,_,_,hm=>hm.elim
 |N+1,ρ,σ,loc,s,G,S,hm=>by
  refine bP (λ_ _ _ _=>rfl) ?_
  refine Dj F G₀ ?_
  dsimp only[whileTurn]
  refine ai (aD (ht A ρ σ loc s _ X G trivial hm) (λc s1 y=> ?_) λ_ _ y=>y.pre S)
  obtain⟨c',ρ1,σ1,l1,S1,G1,r,hq⟩:=y
  cases r
  cases c with
  |true=>
   refine ai (aD (hb A ρ1 σ1 l1 s1 _ X G1 trivial hq) (λf s2 y=> ?_) λ_ _ y=>y.pre (S.trans S1))
   obtain⟨mf,ρ2,σ2,l2,S2,G2,r,hq⟩:=y
   have S':=(S.trans S1).trans S2
   induction r with
   |next=>exact ax ⟨rfl,lW F ht hb he G₀ N ρ2 σ2 l2 s2 G2 S' hq⟩
   |brk=>exact ax ⟨_,ρ2,σ2,l2,S',G2,(by constructor),hq⟩
   |cont=>exact ax ⟨rfl,lW F ht hb he G₀ N ρ2 σ2 l2 s2 G2 S' hq⟩
   |ret r=>exact ax ⟨_,ρ2,σ2,l2,S',G2, .ret r,hq⟩
  |false=>
   refine ai (aD (he A ρ1 σ1 l1 s1 _ X G1 trivial hq) (λf s2 y=>ax (y.pre (S.trans S1))) λ_ _ y=>y.pre (S.trans S1))
theorem xQ(F:Ag fd){test:Expr}{body orelse:List Stmt}{pos:Pos}{t:P Bool}{b els:P MF}(ht:gx cx n fd test t)(hb:jH cx n fd body b)(he:jH cx n fd orelse els) :
  gd cx n fd (.While test body orelse pos) (P.while t b els):=by
 intro A ρ σ loc s Q X G _ hm
 refine cN hm λN hm=> ?_
 exact ai (bB (zf F G (lW F ht hb he G N ρ σ loc s G .refl hm)))
noncomputable def P.ya(tg:MV->P Unit)(b els:P MF):Nat->It->P MF
 |0,_=>P.fail
 |N+1,it=>λloc σ Q X=>GL σ it (els loc σ Q X) λv it'=>tg v loc σ (λ_ l1 σ1=>b l1 σ1 (λf l2 σ2=>match f with
   | .next=>P.ya tg b els N it' l2 σ2 Q X
   | .cont=>P.ya tg b els N it' l2 σ2 Q X
   | .brk=>Q .next l2 σ2
   | .ret v=>Q (.ret v) l2 σ2) X) X
noncomputable abbrev P.MW(tt:Bool)(m:P It)(tg:MV->P Unit)(b els:P MF):P MF:=m.bind λit loc σ Q X=>(it.dT=true->tt=true)/\∃N,P.ya tg b els N it loc σ Q X
noncomputable def It.use(U:LA->Prop):It->Prop
 | .lst l _=>U l
 | .nT l _=>U l
 | .rev l _=>U l
 |_=>True
theorem zg(G:Good cx n fd A ρ σ loc s){it it':It}{v:MV}(h:Nx σ it (some (v,it'))):it'.dT=it.dT/\it'.use σ.us:=by
 generalize e : some (v,it')=r at h
 cases h with
 |lst f=>cases e;exact⟨rfl,(G.obj _ _ f).1⟩
 |nT f=>cases e;exact⟨rfl,(G.obj _ _ f).1⟩
 |rev f=>cases e;exact⟨rfl,(G.obj _ _ f).1⟩
 |jK=>cases e;exact⟨rfl,trivial⟩
 |rF=>cases e;exact⟨rfl,trivial⟩
 |_=>exact nomatch e
theorem kR.step(G:Good cx n fd A ρ σ loc s){it:It}{v:Value}{as:List Addr}(I:kR ρ s.heap it v as)(hu:it.use σ.us)(W:∀a∈as,gY cx fd s₀ ρ σ.us s a)(S:Step fd ρ σ.us s ρ' σ'.us s') :
  kR ρ' s'.heap it v as/\∀a∈as,gY cx fd s₀ ρ' σ'.us s' a:=by
 refine⟨?_,λa ha=>((W a ha).step G S).1⟩
 have k : ∀a∈as,∀o,s.heap.get? a=some o->s'.heap.get? a=some o:=λa ha=>((W a ha).step G S).2
 cases it with
 |lst l i=>
  obtain⟨a,rfl,rfl,o,ho,hc,hd⟩:=I
  exact⟨a,rfl,rfl,o,k a (.head _) o ho,hc,by rw[(S.us l hu).2];exact hd⟩
 |jK x left step=>
  refine pB I λa zr1_ zr2_ hI=> ?_;subst zr1_;subst zr2_
  exact⟨a,rfl,rfl,k a (.head _) _ hI⟩
 |nT l i=>
  obtain⟨e,a,old,rfl,rfl,hne,hE,o,ho,hc,hd⟩:=I
  exact⟨e,a,old,rfl,rfl,hne,k e (.head _) _ hE,o,k a (.tail _ (.head _)) o ho,hc,by rw[(S.us l hu).2];exact hd⟩
 |rev l j=>
  obtain⟨a,rfl,rfl,o,ho,hc,hd⟩:=I
  exact⟨a,rfl,rfl,o,k a (.head _) o ho,hc,by rw[(S.us l hu).2];exact hd⟩
 |rF b i=>
  obtain⟨a,t,rfl,rfl,o,ho,hc,hd⟩:=I
  exact⟨a,t,rfl,rfl,o,k a (.head _) o ho,hc,hd⟩
structure yg(cx:Cx)(n:Nat)(fd:Fd)(A:Around)(ρ₀:LA->Addr)(σ₀:MH)(s₀:Shared)(v:Value)(as:List Addr)(target:Expr)(it:It)(ρ:LA->Addr)(σ:MH)(loc:Loc)(s:Shared):Prop where
 t : it.dT=true->c5 target=true
 G : Good cx n fd A ρ σ loc s
 S : Step fd ρ₀ σ₀.us s₀ ρ σ.us s
 I : kR ρ s.heap it v as
 W : ∀a∈as,gY cx fd s₀ ρ σ.us s a
noncomputable def tw(target:Expr)(body:List Stmt)(env:Env)(c:Code)(x:Value):Sem Fin:=do
 assign target env x
 match<-execs body env with
 | .next | .cont=>again c
 | .brk=>pure (.done .next)
 | .ret v=>pure (.done (.ret v))
theorem CC{target:Expr}{body:List Stmt}{tg:MV->P Unit}{b els:P MF}(ht:ew cx n fd target tg)(hb:jH cx n fd body b){Q:MF->Loc->MH->Prop}{X:Addr->Loc->MH->Prop}{v:Value}{as:List Addr}{N:Nat}{R:Fin->Shared->Prop}{c d:Code}{E:Value->Shared->Prop}
  (hE:∀e s',eA cx n fd A ρ₀ σ₀ s₀ X e s'->E e s')(hd:∀f s',Out cx n fd A ρ₀ σ₀ s₀ cg.mA Q f s'->R (.done f) s')
  (hn:∀it ρ σ loc s,yg cx n fd A ρ₀ σ₀ s₀ v as target it ρ σ loc s->P.ya tg b els N it loc σ Q X->R (.again c) s)
  (he:∀s',Good cx n fd A ρ σ loc s'->Step fd ρ₀ σ₀.us s₀ ρ σ.us s'->els loc σ Q X->R (.again d) s')
  {it:It}(C:yg cx n fd A ρ₀ σ₀ s₀ v as target it ρ σ loc s)(hm:P.ya tg b els (N+1) it loc σ Q X){pos:Pos} :
  cW cx.M A ((pyNext v).onRaise (λ_=>standAt pos) >>= λr=>match r with
    |none=>again d
    |some x=>letOwnedTupleGo target v x >>= λ_=>tw target body fd.env c x) R E s:=by
 have run : ∀ {r},Nx σ it r->(∀r' s',After cx n fd A ρ₀ σ₀.us s₀ ρ σ loc s as s'->Gk cx fd s₀ ρ σ.us s' v as r r'->match r' with
    |none=>R (.again d) s'
    |some x=>cW cx.M A (tw target body fd.env c x) R E s')->cW cx.M A ((pyNext v).onRaise (λ_=>standAt pos) >>= λr=>match r with
    |none=>again d
    |some x=>letOwnedTupleGo target v x >>= λ_=>tw target body fd.env c x) R E s:=λhr h=>by
  refine ai (dw (aD (.of (v6 (target:=target) C.G C.S C.I C.W hr C.t (E:=λ_ _=>False) h)) (λr' s1 y=> ?_) λ_ _ y=>y.elim))
  cases r' with
  |none=>exact ax y
  |some x=>exact ai (.of (wpAny_mono y (λ_ _ z=>z) λ_ _ z=>z.elim))
 induction hm with
 |stop hr hm=>
  refine run hr λr' s2 F nr=> ?_
  cases nr
  exact he _ F.G F.S hm
 |turn hr hm=>
  refine run hr λr' s2 F nr=> ?_
  apply nr.Hc
  intro x rv I2 W2
  have hu:=zg C.G hr
  refine ai (aD (ht _ x A ρ σ loc s2 _ X F.G rv hm) (λ_ s3 z=> ?_) λ_ _ z=>hE _ _ (z.pre F.S))
  obtain⟨_,ρ3,σ3,l3,S3,G3,_,hq⟩:=z
  refine ai (aD (hb A ρ3 σ3 l3 s3 _ X G3 trivial hq) (λf s4 z=> ?_) λ_ _ z=>hE _ _ (z.pre (F.S.trans S3)))
  obtain⟨mf,ρ4,σ4,l4,S4,G4,r,hq⟩:=z
  have S':=(F.S.trans S3).trans S4
  have C4 : yg cx n fd A ρ₀ σ₀ s₀ v as target _ ρ4 σ4 l4 s4:=⟨λq=>C.t (hu.1▸q),G4,S',(I2.step F.G hu.2 W2 (S3.trans S4)).1,(I2.step F.G hu.2 W2 (S3.trans S4)).2⟩
  induction r with
  |next=>exact ax (hn _ _ _ _ _ C4 hq)
  |brk=>exact ax (hd _ _ ⟨_,ρ4,σ4,l4,S',G4,(by constructor),hq⟩)
  |cont=>exact ax (hn _ _ _ _ _ C4 hq)
  |ret r=>exact ax (hd _ _ ⟨_,ρ4,σ4,l4,S',G4, .ret r,hq⟩)
theorem CI(F:Ag fd){target:Expr}{body orelse:List Stmt}{tg:MV->P Unit}{b els:P MF}(ht:ew cx n fd target tg)(hb:jH cx n fd body b)(he:jH cx n fd orelse els)(G₀:Good cx n fd A ρ₀ σ₀ loc₀ s₀){Q:MF->Loc->MH->Prop}{X:Addr->Loc->MH->Prop}{v:Value}{as:List Addr}(N:Nat) :
  ∀ (it:It)(ρ:LA->Addr)(σ:MH)(loc:Loc)(s:Shared),yg cx n fd A ρ₀ σ₀ s₀ v as target it ρ σ loc s->P.ya tg b els N it loc σ Q X->
  codeN cx.M A (.forLoop target v body orelse fd.env) (λr s'=>match r with | .ok f=>Out cx n fd A ρ₀ σ₀ s₀ cg.mA Q f s' | .error e=>yR cx n fd A ρ₀ σ₀ s₀ X e s') s:=by
 induction N with
 |zero=>exact λ_ _ _ _ _ _ hm=>hm.elim
 |succ N ih=>
  intro it ρ σ loc s C hm
  refine bP (λ_ _ _ _=>rfl) ?_
  refine Dj F G₀ ?_
  refine ai (bB (CC ht hb (λ_ _ o=>o) (λf s' o=>o) (λit ρ σ loc s C hm=>⟨rfl,ih it ρ σ loc s C hm⟩) (λs2 G2 S2 hm=>⟨rfl,bP (λ_ _ _ _=>rfl) ?_⟩) C hm))
  exact ai (Dj F G₀ (aD (he A ρ σ loc s2 _ X G2 trivial hm) (λf s3 z=>ax (z.pre S2)) λ_ _ z=>z.pre S2))
theorem B6(F:Ag fd){target iter:Expr}{body orelse:List Stmt}{pos:Pos}{m:P It}{tg:MV->P Unit}{b els:P MF}(hi:qP cx n fd iter m)(ht:ew cx n fd target tg)(hb:jH cx n fd body b)(he:jH cx n fd orelse els)
  : gd cx n fd (.For target iter body orelse pos) (P.MW (c5 target) m tg b els):=by
 intro A ρ σ loc s Q X G _ hm'
 refine ai (bB (ai (aD (hi A ρ σ loc s _ X G hm') (λx s1 y=> ?_) λ_ _ y=>y)))
 refine ai (aD y (λx' s2 y=> ?_) λ_ _ y=>y)
 refine ai (bB (ai (aJ (aD y (λit s3 y=> ?_) λ_ _ y=>y))))
 obtain⟨i,as,ρ1,σ1,l1,S1,G1,I1,W1,h1,N,hq⟩:=y
 exact zf F G (CI F ht hb he G N i ρ1 σ1 l1 s3 ⟨h1,G1,S1,I1,W1⟩ hq)
end
noncomputable def kG(e:Expr):Bool:=e.ctorIdx==8||(e.ctorIdx==9||e.ctorIdx==10)
noncomputable def E2(env:Env):Expr->Bool
 | .Name id _=>env.kindOf id==some .local
 |_=>false
section
variable {cx:Cx}{n:Nat}{fd:Fd}{A:Around}{ρ ρ':LA->Addr}{σ σ':MH}{loc loc':Loc}{s s₀ s':Shared}
theorem jA{e:Expr}{t:Option Expr}{l:Nat}{env:Env}(h:kG e=false):swapsWith e t l env=pure false:=by
 cases e<;>first | rfl | cases h
theorem Aj(F:Ag fd){e:Expr}{pos:Pos}{m:P MV}(hc:kG e=false)(h:bO cx n fd e m):gd cx n fd (.Expr e pos) (m.bind λ_=>P.ret MF.next):=by
 have q : exec (.Expr e pos) fd.env=(standAt pos >>= λ_=>eval e fd.env >>= λv=>dropValue e pos v):=by
  show (standAt pos >>= λ_=>if interactive fd.env=true then printExpr (eval e fd.env) else swapsWith e none pos.line fd.env >>= λb=>if b=true then _ else _)=_
  refine ae (show interactive fd.env=false by dsimp only[interactive];refine ae F.hk▸ ?_;rfl)▸ae (jA hc)▸ ?_;rfl
 show eQ cx n fd cg.mA _ _
 refine ae q▸ ?_
 refine aM.standAt (aM.bind h λa v=> ?_)
 intro A ρ σ loc s Q X G _ hm
 exact .of (wpAny_dropValue (Out.now G .next hm))
theorem wv{ts vs:List Expr}{x y:Nat}{p q:Pos}{env:Env}(h:ts.all (E2 env)=false):swappedStores [.Tuple ts x p] (.Tuple vs y q) env=pure none:=by
 have key : ∀line : Nat,((ts.filterMap λ
   | .Name id pos=>if env.kindOf id==some .local&&pos.line==line then some id else none
   |_=>none).length != ts.length)=true:=λline=>bne_iff_ne.mpr λz=>by
  refine aT (List.all_eq_false.mp h) λe he hn=> ?_
  have:=(List.filterMap_length_eq_length.mp z) e he
  split at this
  ·rename_i id pos
   cases hc : (env.kindOf id==some .local&&pos.line==line) with
   |true=>exact hn (an.mp hc).1
   |false=>(replace this:=hc▸this);cases this
  ·cases this
 by_cases c1 : (!(ts.length==2||ts.length==3)||vs.length != ts.length||env.blockKind != .function)=true
 ·exact if_pos c1
 refine (if_neg c1).trans ?_
 by_cases c2 : (vs.any λ | .Starred ..=>true | _=>false)=true
 ·exact if_pos c2
 exact (if_neg c2).trans (if_pos (dp.mpr (.inl (key _))))
theorem Az{ts:List Expr}{x:Nat}{p:Pos}{env:Env}{e:Expr}(h:ts.all (E2 env)=false∨c5 e=false):swappedStores [.Tuple ts x p] e env=pure none:=by
 cases e<;>first | rfl | exact wv (h.resolve_right nofun)
theorem fA{t e:Expr}{pos:Pos}{m:P MV}{mt:MV->P Unit}(hp:cm t=true)(hsw:swapsWith e (some t) pos.line fd.env=pure false)(hs:swappedStores [t] e fd.env=pure none)(h:bO cx n fd e m)(ht:ew cx n fd t mt) :
  gd cx n fd (.Assign [t] e pos) (m.bind λv=>(mt v).bind λ_=>P.ret MF.next):=by
 have q : exec (.Assign [t] e pos) fd.env=(standAt pos >>= λ_=>eval e fd.env >>= λv=>assign t fd.env v >>= λ_=>pure .next):=by
  show (standAt pos >>= λ_=>swapsWith e (some t) pos.line fd.env >>= λb=>if b=true then _ else (eval e fd.env >>= λv=>swappedStores [t] e fd.env >>= λsw=>assignStores fd.env v sw ((assignEach [t] fd.env).map (·.2))))=_
  refine ae hsw▸ae hs▸ae (fP hp)▸ ?_;rfl
 show eQ cx n fd cg.mA _ _
 refine ae q▸ ?_
 exact aM.standAt (aM.bind h λa v=>aM.bind (ht a v) λ_ _=>aM.pure λ_ _ _ _=> .next)
inductive Ic(loc:Loc)(σ:MH)(Q:MV->Loc->MH->Prop):Operator->MV->MV->Prop where
 |add {i j} (h:Q (.int (i+j)) loc σ):Ic loc σ Q .Add (.int i) (.int j)
 |sub {i j} (h:Q (.int (i - j)) loc σ):Ic loc σ Q .Sub (.int i) (.int j)
noncomputable abbrev P.aug(okA:Addr->String->Bool)(x:String)(op:Operator)(o v:P MV):P MF:=o.bind λa=>(P.am okA x a).bind λold=>v.bind λb=>P.bind (λloc σ Q _=>Ic loc σ Q op old b) λnew=>(P.setattr okA x a new).bind λ_=>P.ret MF.next
theorem DM{okA:Addr->String->Bool}(hA:∀C x,okA C x=true->gu cx.K C x=true){o value:Expr}{x:String}{tpos pos:Pos}{op:Operator}{mo mv:P MV}(ho:bO cx n fd o mo)(hv:bO cx n fd value mv) :
  gd cx n fd (.AugAssign (.Attribute o (Str.ofString x) tpos) op value pos) (P.aug okA x op mo mv):=by
 have q : exec (.AugAssign (.Attribute o (Str.ofString x) tpos) op value pos) fd.env=(standAt pos >>= λ_=>eval o fd.env >>= λov=>holding [ov] (standAt tpos.atName >>= λ_=>getAttr ov (Str.ofString x) true >>= λold=>
   holding [old] (eval value fd.env) >>= λv=>standAt pos >>= λ_=>operate [old,v] (inplaceOp op old v)) >>= λnew=>standAt tpos.atName >>= λ_=>holding [new,ov] (setAttr ov (Str.ofString x) new) >>= λ_=>release [new,ov] [] >>= λ_=>pure .next):=rfl
 show eQ cx n fd cg.mA _ _
 refine aM.standAt (aM.bind ho λa va=> ?_)
 intro A ρ σ loc s Q X G ha hm
 refine ai (aJ (ai (bB (ai (aD (oZ hA A ρ σ loc s _ X G ha hm) (λold s1 y=> ?_) λ_ _ y=>y)))))
 obtain⟨mold,ρ1,σ1,l1,S1,G1,r1,hq⟩:=y
 refine ai (aJ (aD (hv A ρ1 σ1 l1 s1 _ X G1 trivial hq) (λv s2 y=> ?_) λ_ _ y=>y.pre S1))
 obtain⟨b,ρ2,σ2,l2,S2,G2,r2,hq⟩:=y
 refine ai (bB (kt ?_))
 have S12:=S1.trans S2
 have ha2:=(ha.mono (S1.keeps G)).mono (S2.keeps G1)
 have fin : ∀ {i:Int}{t:Tok},(P.setattr okA x a (.int i)).bind (λ_=>P.ret MF.next) l2 σ2 Q X->cW cx.M A (standAt tpos.atName >>= λ_=>holding [Value.int i t,va] (setAttr va (Str.ofString x) (.int i t)) >>= λ_=>release [Value.int i t,va] [] >>= λ_=>pure .next) (Out cx n fd A ρ σ s cg.mA Q) (eA cx n fd A ρ σ s X) { s2 with toks:=s2.toks+1 }:=by
  intro i t hq
  have S3 : Step fd ρ σ.us s ρ2 σ2.us { s2 with toks:=s2.toks+1 }:=S12.trans (Step.tok _)
  refine ai (bB (ai (aJ (aD (pi hA A ρ2 σ2 l2 _ _ X (G2.tok (s2.toks+1)) ⟨ha2, .int⟩ hq) (λ_ s3 y=> ?_) λ_ _ y=>y.pre S3))))
  obtain⟨_,ρ4,σ4,l4,S4,G4,_,hq⟩:=y
  exact ai (eD (ax ⟨_,ρ4,σ4,l4,S3.trans S4,G4, .next,hq⟩))
 clear G ha hm hv ho S1 G1 S2 S12 ha2 q
 generalize Out cx n fd A ρ σ s cg.mA Q=Q',eA cx n fd A ρ σ s X=X' at fin ⊢
 induction hq with
 |add h=>
  apply r1.eH;intro t
  apply r2.eH;intro u
  exact .of (AutoIntOps.iadd_0 ((fin h)))
 |sub h=>
  apply r1.eH;intro t
  apply r2.eH;intro u
  exact .of (AutoIntOps.isub_0 ((fin h)))
theorem DT{o i:Expr}{p pos:Pos}{mo mi:P MV}(ho:bO cx n fd o mo)(hi:bO cx n fd i mi):gd cx n fd (.Delete [.Subscript o i p] pos) (mo.bind λa=>mi.bind λb=>(P.vq a b).bind λ_=>P.ret MF.next):=by
 show eQ cx n fd cg.mA (standAt pos >>= λ_=>((eval o fd.env >>= λov=>holding [ov] (eval i fd.env) >>= λiv=>standAt p >>= λ_=>holding [ov,iv] (delItem ov iv) >>= λ_=>release [ov,iv] []) >>= λ_=>pure ()) >>= λ_=>pure .next) _
 intro A ρ σ loc s Q X G _ hm
 refine ai (bB (ai (ai (ai (aD (ho A ρ σ loc s _ X G trivial hm) (λov s1 y=> ?_) λ_ _ y=>y)))))
 obtain⟨a,ρ1,σ1,l1,S1,G1,r1,hq⟩:=y
 refine ai (aJ (aD (hi A ρ1 σ1 l1 s1 _ X G1 trivial hq) (λiv s2 y=> ?_) λ_ _ y=>y.pre S1))
 obtain⟨b,ρ2,σ2,l2,S2,G2,r2,hq⟩:=y
 refine ai (bB (ai (aJ (aD (wj.n A ρ2 σ2 l2 s2 _ X G2 ⟨r1.mono (S2.keeps G1),r2⟩ hq) (λ_ s3 y=> ?_) λ_ _ y=>y.pre (S1.trans S2)))))
 obtain⟨_,ρ3,σ3,l3,S3,G3,_,hq⟩:=y
 exact eD (ax (ax ⟨_,ρ3,σ3,l3,(S1.trans S2).trans S3,G3, .next,hq⟩))
end
inductive kK{α β:Type}(R:α->β->Prop):List α->List β->Prop
 |nil : kK R [] []
 |cons {a b as bs}:R a b->kK R as bs->kK R (a::as) (b::bs)
section
variable {cx:Cx}{n:Nat}{fd:Fd}{A:Around}{ρ ρ':LA->Addr}{σ σ':MH}{loc loc':Loc}{s s₀ s':Shared}
noncomputable abbrev P.vn(vs:List MV):P MV:=λloc σ Q _=>vs.length<=100000/\∃r,¬σ.us r/\Q (.ref r) loc (σ.new r (.list vs))
theorem vY{as:List MV}{vs:List Value}:mJ cx n fd (λρ U h=>cR ρ U h as vs) VR (newList vs) (P.vn as):=by
 intro A ρ σ loc s Q X G hv hm
 obtain⟨hz,r,hr,hq⟩:=hm
 refine wpAny_newList ?_ (by rw[aU];exact ad (ad (aw hv.len) hz) (by decide))
 exact Out.iU G hr s.toks (.push _) (aG _) (aP _ rfl) (by simpa using hv) hq
theorem xy{as:List MV}{vs:List Value}:mJ cx n fd (λρ U h=>cR ρ U h as vs) VR (newTuple vs) (λloc σ Q _=>as.length<=100000/\Q (.tup as) loc σ):=by
 intro A ρ σ loc s Q X G hv hm
 refine wpAny_newTuple ?_ (by rw[aU];exact ad (ad (aw hv.len) hm.1) (by decide))
 exact Out.zw G s.toks (.push _) (aP _ rfl) rfl rfl (by simpa using hv) hm.2
theorem CJ{es:List Expr}{pos:Pos}{ms:P (List MV)}(h:jP cx n fd pos es ms):bO cx n fd (.List es pos) (ms.bind P.vn):=by
 exact aM.standAt (aM.bind h λas vs=>vY.n)
theorem AB{es:List Expr}{x1:Nat}{pos:Pos}{ms:P (List MV)}(h:jP cx n fd pos es ms):bO cx n fd (.Tuple es x1 pos) (ms.bind λas loc σ Q _=>as.length<=100000/\Q (.tup as) loc σ):=by
 exact aM.standAt (aM.bind h λas vs=>xy.n)
theorem tS{h:Heap}{a:Addr}{K:Type} [DecidableEq K] {knd:PySem.KeyKind cx.prog cx.w K}(e:h.get? a=some emptyDict):h.DictOf knd a []:=by
 refine iE (Heap.DictOf.new (knd:=knd) h) λo es ep e' r=> ?_
 rw[aP h rfl] at e'
 cases e'
 exact⟨_,es,ep,e,r⟩
noncomputable abbrev P.iT : P MV:=λloc σ Q _=>∃r o,(¬σ.us r/\(o= .bS []∨o= .dD []∨o= .iS []))/\Q (.ref r) loc (σ.new r o)
theorem zT{pos:Pos}:bO cx n fd (.Dict [] [] pos) P.iT:=by
 intro A ρ σ loc s Q X G _ hm
 refine ey hm λr o zo2_ hq=> ?_;obtain⟨hr,ho⟩:=zo2_
 refine .of (wpAny_Dict_empty ?_)
 have e:=aP s.heap (o:=emptyDict) rfl
 have rel : ∀ {ρ':LA->Addr}{U:LA->Prop},lM cx.prog cx.w ρ' U (s.heap.push emptyDict) s.heap.objs.size o:=by
  intro ρ' U
  rcases ho with rfl | rfl | rfl
  ·exact⟨[],tS (cx:=cx) e,iy.nil⟩
  ·exact⟨[],tS (cx:=cx) e,iy.nil⟩
  ·exact⟨[],tS (cx:=cx) e,iy.nil⟩
 exact Out.alloc G hr s.toks (.push emptyDict) (aG _) e (ca rfl) (λ_ _=>rel) hq
noncomputable def yl(ks:List String)(vs:List MV):List (String×MV):=(ks.zip vs).foldl (λacc e=>gX acc e.1 e.2) []
noncomputable abbrev cg.pairs(cx:Cx)(ks:List String):cg (List MV) (List (Value×Value)):=λρ U h as vs=>∃kvs,Carries (PySem.strKind cx.prog cx.w) vs kvs/\iy ρ U h Str.ofString (ks.zip as) kvs/\as.length=ks.length
noncomputable def Bn(k:Option Expr)(x:String):Prop:=∃kk p,k=some (.Constant (.str (Str.ofString x)) kk p)
noncomputable def P.gU : List (P MV)->P (List MV)
 | []=>P.ret []
 |m::ms=>m.bind λa=>(P.gU ms).bind λas=>P.ret (a::as)
theorem iD{pos:Pos}{es:List Expr}{ms:List (P MV)}(h:es.all cm=true)(a:kK (bO cx n fd) es ms):jP cx n fd pos es (P.gU ms):=by
 induction a with
 |nil=>exact oK
 |cons h1 _ ih=>
  exact lP (an.mp (List.all_cons.symm.trans h)).1 h1 (ih (an.mp (List.all_cons.symm.trans h)).2)
theorem HA{pos:Pos}{k:String}{kk:Nat}{p:Pos}{e:Expr}{m:P MV}{ks:List String}{pairs:List (Sem Value×Sem Value)}{ms:P (List MV)}(h1:bO cx n fd e m)(sp:eQ cx n fd (cg.pairs cx ks) (evalPairs pairs) ms) :
  eQ cx n fd (cg.pairs cx (k::ks)) (evalPairs ((eval (.Constant (.str (Str.ofString k)) kk p) fd.env,do let x<-eval e fd.env;standAt pos;pure x)::pairs)) (m.bind λa=>ms.bind λas=>P.ret (a::as)):=by
 intro A ρ σ loc s Q X G _ hm
 refine ai (aD (yv A ρ σ loc s (λa l s'=>a= .str k/\l=loc/\s'=σ) X G trivial ⟨rfl,rfl,rfl⟩) (λkv s1 y=> ?_) λ_ _ y=>y)
 obtain⟨_,ρ1,σ1,l1,S1,G1,rk,rfl,rfl,rfl⟩:=y
 obtain⟨tk,rfl⟩:=rk.str_inv
 refine ai (aJ (ai (aD (h1 A ρ1 _ _ s1 _ X G1 trivial hm) (λv s2 y=> ?_) λ_ _ y=>y.pre S1)))
 obtain⟨a,ρ2,σ2,l2,S2,G2,rv,hq⟩:=y
 refine ai (bB (ax (ai (aJ (aD (sp A ρ2 σ2 l2 s2 _ X G2 trivial hq) (λvs s3 y=> ?_) λ_ _ y=>y.pre (S1.trans S2))))))
 obtain⟨as,ρ3,σ3,l3,S3,G3,⟨kvs,c1,c2,c3⟩,hq⟩:=y
 exact ax ⟨a::as,ρ3,σ3,l3,(S1.trans S2).trans S3,G3,⟨(Str.ofString k,v)::kvs,⟨beq_self_eq_true _,rfl,c1⟩, .cons (rv.mono (S3.keeps G2)) c2,ah Nat.succ c3⟩,hq⟩
theorem Fx{pos:Pos}{keys:List (Option Expr)}{ks:List String}(hk:kK Bn keys ks):∀ {es:List Expr}{ms:List (P MV)},ks.length=es.length->kK (bO cx n fd) es ms->
  ∃pairs : List (Sem Value×Sem Value),(evalEachOpt keys fd.env).zip ((evalEach es fd.env).map λv=>do let x<-v;standAt pos;pure x)=pairs.map (λp=>(some p.1,p.2))/\pairs.length=ks.length/\eQ cx n fd (cg.pairs cx ks) (evalPairs pairs) (P.gU ms):=by
 induction hk with
 |nil=>
  intro es ms hl h
  cases h with
  |nil=>exact⟨[],rfl,rfl,aM.pure λ_ _ _ _=>⟨[],trivial, .nil,rfl⟩⟩
  |cons=>exact nomatch hl
 |cons hk _ ih=>
  intro es ms hl h
  cases h with
  |nil=>exact nomatch hl
  |cons h1 h2=>
   refine fu hk λkk p zr2_=> ?_;subst zr2_
   refine pB (ih (bL hl) h2) λpairs e1 e2 sp=> ?_
   exact⟨(_,_)::pairs,ah (List.cons (some _,_)) e1,ah Nat.succ e2,HA (kk:=kk) (p:=p) h1 sp⟩
theorem iy.merged{ρ:LA->Addr}{U:LA->Prop}{h:Heap}{es:List (String×MV)}{kvs:List (Str×Value)}(x:iy ρ U h Str.ofString es kvs):∀ {acc:List (String×MV)}{bcc:List (Str×Value)},iy ρ U h Str.ofString acc bcc->
  iy ρ U h Str.ofString (es.foldl (λacc e=>gX acc e.1 e.2) acc) (PySem.merged bcc kvs):=by
 induction x with
 |nil=>exact _root_.id
 |cons a _ ih=>exact λy=>ih (y.stored (λ_ _ z=>gw z) _ a)
noncomputable abbrev P.dD(ks:List String)(as:List MV):P MV:=λloc σ Q _=>∃r,¬σ.us r/\Q (.ref r) loc (σ.new r (.dD (yl ks as)))
theorem zY{keys:List (Option Expr)}{ks:List String}{es:List Expr}{pos:Pos}{ms:List (P MV)}(hk:kK Bn keys ks)(hl:ks.length=es.length)(h0:0 < ks.length)(h15:ks.length<=15)(h:kK (bO cx n fd) es ms) :
  bO cx n fd (.Dict keys es pos) ((P.gU ms).bind (P.dD ks)):=by
 refine pB (Fx (pos:=pos) hk hl h) λpairs e1 e2 sp=> ?_
 intro A ρ σ loc s Q X G _ hm
 show cW _ _ (standAt pos >>= λ_=>dictDisplay ((evalEachOpt keys fd.env).zip ((evalEach es fd.env).map λv=>do let x<-v;standAt pos;pure x))) _ _ s
 have hp : pairs≠[]:=λq=>by replace e2:=q▸e2;simp at e2;(first | lia | omega)
 refine ae e1▸ae (dictDisplay_pairs pairs hp (az (ad (aw e2) h15) (by decide)))▸ ?_
 refine ai (bB ?_)
 dsimp only[subDict]
 refine ai (ai (.of (wpAny_alloc ?_)))
 refine ae (if_pos (le_of_eq_of_le e2 h15))▸ ?_
 have G1:=G.push emptyDict s.toks
 have e0:=aP s.heap (o:=emptyDict) rfl
 have S1 : Step fd ρ σ.us s ρ σ.us { s with heap:=s.heap.push emptyDict }:=Step.grow G.di G.locals (.push _) s.toks
 have W1 : gY cx fd s ρ σ.us { s with heap:=s.heap.push emptyDict } s.heap.objs.size:=gY.fresh G (aG _) .refl ⟨_,e0,ca rfl⟩
 refine ai (aJ (ai (aD (sp A ρ σ loc _ _ X G1 trivial hm) (λvs s2 y=> ?_) λ_ _ y=>y.pre S1)))
 obtain⟨as,ρ2,σ2,l2,S2,G2,⟨kvs,c1,c2,c3⟩,r,hr,hq⟩:=y
 have W2:=(W1.step G1 S2).1;have k2:=(W1.step G1 S2).2
 have len : kvs.length<=15:=by
  rw[c2.len]
  have : (ks.zip as).length<=ks.length:=by rw[List.length_zip];exact Nat.min_le_left ks.length as.length
  exact ad this h15
 refine aJ (ai (.of (wpAny_storeAll (knd:=PySem.strKind cx.prog cx.w) vs kvs [] s2 _ c1 (tS (cx:=cx) (k2 _ e0)) (by refine ae aU▸ae List.length_nil▸ ?_;exact ad (bF (aG _) len) (by decide)) λh' hm' sb=> ?_)))
 have S12:=S1.trans S2
 refine dA (G2.gh (as:=[s.heap.objs.size]) (t:=s2.toks+vs.length) S12 (λa ha=>by cases av.mp ha;exact W2) (λb o nb e=>(sb.2 b λq=>nb (q▸ .head _)).trans e)) λG3 S3=> ?_
 refine aT (pT hm') λod hod ntd=> ?_
 have kp : fh ρ2 σ2.us s2.heap ρ2 σ2.us h':=⟨λ_ u=>⟨u,rfl⟩,λb o e c=>(sb.2 b λq=>by rw[q] at e;replace e:=(k2 _ e0)▸e;cases e;exact ca rfl c).trans e⟩
 obtain⟨ρ4,N⟩:=Ad ρ2 r s.heap.objs.size
 have G4:=G3.name hr N (o':= .dD (yl ks as)) hod ntd G.oR W2.un W2.D7 λk=>⟨_,hm',((c2.mono kp).mono k).merged iy.nil⟩
 exact ax (ax (ax ⟨.ref r,_,σ2.new r (.dD (yl ks as)),l2,S3.named hr N W2.new,G4,N.ref,hq⟩))
end
theorem qr(slice:Expr)(o i:Value):∃ops,subscripted slice false o i=operate ops (getItem o i):=by
 cases slice with
 |Slice lo hi st p=>cases st<;>exact⟨_,rfl⟩
 |_=>exact⟨_,rfl⟩
section
variable {cx:Cx}{n:Nat}{fd:Fd}{A:Around}{ρ ρ':LA->Addr}{σ σ':MH}{loc loc':Loc}{s s₀ s':Shared}
inductive dZ(σ:MH):MV->Prop where
 |oct {b}:dZ σ (.bytes b)
 |tup {vs}:dZ σ (.tup vs)
 |list {l vs} (e:σ.get l=some (.list vs)):dZ σ (.ref l)
 |fz {l o vs} (e:σ.get l=some (.fz o vs)):dZ σ (.ref l)
 |ba {l b} (e:σ.get l=some (.bW b)):dZ σ (.ref l)
 |dI {l es} (e:σ.get l=some (.bS es)):dZ σ (.ref l)
 |dS {l es} (e:σ.get l=some (.dD es)):dZ σ (.ref l)
structure M4(s:Shared)(v:Value)(T id:String):Prop where
 t : s.TypeIs v T
 l : typeLookup (.type T) (Str.ofString "__getitem__")=pure (some (.builtin id))
theorem Good.M9(G:Good cx n fd A ρ σ loc s){a:MV}{v:Value}(hv:VR ρ σ.us s.heap a v)(hi:dZ σ a):∃T id,M4 s v T id:=by
 induction hi with
 |oct=>apply hv.dg;exact λ_=>⟨_,_,typeIs_bytes _ _ _,FB.slot_bytes_getitem.lookup⟩
 |tup=>refine EV hv.dN λb o xs ep zr4_ e1 c1 _=> ?_;subst zr4_;exact⟨_,_,⟨o,e1,c1⟩,slot_tuple_getitem.lookup⟩
 |list e=>obtain⟨X,i,_⟩:=G.isList e;rw[hv.bU.1];exact⟨_,_,i.typeIs,slot_list_getitem.lookup⟩
 |fz e=>refine aT (G.Je e) λX i _=> ?_;rw[hv.bU.1];exact⟨_,_,i.typeIs,slot_list_getitem.lookup⟩
 |ba e=>(refine ae hv.bU.1▸ ?_);exact⟨_,_,cu (G.obj _ _ e).2,f8.lookup⟩
 |dI e=>obtain⟨kvs,d,_⟩:=(G.obj _ _ e).2;rw[hv.bU.1];exact⟨_,_,d.typeIs,PySem.F.slot_dict_getitem.lookup⟩
 |dS e=>obtain⟨kvs,d,_⟩:=(G.obj _ _ e).2;rw[hv.bU.1];exact⟨_,_,d.typeIs,PySem.F.slot_dict_getitem.lookup⟩
theorem M1(G:Good cx n fd A ρ σ loc s){a:MV}{v:Value}(hv:VR ρ σ.us s.heap a v)(hi:dZ σ a){M:Model}{Q:Bool->Shared->Prop}{E:Value->Shared->Prop}(h:Q false s):wpAny M A (getitemInPython v) Q E s:=by
 refine fu (G.M9 hv hi) λT id t=> ?_
 exact af (bN t.t t.l (ao h))
theorem DE{a i:MV}{Q:MV->Loc->MH->Prop}{X:Addr->Loc->MH->Prop}(h:P.item a i loc σ Q X):dZ σ a:=by
 induction h with
 |oct=>exact .oct
 |tup=>exact .tup
 |list f=>exact .list f
 |ba f=>exact .ba f
 |dI f=>exact .dI f
 |dS f=>exact .dS f
theorem Ay{a:MV}{lo hi:Option Int}{Q:MV->Loc->MH->Prop}{X:Addr->Loc->MH->Prop}(h:P.slice a lo hi loc σ Q X):dZ σ a:=by
 induction h with
 |oct=>exact .oct
 |tup=>exact .tup
 |list f=>exact .list f
 |fz f=>exact .fz f
 |ba f=>exact .ba f
theorem qD{p:Pre}{a:MV}{ov iv:Value}{slice o:Expr}{m:P MV}(hp:∀ {ρ U h},p ρ U h->VR ρ U h a ov)(hh:∀ {loc σ Q X},m loc σ Q X->dZ σ a)(hs:aM cx n fd p VR (getItem ov iv) m) :
  aM cx n fd p VR (getitemInPython ov >>= λb=>subscripted slice b ov iv >>= λr=>letTemporaryGo o ov r >>= λ_=>pure r) m:=by
 intro A ρ σ loc s Q X G q hm
 refine ai (.of (M1 G (hp q) (hh hm) ?_))
 refine cN (qr slice ov iv) λops e=> ?_
 refine ae e▸ ?_
 exact ai (kt (aD (hs A ρ σ loc s Q X G q hm) (λr s3 y=>ai (.of (wpAny_letTemporaryGo (ax y)))) λ_ _ y=>y))
theorem aM.side{α β:Type}{R:cg α β}{p:Pre}(hp:bM p){t:Sem β}{m:P α}(h:eQ cx n fd R t m):aM cx n fd p (λρ U h a b=>R ρ U h a b/\p ρ U h) t m:=(aM.frame hp h).weak λ_ _ _ q=>⟨trivial,q⟩
theorem si{o i:Expr}{pos:Pos}{m mi:P MV}(ho:bO cx n fd o m)(hi:bO cx n fd i mi):bO cx n fd (.Subscript o i pos) (m.bind λa=>mi.bind λb=>P.item a b):=by
 exact aM.bind ho λa ov=>aM.bind (aM.holding (aM.side bM.vr hi)) λb iv=>aM.standAt (qD (·.2) DE (BX.n.weak λ_ _ _ q=>⟨q.2,q.1⟩))
inductive e9 : MV->Option Int->Prop where
 |no : e9 .none none
 |int (i:Int):e9 (.int i) (some i)
theorem e9.part{a:MV}{i:Option Int}(b:e9 a i){v:Value}{U:LA->Prop}{h:Heap}(r:VR ρ U h a v):IsPart v i:=by
 induction b with
 |no=>(refine ae r.none_inv▸ ?_);exact .none
 |int i=>apply r.eH;exact λ_=> .int _ _
noncomputable abbrev rU(cx:Cx)(n:Nat)(fd:Fd)(e:Option Expr)(m:P MV):Prop:=eQ cx n fd VR (valueOrNone (evalOpt e fd.env)) m
theorem Aw : rU cx n fd none (P.ret .none):=aM.pure λ_ _ _ _=> .none
theorem z8{e:Expr}{m:P MV}(h:bO cx n fd e m):rU cx n fd (some e) m:=h
noncomputable abbrev P.bnd(ml mh:P MV):P (Option Int×Option Int):=ml.bind λa=>mh.bind λb=>λloc σ Q _=>∃i j,e9 a i/\e9 b j/\Q (i,j) loc σ
noncomputable abbrev P.bounds{α:Type}(ml mh:P MV)(f:Option Int->Option Int->P α):P α:=(P.bnd ml mh).bind λp=>f p.1 p.2
theorem AE{a b:MV}{lv uv:Value}:aM cx n fd (λρ U h=>VR ρ U h b uv/\VR ρ U h a lv) cg.slice (holding [lv,uv] (pure .none) >>= λst=>newFields "slice" [lv,uv,st]) (λloc σ Q _=>∃i j,e9 a i/\e9 b j/\Q (i,j) loc σ):=by
 intro A ρ σ loc s Q X G hp hm
 refine eW hm λi j h1 h2 hq=> ?_
 refine ai (aJ (ax (.of (wpAny_newObj_type ?_))))
 exact⟨(i,j),ρ,σ,loc,Step.grow G.di G.locals (.push _) s.toks,G.push _ s.toks,⟨_,_,_,rfl,h1.part hp.2,h2.part hp.1,Heap.IsSliceOf.new s.heap lv uv .none⟩,hq⟩
theorem qi{lo hi:Option Expr}{p:Pos}{ml mh:P MV}(hl:rU cx n fd lo ml)(hh:rU cx n fd hi mh):eQ cx n fd cg.slice (eval (.Slice lo hi none p) fd.env) (P.bnd ml mh):=by
 show eQ cx n fd cg.slice (valueOrNone (evalOpt lo fd.env) >>= λl=>holding [l] (valueOrNone (evalOpt hi fd.env)) >>= λu=>holding [l,u] (pure .none) >>= λst=>newFields "slice" [l,u,st]) _
 exact aM.bind hl λa lv=>aM.bind (aM.holding (aM.side bM.vr hh)) λb uv=>AE
theorem AF{o:Expr}{lo hi:Option Expr}{p pos:Pos}{m ml mh:P MV}(ho:bO cx n fd o m)(hl:rU cx n fd lo ml)(hh:rU cx n fd hi mh) :
  bO cx n fd (.Subscript o (.Slice lo hi none p) pos) (m.bind λa=>P.bounds ml mh λi j=>P.slice a i j):=by
 exact aM.bind ho λa ov=>aM.bind (aM.holding (aM.side bM.vr (qi hl hh))) λb iv=>aM.standAt (qD (·.2) Ay (zQ.n.weak λ_ _ _ q=>q))
end
end Internal
namespace Internal
open PySem PySem.W PyProof.Rows PySem.Calls Builtin PySem.EqNone PySem.SeqAt
section
variable {cx:Cx}{n:Nat}{fd:Fd}
noncomputable abbrev jr(cx:Cx)(n:Nat)(fd:Fd)(f:Value)(c:List MV->P MV):Prop:=∀as vs,mJ cx n fd (λρ U h=>cR ρ U h as vs) VR (call f vs) (c as)
theorem jr.toN{f:Value}{c:List MV->P MV}(h:jr cx n fd f c):cP cx n fd f c:=λas vs=>(h as vs).n
theorem dM{L:Addr}{h h':Heap}(hk:∀b o,h.get? b=some o->h'.get? b=some o):jI L h h':=⟨λb o _ e=>hk b o e,λ_ ns=>ns.keeps hk⟩
theorem oU : Slot "bytearray" "__len__" "bytearray.__len__" :=
 .of (owner := "bytearray") (n := "__len__") (by rfl) (by decide +kernel) (by decide +kernel) (by decide +kernel)
  (by first | exact .inl (by decide +kernel) | exact .inr (by decide +kernel)) (by exact (cA ..))
theorem uH : entryFor table "bytearray.__len__" = some Builtin.«bytearray.__len__»:=entryFor_of_tree (by kernel_rfl)
theorem wC(a:Value):argsOk "bytearray.__len__" ⟨[a],[]⟩:=by kernel_rfl
theorem IE{prog:Program}{w:World}{A:Around}{E:Value->Shared->Prop}{s:Shared}{a:Addr}{b:List UInt8}{Q:Value->Shared->Prop}(e:d6 s.heap a b)(hz:b.length<=1000000)(h:∀t k,Q (.int b.length t) { s with toks:=k }) :
  wpAny (model prog w) A (call (.builtin "len") [.ref a]) Q E s:=by
 refine Calls.call_function_entry kind_len plain_len entry_len (args_len1 _) ?_
 refine af (m:=oneArg "len" _) (ao ?_)
 refine af (m:=callSpecial? (.ref a) (Str.ofString "__len__")) (wpAny_callSpecial?_slot (name:=Str.ofString "__len__") (cu e) oU
  (wpAny_call_entry oU (cu e) uH ?_ (wC _)))
 show wpAny _ _ (Bytes.payload (.ref a) >>= λr=>retInt r.size) _ _ s
 refine af (dF e ?_)
 refine af (wpAny_mkInt (ao ⟨_,rfl, ?_⟩))
 refine af (bk (ao ?_))
 refine af (wpAny_letGo ?_)
 have e1 : b.toArray.size=b.length:=by exact d9
 show wpAny _ _ (if ((b.toArray.size : Nat):Int)≥2^63 then _ else _) _ _ _
 rw[if_neg (by rw[e1];exact Int.not_le.mpr (cU (aW.mpr hz) (by decide)))]
 exact af (wpAny_mkInt (ao ⟨_,rfl,h _ _⟩))
inductive zW(loc:Loc)(σ:MH)(Q:MV->Loc->MH->Prop):List MV->Prop where
 |oct {b} (a:b.length<=100000)(h:Q (.int b.length) loc σ):zW loc σ Q [.bytes b]
 |list {l vs} (e:σ.get l=some (.list vs))(a:vs.length<=100000)(h:Q (.int vs.length) loc σ):zW loc σ Q [.ref l]
 |ba {l b} (e:σ.get l=some (.bW b))(a:b.length<=100000)(h:Q (.int b.length) loc σ):zW loc σ Q [.ref l]
noncomputable abbrev P.len(as:List MV):P MV:=λloc σ Q _=>zW loc σ Q as
theorem Fj : jr cx n fd (.builtin "len") P.len:=by
 intro as vs A ρ σ loc s Q X G hp hm
 have tk : ∀ {i:Int}{t k:Nat},Q (.int i) loc σ->Out cx n fd A ρ σ s VR Q (.int i t) { s with toks:=k }:=λh=>Out.pre (Step.tok _) (Out.now (G.tok _) .int h)
 generalize Out cx n fd A ρ σ s VR Q=Q' at tk ⊢
 generalize eA cx n fd A ρ σ s X=E'
 induction hm with
 |oct a h=>
  apply hp.Jl;intro y r;apply r.dg;intro t
  exact KBw.len_K rfl (by rw[KBw.ints_length,d9];exact ad a (by decide)) (by refine ae (KBw.ints_length ..)▸ ?_;exact tk h)
 |list e a h=>
  refine aT (G.isList e) λxs i r=> ?_
  have l1:=r.len
  rw[bu] at l1
  apply hp.eB;intro _
  exact call_len_list i (by rw[l1];exact cU (aW.mpr a) (by decide)) (by refine ae l1▸ ?_;exact tk h)
 |ba e a h=>
  apply hp.eB;intro _
  exact IE (G.obj _ _ e).2 (ad a (by decide)) λt k=>tk h
inductive IC(loc:Loc)(σ:MH)(Q:MV->Loc->MH->Prop):List MV->Prop where
 |mk {i:Int}(h:Q (.int (if i < 0 then -i else i)) loc σ):IC loc σ Q [.int i]
noncomputable abbrev P.abs(as:List MV):P MV:=λloc σ Q _=>IC loc σ Q as
theorem FD : jr cx n fd (.builtin "abs") P.abs:=by
 intro as vs A ρ σ loc s Q X G hp hm
 induction hm with
 |mk h=>
  apply hp.Jl;intro y r;apply r.eH;intro t
  exact call_abs_int λu tk=>Out.pre (Step.tok _) (Out.now (G.tok _) .int h)
inductive Hw(loc:Loc)(σ:MH)(Q:MV->Loc->MH->Prop):List MV->Prop where
 |mk {i j:Int}(h:Q (.int (if j < i then j else i)) loc σ):Hw loc σ Q [.int i, .int j]
noncomputable abbrev P.min(as:List MV):P MV:=λloc σ Q _=>Hw loc σ Q as
theorem FJ{ρ:LA->Addr}{U:LA->Prop}{h:Heap}{p:Prop} [Decidable p] {i j:Int}{t u:Tok}:VR ρ U h (.int (if p then i else j)) (if p then .int i t else .int j u):=by split<;>exact .int
theorem Fg : jr cx n fd (.builtin "min") P.min:=by
 intro as vs A ρ σ loc s Q X G hp hm
 induction hm with
 |mk h=>
  apply hp.El;intro y z r1 r2;apply VR.fK r1 r2;intro t u
  exact min_two_ints G.ak.hh λh' tk hk=>Out.pre (Step.grow G.di G.locals (dM hk) tk) (Out.now (G.grow (dM hk) tk) FJ h)
noncomputable def intsOf : List MV->Option (List Int)
 | []=>some []
 | .int i::r=>(intsOf r).map (i::·)
 |_=>none
theorem rn{ρ:LA->Addr}{U:LA->Prop}{h:Heap}:∀ {ms:List MV}{vs:List Value}{ns:List Int},cR ρ U h ms vs->intsOf ms=some ns->IntsAre vs ns
 | [],_,_,r,e=>by cases r.nil_inv;cases e;exact .nil
 |m::ms,_,ns,r,e=>by
  refine eW r.cons_inv λy ys zr2_ r1 r2=> ?_;subst zr2_
  cases m<;>simp only[intsOf,reduceCtorEq] at e
  refine aT (bl.mp e) λns' e' zr2_=> ?_;subst zr2_
  refine cN r1.int_inv λt zr1_=> ?_;subst zr1_
  exact .cons _ _ (rn r2 e')
inductive IY(loc:Loc)(σ:MH)(Q:MV->Loc->MH->Prop):List MV->Prop where
 |mk {l vs ns} (e:σ.get l=some (.list vs))(f:intsOf vs=some ns)(h:Q (.int ns.sum) loc σ):IY loc σ Q [.ref l]
noncomputable abbrev P.sum(as:List MV):P MV:=λloc σ Q _=>IY loc σ Q as
theorem FL : jr cx n fd (.builtin "sum") P.sum:=by
 intro as vs A ρ σ loc s Q X G hp hm
 induction hm with
 |mk e f h=>
  refine aT (G.isList e) λxs zo1_ r=> ?_;obtain⟨o,o1,o2,ep,o3⟩:=zo1_
  obtain⟨mL,ns⟩:=G.locals
  apply hp.eB;intro _
  refine sumK G.ak.hh (DB ns) (ui (h:=s.heap)) (vs:=xs.toList) ⟨_,o1,o2,ep,o3⟩ (rn r f) λh' tk t' F N=> ?_
  exact Out.pre (Step.grow G.di G.locals (xn (pre:=[]) ns F N) tk) (Out.now (G.grow (xn (pre:=[]) ns F N) tk) .int h)
end
end Internal
namespace Internal
open PySem PySem.W PyProof.Rows PySem.Calls Builtin
section
variable {M:Model}{A:Around}{E:Value->Shared->Prop}{s:Shared}{a:Addr}{b:List UInt8}
theorem pR(e:d6 s.heap a b){Q:Bool->Shared->Prop}(h:Q false s):cW M A (Bytes.exported (.ref a) <||> (do return decide ((<-Bytes.exportsOf (.ref a)) > 0))) Q E s:=by
 refine ai (uP ?_)
 refine ai (ai (.of (wpAny_load e ?_)))
 exact ax (ax h)
theorem kC(e:d6 s.heap a b){Q:Unit->Shared->Prop}(h:Q () s):cW M A (Bytes.checkResize (.ref a)) Q E s:=by
 refine ai (pR e ?_)
 exact ax h
end
theorem g5{prog:Program}{w:World}{A:Around}{E:Value->Shared->Prop}{s:Shared}{T:String}{name:Str}{id:String}{b:Builtin}{self:Value}{rest:List Value}{Q:Value->Shared->Prop}(h:Slot T name id)(hT:s.TypeIs self T)
  (hb:entryFor table id=some b)(hok:im (.builtin id ⟨self::rest,[]⟩))(hp:plainId id=true)
  (hc:cW (model prog w) A.in1 (b ⟨self::rest,[]⟩) (λfin s'=>∃v,fin= .done (.ret v)/\Q v s') E s)(ha:argsOk id ⟨self::rest,[]⟩) :
  cW (model prog w) A (call (.builtin id) (self::rest)) Q E s:=by
 refine iN (eV hok (plainId_quiet hp _) hb (h.check _ _ _ _ _ _ _ _ hT ha ?_))
 rw[Around.under_plainId hp]
 refine aD hc (λfin s' h'=> ?_) λ_ _ h'=>h'
 refine aT h' λv zr1_ hv=> ?_;subst zr1_;exact hv
theorem px : entryFor table "bytearray.append" = some Builtin.«bytearray.append»:=entryFor_of_tree (by kernel_rfl)
theorem qM(a b:Value):argsOk "bytearray.append" ⟨[a,b],[]⟩:=by kernel_rfl
theorem jz : entryFor table "bytearray.extend" = some Builtin.«bytearray.extend»:=entryFor_of_tree (by kernel_rfl)
theorem j0(a b:Value):argsOk "bytearray.extend" ⟨[a,b],[]⟩:=by kernel_rfl
section
variable {prog:Program}{w:World}{A:Around}{E:Value->Shared->Prop}{s:Shared}{a:Addr}{b:List UInt8}
theorem AO{x:Int}{t:Tok}(e:d6 s.heap a b)(x0:0<=x)(x1:x < 256)(hz:b.length<=100000){Q:Value->Shared->Prop}
  (h:∀h',h'.objs.size=s.heap.objs.size->(∀y,y≠a->h'.get? y=s.heap.get? y)->d6 h' a (b++[x.toNat.toUInt8])->Q .none { s with heap:=h' }) :
  cW (model prog w) A (call (.builtin "bytearray.append") [.ref a, .int x t]) Q E s:=by
 refine g5 j9 (cu e) px (λ_ v _ _=>ET (x:=Bytes.sameRef _ v)) (by decide +kernel) ?_ (qM _ _)
 refine ai (ax (a:=(Value.ref a,Value.int x t)) ?_)
 refine ai (.of (yu x0 x1 ?_))
 refine ai (kC e ?_)
 refine ai (.of (eO e (c:=b++[x.toNat.toUInt8]) (List.push_toArray b x.toNat.toUInt8) (by refine ae aU▸ ?_;simp;exact ad hz (by decide)) λh' hs ho hb=> ?_))
 exact ax ⟨_,rfl,h h' hs ho hb⟩
end
theorem Cy : mroOf (.type "bytearray")=pure [.type "bytearray", .type "object"]:=by rw[mroOf_type];kernel_rfl
theorem rH : typeLookup (.type "bytearray") "__new__" = pure (some (.builtin "bytearray.__new__")):=by rw[cJ,bE];kernel_rfl
theorem u2 : Slot "bytearray" "__init__" "bytearray.__init__" :=
 .of (owner := "bytearray") (n := "__init__") (by rfl) (by decide +kernel) (by decide +kernel) (by decide +kernel)
  (by first | exact .inl (by decide +kernel) | exact .inr (by decide +kernel)) (by exact (cA ..))
theorem ou : TypeCalled "bytearray" "bytearray.__new__" "bytearray.__init__" :=
 ⟨by decide +kernel,by decide +kernel,⟨_,_,Cy⟩,madeBy_type Cy rH (by decide +kernel),by decide +kernel,by exact (cA ..),u2⟩
theorem uR : checkTypeCall "bytearray" ⟨[],[]⟩=pure ():=by kernel_rfl
theorem mH(a:Value):checkTypeCall "bytearray" ⟨[a],[]⟩=pure ():=by kernel_rfl
theorem vH : checkBuiltinCall "bytearray.__new__" ⟨[.type "bytearray"],[]⟩=pure ():=by kernel_rfl
theorem oX(a:Value):checkBuiltinCall "bytearray.__new__" ⟨[.type "bytearray",a],[]⟩=pure ():=by kernel_rfl
theorem sy(a:Value):argsOk "bytearray.__init__" ⟨[a],[]⟩:=by kernel_rfl
theorem lB(a b:Value):argsOk "bytearray.__init__" ⟨[a,b],[]⟩:=by kernel_rfl
theorem ik : entryFor table "bytearray.__init__" = some Builtin.«bytearray.__init__»:=entryFor_of_tree (by kernel_rfl)
theorem uk : entryFor table "bytearray.__new__" = some Builtin.«list.__new__»:=entryFor_alias (id' := "list.__new__") (by kernel_rfl) (by first | rfl | decide +kernel) (by decide +kernel) (by kernel_rfl)
section
variable {prog:Program}{w:World}{A:Around}{E:Value->Shared->Prop}{s:Shared}
theorem rG{id:String}{args:Args}{b:Builtin}{R:Result->Shared->Prop}(ok:im (.builtin id args))(hb:entryFor table id=some b)
  (h:cW (model prog w) (A.under (.builtin id args)) (b args) (λfin s'=>match fin with | .done f=>R (.ok f) s' | .again c'=>c'.quiet=true/\codeN (model prog w) A c' R s') (λe s'=>R (.error e) s') s) :
  codeN (model prog w) A (.builtin id args) R s:=by
 refine bP ok ?_
 show cW _ _ (match entryFor table id with | some b=>b args | none=>unsupported ((withoutEnding? id "#data").getD id)) _ _ s
 refine ae hb▸ ?_;exact h
theorem lI{T newId initId:String}{Bi:Builtin}{args:List Value}{Q Q₁:Value->Shared->Prop}(ft:TypeCalled T newId initId)
  (hct:checkTypeCall T ⟨args,[]⟩=pure ())(entryI:entryFor table initId=some Bi)(hok:∀obj,im (.builtin initId ⟨obj::args,[]⟩))
  (h:codeAny (model prog w) A.in1 (.call (.builtin newId) ⟨.type T::args,[]⟩) (wants Q₁ E) s)
  (hnext:∀obj s₁,Q₁ obj s₁->s₁.TypeIs obj T/\argsOk initId ⟨obj::args,[]⟩/\cW (model prog w) A.in1.in1 (Bi ⟨obj::args,[]⟩) (λfin s'=>fin= .done (.ret .none)/\Q obj s') E s₁) :
  cW (model prog w) A (call (.type T) args) Q E s:=by
 refine fu ft.mro λc tl hmro=> ?_
 refine iN (bP (λ_ _ _ _=>rfl) ?_)
 refine ax (a:=Fin.again (.builtin "type.__call__" ⟨.type T::args,[]⟩)) ⟨Code.quiet_builtin _ (by decide +kernel),rG (λ_ v _ _=>ET (x:=Builtin.Bytes.sameRef _ v)) entry_typeCall ?_⟩
 refine ae (Around.under_plain (weight_type_call_type T args []) (units_type_call_type T args []))▸ ?_
 unfold Builtin.«type.__call__»
 dsimp only
 rw[if_neg (by rw[ft.notType];exact aE)]
 rw[if_neg (by rw[ft.canCreate];exact aE)]
 refine ai (bR hct ?_)
 refine ai (bR hmro ?_)
 refine ai (bR ft.made ?_)
 refine ai (ax ?_)
 refine ai (aJ (.of (wpAny_call (codeAny_mono h λr s₁ hr=> ?_))))
 rcases r with e | (_ | _ | _ | obj)<;>first | exact hr | exact hr.elim | skip
 refine ip (hnext _ _ hr) λhT hargs hi=> ?_
 refine ai (.of (wpAny_isInstance hT ft.sub ?_))
 refine ai (aJ ?_)
 unfold callSpecial?
 refine ai (.of (bN hT ft.init.lookup ?_))
 refine aJ (ai (bR (ft.init.bind obj) ?_))
 refine ai (iN (eV (hok _) (plainId_quiet ft.init.plain _) entryI (ft.init.check _ _ _ _ _ _ _ _ hT hargs ?_)))
 rw[Around.under_plainId ft.init.plain]
 refine aD hi (λfin s₂ y=> ?_) λ_ _ y=>y
 obtain⟨rfl,hq⟩:=y
 exact ax (ax hq)
theorem kg : isSubtype (.type "bytearray") (.type "bytearray")=pure true:=by rw[cA];kernel_rfl
set_option maxRecDepth 1000000 in
set_option maxHeartbeats 4000000 in
theorem uL : ("bytearray.__new__".splitOn ".__new__").headD "" = "bytearray" := by simp +decide [String.splitOn,String.splitOnAux]
theorem uu : plainId "bytearray.__new__" = true:=by decide +kernel
theorem kr{args:List Value}(hcn:checkBuiltinCall "bytearray.__new__" ⟨.type "bytearray" :: args,[]⟩=pure ()) {Q₁:Value->Shared->Prop}(h:Q₁ (.ref s.heap.objs.size) { s with heap:=s.heap.push (j4 []) }) :
  codeAny (model prog w) A (.call (.builtin "bytearray.__new__") ⟨.type "bytearray" :: args,[]⟩) (wants Q₁ E) s:=by
 refine codeAny_of_tree ?_
 refine af (bG hcn (ao ⟨plainId_quiet uu _,codeAny_builtin_stack uk rfl λp st=> ?_⟩))
 have hsub:=kg
 obtain⟨hp,g,d,tk,os⟩:=s
 simp only[uL]
 wp_walk
 exact h
theorem pI : typeLookup (.type "bytearray") "__release_buffer__" = pure (some (.builtin "bytearray.__release_buffer__")):=by rw[cJ,bE];kernel_rfl
theorem eP{M:Model}{a:Addr}{b:List UInt8}(e:d6 s.heap a b){Q:Bool->Shared->Prop}(h:Q false s):wpAny M A (Bytes.ownRelease (.ref a)) Q E s:=by
 refine af (af (bN (cu e) pI ?_))
 dsimp only
 rw[if_neg (by decide +kernel)]
 refine wpAny_isInstance (T := "bytearray") (b:=true) (cu e) ?_ (ao h)
 have : (("bytearray.__release_buffer__" : String).dropRight (("__release_buffer__" : String).length+1)) = "bytearray" := by decide +kernel
 refine ae this▸ ?_;exact kg
theorem C9 : Bytes.bindOptional "bytearray.__init__" "bytearray" ["source", "encoding", "errors"] [] []=pure [none,none,none]:=by kernel_rfl
theorem vF(v:Value):Bytes.bindOptional "bytearray.__init__" "bytearray" ["source", "encoding", "errors"] [v] []=pure [some v,none,none]:=by kernel_rfl
theorem vS{id:String}{b:Array UInt8}{t:Tok}:Bytes.buffer? id (.bytes b t) true=pure (some b):=by
 unfold Bytes.buffer?
 kernel_rfl
theorem Cu{Q:Value->Shared->Prop}(h:∀h',(∀y o,s.heap.get? y=some o->h'.get? y=some o)->d6 h' s.heap.objs.size []->Q (.ref s.heap.objs.size) { s with heap:=h' }) :
  cW (model prog w) A (call (.type "bytearray") []) Q E s:=by
 have e0 : d6 (s.heap.push (j4 [])) s.heap.objs.size []:=aP _ rfl
 refine lI ou uR ik (λ_ _ v _ _=>ET (x:=Bytes.sameRef _ v)) (kr vH (Q₁:=λv s1=>v= .ref s.heap.objs.size/\s1={ s with heap:=s.heap.push (j4 []) }) ⟨rfl,rfl⟩) ?_
 rintro obj s₁ ⟨rfl,rfl⟩
 refine⟨cu e0,sy _, ?_⟩
 refine ai (.of (eP e0 ?_))
 refine du aE ?_
 refine ai (bR C9 ?_)
 refine ai (bR (a:=()) rfl (ai (bR (a:=()) rfl ?_)))
 refine ai (pR e0 ?_)
 refine du aE ?_
 refine ai (.of (eO e0 (c:=[]) rfl (by decide) λh' hs ho hb=> ?_))
 refine ai (bR (a:=()) rfl (ax ⟨rfl,h h' (λy o q=> ?_) hb⟩))
 have : y≠s.heap.objs.size:=bw (aR q)
 refine ((ho y this)).trans ?_;exact aI _ q
theorem lf{b:List UInt8}{t:Tok}(hz:b.length<=100000){Q:Value->Shared->Prop}(h:∀h',(∀y o,s.heap.get? y=some o->h'.get? y=some o)->d6 h' s.heap.objs.size b->Q (.ref s.heap.objs.size) { s with heap:=h' }) :
  cW (model prog w) A (call (.type "bytearray") [.bytes b.toArray t]) Q E s:=by
 have e0 : d6 (s.heap.push (j4 [])) s.heap.objs.size []:=aP _ rfl
 refine lI ou (mH _) ik (λ_ _ v _ _=>ET (x:=Bytes.sameRef _ v)) (kr (oX _) (Q₁:=λv s1=>v= .ref s.heap.objs.size/\s1={ s with heap:=s.heap.push (j4 []) }) ⟨rfl,rfl⟩) ?_
 rintro obj s₁ ⟨rfl,rfl⟩
 refine⟨cu e0,lB _ _, ?_⟩
 refine ai (.of (eP e0 ?_))
 refine du aE ?_
 refine ai (bR (vF _) ?_)
 refine ai (bR (a:=()) rfl (ai (bR (a:=()) rfl ?_)))
 refine ai (pR e0 ?_)
 refine du aE ?_
 refine ai (.of (eO e0 (c:=[]) rfl (by decide) λh' hs ho hb=> ?_))
 refine ai (bR (a:=none) rfl ?_)
 refine du aE ?_
 refine ai (ax ?_)
 refine ai (bR (a:=none) (KBy.special_eq (by rfl)) ?_)
 refine du aE ?_
 refine ai (bR vS ?_)
 refine ai (qz (ai (.of (eO hb (c:=b) rfl (by refine ae aU▸ ?_;exact ad hz (by decide)) λh2 hs2 ho2 hb2=> ?_))))
 refine ai (ax (ax ⟨rfl,h h2 (λy o q=> ?_) hb2⟩))
 have : y≠s.heap.objs.size:=bw (aR q)
 refine ((ho2 y this)).trans ?_;refine ((ho y this)).trans ?_;exact aI _ q
theorem wb{i:Int}{t:Tok}(h0:0<=i)(hz:i<=100000){Q:Value->Shared->Prop}(h:∀h',(∀y o,s.heap.get? y=some o->h'.get? y=some o)->d6 h' s.heap.objs.size (List.replicate i.toNat 0)->Q (.ref s.heap.objs.size) { s with heap:=h' }) :
  cW (model prog w) A (call (.type "bytearray") [.int i t]) Q E s:=by
 have e0 : d6 (s.heap.push (j4 [])) s.heap.objs.size []:=aP _ rfl
 refine lI ou (mH _) ik (λ_ _ v _ _=>ET (x:=Bytes.sameRef _ v)) (kr (oX _) (Q₁:=λv s1=>v= .ref s.heap.objs.size/\s1={ s with heap:=s.heap.push (j4 []) }) ⟨rfl,rfl⟩) ?_
 rintro obj s₁ ⟨rfl,rfl⟩
 refine⟨cu e0,lB _ _, ?_⟩
 refine ai (.of (eP e0 ?_))
 refine du aE ?_
 refine ai (bR (vF _) ?_)
 refine ai (bR (a:=()) rfl (ai (bR (a:=()) rfl ?_)))
 refine ai (pR e0 ?_)
 refine du aE ?_
 refine ai (.of (eO e0 (c:=[]) rfl (by decide) λh' hs ho hb=> ?_))
 refine ai (bR (a:=none) rfl ?_)
 refine du aE ?_
 refine ai (ax ?_)
 refine ai (.of (bN (typeIs_int _ i t) F.slot_int_index.lookup ?_))
 refine tX rfl ?_
 refine ai (kb (bR (a:=i) rfl ?_))
 refine du (by refine ae (fits_of (n:=100001) h0 (Int.lt_of_le_sub_one hz) (aj rfl))▸ ?_;exact aE) ?_
 refine du (cZ.mpr h0) ?_
 refine du (show ¬((i==2^63 - 1)=true) from λe=>absurd (eq_of_beq e▸hz) (by decide)) ?_
 refine du (show ¬(Bytes.tooLong i.toNat=true) by unfold Bytes.tooLong;refine ae aU▸ ?_;rw[decide_eq_true_eq];exact iw.mpr (ad (Int.toNat_le.mpr hz) (by decide))) ?_
 refine ai (qz ?_)
 have fin : ∀ (h2:Heap),(∀y,y≠s.heap.objs.size->h2.get? y=h'.get? y)->d6 h2 s.heap.objs.size (List.replicate i.toNat 0)->Q (.ref s.heap.objs.size) { s with heap:=h2 }:=λh2 ho2 hb2=>h h2 (λy o q=>by
  have : y≠s.heap.objs.size:=bw (aR q)
  refine ((ho2 y this)).trans ?_;refine ((ho y this)).trans ?_;exact aI _ q) hb2
 by_cases hi : i > 0
 ·refine tX hi ?_
  refine ai (.of (eO hb (c:=List.replicate i.toNat 0) (by rfl) (by refine ae aU▸ ?_;refine ae List.length_replicate▸ ?_;exact ad (Int.toNat_le.mpr hz) (by decide)) λh2 hs2 ho2 hb2=> ?_))
  exact ai (ax (ax ⟨rfl,fin h2 ho2 hb2⟩))
 ·refine du hi ?_
  have : i.toNat=0:=Int.toNat_of_nonpos (cZ.mp hi)
  refine ai (ax (ax ⟨rfl,fin h' (λ_ _=>rfl) (by refine ae this▸ ?_;exact hb)⟩))
end
noncomputable def gf(b:List UInt8)(lo hi:Option Int)(c:List UInt8):List UInt8:=
 b.take (lo.elim 0 (clipAt b.length))++c++b.drop (max (lo.elim 0 (clipAt b.length)) (hi.elim b.length (clipAt b.length)))
theorem uo : isSubtype (.type "bytes") (.type "bytearray")=pure false:=by rw[cA];kernel_rfl
theorem sub_bytes_complex : isSubtype (.type "bytes") (.type "complex")=pure false:=by rw[cA];kernel_rfl
theorem DJ{b:Array UInt8}{t:Tok}:specialOf (.bytes b t) "__index__" = pure none:=KBy.special_eq (by rw[cJ,bE];kernel_rfl)
theorem r6{b:Array UInt8}{t:Tok}:isInstance (.bytes b t) (.type "complex")=pure false:=by exact sub_bytes_complex
theorem FP{b:Array UInt8}{t:Tok}:specialOf (.bytes b t) "__int__" = pure none:=KBy.special_eq (by rw[cJ,bE];kernel_rfl)
theorem BW{b:Array UInt8}{t:Tok}:specialOf (.bytes b t) "__float__" = pure none:=KBy.special_eq (by rw[cJ,bE];kernel_rfl)
section
variable {prog:Program}{w:World}{A:Around}{E:Value->Shared->Prop}{s:Shared}{a:Addr}{b:List UInt8}
theorem rX{o i v:Value}{T id:String}{Q:Unit->Shared->Prop}{M:Model}(hT:s.TypeIs o T)(hn:seqItemTypes.contains T=false)(aa:Slot T "__setitem__" id)
  (hc:cW M A (call (.builtin id) [o,i,v]) (λ_ s'=>Q () s') E s):cW M A (setItem o i v) Q E s:=by
 dsimp only[setItem]
 refine aJ ?_
 refine ai (.of (wpAny_sequenceKey hT hn ?_))
 refine ai ?_
 dsimp only[callSpecial?]
 refine ai (.of (bN hT aa.lookup ?_))
 refine aJ (ai (bR (aa.bind o) ?_))
 exact ai (aD hc (λv s' h'=>ax (ax h')) λ_ _ e=>e)
theorem wf{x:Addr}{l u:Value}{lo hi:Option Int}{c:List UInt8}{t:Tok}(e:d6 s.heap a b)(hl:IsPart l lo)(hu:IsPart u hi)(hs:s.heap.IsSliceOf x l u .none)(hz:b.length<=100000)(hc:c.length<=100000){Q:Unit->Shared->Prop}
  (h:∀h',(∀y o,y≠a->s.heap.get? y=some o->h'.get? y=some o)->d6 h' a (gf b lo hi c)->Q () { s with heap:=h' }):cW (model prog w) A (setItem (.ref a) (.ref x) (.bytes c.toArray t)) Q E s:=by
 have hT : s.TypeIs (.ref x) "slice" := (by refine pB hs λo ho hc _=> ?_;exact⟨o,ho,hc⟩)
 refine rX (cu e) (by decide) hW (g5 hW (cu e) nj (λ_ v _ _=>ET (x:=Bytes.sameRef _ v)) (by decide +kernel) ?_ (ph _ _ _))
 unfold Builtin.«bytearray.__setitem__»
 refine du aE ?_
 refine ai (.of (s8 hs ?_))
 refine ai (.of (wpAny_typeOf hT ?_))
 refine du (by decide) ?_
 refine ai (.of (kd hl hu hs ?_))
 refine ai (.of (wpAny_isInstance (typeIs_bytes _ _ _) uo ?_))
 refine tX rfl ?_
 refine ai (bR (a:=false) ?_ ?_)
 ·dsimp only;rfl
 refine ai (bR (a:=none) rfl ?_)
 refine du aE ?_
 refine ai (.of (wpAny_rule ?_))
 refine ai (lf hc λh1 k1 e1=> ?_)
 have ea : d6 h1 a b:=k1 _ _ e
 have hs1 : h1.IsSliceOf x l u .none:=by
  refine aT hs λo ho h2=> ?_
  exact⟨o,k1 _ _ ho,h2⟩
 refine ai (aJ (.of (kd hl hu hs1 ?_)))
 refine ai (.of (dF e1 ?_))
 refine ai (.of (dF ea ?_))
 refine ai (.of (sP ?_))
 dsimp only
 refine ai (.of (wpAny_rule ?_))
 have hw : ∀ {R:Unit->Shared->Prop},(∀h',(∀y o,y≠a->s.heap.get? y=some o->h'.get? y=some o)->d6 h' a (gf b lo hi c)->R () { s with heap:=h' })->
   wpAny (model prog w) A.in1 (Bytes.write (.ref a) λd=>d.extract 0 (((lo.elim 0 (clipAt b.length):Nat):Int)).toNat++c.toArray++d.extract (max ((lo.elim 0 (clipAt b.length):Nat):Int) ((hi.elim b.length (clipAt b.length):Nat):Int)).toNat d.size) R E { s with heap:=h1 }:=by
  intro R hR
  refine eO ea (c:=gf b lo hi c) ?_ ?_ λh' hs' ho hb=> ?_
  ·have em : (max ((lo.elim 0 (clipAt b.length):Nat):Int) ((hi.elim b.length (clipAt b.length):Nat):Int)).toNat=max (lo.elim 0 (clipAt b.length)) (hi.elim b.length (clipAt b.length)):=L3
   refine ae em▸ ?_
   apply Array.ext';simp[gf,List.take_drop]
   exact ah _ (cF (Nat.sub_le_iff_le_add'.mp (aG _)))
  ·refine ae aU▸ ?_;simp only[gf,aA,bK,List.length_drop];exact ad (bF (bF (ad (Nat.min_le_right ..) hz) hc) (ad (Nat.sub_le ..) hz)) (by decide)
  ·exact hR h' (λy o hy q=>by refine ((ho y hy)).trans ?_;exact k1 _ _ q) hb
 split
 ·refine ai (kC ea ?_)
  exact ai (.of (hw λh' k hb=>ax ⟨_,rfl,h h' k hb⟩))
 ·exact ai (.of (hw λh' k hb=>ax ⟨_,rfl,h h' k hb⟩))
end
end Internal
namespace Internal
open PySem PySem.W PyProof.Rows PySem.Calls Builtin PySem.EqNone PySem.SeqAt
section
variable {cx:Cx}{n:Nat}{fd:Fd}
theorem Out.none{A:Around}{ρ:LA->Addr}{σ:MH}{s s':Shared}{Q:MV->Loc->MH->Prop}(x:Out cx n fd A ρ σ s cg.unit (λ_ l m=>Q .none l m) () s'):Out cx n fd A ρ σ s VR Q .none s':=by
 obtain⟨_,a2,a3,a4,a5,a6,_,a7⟩:=x
 exact⟨.none,a2,a3,a4,a5,a6, .none,a7⟩
inductive CA(loc:Loc)(σ:MH)(Q:MV->Loc->MH->Prop):List MV->Prop where
 |mk {l v vs} (e:σ.get l=some (.list vs))(a:vs.length<=100000)(h:Q .none loc (σ.set l (.list (vs++[v])))):CA loc σ Q [.ref l,v]
noncomputable abbrev P.KU(as:List MV):P MV:=λloc σ Q _=>CA loc σ Q as
theorem CQ : jr cx n fd (.builtin "list.append") P.KU:=by
 intro as vs A ρ σ loc s Q X G hp hm
 induction hm with
 |mk e a h=>
  obtain⟨xs,ep,o1,r3⟩:=G.list e
  have l1:=r3.len
  rw[bu] at l1
  apply hp.El;intro y z r1 r2;apply r1.eB;intro ua
  refine wpAny_list_append_plain ⟨_,o1⟩ (λh' ⟨ep',hl⟩ sb=> ?_) (by rw[aU];exact ad (ad (aw l1) a) (by decide))
  exact Out.none (Out.set (o':= .list _) G ua s.toks sb.1 sb.2 hl cQ (λkp=>⟨_,ep',hl,Array.toList_push.symm▸(r3.mono kp).append (.cons (r2.mono kp) .nil)⟩) h)
inductive sZ(loc:Loc)(σ:MH)(Q:MV->Loc->MH->Prop):List MV->Prop where
 |one {d} {k:Int} {es} (e:σ.get d=some (.bS es))(h:Q ((es.lookup k).getD .none) loc σ):sZ loc σ Q [.ref d, .int k]
 |two {d} {k:Int} {v es} (e:σ.get d=some (.bS es))(h:Q ((es.lookup k).getD v) loc σ):sZ loc σ Q [.ref d, .int k,v]
 |oct {d k v es} (e:σ.get d=some (.iS es))(h:Q ((es.lookup k).getD v) loc σ):sZ loc σ Q [.ref d, .bytes k,v]
noncomputable abbrev P.K8(as:List MV):P MV:=λloc σ Q _=>sZ loc σ Q as
theorem qG{ρ:LA->Addr}{U:LA->Prop}{h:Heap}{o:Option MV}{f:Option Value}{d:MV}{vd:Value}(r:w3 ρ U h o f)(rd:VR ρ U h d vd):VR ρ U h (o.getD d) (f.getD vd):=by
 induction r with
 |so r=>exact r
 |no=>exact rd
theorem Bm : jr cx n fd (.builtin "dict.get") P.K8:=by
 intro as vs A ρ σ loc s Q X G hp hm
 have td : ∀ {j:MV} {y},Q j loc σ->VR ρ σ.us s.heap j y->Out cx n fd A ρ σ s VR Q y { s with toks:=s.toks+1 }:=λh r=>Out.pre (Step.tok _) (Out.now (G.tok _) r h)
 generalize Out cx n fd A ρ σ s VR Q=Q' at td ⊢
 generalize eA cx n fd A ρ σ s X=E'
 induction hm with
 |one e h=>
  refine aT ((G.obj _ _ e).2) λkvs D r=> ?_
  apply hp.El;intro y z r1 r2;apply r1.eB;intro ua;apply r2.eH;intro t
  exact call_meetsIn PySem.F.slot_dict_get D.typeIs PySem.F.entry_dict_get (PySem.F.args_dict_get_2 _ _) (meets_dict_get (intKind cx.prog cx.w) _ (beq_self_eq_true _) (eE G ua)) ⟨_,D.mapOf,td h (qG (r.lookup (λ_ _ z=>z) _) .none)⟩
 |two e h=>
  obtain⟨kvs,D,r⟩:=(G.obj _ _ e).2
  apply hp.Mn;intro y z v r1 r2 r3;apply r1.eB;intro ua;apply r2.eH;intro t
  exact call_meetsIn PySem.F.slot_dict_get D.typeIs PySem.F.entry_dict_get (PySem.F.args_dict_get_3 _ _ _) (meets_dict_get_default (intKind cx.prog cx.w) _ (beq_self_eq_true _) (eE G ua) v) ⟨_,D.mapOf,td h (qG (r.lookup (λ_ _ z=>z) _) r3)⟩
 |oct e h=>
  obtain⟨kvs,D,r⟩:=(G.obj _ _ e).2
  apply hp.Mn;intro y z v r1 r2 r3;apply r1.eB;intro ua;apply r2.dg;intro t
  exact call_meetsIn PySem.F.slot_dict_get D.typeIs PySem.F.entry_dict_get (PySem.F.args_dict_get_3 _ _ _) (meets_dict_get_default (bytesKind cx.prog cx.w) _ (beq_self_eq_true _) (eE G ua) v) ⟨_,D.mapOf,td h (qG (r.lookup (λ_ _ z=>z) _) r3)⟩
inductive C1(loc:Loc)(σ:MH)(Q:MV->Loc->MH->Prop):List MV->Prop where
 |mk {l} {x:Int} {b} (e:σ.get l=some (.bW b))(a:b.length<=100000/\0<=x/\x < 256)(h:Q .none loc (σ.set l (.bW (b++[x.toNat.toUInt8])))):C1 loc σ Q [.ref l, .int x]
noncomputable abbrev P.Ln(as:List MV):P MV:=λloc σ Q _=>C1 loc σ Q as
theorem CG : cP cx n fd (.builtin "bytearray.append") P.Ln:=by
 intro as vs A ρ σ loc s Q X G hp hm
 induction hm with
 |mk e a h=>
  apply hp.El;intro y z r1 r2;apply r1.eB;intro ua;apply r2.eH;intro t
  exact AO (G.obj _ _ e).2 a.2.1 a.2.2 a.1 λh' hs ho hb=>Out.none (Out.set (o':= .bW _) G ua s.toks hs ho hb gP (λ_=>hb) h)
theorem uA{ρ:LA->Addr}{U:LA->Prop}{h:Heap}{x:MV}{vx:Value}(hx:VR ρ U h x vx):∀ {vs:List MV}{ys:List Value},cR ρ U h vs ys->vs.all (λv=>(v.fe x).isSome)=true->
  ys.map (λy=>xu y vx)=vs.map (λv=>(v.fe x).getD false)
 | [],_,r,_=>by cases r.nil_inv;rfl
 |v::vs,_,r,ht=>by
  refine eW r.cons_inv λy ys' zr2_ a b=> ?_;subst zr2_
  replace ht:=(Bool.and_eq_true ..).mp ht
  refine cN (cb.mp ht.1) λk hk=> ?_
  refine (List.map_cons).trans ?_;rw[List.map_cons];refine (ah _ (uA hx b ht.2)).trans ?_;rw[w6 a hx hk,hk];rfl
theorem yG{ρ:LA->Addr}{U:LA->Prop}{h:Heap}{x:MV}{vx:Value}(hx:VR ρ U h x vx){vs:List MV}{X:Array Value}(r:cR ρ U h vs X.toList)(ht:vs.all (λv=>(v.fe x).isSome)=true)(m:Nat)(hm:m < X.size)(hv:m < vs.length) :
  xu X[m] vx=(vs[m].fe x).getD false:=by
 have:=ah (·[m]?) (uA hx r ht)
 simpa [hm,hv] using this
inductive tY(loc:Loc)(σ:MH)(Q:MV->Loc->MH->Prop):List MV->Prop where
 |mk {l x vs} {j:Nat}(e:σ.get l=some (.list vs))(a:vs.length<=100000/\vs.all (λv=>(v.fe x).isSome)=true)(f:vs.findIdx? (λv=>(v.fe x).getD false)=some j)(h:Q (.int j) loc σ):tY loc σ Q [.ref l,x]
noncomputable abbrev P.D4(as:List MV):P MV:=λloc σ Q _=>tY loc σ Q as
theorem xB : jr cx n fd (.builtin "list.index") P.D4:=by
 intro as vs A ρ σ loc s Q X G hp hm
 induction hm with
 |mk e a hj h=>
  obtain⟨xs,ep,o1,r3⟩:=G.list e
  have l1:=r3.len
  rw[bu] at l1
  obtain⟨j1,j2,j3⟩:=List.findIdx?_eq_some_iff_getElem.mp hj
  apply hp.El;intro y z r1 r2;apply r1.eB;intro ua
  refine call_meets PySem.F.slot_list_index ⟨_,o1,rfl⟩ PySem.F.entry_list_index (PySem.F.args_list_index_2 _ _)
   (list_indexAt _ xs ep none #[] z (λy=>xu y z) _ (l1▸j1) (cU (aW.mpr (ad (aL j1) a.1)) (by decide)) ((yG r2 r3 a.2 _ (l1▸j1) j1).trans j2)
    (λm hm1 hm2=>(yG r2 r3 a.2 m hm1 (cG hm2 j1)).trans (by simpa using j3 m hm2))) ⟨o1,(nZ (A:=A.in1) r3 r2 a.2).2, ?_⟩
  exact Out.pre (Step.tok _) (Out.now (G.tok _) .int h)
inductive uF(loc:Loc)(σ:MH)(Q:MV->Loc->MH->Prop):List MV->Prop where
 |mk {l x vs} (e:σ.get l=some (.list vs))(a:vs.length<=100000/\vs.all (λv=>(v.fe x).isSome)=true)(h:Q (.int (vs.countP (λv=>(v.fe x).getD false):Nat)) loc σ):uF loc σ Q [.ref l,x]
noncomputable abbrev P.D5(as:List MV):P MV:=λloc σ Q _=>uF loc σ Q as
theorem xm : jr cx n fd (.builtin "list.count") P.D5:=by
 intro as vs A ρ σ loc s Q X G hp hm
 induction hm with
 |mk e a h=>
  refine ey (G.list e) λxs ep o1 r3=> ?_
  apply hp.El;intro y z r1 r2;apply r1.eB;intro ua
  refine call_meets PySem.F.slot_list_count ⟨_,o1,rfl⟩ PySem.F.entry_list_count (PySem.F.args_list_count_2 _ _)
   (list_countAt _ xs ep none #[] z (λy=>xu y z)) ⟨o1,(nZ (A:=A.in1) r3 r2 a.2).2, ?_⟩
  have t:=ah (List.countP _root_.id) (uA r2 r3 a.2)
  rw[List.countP_map,List.countP_map] at t
  exact Out.pre (Step.tok _) (Out.now (G.tok _) .int ((t:xs.toList.countP (λy=>xu y z)=_)▸h))
end
section
variable {A:Around}{E:Value->Shared->Prop}{s:Shared}{K:Frag}{x y C:Addr}{ox oy:Obj}{prog:Program}{w:World}
theorem Ac(X:K.In s.heap)(hx:s.heap.get? x=some ox)(hcx:ox.cls= .ref C)(hy:s.heap.get? y=some oy)(hxy:x≠y)(hsub:subIn K (.ref C) (.type "object")=some true)
  {R:Value->Shared->Prop}(hr:R .notImplemented s):wpAny (model prog w) A (call (.builtin "object.__eq__") [.ref x, .ref y]) R E s:=by
 refine wpAny_call (codeAny_call_builtin F.cmp_object.eq.plain F.cmpEntry_eq ?_)
 have ha:=F.cmpArgs_eq (.ref x) (.ref y)
 simp only[checkBuiltinCall,F.cmpKind_eq,F.cmpSplit_eq]
 obtain⟨hp,g,d,t,os⟩:=s
 refine af ?_
 unfold isInstance
 repeat (first | (with_reducible refine cD hx ?_;rw[hcx]) | refine (looks_subIn (M:=model prog w) X hsub) _ _ _ _ (λ_ _ e=>e) ?_ | wp_step)
 rw[hcx]
 refine ao ?_
 simp only[Bool.false_eq_true,if_false]
 exact ao hr
theorem u6(X:K.In s.heap)(hx:s.heap.get? x=some ox)(hcx:ox.cls= .ref C)(hy:s.heap.get? y=some oy)(hxy:x≠y)(hf:findIn K (.ref C) "__eq__" = some (some (.builtin "object.__eq__"))) (hsub:subIn K (.ref C) (.type "object")=some true)
  {Q:Option Value->Shared->Prop}(h:Q (some .notImplemented) s):wpAny (model prog w) A (callSpecialIfBound? (.ref x) "__eq__" [.ref y]) Q E s:=by
 have hcall:=λ{A:Around}{R:Value->Shared->Prop}(hr:R .notImplemented s)=>Ac (A:=A) (E:=E) (prog:=prog) (w:=w) X hx hcx hy hxy hsub hr
 obtain⟨hp,g,d,t,os⟩:=s
 refine bk (af (af ?_))
 unfold specialOf
 repeat (first | (with_reducible refine cD hx ?_;refine ae hcx▸ ?_) | refine (looks_findIn (M:=model prog w) X hf) _ _ _ _ (λ_ _ e=>e) ?_ | wp_step)
 have fin : ∀A',wpAny (model prog w) A' (call (.builtin "object.__eq__") ([.ref x]++[.ref y]) >>= λv=>pure (some v)) Q E ⟨hp,g,d,t,os⟩:=
  λA'=>af (hcall (ao h))
 have b0:=F.cmp_object.eq.bind (.ref x)
 refine wpAny_askSetting (wpAny_ite ?_)
 split
 ·refine af ?_
  exact ao (ao (fin _))
 ·refine wpAny_tryCatch (af ?_)
  exact ao (ao (fin _))
theorem wB(X:K.In s.heap)(hx:s.heap.get? x=some ox)(hcx:ox.cls= .ref C)(hy:s.heap.get? y=some oy)(hxy:x≠y)(hf:findIn K (.ref C) "__eq__" = some (some (.builtin "object.__eq__"))) (hsub:subIn K (.ref C) (.type "object")=some true)
  {Q:Option Value->Shared->Prop}(h:Q none s):wpAny (model prog w) A (tryCompare (.ref x) "__eq__" (.ref y)) Q E s:=by
 exact af (u6 X hx hcx hy hxy hf hsub (ao h))
theorem AM(X:K.In s.heap)(hx:s.heap.get? x=some ox)(hcx:ox.cls= .ref C)(hy:s.heap.get? y=some oy)(hcy:oy.cls= .ref C)(hxy:x≠y)(hf:findIn K (.ref C) "__eq__" = some (some (.builtin "object.__eq__"))) (hsub:subIn K (.ref C) (.type "object")=some true)
  (hu:A.units < cLine){Q:Value->Shared->Prop}(h:Q (.bool false) s):wpAny (model prog w) A (richCompare .Eq (.ref x) (.ref y)) Q E s:=by
 have h1:=λ{A:Around}{Q:Option Value->Shared->Prop}(h:Q none s)=>wB (A:=A) (E:=E) (prog:=prog) (w:=w) X hx hcx hy hxy hf hsub h
 have h2:=λ{A:Around}{Q:Option Value->Shared->Prop}(h:Q none s)=>wB (A:=A) (E:=E) (prog:=prog) (w:=w) X hy hcy hx hxy.symm hf hsub h
 have nt : ox.cls≠ .type "tuple" := by refine ae hcx▸ ?_;intro h;cases h
 obtain⟨hp,g,d,t,os⟩:=s
 simp only[richCompare,cmpInfo_Eq,oneThing_ref]
 repeat (first | with_reducible refine wpAny_cRoomFor hu ?_ | (with_reducible refine cD hx ?_;refine ae hcx▸ ?_) | (with_reducible refine cD hy ?_) | with_reducible refine h1 ?_ | with_reducible refine h2 ?_ | with_reducible refine wpAny_isSame_ref_other hxy hx hy nt ?_ | wp_step)
 exact h
theorem EB(X:K.In s.heap)(hx:s.heap.get? x=some ox)(hcx:ox.cls= .ref C)(hy:s.heap.get? y=some oy)(hcy:oy.cls= .ref C)(hf:findIn K (.ref C) "__eq__" = some (some (.builtin "object.__eq__"))) (hsub:subIn K (.ref C) (.type "object")=some true)
  (hu:A.units < cLine):EqAt A s (.ref x) (.ref y) (decide (x=y)):=by
 intro prog w E Q hq
 refine bk ?_
 by_cases e : x=y
 ·subst e
  rw[aZ rfl] at hq
  rw[if_pos (by exact beq_self_eq_true _)]
  exact af (wpAny_rule (ao hq))
 ·rw[bz e] at hq
  rw[if_neg (by intro q;exact e (by simpa using q))]
  refine af (AM X hx hcx hy hcy e hf hsub hu ?_)
  exact wpAny_truthy_bool hq
end
section
open PySem.AutoSeq1 PySem.MeetsSeq PySem.MeetsSeq2 PySem.MeetsSeq3
theorem rT(l:Addr)(items:Array Value)(n:Nat)(x:Value)(e:Value->Bool)(j:Nat)(hj:j < items.size)(hit:e items[j]=true)(k:Nat)(hs1:items.size<=sizeLine) :
  ∀i : Nat,j - i=k->i<=j->(∀m (hm:m < items.size),i<=m->m < j->e items[m]=false)->Meets (Builtin.«list.remove.loop» ⟨[.ref l,x,rawInt i],[]⟩)
   (λA R s=>s.heap.get? l=some { cls:= .type "list",dict:=none,data:= .seq items n,slots:=#[] }/\(∀y,y∈items->EqAt A.in1 s y x (e y))/\R (.ok (.ret .none)) { s with heap:=s.heap.update l (Obj.mapSeq λxs=>xs.eraseIdxIfInBounds j) }):=by
 induction k with
 |zero=>
  intro i hk hij hno prog w A R s h
  obtain⟨hp,g,d,tk,os⟩:=s;obtain⟨hl,he,h⟩:=h
  have hij' : i=j:=Ik hk hij
  subst hij'
  wp_walk using wpAny_loadPart' hl
  have hi : items[((i:Nat):Int).toNat]?=some items[i]:=by simp[hj]
  rw[hi]
  refine af (he _ (Array.getElem_mem hj) prog w _ _ ?_)
  refine ae hit▸ ?_
  wp_walk using (wpAny_updateSeq hl rfl (hz:=hs1) (_hz':=(ad (size_erased items _) (cE hs1)))),wpAny_loadPart' hl
  simpa using h
 |succ k ih=>
  intro i hk hij hno prog w A R s h
  obtain⟨hp,g,d,tk,os⟩:=s;obtain⟨hl,he,h⟩:=h
  have hlt : i < items.size:=by exact az hij hj
  wp_walk using wpAny_loadPart' hl
  have hi : items[((i:Nat):Int).toNat]?=some items[i]:=by simp[hlt]
  have hc : ((i:Int)+1)=((i+1 : Nat):Int):=by push_cast;rfl
  refine ae hi▸ ?_
  refine af (he _ (Array.getElem_mem hlt) prog w _ _ ?_)
  refine ae (hno i hlt (aG _) (by exact Nat.lt_of_sub_eq_succ hk))▸ ?_
  wp_walk
  exact⟨plainId_quiet plain_remove_loop _,dE entry_remove_loop (by
   exact ih (i+1) (Ja hk) (Nat.lt_of_sub_eq_succ hk) (λm hm h1 h2=>hno m hm (by exact Nat.le_of_succ_le h1) h2) prog w A R _ ⟨hl,he,h⟩)⟩
theorem rO(l:Addr)(items:Array Value)(n:Nat)(x:Value)(e:Value->Bool)(j:Nat)(hj:j < items.size)
  (hit:e items[j]=true)(hno:∀m (hm:m < items.size),m < j->e items[m]=false)(hs1:items.size<=sizeLine) :
  Meets (Builtin.«list.remove» ⟨[.ref l,x],[]⟩)
   (λA R s=>s.heap.get? l=some { cls:= .type "list",dict:=none,data:= .seq items n,slots:=#[] }/\(∀y,y∈items->EqAt A.in1 s y x (e y))/\R (.ok (.ret .none)) { s with heap:=s.heap.update l (Obj.mapSeq λxs=>xs.eraseIdxIfInBounds j) }):=by
 intro prog w A R s h
 obtain⟨hp,g,d,tk,os⟩:=s;refine ip h λhl he h=> ?_
 wp_walk using wpAny_loadPart' hl
 exact⟨plainId_quiet plain_remove_loop _,dE entry_remove_loop (by
  exact rT l items n x e j hj hit _ hs1 0 rfl (bC _) (λm hm _ h2=>hno m hm h2) prog w A R _ ⟨hl,he,h⟩)⟩
end
noncomputable def eqB(K:Frag)(C:Addr):Bool:=findIn K (.ref C) "__eq__" == some (some (.builtin "object.__eq__"))&&subIn K (.ref C) (.type "object")==some true
noncomputable def pV(b:LA):MV->Bool
 | .ref m=>decide (m=b)
 |_=>false
noncomputable def xw(a:Addr):Value->Bool
 | .ref b=>decide (b=a)
 |_=>false
section
variable {cx:Cx}{n:Nat}{fd:Fd}{eqs:Addr->Bool}
inductive DQ(eqs:Addr->Bool)(loc:Loc)(σ:MH)(Q:MV->Loc->MH->Prop):List MV->Prop where
 |mk {l b vs C db j} (e:σ.get l=some (.list vs))(a:vs.length<=100000)(c:eqs C=true)(f:∀v∈vs,∃m d,v= .ref m/\σ.get m=some (.inst C d))(g:σ.get b=some (.inst C db))
   (i:vs.findIdx? (pV b)=some j)(h:Q .none loc (σ.set l (.list (vs.eraseIdx j)))):DQ eqs loc σ Q [.ref l, .ref b]
noncomputable abbrev P.zx(eqs:Addr->Bool)(as:List MV):P MV:=λloc σ Q _=>DQ eqs loc σ Q as
theorem DR{ρ:LA->Addr}{U:LA->Prop}{h:Heap}{b:LA}(inj:∀l l',U l->U l'->ρ l=ρ l'->l=l')(ub:U b){vs:List MV}{X:Array Value}(r:cR ρ U h vs X.toList)(hv:∀v∈vs,∃m,v= .ref m)(m:Nat)(hm:m < X.size)(hw:m < vs.length) :
  xw (ρ b) X[m]=pV b vs[m]:=by
 refine aT (e8 r hm) λv e1 r1=> ?_
 rw[ay hw] at e1
 refine cN (hv _ (List.getElem_mem hw)) λl e2=> ?_
 obtain rfl:=aS e1
 rw[e2] at r1
 obtain⟨e3,u⟩:=r1.bU
 refine ae e2▸ ?_;refine (ah _ e3).trans ?_
 simp only[xw,pV,decide_eq_decide]
 exact⟨λq=>inj _ _ u ub q,λq=>by exact ah _ q⟩
theorem vD(hE:∀C,eqs C=true->eqB cx.K C=true):jr cx n fd (.builtin "list.remove") (P.zx eqs):=by
 intro as vs A ρ σ loc s Q X G hp hm
 induction hm with
 |@mk l b ws C db j e1 hz hC hall hb hj hm=>
  apply hp.El;intro y z r1 r2;apply r1.eB;intro ua;apply r2.eB;intro ub
  refine ey ((G.obj _ _ e1).2) λxs ep o1 r3=> ?_
  have l1 : ws.length=xs.size:=r3.len.symm.trans bu
  refine aT (List.findIdx?_eq_some_iff_getElem.mp hj) λj1 j2 j3=> ?_
  have nth:=λm hm hw=>DR (λl l'=>G.inj l l') ub r3 (λv q=>(by refine ey (hall v q) λm _ e _=> ?_;exact⟨m,e⟩)) m hm hw
  have jx : j < xs.size:=l1▸j1
  refine call_meets PySem.F.slot_list_remove ⟨_,o1,rfl⟩ PySem.F.entry_list_remove (PySem.F.args_list_remove_2 _ _)
   (rO (ρ l) xs ep (.ref (ρ b)) (xw (ρ b)) j jx ((nth j jx j1).trans j2) (λm hm1 hm2=>(nth m hm1 (l1▸hm1)).trans (Bool.eq_false_iff.mpr (j3 m hm2))) (by refine l1▸ ?_;exact ad hz (by decide))) ⟨o1,λy hy=> ?_, ?_⟩
  ·obtain⟨i,hi,rfl⟩:=Array.getElem_of_mem hy
   refine aT (e8 r3 hi) λv q1 q2=> ?_
   refine ey (hall v (au q1)) λm d zr2_ e3=> ?_;subst zr2_
   refine ae q2.bU.1▸ ?_
   exact EB (cx.X.keeps G.top) (G.obj _ _ e3).2.1 rfl (G.obj _ _ hb).2.1 rfl (eq_of_beq (an.mp (hE C hC)).1) (eq_of_beq (an.mp (hE C hC)).2) (az (bF (a9 ..) (by decide:1<=100)) G.ak.un)
  ·have em : Obj.mapSeq (λys:Array Value=>ys.eraseIdxIfInBounds j) { cls:= .type "list",data:= .seq xs ep }={ cls:= .type "list",data:= .seq (xs.eraseIdxIfInBounds j) (ep+1) }:=by
    have : (xs.eraseIdxIfInBounds j).size=xs.size - 1:=by simp[Array.eraseIdxIfInBounds,jx]
    simp only[Obj.mapSeq]
    lia
   have sb:=Heap.SameBut.update s.heap (ρ l) (Obj.mapSeq λys=>ys.eraseIdxIfInBounds j)
   have hl:=dJ (Obj.mapSeq λys : Array Value=>ys.eraseIdxIfInBounds j) o1 (by rfl)
   rw[em] at hl
   refine Out.none (Out.set (o':= .list _) G ua s.toks sb.1 sb.2 hl cQ (λkp=>⟨_,ep+1,hl, ?_⟩) hm)
   have:=(r3.erase j).mono kp
   simpa using this
end
section
variable {prog:Program}{w:World}{A:Around}{E:Value->Shared->Prop}{s:Shared}{a:Addr}{b:List UInt8}
theorem vO{id:String}{c:Array UInt8}{t:Tok}:Bytes.takeBufferQuiet? id (.bytes c t) 0=pure (some (c,none)):=by
 delta Bytes.takeBufferQuiet? Bytes.takeBuffer? Bytes.buffer?
 kernel_rfl
theorem pv{c:List UInt8}{t:Tok}(e:d6 s.heap a b)(hz:b.length<=100000)(hc:c.length<=100000){Q:Value->Shared->Prop}
  (h:∀h',h'.objs.size=s.heap.objs.size->(∀y,y≠a->h'.get? y=s.heap.get? y)->d6 h' a (b++c)->Q .none { s with heap:=h' }) :
  cW (model prog w) A (call (.builtin "bytearray.extend") [.ref a, .bytes c.toArray t]) Q E s:=by
 refine g5 gE (cu e) jz (λ_ v _ _=>ET (x:=Bytes.sameRef _ v)) (by decide +kernel) ?_ (j0 _ _)
 refine ai (ax (a:=(Value.ref a,Value.bytes c.toArray t)) ?_)
 refine ai (bR (KBy.special_eq KBy.look_buffer) ?_)
 refine ai (.of (wpAny_rule ?_))
 refine ai (.of (dF e ?_))
 refine ai (bR vO ?_)
 dsimp only
 have hw : ∀ {A':Around}{R:Fin->Shared->Prop},(∀h',h'.objs.size=s.heap.objs.size->(∀y,y≠a->h'.get? y=s.heap.get? y)->d6 h' a (b++c)->R (.done (.ret .none)) { s with heap:=h' })->
   cW (model prog w) A' (Bytes.write (.ref a) (·++c.toArray) >>= λ_=>ret .none) R E s:=by
  intro A' R hR
  refine ai (.of (eO e (c:=b++c) (List.append_toArray b c) (by refine ae aU▸ae aA▸ ?_;exact ad (bF hz hc) (by decide)) λh' hs ho hb=> ?_))
  exact ax (hR h' hs ho hb)
 show cW _ _ (do
  if !c.toArray.isEmpty then Bytes.checkResize (.ref a)
  Bytes.write (.ref a) (·++c.toArray)
  ret .none) _ _ s
 have f:=hw (A':=A.in1) (R:=λfin s'=>∃v,fin= .done (.ret v)/\Q v s') λh' k1 k2 k3=>⟨_,rfl,h h' k1 k2 k3⟩
 split
 ·exact ai (kC e f)
 ·exact f
theorem fy : typeLookup (.type "bytearray") "__buffer__" = pure (some (.builtin "bytearray.__buffer__")):=by rw[cJ,bE];kernel_rfl
theorem i6{M:Model}{Q:Bool->Shared->Prop}(e:d6 s.heap a b)(h:Q true s):wpAny M A (Bytes.slotIsOwn (.ref a) "__buffer__") Q E s:=by
 refine af (bN (cu e) fy ?_)
 dsimp only
 rw[if_neg (by decide +kernel)]
 refine wpAny_isInstance (T := "bytearray") (b:=true) (cu e) ?_ h
 have : (("bytearray.__buffer__" : String).dropRight (("__buffer__" : String).length+1)) = "bytearray" := by decide +kernel
 refine ae this▸ ?_;exact kg
theorem BV{M:Model}{id:String}{Q:Option (Array UInt8×Option Value)->Shared->Prop}(e:d6 s.heap a b)(h:Q (some (b.toArray,none)) s):wpAny M A (Bytes.takeBufferQuiet? id (.ref a) 0) Q E s:=by
 have ss:=λ{A:Around}{E:Value->Shared->Prop}{Q:Option Value->Shared->Prop}(h:Q (some (.builtin "bytearray.__buffer__")) s)=>bN (M:=M) (A:=A) (E:=E) (cu e) fy h
 refine af (wpAny_attempt ?_)
 refine af (ss ?_)
 dsimp only
 refine af (i6 e ?_)
 refine af (ss ?_)
 have bf : wpAny M A (Bytes.buffer? id (.ref a) ((0:Int)==Bytes.fullReadOnly)) (λr s'=>r=some b.toArray/\s'=s) (λ_ _=>False) s:=by
  dsimp only[Bytes.buffer?]
  refine af (ss ?_)
  dsimp only
  refine af (i6 e ?_)
  refine af (ss ?_)
  split
  all_goals rename_i q
  all_goals first | (exfalso;simp at q;done) | skip
  ·refine af (eP e ?_)
   exact af (dF e (ao ⟨rfl,rfl⟩))
  ·simp_all
 split
 all_goals rename_i q
 all_goals first | (exfalso;simp at q;done) | skip
 ·refine af (wpAny_mono bf (λr s' hr=> ?_) λ_ _ x=>x.elim)
  obtain⟨rfl,rfl⟩:=hr
  exact ao (ao h)
 ·simp_all
theorem uJ{x:Addr}{c:List UInt8}(e:d6 s.heap a b)(ex:d6 s.heap x c)(hz:b.length<=100000)(hc:c.length<=100000){Q:Value->Shared->Prop}
  (h:∀h',h'.objs.size=s.heap.objs.size->(∀y,y≠a->h'.get? y=s.heap.get? y)->d6 h' a (b++c)->Q .none { s with heap:=h' }) :
  cW (model prog w) A (call (.builtin "bytearray.extend") [.ref a, .ref x]) Q E s:=by
 refine g5 gE (cu e) jz (λ_ v _ _=>ET (x:=Bytes.sameRef _ v)) (by decide +kernel) ?_ (j0 _ _)
 refine ai (ax (a:=(Value.ref a,Value.ref x)) ?_)
 refine ai (.of (bN (cu ex) fy ?_))
 refine ai (.of (wpAny_rule ?_))
 refine ai (.of (dF e ?_))
 refine ai (.of (BV ex ?_))
 dsimp only
 have hw : ∀ {A':Around}{R:Fin->Shared->Prop},(∀h',h'.objs.size=s.heap.objs.size->(∀y,y≠a->h'.get? y=s.heap.get? y)->d6 h' a (b++c)->R (.done (.ret .none)) { s with heap:=h' })->
   cW (model prog w) A' (Bytes.write (.ref a) (·++c.toArray) >>= λ_=>ret .none) R E s:=by
  intro A' R hR
  refine ai (.of (eO e (c:=b++c) (List.append_toArray b c) (by refine ae aU▸ae aA▸ ?_;exact ad (bF hz hc) (by decide)) λh' hs ho hb=> ?_))
  exact ax (hR h' hs ho hb)
 show cW _ _ (do
  if !c.toArray.isEmpty then Bytes.checkResize (.ref a)
  Bytes.write (.ref a) (·++c.toArray)
  ret .none) _ _ s
 have f:=hw (A':=A.in1) (R:=λfin s'=>∃v,fin= .done (.ret v)/\Q v s') λh' k1 k2 k3=>⟨_,rfl,h h' k1 k2 k3⟩
 split
 ·exact ai (kC e f)
 ·exact f
end
section
variable {cx:Cx}{n:Nat}{fd:Fd}
inductive vC(loc:Loc)(σ:MH)(Q:MV->Loc->MH->Prop):List MV->Prop where
 |oct {l b c} (e:σ.get l=some (.bW b))(a:b.length<=100000/\c.length<=100000)(h:Q .none loc (σ.set l (.bW (b++c)))):vC loc σ Q [.ref l, .bytes c]
 |ba {l x b c} (e:σ.get l=some (.bW b))(f:σ.get x=some (.bW c))(a:b.length<=100000/\c.length<=100000)(h:Q .none loc (σ.set l (.bW (b++c)))):vC loc σ Q [.ref l, .ref x]
noncomputable abbrev P.K1(as:List MV):P MV:=λloc σ Q _=>vC loc σ Q as
theorem Dv : cP cx n fd (.builtin "bytearray.extend") P.K1:=by
 intro as vs A ρ σ loc s Q X G hp hm
 generalize eA cx n fd A ρ σ s X=X'
 have fin : ∀ {l:LA}{b:List UInt8},σ.us l->Q .none loc (σ.set l (.bW b))->∀h',h'.objs.size=s.heap.objs.size->(∀y,y≠ρ l->h'.get? y=s.heap.get? y)->d6 h' (ρ l) b->Out cx n fd A ρ σ s VR Q .none { s with heap:=h' }:=
  λu hm h' hs ho hb=>Out.none (Out.set (o':= .bW _) G u s.toks hs ho hb gP (λ_=>hb) hm)
 generalize Out cx n fd A ρ σ s VR Q=Q' at fin ⊢
 induction hm with
 |oct e a h=>
  apply hp.El;intro y z r1 r2;apply r1.eB;intro u;apply r2.dg;intro t
  exact pv (G.obj _ _ e).2 a.1 a.2 (fin u h)
 |ba e f a h=>
  apply hp.El;intro y z r1 r2;apply r1.eB;intro u;apply r2.eB;intro _
  exact uJ (G.obj _ _ e).2 (G.obj _ _ f).2 a.1 a.2 (fin u h)
end
section
variable {prog:Program}{w:World}{A:Around}{E:Value->Shared->Prop}{s:Shared}
theorem lR{v:Value}{Q:Value->Shared->Prop}(h:codeAny (model prog w) A.in1 (.call (.builtin "bytes.__new__") ⟨[.type "bytes",v],[]⟩) (wants (λobj s₁=>s₁.TypeIs obj "bytes" /\ Q obj s₁) E) s) :
  wpAny (model prog w) A (call (.type "bytes") [v]) Q E s:=by
 refine callType_codes (Q₁:=λobj s₁=>s₁.TypeIs obj "bytes" /\ Q obj s₁) F.bm_called (F.bm_typeCall _) F.entry_object_init h λobj s₁ h₁=> ?_
 exact⟨h₁.1,F.args_object_init_2 obj _,object_init_meets F.bm_called.init.lookup F.bm_called.made (by decide) prog w A.in1 _ s₁ ⟨h₁.1,rfl,h₁.2⟩⟩
theorem wA : typeLookup (.type "bytes") "__bytes__" = pure (some (.builtin "bytes.__bytes__")):=by rw[cJ,bE];kernel_rfl
theorem qI{b:Array UInt8}{t:Tok}{Q:Value->Shared->Prop}(h:Q (.bytes b t) s):wpAny (model prog w) A (call (.type "bytes") [.bytes b t]) Q E s:=by
 refine lR (codeAny_of_tree ?_)
 show wpAny _ A.in1.in1 (do checkBuiltinCall "bytes.__new__" ⟨[.type "bytes", .bytes b t],[]⟩;again (.builtin "bytes.__new__" ⟨[.type "bytes", .bytes b t],[]⟩)) _ _ s
 refine af (bG (F.bm_newCall _) (ao ⟨plainId_quiet F.bm_plain _,dE F.bm_entry ?_⟩))
 refine af (bG (a:=true) rfl ?_)
 refine bm_if_false rfl ?_
 refine af (bG F.bm_sub ?_)
 refine bm_if_false rfl ?_
 refine af (bG (F.bm_bind _) ?_)
 refine af (bG (a:=()) rfl ?_)
 refine af (bG (a:=()) rfl ?_)
 refine bm_if_false rfl ?_
 refine af (bG (KBy.special_eq wA) ?_)
 refine af (wpAny_rule ?_)
 refine af (bG (a:= .type "bytes") rfl ?_)
 exact ao ⟨PySem.W.typeIs_bytes _ _ _,h⟩
end
theorem tW : typeLookup (.type "bytearray") "__bytes__" = pure none:=by rw[cJ,bE];kernel_rfl
theorem wz : typeLookup (.type "bytearray") "__index__" = pure none:=by rw[cJ,bE];kernel_rfl
theorem rJ : typeLookup (.type "int") "__bytes__" = pure none:=by rw[cJ,bE];kernel_rfl
section
variable {prog:Program}{w:World}{A:Around}{E:Value->Shared->Prop}{s:Shared}
theorem AS{M:Model}{id:String}{a:Addr}{b:List UInt8}{Q:Option (Array UInt8)->Shared->Prop}(e:d6 s.heap a b)(h:Q (some b.toArray) s):wpAny M A (Bytes.buffer? id (.ref a) true) Q E s:=by
 have ss:=λ{A:Around}{E:Value->Shared->Prop}{Q:Option Value->Shared->Prop}(h:Q (some (.builtin "bytearray.__buffer__")) s)=>bN (M:=M) (A:=A) (E:=E) (cu e) fy h
 dsimp only[Bytes.buffer?]
 refine af (ss ?_)
 dsimp only
 refine af (i6 e ?_)
 refine af (ss ?_)
 split
 all_goals rename_i q
 all_goals first | (exfalso;simp at q;done) | skip
 ·refine af (eP e ?_)
  exact af (dF e (ao h))
 ·simp_all
theorem vA{a:Addr}{b:List UInt8}(hz:b.length<=100000)(e:d6 s.heap a b){Q:Value->Shared->Prop}(h:∀t k,Q (.bytes b.toArray t) { s with toks:=k }):wpAny (model prog w) A (call (.type "bytes") [.ref a]) Q E s:=by
 refine lR (codeAny_of_tree ?_)
 show wpAny _ A.in1.in1 (do checkBuiltinCall "bytes.__new__" ⟨[.type "bytes", .ref a],[]⟩;again (.builtin "bytes.__new__" ⟨[.type "bytes", .ref a],[]⟩)) _ _ s
 refine af (bG (F.bm_newCall _) (ao ⟨plainId_quiet F.bm_plain _,dE F.bm_entry ?_⟩))
 refine af (bG (a:=true) rfl ?_)
 refine bm_if_false rfl ?_
 refine af (bG F.bm_sub ?_)
 refine bm_if_false rfl ?_
 refine af (bG (F.bm_bind _) ?_)
 refine af (bG (a:=()) rfl ?_)
 refine af (bG (a:=()) rfl ?_)
 refine bm_if_false rfl ?_
 refine af (bN (cu e) tW ?_)
 refine af (af ?_)
 refine af (wpAny_load e ?_)
 refine ao (ao ?_)
 refine bm_if_false rfl ?_
 refine af (bN (cu e) wz ?_)
 refine bm_if_true rfl ?_
 refine af ?_
 refine AS e ?_
 refine af (wpAny_rule ?_)
 refine af (wpAny_mkBytes ?_ (by refine ae aU▸ae d9▸ ?_;exact ad hz (by decide)))
 refine bm_if_true (by decide) ?_
 refine ao ⟨PySem.W.typeIs_bytes _ _ _,h _ _⟩
theorem uC{i:Int}{t:Tok}(h0:0<=i)(hz:i<=100000){Q:Value->Shared->Prop}(h:∀t k,Q (.bytes (List.replicate i.toNat 0).toArray t) { s with toks:=k }):wpAny (model prog w) A (call (.type "bytes") [.int i t]) Q E s:=by
 refine lR (codeAny_of_tree ?_)
 show wpAny _ A.in1.in1 (do checkBuiltinCall "bytes.__new__" ⟨[.type "bytes", .int i t],[]⟩;again (.builtin "bytes.__new__" ⟨[.type "bytes", .int i t],[]⟩)) _ _ s
 refine af (bG (F.bm_newCall _) (ao ⟨plainId_quiet F.bm_plain _,dE F.bm_entry ?_⟩))
 refine af (bG (a:=true) rfl ?_)
 refine bm_if_false rfl ?_
 refine af (bG F.bm_sub ?_)
 refine bm_if_false rfl ?_
 refine af (bG (F.bm_bind _) ?_)
 refine af (bG (a:=()) rfl ?_)
 refine af (bG (a:=()) rfl ?_)
 refine bm_if_false rfl ?_
 refine af (bN (typeIs_int _ i t) rJ ?_)
 refine af (bG (a:=false) rfl ?_)
 refine bm_if_false rfl ?_
 refine af (bN (typeIs_int _ i t) F.slot_int_index.lookup ?_)
 refine bm_if_false rfl ?_
 refine af (wpAny_attempt (bG (a:=i) rfl ?_))
 dsimp only
 simp only[(fits_of (n:=100001) h0 (by exact Int.lt_of_le_sub_one hz) (by exact aj rfl)),Bool.not_true,Bool.false_eq_true,if_false]
 rw[if_neg (by exact Int.not_lt_of_ge h0)]
 rw[if_neg (by exact cZ.mpr (bp hz (by decide)))]
 rw[if_neg (show ¬(Bytes.tooLong i.toNat=true) by unfold Bytes.tooLong;refine ae aU▸ ?_;rw[decide_eq_true_eq];exact iw.mpr (ad (Int.toNat_le.mpr hz) (by decide)))]
 refine af (wpAny_rule ?_)
 refine af (wpAny_mkBytes ?_ (by refine ae aU▸ae Array.size_replicate▸ ?_;exact ad (Int.toNat_le.mpr hz) (by decide)))
 refine bm_if_true (by decide) ?_
 refine ao ⟨PySem.W.typeIs_bytes _ _ _, ?_⟩
 have:=h s.toks (s.toks+1)
 exact this
variable {cx:Cx}{n:Nat}{fd:Fd}
inductive iX(loc:Loc)(σ:MH)(Q:MV->Loc->MH->Prop):List MV->Prop where
 |oct {b} (h:Q (.bytes b) loc σ):iX loc σ Q [.bytes b]
 |int {i:Int}(a:0<=i/\i<=100000)(h:Q (.bytes (List.replicate i.toNat 0)) loc σ):iX loc σ Q [.int i]
 |ba {l b} (e:σ.get l=some (.bW b))(a:b.length<=100000)(h:Q (.bytes b) loc σ):iX loc σ Q [.ref l]
 |list {l vs ns} (e:σ.get l=some (.list vs))(a:vs.length<=100000)(f:intsOf vs=some ns)(g:∀n∈ns,0<=n/\n < 256)(h:Q (.bytes (ns.map λn=>n.toNat.toUInt8)) loc σ):iX loc σ Q [.ref l]
noncomputable abbrev P.bytes(as:List MV):P MV:=λloc σ Q _=>iX loc σ Q as
theorem zO : jr cx n fd (.type "bytes") P.bytes:=by
 intro as vs A ρ σ loc s Q X G hp hm
 generalize eA cx n fd A ρ σ s X=X'
 have fin : ∀ {b:List UInt8}{t:Tok}{k:Nat}{h':Heap},jI fd.env.locals s.heap h'->Q (.bytes b) loc σ->Out cx n fd A ρ σ s VR Q (.bytes b.toArray t) { s with heap:=h',toks:=k }:=
  λg h=>Out.pre (Step.grow G.di G.locals g _) (Out.now (G.grow g _) .bytes h)
 generalize Out cx n fd A ρ σ s VR Q=Q' at fin ⊢
 induction hm with
 |oct h=>apply hp.Jl;intro y r;apply r.dg;intro t;exact qI (fin .refl h)
 |int a h=>apply hp.Jl;intro y r;apply r.eH;intro t;exact uC a.1 a.2 λt k=>fin .refl h
 |ba e a h=>apply hp.eB;intro u;exact vA a (G.obj _ _ e).2 λt k=>fin .refl h
 |@list l vs ns e a f g h=>
  apply hp.eB;intro u
  refine aT (G.isList e) λxs i r2=> ?_
  exact call_bytes_ints (vs:=xs.toList) (by simpa using i) (rn r2 f) g (by refine ae r2.len▸ ?_;exact ad a (by decide)) G.ak.hh λh' t k hk=>fin (dM hk) h
end
section
variable {cx:Cx}{n:Nat}{fd:Fd}
inductive qR(loc:Loc)(σ:MH)(Q:MV->Loc->MH->Prop):List MV->Prop where
 |nil {r} (n:¬σ.us r)(h:Q (.ref r) loc (σ.new r (.bW []))):qR loc σ Q []
 |oct {b r} (a:b.length<=100000)(n:¬σ.us r)(h:Q (.ref r) loc (σ.new r (.bW b))):qR loc σ Q [.bytes b]
 |int {i:Int} {r} (a:0<=i/\i<=100000)(n:¬σ.us r)(h:Q (.ref r) loc (σ.new r (.bW (List.replicate i.toNat 0)))):qR loc σ Q [.int i]
noncomputable abbrev P.bytearray(as:List MV):P MV:=λloc σ Q _=>qR loc σ Q as
theorem sE : cP cx n fd (.type "bytearray") P.bytearray:=by
 intro as vs A ρ σ loc s Q X G hp hm
 induction hm with
 |nil n h=>(refine ae hp.nil_inv▸ ?_);exact Cu λh' hk hb=>Out.vg G n s.toks (dM hk) (aG _) hb h
 |oct a n h=>apply hp.Jl;intro y r;apply r.dg;intro t;exact lf a λh' hk hb=>Out.vg G n s.toks (dM hk) (aG _) hb h
 |int a n h=>apply hp.Jl;intro y r;apply r.eH;intro t;exact wb a.1 a.2 λh' hk hb=>Out.vg G n s.toks (dM hk) (aG _) hb h
end
end Internal
namespace Internal
open PySem PySem.W PyProof.Rows PySem.Calls
section
variable {cx:Cx}{n:Nat}{fd:Fd}{A:Around}{ρ ρ' ρ₀:LA->Addr}{σ σ' σ₀:MH}{loc loc' loc₀:Loc}{s s₀ s':Shared}{U:LA->Prop}
noncomputable abbrev ib(cx:Cx)(n:Nat)(fd:Fd)(ifs:List Expr)(m:P Bool):Prop:=
 eQ cx n fd cg.bool (forIn ifs true λc r=>if r=true then do let ok<-isTrue c fd.env (eval c fd.env);pure (ForInStep.yield ok) else pure (ForInStep.yield r)) m
theorem xp : ib cx n fd [] (P.ret true):=aM.pure λ_ _ _ _=>rfl
theorem w2{c:Expr}{m:P Bool}(h:gx cx n fd c m):ib cx n fd [c] m:=by
 intro A ρ σ loc s Q X G hp hm
 simp only[List.forIn_cons,List.forIn_nil,if_true]
 refine ai (ai (aD (h A ρ σ loc s Q X G hp hm) (λb s1 y=>ax (ax y)) λ_ _ y=>y))
noncomputable def P.lE(tg:MV->P Unit)(ts:P Bool)(el:P MV):Nat->It->List MV->P (List MV)
 |0,_,_=>P.fail
 |N+1,it,acc=>λloc σ Q X=>GL σ it (Q acc loc σ) λv it'=>acc.length<=100000/\tg v loc σ (λ_ l1 σ1=>ts l1 σ1 (λb l2 σ2=>bif b then
    el l2 σ2 (λy l3 σ3=>P.lE tg ts el N it' (acc++[y]) l3 σ3 Q X) X
   else P.lE tg ts el N it' acc l2 σ2 Q X) X) X
noncomputable def AccAt(ρ:LA->Addr)(U:LA->Prop)(h:Heap)(D:Addr)(acc:List MV):Prop:=∃xs ep,h.get? D=some { cls:= .type "list",data:= .seq xs ep }/\cR ρ U h acc xs.toList
theorem AccAt.step(G:Good cx n fd A ρ σ loc s){D:Addr}{acc:List MV}(a:AccAt ρ σ.us s.heap D acc)(W:gY cx fd s₀ ρ σ.us s D)(S:Step fd ρ σ.us s ρ' σ'.us s') :
  AccAt ρ' σ'.us s'.heap D acc/\gY cx fd s₀ ρ' σ'.us s' D:=by
 refine ey a λxs ep e r=> ?_
 refine dA (W.step G S) λW' k=> ?_
 exact⟨⟨xs,ep,k _ e,r.mono (S.keeps G)⟩,W'⟩
inductive KA(cx:Cx)(n:Nat)(fd:Fd)(A:Around)(ρ₀:LA->Addr)(U:LA->Prop)(s₀:Shared)(D:Addr)(Q:List MV->Loc->MH->Prop)(s':Shared):Prop
 |mk (acc:List MV)(ρ':LA->Addr)(σ':MH)(loc':Loc)(S:Step fd ρ₀ U s₀ ρ' σ'.us s')(G:Good cx n fd A ρ' σ' loc' s')(W:gY cx fd s₀ ρ' σ'.us s' D)(a:AccAt ρ' σ'.us s'.heap D acc)(q:Q acc loc' σ')
theorem Mh{X:Addr->Loc->MH->Prop}{e:Value}(hX:∀C l m,X C l m->False)(h:eA cx n fd A ρ σ s X e s'):False:=by
 obtain⟨e,C,ρ',σ',loc',_,_,_,_,hx⟩:=h
 exact hX _ _ _ hx
theorem kR.heap{h h':Heap}{it:It}{v:Value}{as:List Addr}(I:kR ρ h it v as)(hk:∀a∈as,∀o,h.get? a=some o->h'.get? a=some o):kR ρ h' it v as:=by
 cases it with
 |lst l i=>obtain⟨a,rfl,rfl,o,ho,r⟩:=I;exact⟨a,rfl,rfl,o,hk a (.head _) o ho,r⟩
 |jK x left step=>refine pB I λa zr1_ zr2_ hI=> ?_;subst zr1_;subst zr2_;exact⟨a,rfl,rfl,hk a (.head _) _ hI⟩
 |nT l i=>obtain⟨e,a,old,rfl,rfl,hne,hE,o,ho,r⟩:=I;exact⟨e,a,old,rfl,rfl,hne,hk e (.head _) _ hE,o,hk a (.tail _ (.head _)) o ho,r⟩
 |rev l k=>obtain⟨a,rfl,rfl,o,ho,r⟩:=I;exact⟨a,rfl,rfl,o,hk a (.head _) o ho,r⟩
 |rF b i=>obtain⟨a,t,rfl,rfl,o,ho,r⟩:=I;exact⟨a,t,rfl,rfl,o,hk a (.head _) o ho,r⟩
theorem Dq{U U':LA->Prop}(h:∀l,U l->U' l):∀ {it:It},it.use U->it.use U'
 | .lst _ _,u=>h _ u
 | .jK _ _ _,_=>trivial
 | .nT _ _,u=>h _ u
 | .rev _ _,u=>h _ u
 | .rF _ _,_=>trivial
noncomputable def qW(elt:Expr)(ifs:List Expr)(env:Env)(D:Addr)(c:Code):Sem Fin:=
 (forIn ifs true λc r=>if r=true then do let ok<-isTrue c env (eval c env);pure (ForInStep.yield ok) else pure (ForInStep.yield r)) >>= λok=>
  if ok=true then (eval elt env >>= λy=>call (.builtin "list.append") [.ref D,y] >>= λ_=>pure ()) >>= λ_=>again c else again c
structure ij(cx:Cx)(n:Nat)(fd:Fd)(A:Around)(ρ₀:LA->Addr)(U:LA->Prop)(s₀:Shared)(D:Addr)(v:Value)(as:List Addr)(target:Expr)(it:It)(acc:List MV)(ρ:LA->Addr)(σ:MH)(loc:Loc)(s:Shared):Prop where
 t : it.dT=true->c5 target=true
 G : Good cx n fd A ρ σ loc s
 S : Step fd ρ₀ U s₀ ρ σ.us s
 I : kR ρ s.heap it v as
 W : ∀a∈as,gY cx fd s₀ ρ σ.us s a
 WD : gY cx fd s₀ ρ σ.us s D
 AD : AccAt ρ σ.us s.heap D acc
theorem ij.step{v:Value}{as:List Addr}{D:Addr}{target:Expr}{it:It}{acc:List MV}(C:ij cx n fd A ρ₀ U s₀ D v as target it acc ρ σ loc s)(hu:it.use σ.us)(G':Good cx n fd A ρ' σ' loc' s')(S:Step fd ρ σ.us s ρ' σ'.us s') :
  ij cx n fd A ρ₀ U s₀ D v as target it acc ρ' σ' loc' s':=by
 exact⟨C.t,G',C.S.trans S,(C.I.step C.G hu C.W S).1,(C.I.step C.G hu C.W S).2,(C.AD.step C.G C.WD S).2,(C.AD.step C.G C.WD S).1⟩
theorem ij.add{v w:Value}{as:List Addr}{D:Addr}{target:Expr}{it:It}{acc:List MV}{m:MV}(C:ij cx n fd A ρ₀ U s₀ D v as target it acc ρ σ loc s)(hD:D∉as)(r:VR ρ σ.us s.heap m w)(hlen:acc.length<=100000){Q:Value->Shared->Prop}{E:Value->Shared->Prop}
  (h:∀s',ij cx n fd A ρ₀ U s₀ D v as target it (acc++[m]) ρ σ loc s'->Q .none s'):wpAny cx.M A (call (.builtin "list.append") [.ref D,w]) Q E s:=by
 refine ey C.AD λxs ep e5 r5=> ?_
 have l5:=r5.len
 rw[bu] at l5
 refine wpAny_list_append_plain ⟨_,e5⟩ (λh' ⟨ep',hl⟩ sb=> ?_) (by refine ae aU▸ ?_;exact ad (ad (aw l5) hlen) (by decide))
 have hk : ∀b o,b∉[D]->s.heap.get? b=some o->h'.get? b=some o:=λb o hb e=>(sb.2 b (λq=>hb (av.mpr q))).trans e
 have wD : ∀a∈[D],gY cx fd s₀ ρ σ.us s a:=λa ha=>av.mp ha▸C.WD
 have out : ∀a∈as,a∉[D]:=λa ha m=>hD (av.mp m▸ha)
 exact h _ ⟨C.t,(C.G.gh C.S (as:=[D]) wD (h':=h') s.toks hk).1,(C.G.gh C.S (as:=[D]) wD (h':=h') s.toks hk).2,C.I.heap λa ha o e=>hk a o (out a ha) e,λa ha=>(C.W a ha).set ((by refine aT ((C.W a ha).ex) λo e nt=> ?_;exact⟨o,hk a o (out a ha) e,nt⟩)),C.WD.set ⟨_,hl,cQ⟩,⟨_,ep',hl,Array.toList_push.symm▸(r5.mono (j7 wD hk)).append (.cons (r.mono (j7 wD hk)) .nil)⟩⟩
theorem AG{elt target:Expr}{ifs:List Expr}{tg:MV->P Unit}{ts:P Bool}{el:P MV}(ht:ew cx n fd target tg)(hts:ib cx n fd ifs ts)(hel:bO cx n fd elt el)
  {Q:List MV->Loc->MH->Prop}{X:Addr->Loc->MH->Prop}(hX:∀C l m,X C l m->False){v:Value}{as:List Addr}{D:Addr}(hD:D∉as){N:Nat}{R:Fin->Shared->Prop}{c:Code}
  (hd:∀s',KA cx n fd A ρ₀ U s₀ D Q s'->R (.done .next) s')(ha:∀it acc ρ σ loc s,ij cx n fd A ρ₀ U s₀ D v as target it acc ρ σ loc s->P.lE tg ts el N it acc loc σ Q X->R (.again c) s)
  {it:It}{acc:List MV}(C:ij cx n fd A ρ₀ U s₀ D v as target it acc ρ σ loc s)(hm:P.lE tg ts el (N+1) it acc loc σ Q X) :
  cW cx.M A (pyNext v >>= λr=>match r with
    |none=>pure (.done .next)
    |some x=>letOwnedTupleGo target v x >>= λ_=>assign target fd.env x >>= λ_=>qW elt ifs fd.env D c) R (λ_ _=>False) s:=by
 have run : ∀ {r},Nx σ it r->(∀r' s',After cx n fd A ρ₀ U s₀ ρ σ loc s as s'->Gk cx fd s₀ ρ σ.us s' v as r r'->match r' with
    |none=>R (.done .next) s'
    |some x=>cW cx.M A (assign target fd.env x >>= λ_=>qW elt ifs fd.env D c) R (λ_ _=>False) s')->cW cx.M A (pyNext v >>= λr=>match r with
    |none=>pure (.done .next)
    |some x=>letOwnedTupleGo target v x >>= λ_=>assign target fd.env x >>= λ_=>qW elt ifs fd.env D c) R (λ_ _=>False) s:=λhr h=>by
  refine ai (aD (.of (v6 (target:=target) C.G C.S C.I C.W hr C.t (E:=λ_ _=>False) h)) (λr' s1 y=> ?_) λ_ _ y=>y.elim)
  cases r' with
  |none=>exact ax y
  |some x=>exact ai (.of (wpAny_mono y (λ_ _ z=>z) λ_ _ z=>z.elim))
 have acc2 : ∀ {s2},After cx n fd A ρ₀ U s₀ ρ σ loc s as s2->AccAt ρ σ.us s2.heap D acc/\gY cx fd s₀ ρ σ.us s2 D:=λF=>by
  refine ey C.AD λxs ep e ra=> ?_
  exact⟨⟨xs,ep,(F.keep D _ hD e),ra.mono (j7 C.W F.keep)⟩,⟨C.WD.new,C.WD.un,C.WD.cI,C.WD.out,C.WD.cell,C.WD.top,_,(F.keep D _ hD e),cQ⟩⟩
 induction hm with
 |stop hr hm=>
  refine run hr λr' s2 F nr=> ?_
  cases nr
  exact hd _ ⟨acc,ρ,σ,loc,F.S,F.G,(acc2 F).2,(acc2 F).1,hm⟩
 |@turn w it2 hr hm=>
  refine run hr λr' s2 F nr=> ?_
  apply nr.Hc
  intro x rv I2 W2
  have hn:=zg C.G hr
  refine ai (aD (ht w x A ρ σ loc s2 _ X F.G rv hm.2) (λ_ s3 z=> ?_) λ_ _ z=>Mh hX z)
  obtain⟨_,ρ3,σ3,l3,S3,G3,_,hq⟩:=z
  refine ai (aD (hts A ρ3 σ3 l3 s3 _ X G3 trivial hq) (λb s4 z=> ?_) λ_ _ z=>Mh hX z)
  obtain⟨b',ρ4,σ4,l4,S4,G4,rfl,hq⟩:=z
  have C4:=(show ij cx n fd A ρ₀ U s₀ D v as target it2 acc ρ σ loc s2 from ⟨λq=>C.t (hn.1▸q),F.G,F.S,I2,W2,(acc2 F).2,(acc2 F).1⟩).step hn.2 G4 (S3.trans S4)
  cases b' with
  |false=>exact ax (ha _ _ _ _ _ _ C4 hq)
  |true=>
   refine ai (ai (aD (hel A ρ4 σ4 l4 s4 _ X G4 trivial hq) (λy s5 z=> ?_) λ_ _ z=>Mh hX z))
   obtain⟨my,ρ5,σ5,l5,S5,G5,ry,hq⟩:=z
   exact ai (.of ((C4.step (Dq (λl u=>((S3.trans S4).us l u).1) hn.2) G5 S5).add hD ry hm.1 λs6 C6=>ax (ax (ha _ _ _ _ _ _ C6 hq))))
theorem Ah{elt target iter:Expr}{ifs:List Expr}{scope:Scope}{pos:Pos}{tg:MV->P Unit}{ts:P Bool}{el:P MV}(ht:ew cx n fd target tg)(hts:ib cx n fd ifs ts)(hel:bO cx n fd elt el)
  {Q:List MV->Loc->MH->Prop}{X:Addr->Loc->MH->Prop}(hX:∀C l m,X C l m->False){v:Value}{as:List Addr}{D:Addr}(hD:D∉as)(N:Nat):∀ (it:It)(acc:List MV)(ρ:LA->Addr)(σ:MH)(loc:Loc)(s:Shared),
  ij cx n fd A ρ₀ U s₀ D v as target it acc ρ σ loc s->P.lE tg ts el N it acc loc σ Q X->
  codeN cx.M A (.compLoop (.ListComp elt [⟨target,iter,ifs,0⟩] scope pos) 0 v (.ref D) fd.env) (λr s'=>r= .ok .next/\KA cx n fd A ρ₀ U s₀ D Q s') s:=by
 induction N with
 |zero=>exact λ_ _ _ _ _ _ _ hm=>hm.elim
 |succ N ih=>
  intro it acc ρ σ loc s C hm
  refine bP (λ_ _ _ _=>rfl) ?_
  show cW _ A ((compTurn (.ListComp elt [⟨target,iter,ifs,0⟩] scope pos) 0 v (.ref D) fd.env).onRaise (λx=>do noteFrame x fd.env;theTreesLotGoes x)) _ _ s
  refine dw (aD (E:=λ_ _=>False) ?_ (λ_ _ y=>y) λ_ _ y=>y.elim)
  refine ae (compTurn_list ..)▸ ?_
  refine ai (bB (AG ht hts hel hX hD (λs' o=>⟨rfl,o⟩) (λit acc ρ σ loc s C hm=>⟨rfl,ih it acc ρ σ loc s C hm⟩) C hm))
end
noncomputable def closed(env:Env)(names:List (Str×NameKind)):List (Str×Addr):=names.reverse.filterMap λx=>if x.2= .free then (env.cells.lookup x.1).map λc=>(x.1,c) else none
theorem mr(env:Env):∀ (names:List (Str×NameKind))(acc:List (Str×Addr)),(∀x∈names,x.2= .free->(env.cells.lookup x.1).isSome=true)->
  (forIn names acc λx (cs:List (Str×Addr))=>(if (x.2==NameKind.free)=true then do let c<-cellOf env x.1;pure (ForInStep.yield ((x.1,c)::cs)) else pure (ForInStep.yield cs):Sem (ForInStep (List (Str×Addr)))))=pure (closed env names++acc)
 | [],acc,_=>rfl
 | (x,k)::r,acc,h=>by
  refine (List.forIn_cons ..).trans ?_
  have hr : ∀x∈r,x.2= .free->(env.cells.lookup x.1).isSome=true:=λy hy=>h y (aB _ hy)
  by_cases q : k= .free
  ·subst q
   refine cN (cb.mp (h (x, .free) aV rfl)) λc hc=> ?_
   simp only[beq_self_eq_true,if_true,(show cellOf env x=pure c by unfold cellOf;exact ae hc▸rfl),pure_bind]
   refine (((mr env r) _ hr)).trans ?_
   simp[closed,hc]
  ·have hb : (k==NameKind.free)=false:=by simpa using q
   simp only[hb,Bool.false_eq_true,if_false,pure_bind]
   refine (((mr env r) _ hr)).trans ?_
   simp[closed,q]
theorem rR{scope:Scope}{env:Env}(h:∀x∈scope.names,x.2= .free->(env.cells.lookup x.1).isSome=true):closureFor scope env=pure (closed env scope.names):=by
 have:=mr env scope.names [] h
 rw[cK] at this
 dsimp only[closureFor]
 rw[<-bind_pure (pure (closed env scope.names)),<-this]
theorem lT{env:Env}{names:List (Str×NameKind)}{c:Str×Addr}(h:c∈closed env names):(c.1,NameKind.free)∈names/\env.cells.lookup c.1=some c.2:=by
 refine aT (cS.mp h) λzo0_ hx he=> ?_;obtain⟨x,k⟩:=zo0_
 rw[List.mem_reverse] at hx
 split at he
 ·rename_i q
  dsimp only at q
  refine aT (bl.mp he) λa ha zr2_=> ?_;subst zr2_
  subst q
  exact⟨hx,ha⟩
 ·exact nomatch he
theorem rW{env:Env}{names:List (Str×NameKind)}(_nd:(names.map (·.1)).Nodup){x:Str}{a:Addr}(h:(x,NameKind.free)∈names)(ha:env.cells.lookup x=some a):(closed env names).lookup x=some a:=by
 cases q : (closed env names).lookup x with
 |none=>
  replace q:=List.lookup_eq_none_iff.mp q
  have:=q _ (show (x,a)∈closed env names from cS.mpr ⟨(x, .free),List.mem_reverse.mpr h,by simp[ha]⟩)
  simp at this
 |some b=>
  have m:=lT (mem_of_lookup q)
  rw[ha] at m
  exact m.2.symm▸rfl
theorem t6{env:Env}{names:List (Str×NameKind)}(nd:(names.map (·.1)).Nodup)(ap:env.cells.Pairwise λx y=>x.2≠y.2):(closed env names).Pairwise λx y=>x.2≠y.2:=by
 refine List.Pairwise.filterMap (R:=λx y=>x.1≠y.1) _ (λx y hxy b hb c hc=> ?_) (List.pairwise_reverse.mpr ?_)
 ·intro e
  obtain⟨x,k⟩:=x
  obtain⟨y,l⟩:=y
  dsimp only at hxy hb hc
  split at hb
  ·split at hc
   ·refine aT (bl.mp hb) λa ha zr2_=> ?_;subst zr2_
    refine aT (bl.mp hc) λa' ha' zr2_=> ?_;subst zr2_
    dsimp only at e
    subst e
    exact hxy (name_of_addr ap (mem_of_lookup ha) (mem_of_lookup ha'))
   ·exact nomatch hc
  ·exact nomatch hb
 ·have:=List.pairwise_map.mp nd
  exact this.imp λh=>Ne.symm h
structure jc(fd:Fd)(scope:Scope)(cn:List Str)(cmap:List (Option Nat)):Prop where
 hk : scope.kind= .function
 Jk : ∀x∈scope.names,x.2≠ .cell
 nl : ∀x∈scope.names,x.2= .local->scope.names.lookup x.1=some .local
 nd : (scope.names.map (·.1)).Nodup
 fr : ∀x∈scope.names,x.2= .free->∃ (i j:Nat),cn[i]?=some x.1/\cmap[i]?=some (some j)
 MU : ∀ (i j:Nat)(x:Str),cn[i]?=some x->cmap[i]?=some (some j)->fd.names[j]?=some x/\(x,NameKind.free)∈scope.names/\(fd.env.kindOf x=some .cell∨fd.env.kindOf x=some .free)
noncomputable abbrev Fd.comp(fd:Fd)(scope:Scope)(cn:List Str)(C:Addr):Fd:=
 { env:=compEnvC scope (closed fd.env scope.names) C fd.env,names:=cn,cI:=[C],outer:=fd.gB,gB:=fd.gB }
noncomputable def eR(cmap:List (Option Nat))(loc:Loc):Loc:=cmap.map λo=>o.bind λi=>(loc[i]?).join
noncomputable def n0(cmap:List (Option Nat))(loc:Loc):Prop:=∀ (i j:Nat),cmap[i]?=some (some j)->∃v,loc[j]?=some (some v)
theorem tP{names:List (Str×NameKind)}(nd:(names.map (·.1)).Nodup){x:Str}{k:NameKind}(h:(x,k)∈names):names.lookup x=some k:=by
 induction names with
 |nil=>cases h
 |cons p r ih=>
  obtain⟨y,l⟩:=p
  replace nd:=List.nodup_cons.mp nd
  refine Or.elim (aK.mp h) (λq=> ?_) λq=> ?_
  ·cases q;simp[List.lookup_cons]
  ·have : x≠y:=λe=>nd.1 (e▸cq.mpr ⟨_,q,rfl⟩)
   refine (List.lookup_cons).trans ?_;refine ae (show (x==y)=false by simpa using this)▸ ?_;exact ih nd.2 q
theorem mE{env:Env}:∀ {names:List (Str×NameKind)}{x:Str},names.lookup x=some .free->
  (names.map λ(n,k)=>if (k==NameKind.free&&env.scope.kind== .function&&env.kindOf n==some .cell) then (n,NameKind.cell) else (n,k)).lookup x≠some .local
 | [],_,h=>by simp at h
 | (n,k)::r,x,h=>by
  show List.lookup x ((if (k==NameKind.free&&env.scope.kind== .function&&env.kindOf n==some .cell)=true then (n,NameKind.cell) else (n,k))::_)≠_
  cases hx : x==n with
  |true=>
   simp only[List.lookup_cons,hx] at h
   cases h
   split<;>simp[List.lookup_cons,hx]
  |false=>
   simp only[List.lookup_cons,hx] at h
   split<;>(simp only[List.lookup_cons,hx];exact (@mE env r x) h)
section
variable {cx:Cx}{n:Nat}{fd:Fd}{A:Around}{ρ ρ' ρ₀:LA->Addr}{σ σ' σ₀:MH}{loc loc' loc₀:Loc}{s s₀ s':Shared}{U:LA->Prop}{scope:Scope}{cn:List Str}{cmap:List (Option Nat)}
theorem jc.cells(K:jc fd scope cn cmap)(G:Good cx n fd A ρ σ loc s)(hc:n0 cmap loc):∀x∈scope.names,x.2= .free->(fd.env.cells.lookup x.1).isSome=true:=λx hx hf=>by
 refine ey (K.fr x hx hf) λi j h1 h2=> ?_
 refine ip (K.MU i j _ h1 h2) λf1 f2 f3=> ?_
 refine cN (hc i j h2) λv hv=> ?_
 obtain⟨m,ns,q⟩:=G.loc
 refine ey ((q j x.1 v f1 hv).2 f3) λc _ e _=> ?_
 exact ah _ e
theorem Good.comp(G:Good cx n fd A ρ σ loc s)(hkd:fd.env.scope.kind≠ .module)(K:jc fd scope cn cmap)(hc:n0 cmap loc){h':Heap}{t:Nat}{C:Addr}{mC:Str->Option Value}(hk:∀b o,s.heap.get? b=some o->h'.get? b=some o)
  (hC:s.heap.objs.size<=C)(ns:h'.Ns C mC):Good cx n (fd.comp scope cn C) A ρ σ (eR cmap loc) { s with heap:=h',toks:=t }:=by
 have k : fh ρ σ.us s.heap ρ σ.us h':=⟨λ_ u=>⟨u,rfl⟩,λa o e _=>hk a o e⟩
 have out : ∀b o,s.heap.get? b=some o->b≠C:=λb o e q=>iL hC (q▸aR e)
 have Jy : ∀a∈fd.gB.filterMap (·.frame),At cx.h0.objs.size ρ σ.us h' a .dict:=λa m=>⟨(G.Jw a m).1,(G.Jw a m).2,(by refine iE (G.Jy a m) λo es ep e d=> ?_;exact⟨o,hk a o e,es,ep,d⟩)⟩
 have nof : C∉fd.gB.filterMap (·.frame):=λm=>(by refine iE (G.Jy C m) λo _ _ e _=> ?_;exact out C o e rfl)
 have mc : ∀c∈(fd.comp scope cn C).env.cells,∃y,(y,c.2)∈fd.env.cells:=λc hc=>⟨_,mem_of_lookup (lT hc).2⟩
 refine⟨λl o e=>have z:=G.obj l o e;⟨z.1,z.2.mono k λ_=>hk _ _⟩,G.inj,λl u=>let ⟨h1,o,h2,h3⟩:=G.low l u;⟨h1,o,hk _ _ h2,h3⟩,λb o e=>hk _ _ (G.top b o e),⟨mC,ns,λi x mv hi hl=> ?_⟩,λsp=> ?_,
  ⟨av.mpr rfl,t6 K.nd G.st.D2,λc hc=> ?_,λa m=>av.mp m▸nof,λc hc m=> ?_,λe he=> ?_, .inl rfl⟩,G.ak,G.gens⟩
 ·unfold eR at hl
  rw[bc,bl] at hl
  refine aT hl λoj hj he=> ?_
  cases oj with
  |none=>cases he
  |some j=>
   refine ip (K.MU i j x hi hj) λf1 f2 f3=> ?_
   have hv : loc[j]?=some (some mv):=(by refine cN (hc i j hj) λ_ hv=> ?_;exact hv.trans (ah some ((ah (Option.bind · id) hv).symm.trans he)))
   obtain⟨m,_,q⟩:=G.loc
   refine eW ((q j x mv f1 hv).2 f3) λc v e1 zo3_ r=> ?_;refine aT zo3_ λoc e2 e3=> ?_
   exact⟨λz=>(mE (tP K.nd f2) z).elim,λ_=>⟨c,v,rW K.nd f2 e1,⟨oc,hk _ _ e2,e3⟩,r.mono k⟩⟩
 ·induction sp with
  |cI h=>exact av.mp h▸⟨ad G.oR hC,λl u=>let ⟨_,o,e,_⟩:=G.low l u;out _ o e,(by refine rZ ns λo _ _ e d _=> ?_;exact⟨o,e,ca d⟩)⟩
  |cell h=>
   obtain⟨y,m⟩:=mc _ h
   exact have p:=G.foot (.cell m);⟨p.z,p.u,let ⟨o,e,f⟩:=p.e;⟨o,hk _ o e,f⟩⟩
  |frame h=>exact Jy _ h
 ·exact (by refine cN (mc _ hc) λ_ m=> ?_;exact let ⟨o,e,_⟩:=(G.foot (.cell m)).e;out _ o e)
 ·refine cN (mc _ hc) λy z=> ?_
  exact (G.jk m).elim (G.iu (y,c.2) z) (G.st.co (y,c.2) z)
 ·rcases G.KV with q | ⟨q,qf,_⟩
  ·exact G.st.km e (q▸(he))
  ·refine Or.elim (aK.mp (q▸show e∈fd.gB from he)) (λz=> ?_) λz=> ?_
   ·exact z.symm▸⟨hkd,_,qf⟩
   ·exact G.st.km e z
end
section
variable {M:Model}{A:Around}{E:Value->Shared->Prop}{s:Shared}{env:Env}
theorem vM{α:Type}{c:Prop} [Decidable c] {pos:Pos}{k:PUnit->Sem α}{Q:α->Shared->Prop}(h:cW M A (k ()) Q E s):cW M A (if c then (standAt pos >>= k) else k ()) Q E s:=by
 split
 ·exact ai (bB h)
 ·exact h
noncomputable def yI(M:Model)(A:Around)(E:Value->Shared->Prop)(use:Option (Value->Sem Unit))(Q:Value->Shared->Prop)(acc:Value)(C:Addr)(r:Result)(s':Shared):Prop:=
 (∃f,r= .ok f)/\match use with
 |none=>∃m,s'.heap.Ns C m/\∀h',Heap.SameBut C s'.heap h'->Q acc { s' with heap:=h' }
 |some u=>cW M A (u acc) (λ_ s''=>∃m,s''.heap.Ns C m/\∀h',Heap.SameBut C s''.heap h'->Q .none { s'' with heap:=h' }) E s'
theorem BZ{e:Expr}{scope:Scope}{pos:Pos}{newAcc first:Sem Value}{g:Comprehension}{gs:List Comprehension}{use:Option (Value->Sem Unit)}{Q:Value->Shared->Prop}
  (hcl:clausesOf e=g::gs)(hkind:scope.kind= .function)(hnames:∀x∈scope.names,x.2= .local->scope.names.lookup x.1=some .local)
  (h:cW M A first (λx s₁=>cW M A (foldedSetIterable g.iter env x) (λx s₁=>cW M A (pyIter x) (λit s₂=>∃cl,closureFor scope env=pure cl/\cW M A newAcc (λacc s₃=>
   cW M A (newFunctionEnv scope env.globals cl [] env.qual none .none (some env)) (λcenv s₄=>
    codeN M A (.compStart e 0 it acc { cenv with scope:=relabel scope env }) (yI M A E use Q acc cenv.locals) s₄) E s₃) E s₂) E s₁) E s₁) E s) :
  cW M A (comprehension e scope env pos newAcc false first use) Q E s:=by
 unfold comprehension
 refine ae hcl▸ ?_
 refine ai (aD h (λx s₁ h₁=>ai (bB (ai (aD h₁ (λx s₁ h₁=>ai (aJ (aD h₁ (λit s₂ h₂=> ?_) λ_ _ h'=>h'))) λ_ _ h'=>h')))) λ_ _ h'=>h')
 refine aT h₂ λcl hclos h₂=> ?_
 refine ae hclos▸ ?_
 refine vM (ai (aD h₂ (λacc s₃ h₃=>ai (ax (ai (aD h₃ (λcenv s₄ h₄=> ?_) λ_ _ h'=>h')))) λ_ _ h'=>h'))
 dsimp only
 have hv : ∀x∈(scope.names.filter λx=>(x.2== .local||x.2== .cell)&&x.1 != (".0" : Str)).reverse,x.2= .local->
   Env.kindOf { cenv with scope:=relabel scope env } x.1=some .local:=λx hx hl=>lookup_relabel_local (hnames x (List.mem_filter.mp (List.mem_reverse.mp hx)).1 hl)
 have hv' : ∀x∈(scope.names.filter λx=>(x.2== .local||x.2== .cell)&&x.1 != (".0" : Str)).reverse.drop 1++(scope.names.filter λx=>(x.2== .local||x.2== .cell)&&x.1 != (".0" : Str)).reverse.take 1,
   x.2= .local->Env.kindOf { cenv with scope:=relabel scope env } x.1=some .local:=λx hx hl=>by
  refine Or.elim (bI.mp hx) (λh1=> ?_) λh1=> ?_
  ·exact hv x (List.mem_of_mem_drop h1) hl
  ·exact hv x (List.mem_of_mem_take h1) hl
 refine aJ (ai (kb (aJ (ue (eU h₄ λr s' hr=> ?_)))))
 obtain⟨⟨f,rfl⟩,hr⟩:=hr
 cases use with
 |none=>
  refine aT hr λm hn hr=> ?_
  exact ai (aJ (.of (wpAny_comp_letGo (cenv:={ cenv with scope:=relabel scope env }) hkind _ s' m hv hn λh' m' _ hs'=>ax (hr h' hs'))))
 |some u=>
  refine ai (qz (ai (aJ (aD hr (λ_ s'' hr'=> ?_) λ_ _ h'=>h'))))
  refine aT hr' λm hn hr'=> ?_
  exact ai (.of (wpAny_comp_letGo (cenv:={ cenv with scope:=relabel scope env }) hkind _ s'' m hv' hn λh' m' _ hs'=>ax (hr' h' hs')))
end
noncomputable def It.plain : It->Bool
 | .lst .. | .jK ..=>true
 |_=>false
section
variable {cx:Cx}{n:Nat}{fd:Fd}{A:Around}{ρ ρ' ρ₀:LA->Addr}{σ σ' σ₀:MH}{loc loc' loc₀:Loc}{s s₀ s':Shared}{U:LA->Prop}{scope:Scope}{cn:List Str}{cmap:List (Option Nat)}
theorem xe{it:It}{v:Value}{as:List Addr}(I:kR ρ s.heap it v as)(hp:it.plain=true){Q:Value->Shared->Prop}{E:Value->Shared->Prop}(h:Q v s):wpAny cx.M A (pyIter v) Q E s:=by
 cases it with
 |lst l i=>obtain⟨a,rfl,rfl,hI⟩:=I;exact wpAny_pyIter_listiter hI h
 |jK x left step=>obtain⟨a,rfl,rfl,hI⟩:=I;exact wpAny_pyIter_rangeiter hI h
 |nT l i=>cases hp
 |rev l k=>cases hp
 |rF b i=>cases hp
theorem wE{elt target iter ifs rest scope pos it acc env} {R:Result->Shared->Prop}(hs:∀ {A:Around}{Q:Value->Shared->Prop}{E:Value->Shared->Prop},Q it s->wpAny cx.M A (pyIter it) Q E s)
  (h0:codeN cx.M A (.compLoop (.ListComp elt (⟨target,iter,ifs,0⟩::rest) scope pos) 0 it acc env) R s) :
  codeN cx.M A (.compStart (.ListComp elt (⟨target,iter,ifs,0⟩::rest) scope pos) 0 it acc env) R s:=by
 refine bP (λ_ _ _ _=>rfl) ?_
 refine dw (aD (E:=λ_ _=>False) (Q:=λfin s'=>fin= .again (.compLoop (.ListComp elt (⟨target,iter,ifs,0⟩::rest) scope pos) 0 it acc env)/\s'=s) (.of ?_) (λfin s' y=> ?_) λ_ _ y=>y.elim)
 ·skip
  refine af (wpAny_askSetting (wpAny_ite ?_))
  split
  ·first
    |exact af (ao (ao ⟨rfl,rfl⟩))
    |exact ao ⟨rfl,rfl⟩
  ·first
    |exact af (wpAny_rule (af (ce (af (hs (ao ⟨rfl,rfl⟩))))))
    | (refine af (wpAny_rule ?_);show wpAny _ _ (standAt iter.pos >>= _) _ _ s;exact af (ce (af (hs (ao ⟨rfl,rfl⟩)))))
 ·obtain⟨rfl,rfl⟩:=y
  exact⟨rfl,h0⟩
theorem AN{elt target iter:Expr}{ifs:List Expr}{pos:Pos}{tg:MV->P Unit}{ts:P Bool}{el:P MV}{s3 s5:Shared}{C D:Addr}(K:jc fd scope cn cmap)(hkd:fd.env.scope.kind≠ .module)
  (ht:ew cx n (fd.comp scope cn C) target tg)(hts:ib cx n (fd.comp scope cn C) ifs ts)(hel:bO cx n (fd.comp scope cn C) elt el){Fin:List MV->Loc->MH->Prop}{R:Result->Shared->Prop}{it:It}{v:Value}{as:List Addr}{N:Nat}{mC:Str->Option Value}
  (S1:Step fd ρ₀ σ₀.us s₀ ρ σ.us s3)(G1:Good cx n fd A ρ σ loc s3)(I1:kR ρ s3.heap it v as)(W1:∀a∈as,gY cx fd s₀ ρ σ.us s3 a)(h1:it.dT=true->c5 target=true)(hpl:it.plain=true)(hcap:n0 cmap loc)
  (hq:P.lE tg ts el N it [] (eR cmap loc) σ (λacc _ σ'=>Fin acc loc σ') (λ_ _ _=>False))(hD:s3.heap.objs.size=D)(hDC:D < C)(rest:∃h' tk,s5={ s3 with heap:=h',toks:=tk })
  (old:∀b o,s3.heap.get? b=some o->s5.heap.get? b=some o)(hacc:s5.heap.get? D=some { cls:= .type "list",data:= .seq #[] }) (ns:s5.heap.Ns C mC)
  (hend:∀acc ρ' σ' s' m,Step fd ρ₀ σ₀.us s₀ ρ' σ'.us s'->Good cx n fd A ρ' σ' loc s'->gY cx fd s₀ ρ' σ'.us s' D->AccAt ρ' σ'.us s'.heap D acc->gY cx fd s₀ ρ' σ'.us s' C->s'.heap.Ns C m->Fin acc loc σ'->R (.ok .next) s') :
  codeN cx.M A (.compStart (.ListComp elt [⟨target,iter,ifs,0⟩] scope pos) 0 v (.ref D) (fd.comp scope cn C).env) R s5:=by
 have hC0 : s3.heap.objs.size<=C:=ad (aw hD) (aL hDC)
 have G5 : Good cx n (fd.comp scope cn C) A ρ σ (eR cmap loc) s5:=by
  refine fu rest λh' tk zr2_=> ?_;subst zr2_
  exact G1.comp hkd K hcap old hC0 ns
 have H:=G1.gh S1 W1 (h':=hideAll s3.heap as) s3.toks λb o m e=>hideAll_get _ e m
 have lt3 : ∀ {b o},s3.heap.get? b=some o->b < D:=λe=>hD▸aR e
 have asLt : ∀a∈as,a < D:=λa ha=>(by refine aT ((W1 a ha).ex) λ_ e _=> ?_;exact lt3 e)
 have hid : ∀a∈as,({ s3 with heap:=hideAll s3.heap as }:Shared).heap.get? a=none:=λa ha=>hideAll_none _ ha
 have gone : ∀a,D<=a->({ s3 with heap:=hideAll s3.heap as }:Shared).heap.get? a=none:=λa ha=>Option.eq_none_iff_forall_ne_some.mpr λo q=>(iw.mpr ha (lt3 (of_hideAll _ q))).elim
 have S5 : Step (fd.comp scope cn C) ρ σ.us { s3 with heap:=hideAll s3.heap as } ρ σ.us s5:=by
  have k:=λa o e=>old a o (of_hideAll (h:=s3.heap) as e)
  refine fu rest λh' tk zr2_=> ?_;subst zr2_
  exact⟨⟨_,_,rfl⟩,λa o e=>⟨o,k a o e⟩,λ_ u=>⟨u,rfl⟩,λ_ u nu=>absurd u nu,λa o e _ _ _=>k a o e,λa o e _ _ _=>⟨o.slots,k a o e⟩⟩
 generalize { s3 with heap:=hideAll s3.heap as }=s4 at *
 have fresh : ∀ {a},s3.heap.objs.size<=a->(∃o,s5.heap.get? a=some o/\¬IsTup o)->gY cx fd s₀ ρ σ.us s5 a:=λha e=>gY.fresh G1 ha S1 e
 have toComp : ∀ {a},gY cx fd s₀ ρ σ.us s5 a->a≠C->s4.heap.get? a=none->gY cx (fd.comp scope cn C) s4 ρ σ.us s5 a:=λ{a} w ne hn=>
  ⟨hn,w.un,λm=>ne (av.mp m),λm=>(G1.jk m).elim (λq=>w.cI (q▸G1.di)) w.out,λc hc=>w.cell _ (mem_of_lookup (lT hc).2),w.top,w.ex⟩
 have W5 : ∀a∈as,gY cx (fd.comp scope cn C) s4 ρ σ.us s5 a:=λa ha=>have w:=W1 a ha
  toComp ⟨w.new,w.un,w.cI,w.out,w.cell,w.top,(by refine aT w.ex λo e nt=> ?_;exact⟨o,old a o e,nt⟩)⟩ (bw (cG (asLt a ha) hDC)) (hid a ha)
 have fD:=fresh (aw hD) ⟨_,hacc,cQ⟩
 have fC:=fresh hC0 ((by refine rZ ns λo _ _ e d _=> ?_;exact⟨o,e,ca d⟩))
 refine wE (λ{_ _ _} h=>xe (I1.heap λa _ o e=>old a o e) hpl h) (eU (Ah (fd:=fd.comp scope cn C) ht hts hel (X:=λ_ _ _=>False) (λ_ _ _ z=>z) (λm=>Nat.lt_irrefl _ (asLt D m)) N it [] ρ σ (eR cmap loc) _
  ⟨h1,G5,S5,(I1.heap λa _ o e=>old a o e),W5,toComp fD (bw hDC) (gone D (aG _)),⟨#[],0,hacc, .nil⟩⟩ hq) λr s' y=> ?_)
 obtain⟨rfl,acc,ρ',σ',l',S',G',WD',AD',hF⟩:=y
 have B:=H.1.back ⟨_,_,rfl⟩ (λ_ _ e=>e) S' G' rfl λa m=>av.mp m▸gone C (aL hDC)
 obtain⟨mC,Lk⟩:=G'.locals
 exact hend acc ρ' σ' s' mC (H.2.trans B.2) B.1 ⟨fD.new,WD'.un,fD.cI,fD.out,fD.cell,fD.top,WD'.ex⟩ AD' ⟨fC.new,(G'.foot (.cI (av.mpr rfl))).u,fC.cI,fC.out,fC.cell,fC.top,(G'.foot (.cI (av.mpr rfl))).e⟩ Lk hF
theorem sL{elt target iter:Expr}{ifs:List Expr}{pos pos':Pos}{mi:P It}{tg:MV->P Unit}{ts:P Bool}{el:P MV}(K:jc fd scope cn cmap)(hkd:fd.env.scope.kind≠ .module)
  (hi:qP cx n fd iter mi)(ht:∀C,ew cx n (fd.comp scope cn C) target tg)(hts:∀C,ib cx n (fd.comp scope cn C) ifs ts)(hel:∀C,bO cx n (fd.comp scope cn C) elt el)
  {use:Option (Value->Sem Unit)}{Qv:Value->Shared->Prop}{X:Addr->Loc->MH->Prop}{Fin:List MV->Loc->MH->Prop}(G:Good cx n fd A ρ σ loc s)
  (hm:mi loc σ (λit l1 σ1=>(it.dT=true->c5 target=true)/\it.plain=true/\n0 cmap l1/\∃N,P.lE tg ts el N it [] (eR cmap l1) σ1 (λacc _ σ'=>Fin acc l1 σ') (λ_ _ _=>False)) X)
  (hend:∀D C acc ρ' σ' l1 s' m,Step fd ρ σ.us s ρ' σ'.us s'->Good cx n fd A ρ' σ' l1 s'->gY cx fd s ρ' σ'.us s' D->AccAt ρ' σ'.us s'.heap D acc->gY cx fd s ρ' σ'.us s' C->D≠C->cx.h0.objs.size<=D->s'.heap.Ns C m->Fin acc l1 σ'->
   yI cx.M A (eA cx n fd A ρ σ s X) use Qv (.ref D) C (.ok .next) s') :
  cW cx.M A (comprehension (.ListComp elt [⟨target,iter,ifs,0⟩] scope pos) scope fd.env pos' (newList []) false (eval iter fd.env) use) Qv (eA cx n fd A ρ σ s X) s:=by
 refine BZ rfl K.hk K.nl (aD (hi A ρ σ loc s _ X G hm) (λx s1 y=>aD y (λx' s2 y=>aD y (λit s3 y=> ?_) λ_ _ y=>y) λ_ _ y=>y) λ_ _ y=>y)
 obtain⟨i,as,ρ1,σ1,l1,S1,G1,I1,W1,h1,hpl,hcap,N,hq⟩:=y
 generalize eA cx n fd A ρ σ s X=E' at hend ⊢
 refine⟨_,rR (K.cells G1 hcap), .of (wpAny_newObj_type (cW.of (wpAny_newFunctionEnv K.Jk (by intro y hy;simp at hy) (λh₁ hns₁ hsb₁=> ?_) K.hk)))⟩
 have hC:=Heap.size_push s3.heap { cls:= .type "list",dict:=none,data:= .seq ([]:List Value).toArray }
 have lt : ∀ {b},b<=s3.heap.objs.size->b≠(s3.heap.push { cls:= .type "list",dict:=none,data:= .seq ([]:List Value).toArray }).objs.size:=λh=>bw (hC▸Nat.lt_succ_of_le h)
 exact AN K hkd (ht _) (hts _) (hel _) S1 G1 I1 W1 h1 hpl hcap hq rfl (hC▸Nat.lt_succ_self _) ⟨_,_,rfl⟩ (λb o e=>hsb₁.extBut b o (lt (aL (aR e))) (aI _ (aI _ e)))
  (hsb₁.extBut _ _ (lt (aG _)) (aI _ (aP _ rfl))) hns₁ λacc ρ' σ' s' m S' G' WD AD WC nC f=>hend _ _ acc ρ' σ' l1 s' m S' G' WD AD WC (lt (aG _)) G1.oR nC f
end
section
variable {cx:Cx}{n:Nat}{fd:Fd}{A:Around}{ρ ρ' ρ₀:LA->Addr}{σ σ' σ₀:MH}{loc loc' loc₀:Loc}{s s₀ s':Shared}{U:LA->Prop}{scope:Scope}{cn:List Str}{cmap:List (Option Nat)}
noncomputable abbrev P.comp(cmap:List (Option Nat))(tt:Bool)(mi:P It)(tg:MV->P Unit)(ts:P Bool)(el:P MV):P MV:=λloc σ Q X=>
 mi loc σ (λit l1 σ1=>(it.dT=true->tt=true)/\it.plain=true/\n0 cmap l1/\∃N,P.lE tg ts el N it [] (eR cmap l1) σ1 (λacc _ σ'=>∃r,¬σ'.us r/\Q (.ref r) l1 (σ'.new r (.list acc))) (λ_ _ _=>False)) X
theorem l8{D:Addr}{acc:List MV}{r:LA}{ρ₁:LA->Addr}(G:Good cx n fd A ρ' σ' loc' s')(S:Step fd ρ σ.us s ρ' σ'.us s')(W:gY cx fd s ρ' σ'.us s' D)(AD:AccAt ρ' σ'.us s'.heap D acc)(hr:¬σ'.us r)(N:oF ρ' r D ρ₁)(h0:cx.h0.objs.size<=D) :
  Good cx n fd A ρ₁ (σ'.new r (.list acc)) loc' s'/\Step fd ρ σ.us s ρ₁ (σ'.new r (.list acc)).us s':=by
 refine ey AD λxs ep e rv=> ?_
 exact⟨G.name hr N e cQ h0 W.un W.D7 λk=>⟨xs,ep,e,rv.mono k⟩,S.named hr N W.new⟩
theorem t9{elt target iter:Expr}{ifs:List Expr}{pos:Pos}{mi:P It}{tg:MV->P Unit}{ts:P Bool}{el:P MV}(K:jc fd scope cn cmap)(hkd:fd.env.scope.kind≠ .module)
  (hi:qP cx n fd iter mi)(ht:∀C,ew cx n (fd.comp scope cn C) target tg)(hts:∀C,ib cx n (fd.comp scope cn C) ifs ts)(hel:∀C,bO cx n (fd.comp scope cn C) elt el) :
  bO cx n fd (.ListComp elt [⟨target,iter,ifs,0⟩] scope pos) (P.comp cmap (c5 target) mi tg ts el):=by
 intro A ρ σ loc s Q X G _ hm
 refine sL K hkd hi ht hts hel G hm λD C acc ρ' σ' l1 s' m S G' WD AD WC hDC h0 ns hq=>⟨⟨_,rfl⟩,m,ns,λh' sb=> ?_⟩
 refine aT hq λr hr hq=> ?_
 obtain⟨G2,S2⟩:=G'.gh S (as:=[C]) (λa ha=>by rw[av.mp ha];exact WC) (h':=h') s'.toks λb o hb e=>sb.extBut b o (λq=>hb (by rw[q];exact av.mpr rfl)) e
 refine ey AD λxs ep e rv=> ?_
 have kp : fh ρ' σ'.us s'.heap ρ' σ'.us h':=⟨λ_ u=>⟨u,rfl⟩,λa o e c=>sb.extBut a o (λq=>by
  refine rZ ns λoC _ _ eC dC _=> ?_
  rw[q] at e;replace e:=eC▸e;cases e;exact ca dC c) e⟩
 refine cN (Ad ρ' r D) λρ1 N=> ?_
 have z:=l8 (s':={ s' with heap:=h' }) G2 S2 (WD.set (t:=s'.toks) ⟨_,(λo e=>sb.extBut D o hDC e) _ e,cQ⟩) ⟨xs,ep,(λo e=>sb.extBut D o hDC e) _ e,rv.mono kp⟩ hr N h0
 exact⟨_,_,_,_,z.2,z.1,N.ref,hq⟩
theorem pC{elt target iter:Expr}{ifs:List Expr}{y:Str}{py pos spos:Pos}{mi:P It}{tg:MV->P Unit}{ts:P Bool}{el:P MV}{mt:MV->P Unit}(K:jc fd scope cn cmap)(hkd:fd.env.scope.kind≠ .module)
  (hsw:swapsWith (.ListComp elt [⟨target,iter,ifs,0⟩] scope pos) (some (.Name y py)) spos.line fd.env=pure true)
  (hi:qP cx n fd iter mi)(ht:∀C,ew cx n (fd.comp scope cn C) target tg)(hts:∀C,ib cx n (fd.comp scope cn C) ifs ts)(hel:∀C,bO cx n (fd.comp scope cn C) elt el)(hmt:ew cx n fd (.Name y py) mt) :
  gd cx n fd (.Assign [.Name y py] (.ListComp elt [⟨target,iter,ifs,0⟩] scope pos) spos) ((P.comp cmap (c5 target) mi tg ts el).bind λv=>(mt v).bind λ_=>P.ret MF.next):=by
 intro A ρ σ loc s Q X G _ hm
 refine ae (exec_Assign_Name_used _ _ _ _ hsw)▸ ?_
 refine ai (bB (ai ?_))
 refine ai (aD (sL (use:=some (assign (.Name y py) fd.env)) (Qv:=λ_ s'=>Out cx n fd A ρ σ s cg.mA Q .next s') K hkd hi ht hts hel G hm ?_) (λ_ s' hq=>ax (ax hq)) λ_ _ e=>e)
 intro D C acc ρ' σ' l1 s' m S G' WD AD WC hDC h0 ns hq
 refine aT hq λr hr hq=> ?_
 refine cN (Ad ρ' r D) λρ1 N=> ?_
 have G3:=(l8 G' S WD AD hr N h0).1;have S3:=(l8 G' S WD AD hr N h0).2
 have WC3 : gY cx fd s ρ1 (σ'.new r (.list acc)).us s' C:=⟨WC.new,N.un hr (Ne.symm hDC) WC.un,WC.cI,WC.out,WC.cell,WC.top,WC.ex⟩
 refine⟨⟨_,rfl⟩,aD (hmt (.ref r) (.ref D) A _ _ l1 s' _ X G3 N.ref hq) (λ_ s4 z=> ?_) λ_ _ z=>z.pre S3⟩
 obtain⟨_,ρ4,σ4,l4,S4,G4,_,hq⟩:=z
 refine iE ns λoC es ep eC rest=> ?_
 refine⟨m,⟨oC,es,ep,((WC3.step G3 S4).2) _ eC,rest⟩,λh' sb=> ?_⟩
 refine dA (G4.gh (S3.trans S4) (as:=[C]) (λa ha=>by rw[av.mp ha];exact ((WC3.step G3 S4).1)) (h':=h') s4.toks λb o hb e=>sb.extBut b o (λq=>hb (by rw[q];exact av.mpr rfl)) e) λG5 S5=> ?_
 exact⟨MF.next,ρ4,σ4,l4,S5,G5, .next,hq⟩
theorem ww(hk:fd.env.scope.kind= .function)(nd:fd.names.Nodup){x:Str}{pos:Pos}{i:Nat}(hi:fd.names[i]?=some x)(hl:fd.env.kindOf x=some .local):ew cx n fd (.Name x pos) (P.store i):=by
 intro a v A ρ σ loc s Q X G hv hm
 refine ai (bB (.of ?_))
 obtain⟨hlt,hq⟩:=hm
 obtain⟨m,ns,lr⟩:=G.loc
 have same : ∀ {j:Nat}{y:Str},fd.names[j]?=some y->(y=x↔i=j):=λ{j y} hj=>by
  constructor
  ·rintro rfl
   exact (List.getElem?_inj (be.mp hi).1 nd).mp (hi.trans hj.symm)
  ·rintro rfl
   replace hi:=hj▸hi;cases hi;rfl
 refine wpAny_bindName ?_
 refine wpAny_storeName_local hl ns (λh' ns' sb=> ?_) (by refine ae hk▸ ?_;rfl)
 refine rZ (_root_.id ns') λo es ep e d _=> ?_
 have cells : ∀c∈fd.env.cells,∀o,s.heap.get? c.2=some o->h'.get? c.2=some o:=λc hc o z=>(sb.2 _ (G.iu c hc)).trans z
 obtain⟨G',S'⟩:=G.rt (loc':=loc.set i (some a)) G.di sb.2 ⟨o,e,ca d⟩ (s.toks+1) (λc hc=>by
  refine ey ((G.tu c hc).1) λo w z1 z2=> ?_
  exact⟨o,w,cells c hc o z1,z2⟩) λk=>⟨_,ns',λj y mv hj hg=>by
   rcases tR hg with ⟨q,rfl⟩ | ⟨q,hg⟩
   ·have : y=x:=(same hj).mpr q
    subst this
    refine⟨λ_=>⟨v,by exact if_pos rfl,hv.mono k⟩,λz=> ?_⟩
    rw[hl] at z;refine Or.elim z (λz=> ?_) λz=> ?_<;>cases z
   ·have ne : y≠x:=λz=>q ((same hj).mp z)
    refine⟨λz=> ?_,λz=> ?_⟩
    ·refine aT (((lr j y mv hj hg).1) z) λw f g=> ?_
     exact⟨w,by refine ((if_neg ne)).trans ?_;exact f,g.mono k⟩
    ·refine eW (((lr j y mv hj hg).2) z) λc w f zo3_ g3=> ?_;refine aT zo3_ λoc g1 g2=> ?_
     exact⟨c,w,f,⟨oc,cells _ (mem_of_lookup f) _ g1,g2⟩,g3.mono k⟩⟩
 exact⟨(),_,_,_,S',G',trivial,hq⟩
end
inductive qs(cx:Cx)(fd:Fd):ExceptHandler->Addr×MV->Prop
 |mk {x:Str}{np cp rp pos:Pos}{cc:Const}{k:Nat}{D:Addr}{v:MV}(hx:fd.env.kindOf x=some .globalImplicit)(hd:(x==("__debug__" : Str))=false) (e:nsIn cx.K mainGlobals x=some (some (.ref D)))
  (hc:kH cc=some v∨∃y : String,cc= .str (Str.ofString y)/\v= .str y) :
  qs cx fd (.ExceptHandler (some (.Name x np)) none [.Return (some (.Constant cc k cp)) rp] pos) (D,v)
inductive vK(nU:Addr->Addr->Option Bool)(C:Addr)(loc:Loc)(σ:MH)(Q:MF->Loc->MH->Prop):List (Addr×MV)->Prop
 |hit {D v r} (e:nU C D=some true)(q:Q (.ret v) loc σ):vK nU C loc σ Q ((D,v)::r)
 |next {D v r} (e:nU C D=some false)(k:vK nU C loc σ Q r):vK nU C loc σ Q ((D,v)::r)
noncomputable abbrev P.handle(nU:Addr->Addr->Option Bool)(C:Addr)(hs:List (Addr×MV)):P MF:=λloc σ Q _=>vK nU C loc σ Q hs
noncomputable abbrev P.try(nU:Addr->Addr->Option Bool)(hs:List (Addr×MV))(m:P MF):P MF:=λloc σ Q X=>m loc σ Q (λC l σ'=>P.handle nU C hs l σ' Q X)
section
variable {cx:Cx}{n:Nat}{fd:Fd}{A A':Around}{ρ ρ' ρ₀:LA->Addr}{σ σ' σ₀:MH}{loc loc' loc₀:Loc}{s s₀ s':Shared}{U:LA->Prop}
theorem yj(ht:∀b o,cx.h0.get? b=some o->s.heap.get? b=some o){x:Str}{pos:Pos}{v:Value}{Q:Value->Shared->Prop}{E:Value->Shared->Prop}
  (hk:fd.env.scope.kind= .function)(hx:fd.env.kindOf x=some .globalImplicit)(hg:fd.env.globals=mainGlobals)(hd:(x==("__debug__" : Str))=false)
  (e:nsIn cx.K mainGlobals x=some (some v))(h:Q v s):wpAny cx.M A (eval (.Name x pos) fd.env) Q E s:=
 Name_function_global hk hx (loadGlobal_global (env:=fd.env) (by refine ae hg▸ ?_;exact cx.g.keeps ht) (mg_of cx.X cx.g e) h) hd
theorem Dl{cc:Const}{k:Nat}{pos:Pos}{v:MV}(hc:kH cc=some v∨∃y : String,cc= .str (Str.ofString y)/\v= .str y){Q:Value->Shared->Prop}{E:Value->Shared->Prop}
  (h:∀x t,(∀ρ U h,VR ρ U h v x)->Q x { s with toks:=t }):wpAny cx.M A (eval (.Constant cc k pos) fd.env) Q E s:=by
 rcases hc with hc | ⟨y,rfl,rfl⟩
 ·show wpAny _ _ (constValue fd.env cc) _ _ _
  cases cc<;>simp only[kH,Option.some.injEq,reduceCtorEq] at hc<;>subst hc
  ·exact ao (h _ s.toks λ_ _ _=> .none)
  ·exact ao (h _ s.toks λ_ _ _=> .bool)
  ·exact wpAny_mkInt (h _ _ λ_ _ _=> .int)
  ·exact λ_ _ _=>h _ _ λ_ _ _=> .bytes
 ·exact wpAny_mkText (h _ _ λ_ _ _=> .str)
theorem ng{c:Code}{e:Addr}{Q:Flow->Shared->Prop}{E:Value->Shared->Prop}{M:Model}(h:codeN M (A.mark (some (.ref e))) c (λr s'=>match r with | .ok f=>Q f s' | .error _=>False) s) :
  cW M A (runOwn c fd.env (some (.ref e))) Q E s:=by
 refine dw (aD (E:=λ_ _=>False) (ue (eU h λr s' y=> ?_) (by intro z;cases z)) (λ_ _ y=>y) λ_ _ y=>y.elim)
 cases r with
 |ok f=>exact y
 |error e=>exact y
theorem kK.cons_inv{α β:Type}{R:α->β->Prop}{xs:List α}{b:β}{bs:List β}(h:kK R xs (b::bs)):∃a as,xs=a::as/\R a b/\kK R as bs:=by
 cases h with
 |cons h1 h2=>exact⟨_,_,rfl,h1,h2⟩
theorem vN(F:Ag fd)(hgl:fd.env.globals=mainGlobals){nU:Addr->Addr->Option Bool}(hE:∀C D b,nU C D=some b->exmOne cx.K (.ref C) (.ref D)=some b){e C D:Addr}{v:MV}(G₀:Good cx n fd A ρ₀ σ₀ loc₀ s₀){K:Flow->Shared->Prop}{E:Value->Shared->Prop}
  {H:ExceptHandler}{handlers:List ExceptHandler}(hH:qs cx fd H (D,v))(G:Good cx n fd A ρ σ loc s)(S:Step fd ρ₀ σ₀.us s₀ ρ σ.us s)(x:ExcAt ρ σ.us s.heap s₀.heap none e C){b:Bool}(hh:nU C D=some b)
  (hf:b=false->cW cx.M A (handleBy (.ref e) fd.env handlers) K E s)(ht:b=true->∀y s',Good cx n fd A ρ σ loc s'->Step fd ρ₀ σ₀.us s₀ ρ σ.us s'->VR ρ σ.us s'.heap v y->K (.ret y) s') :
  cW cx.M A (handleBy (.ref e) fd.env (H::handlers)) K E s:=by
 obtain @⟨x',np,cp,rp,pos,cc,k,D,v,hx,hd,hn,hc⟩:=hH
 have LT : Looks cx.M s.heap (typeOf (.ref e)) (.ref C):=by
  obtain⟨oe,vs,a0,e1,e2,_⟩:=x
  have:=(Looks.ld (M:=cx.M) (part:=none) e1).andThen (f:=λo=>pure o.cls) (Looks.now (a:=oe.cls))
  exact e2▸this
 refine ai (aJ (ng (bP (λ_ _ _ _=>rfl) ?_)))
 refine ai (dw (aD (E:=λ_ _=>False) (.of ?_) (λ_ _ y=>y) λ_ _ y=>y.elim))
 refine af (ce (af (yj G.top F.hk hx hgl hd hn (af (ce (af ((exm_one (cx.X.keeps G.top) LT (hE _ _ _ hh)).here ?_)))))))
 cases b with
 |false=>exact ao (ax (ai (ax (hf rfl))))
 |true=>
  refine ao (ax (ai (ax (ai (aJ (ng (bP (λ_ _ _ _=>rfl) ?_)))))))
  refine ai (dw (aD (E:=λ_ _=>False) (.of ?_) (λ_ _ y=>y) λ_ _ y=>y.elim))
  show wpAny _ _ (standAt pos >>= λ_=>setFlight (.ref e) none >>= λ_=>execs [.Return (some (.Constant cc k cp)) rp] fd.env) _ _ _
  refine af (ce (af (G.vo G₀.top S x G₀.holds none λs₂ G₂ S₂ _=> ?_)))
  exact af (af (ce (af (Dl hc λy t hy=>ao (ao (ax (ax (ht rfl y _ (G₂.tok t) (S₂.trans (Step.tok t)) (hy _ _ _)))))))))
theorem xq(F:Ag fd)(hgl:fd.env.globals=mainGlobals){nU:Addr->Addr->Option Bool}(hE:∀C D b,nU C D=some b->exmOne cx.K (.ref C) (.ref D)=some b){Q:MF->Loc->MH->Prop}{X:Addr->Loc->MH->Prop}{e C:Addr}(G₀:Good cx n fd A ρ₀ σ₀ loc₀ s₀)
  {hs:List (Addr×MV)}{handlers:List ExceptHandler}(R:kK (qs cx fd) handlers hs)(G:Good cx n fd A ρ σ loc s)(S:Step fd ρ₀ σ₀.us s₀ ρ σ.us s)(x:ExcAt ρ σ.us s.heap s₀.heap none e C)(hm:P.handle nU C hs loc σ Q X) :
   cW cx.M A (handleBy (.ref e) fd.env handlers) (Out cx n fd A ρ₀ σ₀ s₀ cg.mA Q) (eA cx n fd A ρ₀ σ₀ s₀ X) s:=by
 induction hm generalizing handlers with
 |hit e q=>exact let ⟨_,_,z,H,_⟩:=R.cons_inv;z▸vN F hgl hE G₀ H G S x e (λz=>nomatch z) λ_ y s' G' S' r=>⟨.ret _,ρ,σ,loc,S',G', .ret r,q⟩
 |next e k ih=>exact let ⟨_,_,z,H,R⟩:=R.cons_inv;z▸vN F hgl hE G₀ H G S x e (λ_=>ih R) λz=>nomatch z
theorem C7(F:Ag fd)(hgl:fd.env.globals=mainGlobals){nU:Addr->Addr->Option Bool}(hE:∀C D b,nU C D=some b->exmOne cx.K (.ref C) (.ref D)=some b){body:List Stmt}{handlers:List ExceptHandler}{hs:List (Addr×MV)}{pos:Pos}{m:P MF}
  (hb:jH cx n fd body m)(H:kK (qs cx fd) handlers hs)(h0:handlers.isEmpty=false):gd cx n fd (.Try body handlers [] [] pos) (P.try nU hs m):=by
 intro A ρ σ loc s Q X G _ hm
 refine ai (bB ?_)
 unfold tryStmt
 refine ai (kb (aD (hb A ρ σ loc s Q _ G trivial hm) (λf s1 y=> ?_) λev s1 y=> ?_))
 ·obtain⟨mf,ρ1,σ1,l1,S1,G1,r,hq⟩:=y
  induction r with
  |next=>exact ax ⟨_,ρ1,σ1,l1,S1,G1,(by constructor),hq⟩
  |brk=>exact ax ⟨_,ρ1,σ1,l1,S1,G1,(by constructor),hq⟩
  |cont=>exact ax ⟨_,ρ1,σ1,l1,S1,G1,(by constructor),hq⟩
  |ret r=>exact ax ⟨_,ρ1,σ1,l1,S1,G1, .ret r,hq⟩
 ·obtain⟨e,C,ρ1,σ1,l1,rfl,S1,G1,x1,hq⟩:=y
  refine ai (.of (G1.note G.top S1 x1 G.holds F.Em F.kS (by refine ae F.hk▸ ?_;decide) λs₂ G₂ S₂ x₂ nt=> ?_))
  refine ae h0▸ ?_
  refine ai (.of (G₂.vo G.top S₂ x₂ G.holds none λs₃ G₃ S₃ x₃=> ?_))
  exact xq F hgl hE G H G₃ S₃ x₃ hq
end
end Internal
namespace Internal
open PySem PySem.W PyProof.Rows PySem.Calls Builtin Builtin.ObjectAttr
noncomputable abbrev kJ : List Value:=[.type "ValueError", .type "Exception", .type "BaseException", .type "object"]
structure oo(h:Heap)(C B0:Addr):Prop where
 obj : ∃nm q N bs sn sub ab col dd k0 k1 k2 k3 k5,h.get? C=some (excClassObj nm q C N bs (.ref B0::kJ) true sn sub ab col dd k0 k1 k2 k3 k5 "ValueError.__new__")
noncomputable def J2(C B0:Addr):Data->Bool
 | .cls cd=>cd.hasDict&& !cd.hasDel&&cd.mro== .ref C:: .ref B0::kJ
 |_=>false
theorem CS{C B0:Addr}{d:Data}(h:J2 C B0 d=true):∃cd,d= .cls cd/\(cd.hasDict&& !cd.hasDel&&cd.mro== .ref C:: .ref B0::kJ)=true:=by
 cases d<;>first | exact⟨_,rfl,h⟩ | exact absurd h aE
theorem six{α:Type}{l:List α}(h:l.length=6):∃a b c d e f,l=[a,b,c,d,e,f]:=by
 refine fu (cf h) λa l zr2_=> ?_;subst zr2_
 refine fu (cf (bL h)) λb l zr2_=> ?_;subst zr2_
 refine fu (cf (bL (bL h))) λc l zr2_=> ?_;subst zr2_
 refine fu (cf (bL (bL (bL h)))) λd l zr2_=> ?_;subst zr2_
 refine fu (cf (bL (bL (bL (bL h))))) λe l zr2_=> ?_;subst zr2_
 refine fu (cf (bL (bL (bL (bL (bL h)))))) λf l zr2_=> ?_;subst zr2_
 exact⟨a,b,c,d,e,f,by exact ae (List.length_eq_zero_iff.mp (bL (bL (bL (bL (bL (bL h)))))))▸rfl⟩
noncomputable def FG(C B0:Addr)(o:Obj):Bool:=o.cls== .type "type" && J2 C B0 o.data&&o.slots.toList.length==6&&o.slots.toList[4]?==some (some (.builtin "ValueError.__new__"))
noncomputable def F0(K:Frag)(C B0:Addr):Bool:=(K.lookup C).any (FG C B0)
theorem isExc{o:Obj}{cd:ClassData}{C B0:Addr}{k0 k1 k2 k3 k5:Option Value}(h1:o.cls= .type "type") (h2:o.data= .cls cd)(h3:o.slots.toList=[k0,k1,k2,k3,some (.builtin "ValueError.__new__"),k5]) (h4:cd.hasDict=true)(h5:cd.hasDel=false)(h6:cd.mro= .ref C:: .ref B0::kJ) :
  o=excClassObj cd.name cd.qualname C cd.ns cd.bases (.ref B0::kJ) true cd.slotNames cd.subclasses cd.abstract cd.collection o.dict k0 k1 k2 k3 k5 "ValueError.__new__" := by
 obtain⟨oc,od,dt,⟨sl⟩⟩:=o
 obtain⟨nm,bs,mro,ns,qn,hd,sn,sub,ab,col,dl⟩:=cd
 subst h1;subst h2;subst h3;subst h4;subst h5;subst h6
 rfl
theorem kI{K:Frag}{h:Heap}{C B0:Addr}(X:K.In h)(e:F0 K C B0=true):oo h C B0:=by
 refine aT (any_some e) λo ho e=> ?_
 have e':=an.mp (an.mp e).1
 have e'':=an.mp e'.1
 refine aT (CS e''.2) λcd d q=> ?_
 obtain⟨k0,k1,k2,k3,k4,k5,s⟩:=six (eq_of_beq e'.2)
 have n:=eq_of_beq (an.mp e).2
 replace n:=s▸n
 have q:=an.mp q
 exact⟨cd.name,cd.qualname,cd.ns,cd.bases,cd.slotNames,cd.subclasses,cd.abstract,cd.collection,o.dict,k0,k1,k2,k3,k5,(X _ _ ho).trans (ah some (isExc (eq_of_beq e''.1) d ((aS n)▸s) (an.mp q.1).1 (by simpa using (an.mp q.1).2) (eq_of_beq q.2)))⟩
section
variable {prog:Program}{w:World}{A:Around}{R:Result->Shared->Prop}{E:Value->Shared->Prop}{h:Heap}{g:Array GenState}{d:Drawn}{t:Nat}{os:OsState}
variable {nm q:Str}{C N B0:Addr}{bs:List Value}{sn:List Str}{sub:List Value}{ab:Bool}{col:Option Bool}{dd:Option Addr}{k0 k1 k2 k3 k5:Option Value}
noncomputable abbrev excAt(C t:Addr):Obj:={ cls:= .ref C,data:= .fields #[.ref t, .none, .none, .none, .bool false, .none] }
noncomputable abbrev qQ(rest:List Value):Obj:={ cls:= .type "tuple",data:= .seq rest.toArray }
theorem FW{rest:List Value}(hC:h.get? C=some (excClassObj nm q C N bs (.ref B0::kJ) true sn sub ab col dd k0 k1 k2 k3 k5 "ValueError.__new__"))
  (hrest:rest.length<=sizeLine)(hq:R (.ok (.ret (.ref (h.objs.size+1)))) ⟨(h.push (qQ rest)).push (excAt C h.objs.size),g,d,t,os⟩) :
  codeAny (model prog w) A (.call (.builtin "ValueError.__new__") ⟨.ref C::rest,[]⟩) R ⟨h,g,d,t,os⟩:=by
 have F:=PySem.F.excBase_ValueError
 have hcB : (Value.ref C:: .ref B0::kJ).contains (.type "ValueError")=true:=by rfl
 have hcN : (Value.ref C:: .ref B0::kJ).contains (.type "NameError")=false:=by exact ae (Bool.and_or_inj_right (by rfl) hcB)
 refine codeAny_call_builtin_code (Code.quiet_builtin _ F.quiet) (wpAny_check_new_subU F (bmB:= .ref B0::kJ) (by exact ae (Bool.and_or_inj_right hcB hcB)) .base hC ?_)
 refine codeAny_builtinAt F.entry ?_
 refine PySem.wpAt_bind ?_
 have hends:=F.ends
 refine PySem.wpAt_bind (PySem.wpAt_stack λp below=>PySem.wpAt_of_wpAny ?_)
 wp_walk
 refine PySem.wpAt_of_wpAny ?_
 refine ae F.owner▸ ?_
 repeat (first | with_reducible refine wpAny_madeHere_exc F.canon hC ?_ | with_reducible refine cD hC ?_ | (with_reducible refine wpAny_isSubtype_exc hC ?_;first | skip | skip | skip) | wp_step)
 show R _ _
 rw[Heap.size_push]
 exact hq
theorem sF{rest:List Value}{fI:Addr}{Q:Fin->Shared->Prop}(hC:h.get? C=some (excClassObj nm q C N bs (.ref B0::kJ) true sn sub ab col dd k0 k1 k2 k3 k5 "ValueError.__new__"))
  (hi:Looks (model prog w) h (typeLookup (.ref C) "__init__") (some (.ref fI))) (hb:∀self,Looks (model prog w) h (bindSpecial (.ref fI) self) (.ref fI,[self]))(hrest:rest.length<=sizeLine)
  (hq:wpAny (model prog w) A (call (.ref fI) (.ref (h.objs.size+1)::rest)) (λr s'=>r= .none/\Q (.done (.ret (.ref (h.objs.size+1)))) s') E ⟨(h.push (qQ rest)).push (excAt C h.objs.size),g,d,t,os⟩) :
  wpAny (model prog w) A (Builtin.«type.__call__» ⟨.ref C::rest,[]⟩) Q E ⟨h,g,d,t,os⟩:=by
 repeat (first | with_reducible refine cD hC ?_ | with_reducible refine wpAny_madeBy_exc hC ?_ | wp_step)
 refine FW hC hrest ?_
 have kk : ∀b o,h.get? b=some o->((h.push (qQ rest)).push (excAt C h.objs.size)).get? b=some o:=λb o e=>aI _ (aI _ e)
 have hcC : (Value.ref C:: .ref B0::kJ).contains (.ref C)=true:=by exact List.elem_cons_self
 unfold isInstance
 repeat (first | with_reducible refine cD hget ?_ | (with_reducible refine wpAny_isSubtype_exc (kk _ _ hC) ?_;refine ae hcC▸ ?_) | wp_step)
 refine (hi.keeps kk).at ?_
 refine bk (af (((hb _).keeps kk).at ?_))
 refine af (wpAny_mono hq (λr s' hr=> ?_) λ_ _ x=>x)
 obtain⟨rfl,hQ⟩:=hr
 wp_walk
 exact hQ
theorem DF{rest:List Value}{fI:Addr}{Q:Value->Shared->Prop}(hC:h.get? C=some (excClassObj nm q C N bs (.ref B0::kJ) true sn sub ab col dd k0 k1 k2 k3 k5 "ValueError.__new__"))
  (hi:Looks (model prog w) h (typeLookup (.ref C) "__init__") (some (.ref fI))) (hb:∀self,Looks (model prog w) h (bindSpecial (.ref fI) self) (.ref fI,[self]))(hrest:rest.length<=sizeLine)
  (hq:wpAny (model prog w) (A.under (.builtin "type.__call__" ⟨.ref C::rest,[]⟩)) (call (.ref fI) (.ref (h.objs.size+1)::rest)) (λr s'=>r= .none/\Q (.ref (h.objs.size+1)) s') E
   ⟨(h.push (qQ rest)).push (excAt C h.objs.size),g,d,t,os⟩) :
  wpAny (model prog w) A (call (.ref C) rest) Q E ⟨h,g,d,t,os⟩:=by
 have f1:=tc_lookup
 have f2:=tc_bind (.ref C)
 have hT : (⟨h,g,d,t,os⟩ : Shared).TypeIs (.ref C) "type" := ⟨_,hC,rfl⟩
 refine wpAny_call (codeAny_of_tree ?_)
 show wpAny _ _ (callAny (.ref C) _) _ _ _
 repeat (any_goals (first | assumption | with_reducible refine cD hC ?_ | wp_step))
 refine⟨rfl, ?_⟩
 exact codeAny_call_builtin_at (Code.quiet_builtin _ (by decide +kernel)) entry_typeCall (wpAny_check_type_call_sub hC (sF hC hi hb hrest hq))
end
theorem IW(self:Value)(C B0:Addr):refuseLoop self "__setattr__" (.ref C:: .ref B0::kJ)=pure ():=by
 rfl
section
variable {prog:Program}{w:World}{A:Around}{E:Value->Shared->Prop}{s:Shared}{K:Frag}{C B0:Addr}
theorem E7{e:Addr}{oe:Obj}{name:Str}{v:Value}{Q:Unit->Shared->Prop}(X:K.In s.heap)(hC:oo s.heap C B0)(he:s.heap.get? e=some oe)(hc:oe.cls= .ref C)(hd:oe.dict=none)(hdt:∃vs,oe.data= .fields vs)
  (sa:findIn K (.ref C) "__setattr__" = some (some (.builtin "object.__setattr__"))) (re:findIn K (.ref C) name=some none)
  (hq:∀h' tk,(∀b o,b≠e->s.heap.get? b=some o->h'.get? b=some o)->(∃o',h'.get? e=some o'/\o'.cls=oe.cls/\o'.data=oe.data)->Q () { s with heap:=h',toks:=tk }) :
  wpAny (model prog w) A (setAttr (.ref e) name v) Q E s:=by
 obtain⟨nm,q,N,bs,sn,sub,ab,col,dd,k0,k1,k2,k3,k5,hC⟩:=hC
 have I : InstAt s.heap e oe C none:=⟨he,hc,by refine cN hdt λvs z=> ?_;unfold notCls;exact ae z▸rfl,by refine ae hd▸ ?_;trivial⟩
 refine set_plain X I sa ?_
 have SF:=PySem.F.store_object
 obtain⟨hp,g,d,t,os⟩:=s
 dsimp only at X hC he I hq ⊢
 have sub : Looks (model prog w) hp (isInstance (.ref e) (.type "object")) true:=by
  refine I.type.andThen ?_
  intro A' Q' E' s' k z
  exact wpAny_isSubtype_exc (h:=s'.heap) (k _ _ hC) (by simpa [kJ] using z)
 refine codeAny_call_builtin SF.slot.plain SF.entry (@check_slot (model prog w) _ _ ⟨hp,g,d,t+1,os⟩ "object.__setattr__" "object" "__setattr__" (.ref e) [.str name t,v] [] _ SF.kind SF.split sub (SF.args (.ref e) (.str name t) v) ?_)
 rw[osa_eq,refuse_eq]
 refine af (af (I.type.here (af (wpAny_mroOf_exc hC ?_))))
 refine ao (af (I.type.here (af ((looks_findIn X re).here (af (ao ?_))))))
 dsimp only
 obtain⟨oc,od,dt,sl⟩:=oe
 dsimp only at hc hd hdt
 subst hc hd
 obtain⟨vs,rfl⟩:=hdt
 refine af (ao (af (af (wpAny_loadPart he ?_))))
 dsimp only
 refine af (af (wpAny_load hC (ao ?_)))
 have hes : e≠hp.objs.size:=bw (aR he)
 have he₁ : (hp.push emptyDict).get? e=some _:=aI _ he
 refine af (wpAny_alloc' ?_)
 refine af (wpAny_update' he₁ (ao ?_))
 have hgd : ((hp.push emptyDict).update e λo=>{ o with dict:=some hp.objs.size }).get? hp.objs.size=some emptyDict:=
  (Heap.get?_update_ne _ _ _ _ hes.symm).trans (Heap.get?_push_at rfl rfl)
 show wpAny _ _ (storeInDict hp.objs.size (.str name t) name v) _ _ _
 refine af (ao (af (wpAny_nsSet1 (mO hgd) λh' hn' hs=> ?_)))
 refine rZ (hn'.count (Within.cons name v Within.nil)) λoD esD epD hoD hdD hcD=> ?_
 refine af (wpAny_lookBehind hoD (by refine (ah _ hdD).trans ?_;exact pastItsLine_dict (ad hcD (by exact Nat.le_add_left (0+1) 16777216))) ?_)
 refine ao ?_
 refine hq h' _ (λb o hb e1=> ?_) ⟨_,(hs.2 e hes).trans (dJ _ he₁ rfl),rfl,rfl⟩
 exact (hs.2 b (bw (aR e1))).trans ((Heap.get?_update_ne _ _ _ _ hb).trans (aI _ e1))
end
theorem Fv : bootBuiltins "ValueError" = some (.type "ValueError"):=by kernel_rfl
theorem Gs : typeOf (.type "ValueError")=pure (.type "type"):=by first | rfl | kernel_rfl
theorem Hm(K:Frag):findCls K (.type "ValueError") (.type "type") "__init__" = some (.val (.builtin "ValueError.__init__")):=by kernel_rfl
theorem EL : Manifest.isStub "ValueError" = false:=by decide +kernel
theorem Ga : handedIn (.builtin "ValueError.__init__")=true:=by kernel_rfl
structure zq(cx:Cx)(d:uf):Prop where
 body : ∃p1 p2 p3 p4 p5 p6 p7 p8 p9 p10,d.body=[.Expr (.Call (.Attribute (.Name "ValueError" p1) "__init__" p2) [.Name "self" p3, .Name "reason" p4] [] p5) p6, .Assign [.Attribute (.Name "self" p7) "reason" p8] (.Name "reason" p9) p10]/\(p2.endLine==p5.line)=true
 names : d.names=[("self" : Str),("reason" : Str)]
 ar : d.arity=2
 kl : ∀L,(callEnvC d.fn L d.addr).kindOf "self" = some .local/\(callEnvC d.fn L d.addr).kindOf "reason" = some .local/\(callEnvC d.fn L d.addr).kindOf "ValueError" = some .globalImplicit
 ge : nsIn cx.K mainGlobals "ValueError" = some none
section
variable {cx:Cx}{A:Around}{E:Value->Shared->Prop}{s:Shared}{env:Env}
theorem Be(ht:∀b o,cx.h0.get? b=some o->s.heap.get? b=some o){x:Str}{pos:Pos}{v:Value}{Q:Value->Shared->Prop}
  (hk:env.scope.kind= .function)(hx:env.kindOf x=some .globalImplicit)(hg:env.globals=mainGlobals)(hb:env.builtins=builtinsNs)(hd:(x==("__debug__" : Str))=false)
  (e:nsIn cx.K mainGlobals x=some none)(hv:bootBuiltins x=some v)(hn:x ≠ "__name__") (h:Q v s):wpAny cx.M A (eval (.Name x pos) env) Q E s:=
 Name_function_global hk hx (loadGlobal_builtin (env:=env) (by rw[hg];exact cx.g.keeps ht) (mg_none_of cx.X cx.g e) (by rw[hb];exact cx.b.keeps ht) ((cx.bt x hn).trans hv) h) hd
theorem JT(t1 t2:Sem Value):spliced [(false,t1),(false,t2)]=(t1 >>= λv=>holding [v] (t2 >>= λw=>holding [w] (pure []) >>= λr=>pure ([w]++r)) >>= λr=>pure ([v]++r)):=rfl
theorem Ai{h:Heap}{g:Array GenState}{dr:Drawn}{t:Nat}{os:OsState}{C B0 e t0:Addr}{rest:List Value}{Q:Value->Shared->Prop}(hC:oo h C B0)(he:h.get? e=some (excAt C t0))(hz:rest.length<=sizeLine)
  (hq:∀h',(∀b o,b≠e->h.get? b=some o->h'.get? b=some o)->h'.get? e=some (excAt C h.objs.size)->Q .none ⟨h',g,dr,t,os⟩):wpAny cx.M A (call (.builtin "ValueError.__init__") (.ref e::rest)) Q E ⟨h,g,dr,t,os⟩:=by
 obtain⟨nm,q,N,bs,sn,sub,ab,col,dd,k0,k1,k2,k3,k5,hC⟩:=hC
 have F:=PySem.F.excBase_ValueError
 have hcB : (Value.ref C:: .ref B0::kJ).contains (.type "ValueError")=true:=by rfl
 refine wpAny_call (codeAny_call_builtin F.init.plain F.initEntry ?_)
 simp only[checkBuiltinCall,F.initKind,F.initSplit,F.initRow]
 repeat (first | (with_reducible refine cD he ?_) | with_reducible refine cD hC ?_ | (with_reducible refine wpAny_isSubtype_exc hC ?_) | wp_step)
 refine wpAny_onRaise ?_
 rw[show ∀ (a b:String)(n:Nat),Bind.check ⟨.positional, "*", "ValueError", .self,[⟨"args", .varPos,false⟩]⟩ a b n (List.map (λx=>x.fst) ({ pos:=Value.ref e::rest }:Args).kw)=pure () from
  λa b n=>check_star_args _ _ _ _ _ _]
 refine ao ?_
 wp_walk
 refine hq _ (λb o hb e1=>(Heap.get?_update_ne _ _ _ _ hb).trans (aI _ e1)) ?_
 exact dJ _ (aI _ he) rfl
set_option maxHeartbeats 4000000 in
theorem AR{nv ni ns nr:Str}{p1 p2 p3 p4 p5 p6:Pos}{C B0 e t0:Addr}{v:Value}{m:Str->Option Value}(hline:(p2.endLine==p5.line)=true)(hkd:env.scope.kind= .function)(hg:env.globals=mainGlobals)(hb:env.builtins=builtinsNs)
  (kl1:env.kindOf ns=some .local)(kl2:env.kindOf nr=some .local)(kl3:env.kindOf nv=some .globalImplicit)(ge:nsIn cx.K mainGlobals nv=some none)(bo:bootBuiltins nv=some (.type "ValueError")) (hn:nv ≠ "__name__")
  (d1:(ns==("__debug__" : Str))=false) (d2:(nr==("__debug__" : Str))=false) (d3:(nv==("__debug__" : Str))=false) (fc:∀K,findCls K (.type "ValueError") (.type "type") ni=some (.val (.builtin "ValueError.__init__")))
  (nsm:s.heap.Ns env.locals m)(m1:m ns=some (.ref e))(m2:m nr=some v)(ab:cx.h0.objs.size<=env.locals)(top:∀b o,cx.h0.get? b=some o->s.heap.get? b=some o)
  (hC:oo s.heap C B0)(he:s.heap.get? e=some (excAt C t0)){Q:Flow->Shared->Prop}
  (hq:∀h' tk t',(∀b o,b≠e->s.heap.get? b=some o->h'.get? b=some o)->h'.get? e=some (excAt C t')->Q .next { s with heap:=h',toks:=tk }) :
  wpAny cx.M A (exec (.Expr (.Call (.Attribute (.Name nv p1) ni p2) [.Name ns p3, .Name nr p4] [] p5) p6) env) Q E s:=by
 have q1 : exec (.Expr (.Call (.Attribute (.Name nv p1) ni p2) [.Name ns p3, .Name nr p4] [] p5) p6) env=(standAt p6 >>= λ_=>eval (.Call (.Attribute (.Name nv p1) ni p2) [.Name ns p3, .Name nr p4] [] p5) env >>= λv=>
   dropValue (.Call (.Attribute (.Name nv p1) ni p2) [.Name ns p3, .Name nr p4] [] p5) p6 v):=by
  show (standAt p6 >>= λ_=>if interactive env=true then printExpr (eval _ env) else swapsWith _ none p6.line env >>= λb=>if b=true then _ else _)=_
  refine ae (show interactive env=false by dsimp only[interactive];refine ae hkd▸ ?_;rfl)▸ ?_;rfl
 have q2 : eval (.Call (.Attribute (.Name nv p1) ni p2) [.Name ns p3, .Name nr p4] [] p5) env=(eval (.Name nv p1) env >>= λov=>standAt p2.atName >>= λ_=>
   methodCall (.Name nv p1) ni p2 p5 env ov 2 (backTo p5 (starEach [.Name ns p3, .Name nr p4] env)) (backToKw p5 (keywordEach [] env))):=rfl
 have ld : ∀ {s':Shared}{y:Str}{z:Value}{p:Pos}{Q:Value->Shared->Prop}{A':Around}{E':Value->Shared->Prop},s'.heap.Ns env.locals m->env.kindOf y=some .local->m y=some z->(y==("__debug__" : Str))=false->Q z s'->wpAny cx.M A' (eval (.Name y p) env) Q E' s':=
  λn k e1 e2 z=>wpAny_Name (wpAny_loadName_local hkd k n e1 z) e2
 refine ae q1▸ae q2▸ ?_
 refine af (ce (af (af ?_)))
 refine Be (cx:=cx) top hkd kl3 hg hb d3 ge bo hn ?_
 refine af (ce ?_)
 have hf : methodCallForm 2 (backTo p5 (starEach [.Name ns p3, .Name nr p4] env)) (backToKw p5 (keywordEach [] env))=true:=rfl
 dsimp only[methodCall]
 dsimp only[methodCallPos]
 simp only[Bool.not_true,Bool.false_or,hline,if_true]
 refine af (bk ?_)
 refine method_type (K:=cx.K) (T := "ValueError") (name:=ni) (v:= .builtin "ValueError.__init__") (⟨nsm,top,ab⟩) cx.X Gs EL (fc cx.K) Ga ?_
 refine af (ao ?_)
 dsimp only[callWith]
 refine af (bk ?_)
 show wpAny _ _ (evalArgs (.builtin "ValueError.__init__") true [(false,eval (.Name ns p3) env),(false,eval (.Name nr p4) env)] []) _ _ _
 show wpAny _ _ (spliced [(false,eval (.Name ns p3) env),(false,eval (.Name nr p4) env)] >>= _) _ _ _
 rw[JT]
 refine af (af (ld (s':={ s with toks:=s.toks+1 }) nsm kl1 m1 d1 (af (bk (af (ld (s':={ s with toks:=s.toks+1 }) nsm kl2 m2 d2 (af (bk (ao (ao (ao ?_)))))))))))
 refine af (ao (bk (af (ao (af (ao (ao ?_)))))))
 refine af (ce ?_)
 have hst : ((backTo p5 (starEach [.Name ns p3, .Name nr p4] env)).any (λx=>x.fst)||(backToKw p5 (keywordEach [] env)).any (λx=>x.fst.isNone))=false:=rfl
 refine af (ao (a:=Keeper.machine) ?_)
 refine af ?_
 show wpAny _ _ (call (.builtin "ValueError.__init__") [.ref e,v]) _ _ { s with toks:=s.toks+1 }
 refine Ai (h:=s.heap) hC he (by rw[aU];simp) λh' k1 k2=> ?_
 refine af (bk (wpAny_point (ao ?_)))
 exact wpAny_dropValue (hq h' _ _ k1 k2)
theorem zR{ns nr na:Str}{p7 p8 p9 p10:Pos}{C B0 e t0:Addr}{v:Value}{m:Str->Option Value}(hkd:env.scope.kind= .function)
  (kl1:env.kindOf ns=some .local)(kl2:env.kindOf nr=some .local)(d1:(ns==("__debug__" : Str))=false) (d2:(nr==("__debug__" : Str))=false)
  (nsm:s.heap.Ns env.locals m)(m1:m ns=some (.ref e))(m2:m nr=some v)(X:cx.K.In s.heap)
  (hC:oo s.heap C B0)(he:s.heap.get? e=some (excAt C t0))
  (sa:findIn cx.K (.ref C) "__setattr__" = some (some (.builtin "object.__setattr__"))) (re:findIn cx.K (.ref C) na=some none){Q:Flow->Shared->Prop}
  (hq:∀h' tk t',(∀b o,b≠e->s.heap.get? b=some o->h'.get? b=some o)->(∃o',h'.get? e=some o'/\o'.cls= .ref C/\o'.data=(excAt C t').data)->Q .next { s with heap:=h',toks:=tk }) :
  wpAny cx.M A (exec (.Assign [.Attribute (.Name ns p7) na p8] (.Name nr p9) p10) env) Q E s:=by
 have q3 : exec (.Assign [.Attribute (.Name ns p7) na p8] (.Name nr p9) p10) env=(standAt p10 >>= λ_=>eval (.Name nr p9) env >>= λv=>assign (.Attribute (.Name ns p7) na p8) env v >>= λ_=>pure .next):=by
  show (standAt p10 >>= λ_=>swapsWith (.Name nr p9) (some (.Attribute (.Name ns p7) na p8)) p10.line env >>= λb=>if b=true then _ else (eval (.Name nr p9) env >>= λv=>swappedStores [.Attribute (.Name ns p7) na p8] (.Name nr p9) env >>= λsw=>assignStores env v sw ((assignEach [.Attribute (.Name ns p7) na p8] env).map (·.2))))=_
  rfl
 refine ae q3▸ ?_
 refine af (ce (af (wpAny_Name (wpAny_loadName_local hkd kl2 nsm m2 (af ?_)) d2)))
 refine af (bk (wpAny_Name (wpAny_loadName_local hkd kl1 nsm m1 (af (ce (af (bk ?_))))) d1))
 refine E7 X hC he rfl rfl ⟨_,rfl⟩ sa re λh' tk k1 k2=>wpAny_release (ao (hq h' tk t0 k1 ?_))
 refine pB k2 λo' a b c=> ?_
 exact⟨o',a,b,c⟩
theorem CV{d:uf}(F:sj cx d)(B:zq cx d){C B0 e t0:Addr}{x:String}{tx:Tok}(top:∀b o,cx.h0.get? b=some o->s.heap.get? b=some o)(hdep:A.depth < recursionLimit)
  (hC:F0 cx.K C B0=true)(he:s.heap.get? e=some (excAt C t0))(h0:cx.h0.objs.size<=e)
  (sa:findIn cx.K (.ref C) "__setattr__" = some (some (.builtin "object.__setattr__"))) (re:findIn cx.K (.ref C) "reason" = some none) {Q:Value->Shared->Prop}
  (hq:∀h' tk t',(∀b o,b≠e->s.heap.get? b=some o->h'.get? b=some o)->(∃o',h'.get? e=some o'/\o'.cls= .ref C/\o'.data=(excAt C t').data)->Q .none { s with heap:=h',toks:=tk }) :
  wpAny cx.M A (call (.ref d.addr) [.ref e, .str (Str.ofString x) tx]) Q E s:=by
 refine wpAny_call (codeAny_of_tree ?_)
 refine om (A:=A.in1) F top hdep (by rw[B.ar];exact aG _) (by refine ae B.ar▸ ?_;simp) λs₁ I=>And.intro rfl (codeAny_func ?_)
 have hb2 : d.bound [Value.ref e, .str (Str.ofString x) tx]=([(("self" : Str),Value.ref e),(("reason" : Str),Value.str (Str.ofString x) tx)]:List (Str×Value)):=by
  unfold uf.bound;refine ae B.names▸ae B.ar▸ ?_;simp
 have I0:=I.toInCall
 replace I0:=hb2▸I0
 generalize hE : d.env s.heap.objs.size=env at *
 have hE : env=callEnvC d.fn s.heap.objs.size d.addr:=hE.symm
 obtain⟨p1,p2,p3,p4,p5,p6,p7,p8,p9,p10,hbody,hline⟩:=B.body
 refine ae hbody▸ ?_
 generalize hL : s.heap.objs.size=L at *
 have ⟨kl1,kl2,kl3⟩:=B.kl L
 rw[<-hE] at kl1 kl2 kl3
 have hkd : env.scope.kind= .function:=by rw[hE];exact F.kind
 obtain⟨m,hm⟩ : ∃m,m=(bindL env.kindOf [(("self" : Str),Value.ref e),(("reason" : Str),Value.str (Str.ofString x) tx)] λ_=>none):=⟨_,rfl⟩
 replace I0:=hm▸I0
 have m1 : m "self" = some (.ref e):=by subst hm;dsimp only[bindL,bindL,bindL];rw[if_pos kl1,if_pos kl2];simp;decide
 have m2 : m "reason" = some (.str (Str.ofString x) tx):=by rw[hm];dsimp only[bindL,bindL,bindL];rw[if_pos kl2];simp
 have hl : env.locals=L:=by refine (ah _ hE).trans ?_;rfl
 have hne : env.locals≠e:=λq=>by
  have:=aR he
  rw[hL,<-q,hl] at this
  exact Nat.lt_irrefl _ this
 have top1 : ∀b o,cx.h0.get? b=some o->s₁.heap.get? b=some o:=λb o z=>I0.keep b o (top b o z)
 have hab : cx.h0.objs.size<=env.locals:=by
  refine ae hl▸hL▸ ?_;exact aL (az h0 (aR he))
 refine wpAny_execs_cons (AR (cx:=cx) hline hkd (by refine (ah _ hE).trans ?_;exact F.gl) (by refine (ah _ hE).trans ?_;exact F.bi) kl1 kl2 kl3 B.ge Fv (by decide) (by decide) (by decide) (by decide) Hm I0.ns m1 m2 hab top1 (kI (cx.X.keeps top1) hC) (I0.keep _ _ he) λh' tk t' k1 k2=> ?_)
 have nh0 : ∀b o,cx.h0.get? b=some o->b≠e:=λb o z q=>Nat.lt_irrefl _ (az h0 (q▸aR z))
 have ns2 : h'.Ns env.locals m:=by
  refine iE I0.ns λo' es ep z1 z2=> ?_
  exact⟨o',es,ep,k1 _ _ hne z1,z2⟩
 refine wpAny_execs_cons (zR (cx:=cx) (s:={ s₁ with heap:=h',toks:=tk }) hkd kl1 kl2 (by decide) (by decide) ns2 m1 m2 (cx.X.keeps (λb o z=>k1 b o (nh0 b o z) (top1 b o z))) (kI (cx.X.keeps (λb o z=>k1 b o (nh0 b o z) (top1 b o z))) hC) k2 sa re λh'' tk' t'' k3 k4=> ?_)
 refine ao ?_
 refine fu I0.same λh1 tk1 zr2_=> ?_;subst zr2_
 exact hq h'' tk' t'' (λb o hb z=>k3 b o hb (k1 b o hb (I0.keep b o z))) k4
end
theorem Mc(t1:Sem Value):spliced [(false,t1)]=(t1 >>= λv=>holding [v] (pure []) >>= λr=>pure ([v]++r)):=rfl
theorem wpAny_keep{α:Type}{M:Model}{A:Around}{E:Value->Shared->Prop}{s:Shared}{vs:List Value}{m:Sem α}{Q:α->Shared->Prop}(h:wpAny M A m Q E s):wpAny M A (m.keep vs) Q E s:=
 λΓ p i=>by rw[Sem.wp_keep];exact h Γ p i
structure Dp(cx:Cx)(C B0:Addr)(d:uf):Prop where
 fn : sj cx d
 body : zq cx d
 cls : F0 cx.K C B0=true
 Mt : findIn cx.K (.ref C) "__init__" = some (some (.ref d.addr))
 ft : typeIn cx.K (.ref d.addr)=some (.type "function")
 sa : findIn cx.K (.ref C) "__setattr__" = some (some (.builtin "object.__setattr__"))
 re : findIn cx.K (.ref C) "reason" = some none
 kp : keepIn cx.K (.ref C)=true
section
variable {cx:Cx}{n:Nat}{fd:Fd}{A:Around}{E:Value->Shared->Prop}{s:Shared}{C B0:Addr}{d:uf}
theorem BY(K:Dp cx C B0 d)(top:∀b o,cx.h0.get? b=some o->s.heap.get? b=some o)(h0:cx.h0.objs.size<=s.heap.objs.size)(hdep:A.depth+1 < recursionLimit){x:String}{tx:Tok}{Q:Value->Shared->Prop}
  (hq:∀h' tk e t' o',(∀b o,s.heap.get? b=some o->h'.get? b=some o)->s.heap.get? e=none->h'.get? e=some o'->o'.cls= .ref C->o'.data=(excAt C t').data->Q (.ref e) { s with heap:=h',toks:=tk }) :
  wpAny cx.M A (call (.ref C) [.str (Str.ofString x) tx]) Q E s:=by
 have X : cx.K.In s.heap:=cx.X.keeps top
 obtain⟨nm,q,N,bs,sn,sub,ab,col,dd,k0,k1,k2,k3,k5,hC⟩:=kI X K.cls
 obtain⟨hp,g,dr,t,os⟩:=s
 dsimp only at top h0 X hC hq
 refine DF hC (looks_findIn X K.Mt) (λself=>bind_fn X self K.ft) (by rw[aU];simp) ?_
 have kk : ∀ (rest:List Value) b o,hp.get? b=some o->((hp.push (qQ rest)).push (excAt C hp.objs.size)).get? b=some o:=λrest b o e=>aI _ (aI _ e)
 have hget : ∀rest : List Value,((hp.push (qQ rest)).push (excAt C hp.objs.size)).get? (hp.objs.size+1)=some (excAt C hp.objs.size):=λrest=>by heap_get
 have hnew : hp.get? (hp.objs.size+1)=none:=Heap.get?_none_of_le (cT _)
 have hw : ∀rest : List Value,Code.weight (.builtin "type.__call__" ⟨.ref C::rest,[]⟩)=1:=λrest=>by kernel_rfl
 refine CV (cx:=cx) (C:=C) (B0:=B0) (e:=hp.objs.size+1) (t0:=hp.objs.size) (s:=⟨(hp.push (qQ _)).push (excAt C hp.objs.size),g,dr,t,os⟩) K.fn K.body (λb o z=>kk _ b o (top b o z)) (by show A.depth+Code.weight _ < _;exact hdep) K.cls (hget _)
  (ad h0 (cT _)) K.sa K.re λh' tk t' k1 k2=>⟨rfl, ?_⟩
 refine pB k2 λo' z1 z2 z3=> ?_
 refine hq h' tk _ t' o' (λb o z=>k1 b o (λq=> ?_) (kk _ b o z)) hnew z1 z2 z3
 rw[q] at z;replace z:=hnew▸z;cases z
theorem zJ{M:Model}{env:Env}{e t':Addr}{o':Obj}{Q:Flow->Shared->Prop}(hC:oo s.heap C B0)(hh:A.handled=none)(he:s.heap.get? e=some o')(hc:o'.cls= .ref C)(hd:o'.data=(excAt C t').data)(hE:E (.ref e) s) :
  wpAny M A (raiseStmt env (some (pure (.ref e))) none) Q E s:=by
 obtain⟨nm,q,N,bs,sn,sub,ab,col,dd,k0,k1,k2,k3,k5,hC⟩:=hC
 have hcB : (Value.ref C:: .ref B0::kJ).contains (.type "BaseException")=true:=by rfl
 obtain⟨oc,od,dt,sl⟩:=o'
 dsimp only at hc hd
 subst hc hd
 obtain⟨hs,g,dr,t,os⟩:=s
 dsimp only at hC he
 unfold raiseStmt
 repeat (first | (with_reducible refine cD he ?_) | with_reducible refine cD hC ?_ | (with_reducible refine wpAny_isSubtype_exc hC ?_) | wp_step)
 exact wpAny_raiseNew_none hh hE
noncomputable abbrev P.raise(C:Addr):P MF:=λloc σ _ X=>X C loc σ
theorem wV(K:Dp cx C B0 d)(hkd:fd.env.scope.kind= .function){y:Str}{np cpos pos p:Pos}{k:Nat}{x:String}(hx:fd.env.kindOf y=some .globalImplicit)(hg:fd.env.globals=mainGlobals)(hd:(y==("__debug__" : Str))=false)
  (e:nsIn cx.K mainGlobals y=some (some (.ref C))):gd cx n fd (.Raise (some (.Call (.Name y np) [.Constant (.str (Str.ofString x)) k p] [] cpos)) none pos) (P.raise C):=by
 intro A ρ σ loc s Q X G _ hm
 show cW cx.M A (standAt pos >>= λ_=>raiseStmt fd.env (some (eval (.Call (.Name y np) [.Constant (.str (Str.ofString x)) k p] [] cpos) fd.env >>= λv=>standAt pos >>= λ_=>pure v)) none) _ _ s
 refine .of (af (ce ?_))
 dsimp only[raiseStmt]
 refine af (af ?_)
 show wpAny cx.M A (eval (.Name y np) fd.env >>= λf=>callWith cpos f [] (backTo cpos (starEach [.Constant (.str (Str.ofString x)) k p] fd.env)) []) _ _ s
 refine af (yj G.top hkd hx hg hd e ?_)
 skip
 refine af (bk ?_)
 unfold evalArgs
 show wpAny _ _ (spliced [(false,eval (.Constant (.str (Str.ofString x)) k p) fd.env)] >>= _) _ _ _
 rw[Mc]
 refine af (af (wpAny_mkText (af (bk (ao (ao ?_))))))
 refine af (ao (bk (af (ao (af (ao (ao ?_)))))))
 refine af (ce ?_)
 have hst' : ((backTo cpos (starEach [.Constant (.str (Str.ofString x)) k p] fd.env)).any (λx=>x.fst)||([]:List (Option Str×Sem Value)).any (λx=>x.fst.isNone))=false:=rfl
 rw[hst']
 refine aT (looks_keep (M:=cx.M) K.kp cx.X) λkp hkp hk=> ?_
 refine af (hk A _ _ _ (λb o e=>G.top b o e) ?_)
 have main : ∀ {Q':Value->Shared->Prop}{E':Value->Shared->Prop}{t:Nat},(∀h' tk e t' o',(∀b o,s.heap.get? b=some o->h'.get? b=some o)->s.heap.get? e=none->h'.get? e=some o'->o'.cls= .ref C->o'.data=(excAt C t').data->Q' (.ref e) { s with heap:=h',toks:=tk })->
   wpAny cx.M A (call (.ref C) [.str (Str.ofString x) s.toks]) Q' E' { s with toks:=t }:=λ{Q' E' t} hq=>
  BY (A:=A) (E:=E') (x:=x) (tx:=s.toks) (s:={ s with toks:=t }) K G.top G.oR (by have:=G.ak.dep;exact az (bF (Nat.le_add_right_of_le (aG _)) (by decide)) this) hq
 have fin : ∀ (h':Heap)(tk:Nat)(e t':Addr)(o':Obj),(∀b o,s.heap.get? b=some o->h'.get? b=some o)->s.heap.get? e=none->h'.get? e=some o'->o'.cls= .ref C->o'.data=(excAt C t').data->
   wpAny cx.M A (raiseStmt fd.env (some (pure (.ref e))) none) (Out cx n fd A ρ σ s cg.mA Q) (eA cx n fd A ρ σ s X) { s with heap:=h',toks:=tk }:=by
  intro h' tk e t' o' z1 z2 z3 z4 z5
  refine zJ (kI (cx.X.keeps λb o y=>z1 b o (G.top b o y)) K.cls) G.ak.hh z3 z4 z5 ?_
  refine⟨e,C,ρ,σ,loc,rfl,Step.grow G.di G.locals (dM (L:=fd.env.locals) z1) tk,G.grow (dM (L:=fd.env.locals) z1) tk,⟨o',_,_,z3,z4,z5,rfl,z2,λl u q=> ?_, .no rfl⟩,hm⟩
  obtain⟨_,o,y,_⟩:=G.low l u
  rw[q] at y;replace y:=z2▸y;exact nomatch y
 rcases hkp with rfl | rfl
 ·dsimp only
  split
  ·refine af (main ?_)
   intro h' tk e t' o' z1 z2 z3 z4 z5
   refine af (bk (wpAny_point (ao (af (ce (ao ?_))))))
   exact fin h' tk e t' o' z1 z2 z3 z4 z5
  ·refine af (wpAny_keep (main ?_))
   intro h' tk e t' o' z1 z2 z3 z4 z5
   refine af (bk (wpAny_point (ao (af (ce (ao ?_))))))
   exact fin h' tk e t' o' z1 z2 z3 z4 z5
 ·skip
  refine af (main ?_)
  intro h' tk e t' o' z1 z2 z3 z4 z5
  refine af (bk (wpAny_point (ao (af (ce (ao ?_))))))
  exact fin h' tk e t' o' z1 z2 z3 z4 z5
end
end Internal
namespace Internal
open PySem PySem.W PyProof.Rows PySem.Calls Builtin
section
variable {cx:Cx}{n:Nat}{fd:Fd}{A:Around}{ρ ρ':LA->Addr}{σ σ':MH}{loc loc':Loc}{s s₀ s':Shared}
theorem Out.setG{Q:Unit->Loc->MH->Prop}(G:Good cx n fd A ρ σ loc s){l:LA}(hl:σ.us l){o':MO}{x x':Obj}{h':Heap}(t:Nat)(hk:∀y o,y≠ρ l->s.heap.get? y=some o->h'.get? y=some o)
  (hx0:s.heap.get? (ρ l)=some x)(hx:h'.get? (ρ l)=some x')(hnt:¬Internal.IsTup x')(hrel:fh ρ σ.us s.heap ρ σ.us h'->lM cx.prog cx.w ρ σ.us h' (ρ l) o')(hq:Q () loc (σ.set l o')) :
  Out cx n fd A ρ σ s cg.unit Q () { s with heap:=h',toks:=t }:=by
 have g : ∀b o,s.heap.get? b=some o->(h'.update (ρ l) λ_=>x).get? b=some o:=λb o e=>by
  by_cases q : b=ρ l
  ·subst q;replace e:=hx0▸e;cases e;exact (dJ _ hx (Heap.get?_some_iff.mp hx0).2)
  ·exact (Heap.get?_update_ne _ _ _ _ q).trans (hk b o q e)
 have S1:=Step.grow (ρ:=ρ) (U:=σ.us) G.di G.locals (dM (L:=fd.env.locals) g) s.toks
 refine Out.pre S1 (Out.set (G.grow (dM (L:=fd.env.locals) g) s.toks) hl t ((Heap.size_update ..).symm) (λa q=>(Heap.get?_update_ne _ _ _ _ q).symm) hx hnt (λk=>hrel ((S1.keeps G).trans k)) hq)
inductive sK(lo hi:Option Int)(loc:Loc)(σ:MH)(Q:Unit->Loc->MH->Prop):MV->MV->Prop where
 |mk {l b c} (e:σ.get l=some (.bW b))(a:b.length<=100000/\c.length<=100000)(h:Q () loc (σ.set l (.bW (gf b lo hi c)))):sK lo hi loc σ Q (.ref l) (.bytes c)
noncomputable abbrev P.rC(a:MV)(lo hi:Option Int)(v:MV):P Unit:=λloc σ Q _=>sK lo hi loc σ Q a v
theorem A4{a v:MV}{i j:Option Int}{ov iv vv:Value}:aM cx n fd (λρ U h=>cg.slice ρ U h (i,j) iv/\VR ρ U h a ov/\VR ρ U h v vv) cg.unit (holding [vv,ov,iv] (setItem ov iv vv) >>= λ_=>release [iv,vv,ov] []) (P.rC a i j v):=by
 intro A ρ σ loc s Q X G hp hm
 obtain⟨⟨xa,l,u,rfl,h1,h2,h3⟩,ra,rv⟩:=hp
 induction hm with
 |mk e b h=>
  have e2:=(G.obj _ _ e).2
  apply ra.eB;intro u1;apply rv.dg;intro t
  exact ai (aJ (wf e2 h1 h2 h3 b.1 b.2 λh' hk hb=>eD (Out.setG (o':= .bW _) G u1 s.toks hk e2 hb gP (λ_=>hb) h)))
theorem vZ{o:Expr}{lo hi:Option Expr}{p pos:Pos}{m ml mh:P MV}(ho:bO cx n fd o m)(hl:rU cx n fd lo ml)(hh:rU cx n fd hi mh) :
  ew cx n fd (.Subscript o (.Slice lo hi none p) pos) (λv=>m.bind λa=>P.bounds ml mh λi j=>P.rC a i j v):=by
 intro v vv
 show aM cx n fd _ _ (holding [vv] (eval o fd.env) >>= λov=>holding [vv,ov] (eval (.Slice lo hi none p) fd.env) >>= λiv=>standAt pos >>= λ_=>holding [vv,ov,iv] (setItem ov iv vv) >>= λ_=>release [iv,vv,ov] []) _
 exact aM.bind (aM.holding (aM.gS bM.vr ho)) λa ov=>aM.bind (aM.holding (aM.side (bM.and bM.vr bM.vr) (qi hl hh))) λb iv=>aM.standAt A4
end
inductive t8(loc:Loc)(σ:MH)(Q:MV->Loc->MH->Prop):String->MV->Prop where
 |int {i} (h:Q (.bool true) loc σ):t8 loc σ Q "int" (.int i)
 |oct {b} (h:Q (.bool false) loc σ):t8 loc σ Q "str" (.bytes b)
noncomputable abbrev P.iq(T:String)(a:MV):P MV:=λloc σ Q _=>t8 loc σ Q T a
theorem rQ : kitOne [] (.type "bytes") (.type "str")=some false:=by decide +kernel
section
variable {cx:Cx}{n:Nat}{fd:Fd}{A:Around}{ρ ρ':LA->Addr}{σ σ':MH}{loc loc':Loc}{s s₀ s':Shared}
theorem xG{x y:Str}{np py pos:Pos}{T:String}{e:Expr}{m:P MV}(hn:fk cx n fd (.Name x np) (.builtin "isinstance")) (ht:fk cx n fd (.Name y py) (.type T))(hp:cm e=true)(h:bO cx n fd e m) :
  bO cx n fd (.Call (.Name x np) [e, .Name y py] [] pos) (m.bind (P.iq T)):=by
 intro A ρ σ loc s Q X G _ hm
 show cW cx.M A (eval (.Name x np) fd.env >>= λf=>callWith pos f [] (backTo pos (starEach [e, .Name y py] fd.env)) []) _ _ s
 refine ai (.of (hn A ρ σ loc s _ _ G ?_))
 refine ae (show starEach [e, .Name y py] fd.env=[(false,eval e fd.env),(false,eval (.Name y py) fd.env)] by refine ((fm hp)).trans ?_;rfl)▸ ?_
 dsimp only[callWith]
 refine ai (aJ ?_)
 refine i9 rfl ?_
 show cW _ _ (spliced [(false,eval e fd.env),(false,eval (.Name y py) fd.env)]) _ _ _
 rw[JT]
 refine ai (aD (h A ρ σ loc s _ X G trivial hm) (λv s1 z=> ?_) λ_ _ z=>z)
 obtain⟨a,ρ1,σ1,l1,S1,G1,r1,hq⟩:=z
 refine ai (aJ (ai (.of (ht A ρ1 σ1 l1 s1 _ _ G1 (ai (aJ (ax (ax (ax ?_)))))))))
 refine ai (bB ?_)
 have hst : ((backTo pos [(false,eval e fd.env),(false,eval (.Name y py) fd.env)]).any (λx=>x.fst)||([]:List (Option Str×Sem Value)).any (λx=>x.fst.isNone))=false:=rfl
 refine ai (ax (a:=Keeper.machine) ?_)
 have main : cW cx.M A (call (.builtin "isinstance") [v, .type T]) (Out cx n fd A ρ1 σ1 s1 VR Q) (eA cx n fd A ρ1 σ1 s1 X) s1:=by
  induction hq with
  |int h=>apply r1.eH;intro t;exact .of (PySem.IsiPair.int_int (Out.now G1 .bool h))
  |oct h=>apply r1.dg;intro t;exact .of (kia_one (K:=[]) kitx_bytes (λ_ _ q=>by cases q) trivial rQ (λq=>by cases q) λtk=>Out.pre (Step.tok tk) (Out.now (G1.tok tk) .bool h))
 exact ai (aD main (λr s₂ hr=>ai (aJ (.of (wpAny_point (ax (hr.pre S1)))))) λ_ _ y=>y.pre S1)
end
end Internal
namespace Internal
open PySem PySem.W PyProof.Rows PySem.Calls Builtin PySem.EqNone
theorem I3 : isSubtype (.type "int") (.type "str")=pure false:=by rw[cA];kernel_rfl
theorem H3 : isSubtype (.type "str") (.type "int")=pure false:=by rw[cA];kernel_rfl
theorem sY(i:Int)(t:Tok)(x:Str)(u:Tok):Gives (Builtin.«int.__eq__» ⟨[.int i t, .str x u],[]⟩) (.val (Value.notImplemented)):=
 .of_wp λM A E s Q h=>by
  obtain⟨hp,g,d,tk,os⟩:=s;wp_walk;exact⟨_,rfl,h⟩
theorem sJ(i:Int)(t:Tok)(x:Str)(u:Tok):Gives (Builtin.«str.__eq__» ⟨[.str x u, .int i t],[]⟩) (.val (Value.notImplemented)):=
 .of_wp λM A E s Q h=>by
  obtain⟨hp,g,d,tk,os⟩:=s;wp_walk;exact⟨_,rfl,h⟩
section
variable {prog:Program}{w:World}{A:Around}{E:Value->Shared->Prop}{s:Shared}
theorem eq_int_str{i:Int}{t:Tok}{x:Str}{u:Tok}{Q:Value->Shared->Prop}(h:Q (.bool false) s):wpAny (model prog w) A (compareOp .Eq (.int i t) (.str x u)) Q E s:=by
 exact wpAny_richCompare_eq_decline (k:=false) (λ_=>rfl) (λ_=>rfl) (by decide) H3 PySem.F.slot_int_eq PySem.F.slot_str_eq_refl rfl
  (call_gives PySem.F.slot_int_eq rfl PySem.F.entry_int_eq (PySem.F.args_int_eq_2 _ _) (sY i t x u) ⟨rfl,call_gives PySem.F.slot_str_eq_refl rfl PySem.F.entry_str_eq (PySem.F.args_str_eq_2 _ _) (sJ i t x u) ⟨rfl,h⟩⟩)
theorem eq_str_int{i:Int}{t:Tok}{x:Str}{u:Tok}{Q:Value->Shared->Prop}(h:Q (.bool false) s):wpAny (model prog w) A (compareOp .Eq (.str x u) (.int i t)) Q E s:=by
 exact wpAny_richCompare_eq_decline (k:=false) (λ_=>rfl) (λ_=>rfl) (by decide) I3 PySem.F.slot_str_eq PySem.F.slot_int_eq_refl rfl
  (call_gives PySem.F.slot_str_eq rfl PySem.F.entry_str_eq (PySem.F.args_str_eq_2 _ _) (sJ i t x u) ⟨rfl,call_gives PySem.F.slot_int_eq_refl rfl PySem.F.entry_int_eq (PySem.F.args_int_eq_2 _ _) (sY i t x u) ⟨rfl,h⟩⟩)
end
noncomputable def nQ : Int ⊕ Str->Value->Bool
 | .inl i,v=>Value.isInt i v
 | .inr x,v=>Value.isStrOf x v
noncomputable def mixHash(w:World):Int ⊕ Str->Int
 | .inl i=>hashInt i
 | .inr x=>hashStr w x
theorem EJ(a b:Int):decide ((Sum.inl a : Int ⊕ Str)=Sum.inl b)=(a==b):=by by_cases q : a=b<;>simp[q]
theorem FA(a b:Str):decide ((Sum.inr a : Int ⊕ Str)=Sum.inr b)=decide (a=b):=by by_cases q : a=b<;>simp[q]
noncomputable def yP(prog:Program)(w:World):KeyKind prog w (Int ⊕ Str) where
 is:=nQ
 hash:=mixHash w
 inj:=λv a b ha hb=>by
  cases a<;>cases b<;>simp only[nQ] at ha hb
  ·exact ah _ (Value.isInt_inj _ _ _ ha hb)
  ·obtain⟨t,rfl⟩:=Value.isInt_shape ha;cases hb
  ·obtain⟨t,rfl⟩:=Value.isInt_shape hb;cases ha
  ·exact ah _ (Value.isStrOf_inj _ _ _ ha hb)
 byValue:=λk v h=>by
  cases k<;>simp only[nQ] at h
  ·obtain⟨t,rfl⟩:=Value.isInt_shape h;rfl
  ·obtain⟨t,rfl⟩:=Value.isStrOf_shape h;rfl
 pyHash:=λ{_ _ _ k _ _} hv h=>by
  cases k<;>simp only[nQ] at hv
  ·obtain⟨t,rfl⟩:=Value.isInt_shape hv;exact wpAny_pyHash_int h
  ·obtain⟨t,rfl⟩:=Value.isStrOf_shape hv;exact wpAny_pyHash_str h
 eqBool:=λ{_ _ _ a b _ _ _} hu hv h=>by
  cases a<;>cases b<;>simp only[nQ] at hu hv
  ·obtain⟨t,rfl⟩:=Value.isInt_shape hu
   obtain⟨u,rfl⟩:=Value.isInt_shape hv
   exact wpAny_eqBool_int (by rw[EJ] at h;exact h)
  ·obtain⟨t,rfl⟩:=Value.isInt_shape hu
   obtain⟨u,rfl⟩:=Value.isStrOf_shape hv
   exact kF (k:=false) (λq=>by cases q) (λ_ _ q=>by cases q) (by simpa using h) λQ hq=>eq_int_str hq
  ·obtain⟨t,rfl⟩:=Value.isStrOf_shape hu
   obtain⟨u,rfl⟩:=Value.isInt_shape hv
   exact kF (k:=false) (λq=>by cases q) (λ_ _ q=>by cases q) (by simpa using h) λQ hq=>eq_str_int hq
  ·obtain⟨t,rfl⟩:=Value.isStrOf_shape hu
   obtain⟨u,rfl⟩:=Value.isStrOf_shape hv
   exact wpAny_eqBool_str (by rw[FA] at h;exact h)
 «strs»:=λk x t v h=>by
  cases k<;>simp only[nQ] at h ⊢
  ·cases h
  ·exact (PySem.strKind prog w).«strs» _ _ t _ h
noncomputable def met{K:Type} [DecidableEq K] (ks:List K):List K:=ks.foldl (λacc k=>if k∈acc then acc else acc++[k]) []
theorem Bq{K:Type} [DecidableEq K] (ks:List K)(k:K):met (ks++[k])=if k∈met ks then met ks else met ks++[k]:=by
 unfold met;exact List.foldl_append
theorem B2{K:Type} [DecidableEq K]:∀ (ks acc:List K),(ks.foldl (λacc k=>if k∈acc then acc else acc++[k]) acc).length<=acc.length+ks.length
 | [],acc=>by exact a9 (List.foldl (λacc k=>if k∈acc then acc else acc++[k]) acc []).length [].length
 |k::ks,acc=>by
  rw[List.foldl_cons]
  refine ad (B2 ks _) ?_
  split;exact bb (cT _) _;rw[aA];exact aw (Nat.add_right_comm ..)
theorem xk{K:Type} [DecidableEq K] (ks:List K):(met ks).length<=ks.length:=by
 have:=B2 ks []
 simpa [met] using this
section
variable {prog:Program}{w:World}{A:Around}{R:Result->Shared->Prop}{I:Addr}{fp wr:List Addr}{G:Array GenState->Array GenState->Prop}{n:Nat}{P:Nat->Value->Prop}{St:Nat->Shared->Prop}
variable {K:Type} [DecidableEq K] {knd:KeyKind prog w K}
theorem BG(W:WalksS prog w A.in1 I fp wr G n P St)(S:Addr)(hSf:S∉fp)
  (ks:List K)(hval:∀i v,P i v->∃k,ks[i]?=some k/\knd.is k v=true/\v.scannable=true)(hb:n+1 < scanBound) :
  ∀ (k i:Nat)(s:Shared),n - i=k->i<=n->St i s->
   s.heap.SetOf knd S (λk'=>decide (k'∈met (ks.take i))) (met (ks.take i)).length->
   (∀s',Moved (S::wr) G s s'->s'.heap.SetOf knd S (λk'=>decide (k'∈met (ks.take n))) (met (ks.take n)).length->R (.ok (.ret .none)) s')->
   codeAny (model prog w) A (.builtin "set.update.loop" ⟨[.ref S, .ref I],[]⟩) R s:=by
 have hSw : S∉wr:=λh=>hSf (W.sub _ h)
 intro k
 induction k with
 |zero=>
  intro i s hk hi hst hS hR
  have hin : i=n:=Ik hk hi
  subst hin
  refine dE PyProof.Rows.F.entry_set_update_loop ?_
  refine af (W.done s _ _ hst λs' hm=> ?_)
  exact ao (hR s' (hm.mono (λb hb=>aB _ hb)) (by
   refine xt hS λo es ep t ho rest=> ?_
   exact⟨o,es,ep,t,hm.heap S _ hSw ho,rest⟩))
 |succ k ih=>
  intro i s hk hi hst hS hR
  have hlt : i < n:=by exact Nat.lt_of_sub_eq_succ hk
  refine dE PyProof.Rows.F.entry_set_update_loop ?_
  show wpAny _ A.in1 (pyNext (.ref I) >>= _) _ _ s
  refine af (W.item i s _ _ hlt hst λv s' hP hst' hm=> ?_)
  refine pB (hval i v hP) λki hki his hsc=> ?_
  have hS' : s'.heap.SetOf knd S (λk'=>decide (k'∈met (ks.take i))) (met (ks.take i)).length:=by
   refine xt hS λo es ep tb ho rest=> ?_
   exact⟨o,es,ep,tb,hm.heap S _ hSw ho,rest⟩
  refine af (bk ?_)
  refine bk ?_
  refine af (knd.pyHash (k:=ki) his ?_)
  refine wpAny_setAddHashed_of (knd:=knd) (s:={ s' with toks:=s'.toks+1 }) his hsc hS' (by have:=xk (ks.take i);have : (ks.take i).length<=i:=(by rw[bK];exact Nat.min_le_left _ _);exact az (Nat.succ_le_succ (ad (xk _) (ad this (aL hlt)))) hb) λh' hsb hS2=> ?_
  have hSi : h'.SetOf knd S (λk'=>decide (k'∈met (ks.take (i+1)))) (met (ks.take (i+1))).length:=by
   rw[(show ks.take (i+1)=ks.take i++[ki] by refine (bV).trans ?_;refine ae hki▸ ?_;rfl),Bq]
   by_cases q : ki∈met (ks.take i)
   ·rw[if_pos q]
    simp only[q,decide_true,if_true] at hS2
    have e : (λk'=>decide (k'∈met (ks.take i))||decide (k'=ki))=λk'=>decide (k'∈met (ks.take i)):=by
     funext k';by_cases z : k'=ki
     ·cases z;simp[q]
     ·simp[z]
    rw[e] at hS2;exact hS2
   ·rw[if_neg q]
    simp only[q,decide_false,Bool.false_eq_true,if_false] at hS2
    have e : (λk'=>decide (k'∈met (ks.take i))||decide (k'=ki))=λk'=>decide (k'∈met (ks.take i)++[ki]):=by
     funext k';simp
    rw[e] at hS2;refine ae aA▸ ?_;exact hS2
  refine ao ⟨plainId_quiet PyProof.Rows.F.plain_set_update_loop _,ih (i+1) _ (Ja hk) hlt (W.frame _ s' _ _ hst' (cT _) λb hb o e=> ?_) hSi λs'' hm'' hS''=> ?_⟩
  ·refine ((hsb.2 b (λh:b=S=>hSf (by rw[<-h];exact hb)))).trans ?_;exact e
  ·refine hR s'' (Moved.trans W.gtrans ((hm.mono (λb hb=>aB _ hb)).then_heap (cT _) λb o hb e=> ?_) hm'') hS''
   refine ((hsb.2 b (λh:b=S=>hb (by rw[h];exact aV)))).trans ?_;exact e
end
end Internal
namespace Internal
open PySem PySem.W PyProof.Rows PySem.Calls
inductive IR where
 |fail | nil
 |cons (a b:IR)
 |ag (v:MV)
 |aa (i:Nat)
 |glob (x:String)(v:MV)
 |bin (op:Operator)(a b:IR)
 |cmp (op:CmpOp)(a b:IR)
 |ky (o1 o2:CmpOp)(a b c:IR)
 |ite (t a b:IR)
 |not (a:IR)
 |and (a b:IR)
 |or (a b:IR)
 |am (a:IR)(x:String)
 |item (a b:IR)
 |slice (a lo hi:IR)
 |list (es:IR)
 |tup (es:IR)
 |iT
 |dD (ks:List String)(es:IR)
 |comp (cn:List Str)(cmap:List (Option Nat))(tt:Bool)(i tg ifs el:IR)
 |call (x:String)(f:Value)(es:IR)
 |aO (o:IR)(x:String)(es:IR)
 |iq (T:String)(a:IR)
 |mx (a:IR)
 |pq (a:IR)
 |mz (a:IR)
 |iter (a:IR)
 |range (es:IR)
 |enum (a:IR)
 |rev (a:IR)
 |expr (a:IR)
 |asg (t a:IR)
 |aug (o:IR)(x:String)(op:Operator)(v:IR)
 |del (o i:IR)
 |dH (t a b:IR)
 |gT (t b:IR)
 |fR (tt:Bool)(t i b:IR)
 |ret (a:IR)
 |A5 | pass | brk
 |raise (n:String)(C:Addr)(x:String)
 |DZ (hs:List (String×Addr×MV))(b:IR)
structure Tab extends Tb where
 fn : Addr->Option (Nat×Nat×List MV×IR)
 cls : Addr->Option Addr
 nU : Addr->Addr->Option Bool
 eqs : Addr->Bool
noncomputable def lu : List MV->Option (List (Int ⊕ Str))
 | []=>some []
 | .int i::r=>(lu r).map (.inl i::·)
 | .str x::r=>(lu r).map (.inr (Str.ofString x)::·)
 |_=>none
inductive zm(loc:Loc)(σ:MH)(Q:MV->Loc->MH->Prop):MV->Prop where
 |mk {l vs ks} (e:σ.get l=some (.list vs))(f:lu vs=some ks)(a:ks.length<=1000)(h:Q (.int (met ks).length) loc σ):zm loc σ Q (.ref l)
noncomputable abbrev P.mx(a:MV):P MV:=λloc σ Q _=>zm loc σ Q a
noncomputable abbrev yV(p:List UInt8×MV):MV:= .tup [.bytes p.1,p.2]
inductive Cs(loc:Loc)(σ:MH)(Q:MV->Loc->MH->Prop):MV->Prop where
 |mk {l es r} (e:σ.get l=some (.list (es.map yV)))(a:es.length<=1000/\(es.map (·.1)).Nodup)(n:¬σ.us r)(h:Q (.ref r) loc (σ.new r (.iS es))):Cs loc σ Q (.ref l)
noncomputable abbrev P.pq(a:MV):P MV:=λloc σ Q _=>Cs loc σ Q a
inductive CP(loc:Loc)(σ:MH)(Q:MV->Loc->MH->Prop):List MV->Prop where
 |mk {l es r} (e:σ.get l=some (.bS es))(a:es.length<=1000)(n:¬σ.us r)(h:Q (.ref r) loc (σ.new r (.bS es))):CP loc σ Q [.ref l]
noncomputable abbrev P.Ha(as:List MV):P MV:=λloc σ Q _=>CP loc σ Q as
inductive xI(loc:Loc)(σ:MH)(Q:MV->Loc->MH->Prop):List MV->Prop where
 |mk {l vs r} (e:σ.get l=some (.list vs))(a:vs.length<=1000)(n:¬σ.us r)(h:Q (.ref r) loc (σ.new r (.list vs))):xI loc σ Q [.ref l]
noncomputable abbrev P.Hg(as:List MV):P MV:=λloc σ Q _=>xI loc σ Q as
inductive yz(loc:Loc)(σ:MH)(Q:MV->Loc->MH->Prop):MV->Prop where
 |mk {r} (n:¬σ.us r)(h:Q (.ref r) loc (σ.new r (.list []))):yz loc σ Q (.int 0)
noncomputable abbrev P.mz(a:MV):P MV:=λloc σ Q _=>yz loc σ Q a
noncomputable abbrev P.DW(as:List MV):P MV:=λloc σ Q _=>as.length<=100000/\Q (.tup as) loc σ
structure Dn where
 e : P MV:=P.fail
 b : P Bool:=P.fail
 it : P It:=P.fail
 t : MV->P Unit:=λ_=>P.fail
 s : P MF:=P.fail
 ms : List (P MV):=[P.fail]
 ts : List MV->P Unit:=λ_=>P.fail
 tn : Nat:=0
 c : P Bool:=P.fail
noncomputable abbrev Dn.ex(m:P MV):Dn:={ e:=m,b:=m.bind P.truth }
noncomputable abbrev Dn.st(m:P MF):Dn:={ s:=m }
noncomputable abbrev Dn.bo(m:P MV)(b:P Bool):Dn:={ e:=m,b:=b }
noncomputable def den(T:Tab)(call:Value->List MV->P MV):IR->Dn
 | .fail=>{}
 | .nil=>{ s:=P.ret .next,ms:=[],ts:=λas=>(match as with | []=>P.ret () | _=>P.fail),c:=P.ret true,e:=P.ret .none }
 | .cons a b=>{ s:=P.seq (den T call a).s (den T call b).s,ms:=(den T call a).e::(den T call b).ms,tn:=(den T call b).tn+1,ts:=λas=>(match as with | x::r=>((den T call a).t x).bind λ_=>(den T call b).ts r | []=>P.fail),c:=(den T call a).b }
 | .ag v=> .ex (P.ret v)
 | .aa i=>{ e:=P.aa i,b:=(P.aa i).bind P.truth,t:=P.store i }
 | .glob _ v=> .ex (P.ret v)
 | .bin op a b=> .ex ((den T call a).e.bind λx=>(den T call b).e.bind λy=>P.bin op x y)
 | .cmp op a b=> .bo ((den T call a).e.bind λx=>(den T call b).e.bind λy=>P.cmp op x y) ((den T call a).e.bind λx=>(den T call b).e.bind λy=>(P.cmp op x y).bind P.truth)
 | .ky o1 o2 a b c=>{ e:=(den T call a).e.bind λx=>(den T call b).e.bind (λy=>(P.cmp o1 x y).bind λr=>P.cond (P.truth r) ((den T call c).e.bind λz=>P.cmp o2 y z) (P.ret r)),b:=(den T call a).e.bind λx=>(den T call b).e.bind λy=>P.cond ((P.cmp o1 x y).bind P.truth) ((den T call c).e.bind λz=>(P.cmp o2 y z).bind P.truth) (P.ret false) }
 | .ite t a b=>{ e:=P.cond (den T call t).b (den T call a).e (den T call b).e }
 | .not a=> .bo (((den T call a).e.bind P.truth).bind λb=>P.ret (.bool (!b))) (P.not (den T call a).b)
 | .and a b=> .bo ((den T call a).e.bind λx=>P.cond (P.truth x) (den T call b).e (P.ret x)) (P.cond (den T call a).b (den T call b).b (P.ret false))
 | .or a b=> .bo ((den T call a).e.bind λx=>P.cond (P.truth x) (P.ret x) (den T call b).e) (P.cond (den T call a).b (P.ret true) (den T call b).b)
 | .am a x=>{ e:=(den T call a).e.bind (P.am T.am x),b:=((den T call a).e.bind (P.am T.am x)).bind P.truth,t:=λv=>(den T call a).e.bind λo=>P.setattr T.am x o v }
 | .item a b=>{ e:=(den T call a).e.bind λx=>(den T call b).e.bind (λy=>P.item x y),b:=((den T call a).e.bind λx=>(den T call b).e.bind λy=>P.item x y).bind P.truth,t:=λv=>(den T call a).e.bind λx=>(den T call b).e.bind λy=>P.vj x y v }
 | .slice a lo hi=>{ e:=(den T call a).e.bind λx=>P.bounds (den T call lo).e (den T call hi).e λi j=>P.slice x i j,b:=((den T call a).e.bind λx=>P.bounds (den T call lo).e (den T call hi).e λi j=>P.slice x i j).bind P.truth,t:=λv=>(den T call a).e.bind λx=>P.bounds (den T call lo).e (den T call hi).e λi j=>P.rC x i j v }
 | .list es=> .ex ((P.gU (den T call es).ms).bind P.vn)
 | .tup es=>{ e:=(P.gU (den T call es).ms).bind P.DW,b:=((P.gU (den T call es).ms).bind P.DW).bind P.truth,t:=P.zv (den T call es).tn (den T call es).ts }
 | .iT=> .ex P.iT
 | .dD ks es=> .ex ((P.gU (den T call es).ms).bind (P.dD ks))
 | .comp _ cmap tt i tg ifs el=> .ex (P.comp cmap tt (den T call i).it (den T call tg).t (den T call ifs).c (den T call el).e)
 | .call _ f es=> .ex ((P.gU (den T call es).ms).bind (call f))
 | .aO o x es=> .ex ((den T call o).e.bind λa=>(P.method T.toTb a x).bind λf=>(P.gU (den T call es).ms).bind λas=>call f (a::as))
 | .iq t a=> .ex ((den T call a).e.bind (P.iq t))
 | .mx a=> .ex ((den T call a).e.bind P.mx)
 | .pq a=> .ex ((den T call a).e.bind P.pq)
 | .mz a=> .ex ((den T call a).e.bind P.mz)
 | .iter a=>{ it:=(den T call a).e.bind P.D9 }
 | .range es=>{ it:=(P.gU (den T call es).ms).bind P.zy }
 | .enum a=>{ it:=(den T call a).e.bind (P.vh λl _=> .nT l 0) }
 | .rev a=>{ it:=(den T call a).e.bind (P.vh λl vs=> .rev l vs.length) }
 | .expr a=> .st ((den T call a).e.bind λ_=>P.ret .next)
 | .asg t a=> .st ((den T call a).e.bind λv=>((den T call t).t v).bind λ_=>P.ret .next)
 | .aug o x op v=> .st (P.aug T.am x op (den T call o).e (den T call v).e)
 | .del o i=> .st ((den T call o).e.bind λa=>(den T call i).e.bind λb=>(P.vq a b).bind λ_=>P.ret .next)
 | .dH t a b=> .st (P.cond (den T call t).b (den T call a).s (den T call b).s)
 | .gT t b=> .st (P.while (den T call t).b (den T call b).s (P.ret .next))
 | .fR tt t i b=> .st (P.MW tt (den T call i).it (den T call t).t (den T call b).s (P.ret .next))
 | .ret a=> .st ((den T call a).e.bind λv=>P.ret (.ret v))
 | .A5=> .st (P.ret (.ret .none))
 | .pass=> .st (P.ret .next)
 | .brk=> .st (P.ret .brk)
 | .raise _ C _=> .st (P.raise C)
 | .DZ hs b=> .st (P.try T.nU (hs.map (·.2)) (den T call b).s)
noncomputable def GY(T:Tab)(id:String)(as:List MV):P MV:=
 if id = "len" then P.len as else if id = "list.append" then P.KU as else if id = "dict.get" then P.K8 as else if id = "bytearray.append" then P.Ln as
 else if id = "bytearray.extend" then P.K1 as else if id = "list.index" then P.D4 as else if id = "list.count" then P.D5 as else if id = "list.remove" then P.zx T.eqs as
 else if id = "abs" then P.abs as else if id = "min" then P.min as else if id = "sum" then P.sum as else P.fail
noncomputable def GZ(t:String)(as:List MV):P MV:=
 if t = "bytes" then P.bytes as else if t = "bytearray" then P.bytearray as else if t = "dict" then P.Ha as else if t = "list" then P.Hg as else P.fail
noncomputable abbrev PH.fail{α:Type}:PH α:=λ_ _ _=>False
noncomputable abbrev PH.Ng(ar nl:Nat)(dm args:List MV)(m:P MF):PH MV:=λσ Q X=>(args.length<=ar/\ar<=args.length+dm.length)/\
 m ((args++dm.drop (dm.length - (ar - args.length))).map some++List.replicate (nl - ar) none) σ (λf _ σ'=>Q (fZ f) σ') (λC _ σ'=>X C σ')
noncomputable abbrev y0(T:Tab)(h:Addr->List MV->PH MV)(f:Value)(as:List MV):P MV:=match f with
 | .ref a=>P.MR (h a as)
 | .builtin id=>GY T id as
 | .type t=>GZ t as
 |_=>P.fail
noncomputable def lg(T:Tab):Nat->Addr->List MV->PH MV
 |0,_,_=>PH.fail
 |n+1,a,args=>match T.fn a with
  |some (ar,nl,dm,body)=>PH.Ng ar nl dm args (den T (y0 T (lg T n)) body).s
  |none=>match T.cls a with
   |some init=>PH.new a λself=>lg T n init (self::args)
   |none=>PH.fail
noncomputable abbrev zr(T:Tab)(n:Nat):Value->List MV->P MV:=y0 T (lg T n)
end Internal
namespace Internal
open PySem
section
noncomputable abbrev eG : Addr:=204
noncomputable abbrev ly : Addr:=293
noncomputable abbrev jL : Addr:=453
noncomputable abbrev n9 : Addr:=659
noncomputable abbrev gq : Addr:=757
noncomputable abbrev mq : Addr:=874
noncomputable abbrev jq : Addr:=972
noncomputable abbrev eJ : Addr:=1083
noncomputable abbrev qg : Addr:=76
noncomputable abbrev Cj : Addr:=88
noncomputable abbrev ri : IR:= .cons (.ret (.bin .BitOr (.item (.aa 0) (.aa 1)) (.bin .LShift (.item (.aa 0) (.bin .Add (.aa 1) (.ag (.int 1)))) (.ag (.int 8))))) .nil
noncomputable abbrev qV : IR:= .cons (.ret (.bin .BitOr (.call "half_at" (.ref 116) (.cons (.aa 0) (.cons (.aa 1) .nil))) (.bin .LShift (.call "half_at" (.ref 116) (.cons (.aa 0) (.cons (.bin .Add (.aa 1) (.ag (.int 2))) .nil))) (.ag (.int 16))))) .nil
noncomputable abbrev o0 : IR:= .cons (.asg (.item (.aa 0) (.aa 1)) (.bin .BitAnd (.aa 2) (.ag (.int 255)))) (.cons (.asg (.item (.aa 0) (.bin .Add (.aa 1) (.ag (.int 1)))) (.bin .BitAnd (.bin .RShift (.aa 2) (.ag (.int 8))) (.ag (.int 255)))) .nil)
noncomputable abbrev o6 : IR:= .cons (.expr (.call "put_half" (.ref 130) (.cons (.aa 0) (.cons (.aa 1) (.cons (.bin .BitAnd (.aa 2) (.ag (.int 65535))) .nil))))) (.cons (.expr (.call "put_half" (.ref 130) (.cons (.aa 0) (.cons (.bin .Add (.aa 1) (.ag (.int 2))) (.cons (.bin .BitAnd (.bin .RShift (.aa 2) (.ag (.int 16))) (.ag (.int 65535))) .nil))))) .nil)
noncomputable abbrev lC : IR:= .cons (.ret (.bin .FloorDiv (.bin .Sub (.bin .Add (.aa 0) (.aa 1)) (.ag (.int 1))) (.aa 1))) .nil
noncomputable abbrev la : IR:= .cons (.dH (.or (.cmp .Lt (.aa 5) (.ag (.int 1))) (.or (.cmp .Lt (.aa 1) (.bin .Add (.glob "HEAD" (.int 12)) (.bin .Mult (.ag (.int 4)) (.bin .Add (.aa 5) (.ag (.int 1)))))) (.cmp .Lt (.aa 1) (.bin .Mult (.ag (.int 4)) (.glob "SUPER_WORDS" (.int 9)))))) (.cons .fail .nil) .nil) (.cons (.dH (.cmp .NotEq (.bin .Mod (.aa 1) (.glob "PIECE" (.int 16))) (.ag (.int 0))) (.cons .fail .nil) .nil) (.cons (.dH (.or (.cmp .Lt (.aa 3) (.ag (.int 2))) (.or (.cmp .Lt (.aa 4) (.ag (.int 2))) (.cmp .Lt (.aa 2) (.ag (.int 1))))) (.cons .fail .nil) .nil) (.cons (.asg (.am (.aa 0) "block") (.aa 1)) (.cons (.asg (.am (.aa 0) "blocks") (.aa 2)) (.cons (.asg (.am (.aa 0) "inodes") (.aa 3)) (.cons (.asg (.am (.aa 0) "log") (.aa 4)) (.cons (.asg (.am (.aa 0) "direct") (.aa 5)) (.cons (.asg (.am (.aa 0) "row") (.bin .Add (.glob "HEAD" (.int 12)) (.bin .Mult (.ag (.int 4)) (.bin .Add (.aa 5) (.ag (.int 1)))))) (.cons (.asg (.am (.aa 0) "rows") (.bin .FloorDiv (.aa 1) (.am (.aa 0) "row"))) (.cons (.asg (.am (.aa 0) "indirect") (.bin .FloorDiv (.aa 1) (.ag (.int 4)))) (.cons (.asg (.am (.aa 0) "log_start") (.glob "FIRST_LOG" (.int 2))) (.cons (.asg (.am (.aa 0) "inode_start") (.bin .Add (.glob "FIRST_LOG" (.int 2)) (.aa 4))) (.cons (.asg (.am (.aa 0) "bitmap_start") (.bin .Add (.am (.aa 0) "inode_start") (.call "rounded_up" (.ref 144) (.cons (.aa 3) (.cons (.am (.aa 0) "rows") .nil))))) (.cons (.asg (.am (.aa 0) "data_start") (.bin .Add (.am (.aa 0) "bitmap_start") (.call "rounded_up" (.ref 144) (.cons (.aa 2) (.cons (.bin .Mult (.ag (.int 8)) (.aa 1)) .nil))))) (.cons (.dH (.cmp .GtE (.am (.aa 0) "data_start") (.aa 2)) (.cons .fail .nil) .nil) .nil)))))))))))))))
noncomputable abbrev f7 : IR:= .cons (.ret (.bin .Add (.am (.aa 0) "direct") (.am (.aa 0) "indirect"))) .nil
noncomputable abbrev gL : IR:= .cons (.ret (.bin .Mult (.am (.aa 0) "block") (.aO (.aa 0) "most_blocks" .nil))) .nil
noncomputable abbrev jS : IR:= .cons (.asg (.aa 1) (.bin .Sub (.am (.aa 0) "blocks") (.am (.aa 0) "data_start"))) (.cons (.ret (.list (.cons (.glob "MAGIC" (.int 270544960)) (.cons (.am (.aa 0) "blocks") (.cons (.aa 1) (.cons (.am (.aa 0) "inodes") (.cons (.am (.aa 0) "log") (.cons (.am (.aa 0) "log_start") (.cons (.am (.aa 0) "inode_start") (.cons (.am (.aa 0) "bitmap_start") (.cons (.am (.aa 0) "direct") .nil))))))))))) .nil)
noncomputable abbrev jE : IR:= .cons (.asg (.aa 1) (.call "bytearray" (.type "bytearray") (.cons (.am (.aa 0) "block") .nil))) (.cons (.fR true (.tup (.cons (.aa 2) (.cons (.aa 3) .nil))) (.enum (.aO (.aa 0) "words" .nil)) (.cons (.expr (.call "put_word" (.ref 137) (.cons (.aa 1) (.cons (.bin .Mult (.ag (.int 4)) (.aa 2)) (.cons (.aa 3) .nil))))) .nil)) (.cons (.ret (.call "bytes" (.type "bytes") (.cons (.aa 1) .nil))) .nil))
noncomputable abbrev jD : IR:= .cons (.ret (.tup (.cons (.bin .Add (.am (.aa 0) "inode_start") (.bin .FloorDiv (.aa 1) (.am (.aa 0) "rows"))) (.cons (.bin .Mult (.bin .Mod (.aa 1) (.am (.aa 0) "rows")) (.am (.aa 0) "row")) .nil)))) .nil
noncomputable abbrev jC : IR:= .cons (.asg (.aa 2) (.bin .RShift (.aa 1) (.ag (.int 3)))) (.cons (.ret (.tup (.cons (.bin .Add (.am (.aa 0) "bitmap_start") (.bin .FloorDiv (.aa 2) (.am (.aa 0) "block"))) (.cons (.bin .Mod (.aa 2) (.am (.aa 0) "block")) (.cons (.bin .LShift (.ag (.int 1)) (.bin .BitAnd (.aa 1) (.ag (.int 7)))) .nil))))) .nil)
noncomputable abbrev nO : IR:= .cons (.asg (.am (.aa 0) "nodes") (.aa 1)) (.cons (.asg (.am (.aa 0) "number") (.aa 2)) (.cons (.asg (.am (.aa 0) "holders") (.ag (.int 1))) (.cons (.asg (.am (.aa 0) "kind") (.glob "FREE" (.int 0))) (.cons (.asg (.am (.aa 0) "major") (.ag (.int 0))) (.cons (.asg (.am (.aa 0) "minor") (.ag (.int 0))) (.cons (.asg (.am (.aa 0) "links") (.ag (.int 0))) (.cons (.asg (.am (.aa 0) "size") (.ag (.int 0))) (.cons (.asg (.am (.aa 0) "places") (.list .nil)) .nil))))))))
noncomputable abbrev ga : IR:= .cons (.ret (.cmp .Eq (.am (.aa 0) "kind") (.glob "DIRECTORY" (.int 1)))) .nil
noncomputable abbrev iG : IR:= .cons (.asg (.am (.aa 0) "kind") (.call "half_at" (.ref 116) (.cons (.aa 1) (.cons (.aa 2) .nil)))) (.cons (.asg (.am (.aa 0) "major") (.call "half_at" (.ref 116) (.cons (.aa 1) (.cons (.bin .Add (.aa 2) (.ag (.int 2))) .nil)))) (.cons (.asg (.am (.aa 0) "minor") (.call "half_at" (.ref 116) (.cons (.aa 1) (.cons (.bin .Add (.aa 2) (.ag (.int 4))) .nil)))) (.cons (.asg (.am (.aa 0) "links") (.call "half_at" (.ref 116) (.cons (.aa 1) (.cons (.bin .Add (.aa 2) (.ag (.int 6))) .nil)))) (.cons (.asg (.am (.aa 0) "size") (.call "word_at" (.ref 123) (.cons (.aa 1) (.cons (.bin .Add (.aa 2) (.ag (.int 8))) .nil)))) (.cons (.asg (.am (.aa 0) "places") (.comp ["place", "octets", "at"] [none,some 1,some 2] false (.range (.cons (.bin .Add (.aa 3) (.ag (.int 1))) .nil)) (.aa 0) .nil (.call "word_at" (.ref 123) (.cons (.aa 1) (.cons (.bin .Add (.bin .Add (.aa 2) (.glob "HEAD" (.int 12))) (.bin .Mult (.ag (.int 4)) (.aa 0))) .nil))))) .nil)))))
noncomputable abbrev jv : IR:= .cons (.expr (.call "put_half" (.ref 130) (.cons (.aa 1) (.cons (.aa 2) (.cons (.am (.aa 0) "kind") .nil))))) (.cons (.expr (.call "put_half" (.ref 130) (.cons (.aa 1) (.cons (.bin .Add (.aa 2) (.ag (.int 2))) (.cons (.am (.aa 0) "major") .nil))))) (.cons (.expr (.call "put_half" (.ref 130) (.cons (.aa 1) (.cons (.bin .Add (.aa 2) (.ag (.int 4))) (.cons (.am (.aa 0) "minor") .nil))))) (.cons (.expr (.call "put_half" (.ref 130) (.cons (.aa 1) (.cons (.bin .Add (.aa 2) (.ag (.int 6))) (.cons (.am (.aa 0) "links") .nil))))) (.cons (.expr (.call "put_word" (.ref 137) (.cons (.aa 1) (.cons (.bin .Add (.aa 2) (.ag (.int 8))) (.cons (.am (.aa 0) "size") .nil))))) (.cons (.fR true (.tup (.cons (.aa 3) (.cons (.aa 4) .nil))) (.enum (.am (.aa 0) "places")) (.cons (.expr (.call "put_word" (.ref 137) (.cons (.aa 1) (.cons (.bin .Add (.bin .Add (.aa 2) (.glob "HEAD" (.int 12))) (.bin .Mult (.ag (.int 4)) (.aa 3))) (.cons (.aa 4) .nil))))) .nil)) .nil)))))
noncomputable abbrev nh : IR:= .cons (.ret (.aO (.am (.aa 0) "nodes") "read" (.cons (.aa 0) (.cons (.aa 1) (.cons (.aa 2) .nil))))) .nil
noncomputable abbrev lj : IR:= .cons (.ret (.aO (.am (.aa 0) "nodes") "write" (.cons (.aa 0) (.cons (.aa 1) (.cons (.aa 2) .nil))))) .nil
noncomputable abbrev jQ : IR:= .cons (.expr (.aO (.am (.aa 0) "nodes") "update" (.cons (.aa 0) .nil))) .nil
noncomputable abbrev kW : IR:= .cons (.asg (.am (.aa 0) "journal") (.aa 1)) (.cons (.asg (.am (.aa 0) "cache") (.am (.aa 1) "cache")) (.cons (.asg (.am (.aa 0) "super") (.aa 2)) (.cons (.asg (.am (.aa 0) "table") .iT) .nil)))
noncomputable abbrev fW : IR:= .cons (.dH (.not (.ky .LtE .Lt (.ag (.int 1)) (.aa 1) (.am (.am (.aa 0) "super") "inodes"))) (.cons .fail .nil) .nil) .nil
noncomputable abbrev iR : IR:= .cons (.asg (.tup (.cons (.aa 2) (.cons (.aa 3) .nil))) (.aO (.am (.aa 0) "super") "row_of" (.cons (.aa 1) .nil))) (.cons (.asg (.aa 4) (.aO (.am (.aa 0) "cache") "get" (.cons (.aa 2) .nil))) (.cons (.asg (.aa 5) (.tup (.cons (.call "half_at" (.ref 116) (.cons (.am (.aa 4) "data") (.cons (.aa 3) .nil))) (.cons (.call "half_at" (.ref 116) (.cons (.am (.aa 4) "data") (.cons (.bin .Add (.aa 3) (.ag (.int 6))) .nil))) .nil)))) (.cons (.expr (.aO (.am (.aa 0) "cache") "release" (.cons (.aa 4) .nil))) (.cons (.ret (.aa 5)) .nil))))
noncomputable abbrev mI : IR:= .cons (.expr (.aO (.aa 0) "need_number" (.cons (.aa 1) .nil))) (.cons (.dH (.cmp .In (.aa 1) (.am (.aa 0) "table")) (.cons .fail .nil) .nil) (.cons (.asg (.tup (.cons (.aa 2) (.cons (.aa 3) .nil))) (.aO (.am (.aa 0) "super") "row_of" (.cons (.aa 1) .nil))) (.cons (.asg (.aa 4) (.call "Node" (.ref 293) (.cons (.aa 0) (.cons (.aa 1) .nil)))) (.cons (.asg (.aa 5) (.aO (.am (.aa 0) "cache") "get" (.cons (.aa 2) .nil))) (.cons (.expr (.aO (.aa 4) "take_row" (.cons (.am (.aa 5) "data") (.cons (.aa 3) (.cons (.am (.am (.aa 0) "super") "direct") .nil))))) (.cons (.expr (.aO (.am (.aa 0) "cache") "release" (.cons (.aa 5) .nil))) (.cons (.dH (.cmp .Eq (.am (.aa 4) "kind") (.glob "FREE" (.int 0))) (.cons .fail .nil) .nil) (.cons (.asg (.item (.am (.aa 0) "table") (.aa 1)) (.aa 4)) (.cons (.ret (.aa 4)) .nil)))))))))
noncomputable abbrev g7 : IR:= .cons (.dH (.cmp .NotIn (.aa 1) (.tup (.cons (.glob "DIRECTORY" (.int 1)) (.cons (.glob "FILE" (.int 2)) (.cons (.glob "DEVICE" (.int 3)) .nil))))) (.cons .fail .nil) .nil) (.cons (.fR false (.aa 4) (.range (.cons (.ag (.int 1)) (.cons (.am (.am (.aa 0) "super") "inodes") .nil))) (.cons (.dH (.cmp .Eq (.item (.aO (.aa 0) "kind_at" (.cons (.aa 4) .nil)) (.ag (.int 0))) (.glob "FREE" (.int 0))) (.cons (.asg (.aa 5) (.call "Node" (.ref 293) (.cons (.aa 0) (.cons (.aa 4) .nil)))) (.cons (.asg (.tup (.cons (.am (.aa 5) "kind") (.cons (.am (.aa 5) "major") (.cons (.am (.aa 5) "minor") .nil)))) (.tup (.cons (.aa 1) (.cons (.aa 2) (.cons (.aa 3) .nil))))) (.cons (.asg (.am (.aa 5) "places") (.bin .Mult (.list (.cons (.ag (.int 0)) .nil)) (.bin .Add (.am (.am (.aa 0) "super") "direct") (.ag (.int 1))))) (.cons (.asg (.item (.am (.aa 0) "table") (.aa 4)) (.aa 5)) (.cons (.expr (.aO (.aa 0) "update" (.cons (.aa 5) .nil))) (.cons (.ret (.aa 5)) .nil)))))) .nil) .nil)) (.cons .fail .nil))
noncomputable abbrev jF : IR:= .cons (.asg (.tup (.cons (.aa 2) (.cons (.aa 3) .nil))) (.aO (.am (.aa 0) "super") "row_of" (.cons (.am (.aa 1) "number") .nil))) (.cons (.asg (.aa 4) (.aO (.am (.aa 0) "cache") "get" (.cons (.aa 2) .nil))) (.cons (.expr (.aO (.aa 1) "put_row" (.cons (.am (.aa 4) "data") (.cons (.aa 3) .nil)))) (.cons (.expr (.aO (.am (.aa 0) "journal") "write" (.cons (.aa 4) .nil))) (.cons (.expr (.aO (.am (.aa 0) "cache") "release" (.cons (.aa 4) .nil))) .nil))))
noncomputable abbrev gi : IR:= .cons (.asg (.aa 1) (.am (.am (.aa 0) "super") "data_start")) (.cons (.gT (.cmp .Lt (.aa 1) (.am (.am (.aa 0) "super") "blocks")) (.cons (.asg (.aa 2) (.item (.aO (.am (.aa 0) "super") "bit_of" (.cons (.aa 1) .nil)) (.ag (.int 0)))) (.cons (.asg (.aa 3) (.aO (.am (.aa 0) "cache") "get" (.cons (.aa 2) .nil))) (.cons (.asg (.aa 1) (.aO (.aa 0) "free_bit" (.cons (.am (.aa 3) "data") (.cons (.aa 2) (.cons (.aa 1) .nil))))) (.cons (.asg (.aa 4) (.and (.cmp .Lt (.aa 1) (.am (.am (.aa 0) "super") "blocks")) (.cmp .Eq (.item (.aO (.am (.aa 0) "super") "bit_of" (.cons (.aa 1) .nil)) (.ag (.int 0))) (.aa 2)))) (.cons (.dH (.aa 4) (.cons (.asg (.tup (.cons (.aa 5) (.cons (.aa 6) .nil))) (.slice (.aO (.am (.aa 0) "super") "bit_of" (.cons (.aa 1) .nil)) (.ag (.int 1)) .nil)) (.cons (.asg (.item (.am (.aa 3) "data") (.aa 5)) (.bin .BitOr (.item (.am (.aa 3) "data") (.aa 5)) (.aa 6))) (.cons (.expr (.aO (.am (.aa 0) "journal") "write" (.cons (.aa 3) .nil))) .nil))) .nil) (.cons (.expr (.aO (.am (.aa 0) "cache") "release" (.cons (.aa 3) .nil))) (.cons (.dH (.aa 4) (.cons (.expr (.aO (.aa 0) "clear_block" (.cons (.aa 1) .nil))) (.cons (.ret (.aa 1)) .nil)) .nil) .nil)))))))) (.cons (.raise "NoRoom" 76 "no block is free") .nil))
noncomputable abbrev gZ : IR:= .cons (.gT (.cmp .Lt (.aa 3) (.am (.am (.aa 0) "super") "blocks")) (.cons (.asg (.tup (.cons (.aa 4) (.cons (.aa 5) (.cons (.aa 6) .nil)))) (.aO (.am (.aa 0) "super") "bit_of" (.cons (.aa 3) .nil))) (.cons (.dH (.or (.cmp .NotEq (.aa 4) (.aa 2)) (.cmp .Eq (.bin .BitAnd (.item (.aa 1) (.aa 5)) (.aa 6)) (.ag (.int 0)))) (.cons (.ret (.aa 3)) .nil) .nil) (.cons (.asg (.aa 3) (.bin .Add (.aa 3) (.ag (.int 1)))) .nil)))) (.cons (.ret (.aa 3)) .nil)
noncomputable abbrev fV : IR:= .cons (.asg (.aa 2) (.aO (.am (.aa 0) "cache") "get" (.cons (.aa 1) .nil))) (.cons (.expr (.aO (.aa 2) "clear" .nil)) (.cons (.expr (.aO (.am (.aa 0) "journal") "write" (.cons (.aa 2) .nil))) (.cons (.expr (.aO (.am (.aa 0) "cache") "release" (.cons (.aa 2) .nil))) .nil)))
noncomputable abbrev f9 : IR:= .cons (.asg (.aa 1) (.ag (.int 0))) (.cons (.fR false (.aa 2) (.range (.cons (.am (.am (.aa 0) "super") "data_start") (.cons (.am (.am (.aa 0) "super") "blocks") .nil))) (.cons (.asg (.tup (.cons (.aa 3) (.cons (.aa 4) (.cons (.aa 5) .nil)))) (.aO (.am (.aa 0) "super") "bit_of" (.cons (.aa 2) .nil))) (.cons (.asg (.aa 6) (.aO (.am (.aa 0) "cache") "get" (.cons (.aa 3) .nil))) (.cons (.dH (.cmp .Eq (.bin .BitAnd (.item (.am (.aa 6) "data") (.aa 4)) (.aa 5)) (.ag (.int 0))) (.cons (.asg (.aa 1) (.bin .Add (.aa 1) (.ag (.int 1)))) .nil) .nil) (.cons (.expr (.aO (.am (.aa 0) "cache") "release" (.cons (.aa 6) .nil))) .nil))))) (.cons (.ret (.aa 1)) .nil))
noncomputable abbrev fj : IR:= .cons (.asg (.aa 4) (.am (.am (.aa 0) "super") "direct")) (.cons (.dH (.cmp .Lt (.aa 2) (.aa 4)) (.cons (.dH (.and (.cmp .Eq (.item (.am (.aa 1) "places") (.aa 2)) (.ag (.int 0))) (.aa 3)) (.cons (.asg (.item (.am (.aa 1) "places") (.aa 2)) (.aO (.aa 0) "take_block" .nil)) .nil) .nil) (.cons (.ret (.item (.am (.aa 1) "places") (.aa 2))) .nil)) .nil) (.cons (.dH (.cmp .GtE (.aa 2) (.aO (.am (.aa 0) "super") "most_blocks" .nil)) (.cons .fail .nil) .nil) (.cons (.dH (.cmp .Eq (.item (.am (.aa 1) "places") (.aa 4)) (.ag (.int 0))) (.cons (.dH (.not (.aa 3)) (.cons (.ret (.ag (.int 0))) .nil) .nil) (.cons (.asg (.item (.am (.aa 1) "places") (.aa 4)) (.aO (.aa 0) "take_block" .nil)) .nil)) .nil) (.cons (.ret (.aO (.aa 0) "named_block" (.cons (.item (.am (.aa 1) "places") (.aa 4)) (.cons (.bin .Sub (.aa 2) (.aa 4)) (.cons (.aa 3) .nil))))) .nil))))
noncomputable abbrev fY : IR:= .cons (.asg (.aa 4) (.aO (.am (.aa 0) "cache") "get" (.cons (.aa 1) .nil))) (.cons (.asg (.aa 5) (.call "word_at" (.ref 123) (.cons (.am (.aa 4) "data") (.cons (.bin .Mult (.ag (.int 4)) (.aa 2)) .nil)))) (.cons (.expr (.aO (.am (.aa 0) "cache") "release" (.cons (.aa 4) .nil))) (.cons (.dH (.and (.cmp .Eq (.aa 5) (.ag (.int 0))) (.aa 3)) (.cons (.asg (.aa 5) (.aO (.aa 0) "take_block" .nil)) (.cons (.asg (.aa 4) (.aO (.am (.aa 0) "cache") "get" (.cons (.aa 1) .nil))) (.cons (.expr (.call "put_word" (.ref 137) (.cons (.am (.aa 4) "data") (.cons (.bin .Mult (.ag (.int 4)) (.aa 2)) (.cons (.aa 5) .nil))))) (.cons (.expr (.aO (.am (.aa 0) "journal") "write" (.cons (.aa 4) .nil))) (.cons (.expr (.aO (.am (.aa 0) "cache") "release" (.cons (.aa 4) .nil))) .nil))))) .nil) (.cons (.ret (.aa 5)) .nil))))
noncomputable abbrev kY : IR:= .cons (.dH (.or (.cmp .Lt (.aa 2) (.ag (.int 0))) (.cmp .Lt (.aa 3) (.ag (.int 0)))) (.cons .fail .nil) .nil) (.cons (.asg (.aa 4) (.call "min" (.builtin "min") (.cons (.am (.aa 1) "size") (.cons (.bin .Add (.aa 2) (.aa 3)) .nil)))) (.cons (.asg (.aa 5) (.call "bytearray" (.type "bytearray") .nil)) (.cons (.gT (.cmp .Lt (.aa 2) (.aa 4)) (.cons (.asg (.aa 6) (.bin .Mod (.aa 2) (.am (.am (.aa 0) "super") "block"))) (.cons (.asg (.aa 7) (.call "min" (.builtin "min") (.cons (.bin .Sub (.am (.am (.aa 0) "super") "block") (.aa 6)) (.cons (.bin .Sub (.aa 4) (.aa 2)) .nil)))) (.cons (.asg (.aa 8) (.aO (.aa 0) "block_of" (.cons (.aa 1) (.cons (.bin .FloorDiv (.aa 2) (.am (.am (.aa 0) "super") "block")) (.cons (.ag (.bool false)) .nil))))) (.cons (.dH (.cmp .Eq (.aa 8) (.ag (.int 0))) (.cons (.expr (.aO (.aa 5) "extend" (.cons (.call "bytes" (.type "bytes") (.cons (.aa 7) .nil)) .nil))) .nil) (.cons (.asg (.aa 9) (.aO (.am (.aa 0) "cache") "get" (.cons (.aa 8) .nil))) (.cons (.expr (.aO (.aa 5) "extend" (.cons (.slice (.am (.aa 9) "data") (.aa 6) (.bin .Add (.aa 6) (.aa 7))) .nil))) (.cons (.expr (.aO (.am (.aa 0) "cache") "release" (.cons (.aa 9) .nil))) .nil)))) (.cons (.asg (.aa 2) (.bin .Add (.aa 2) (.aa 7))) .nil)))))) (.cons (.ret (.call "bytes" (.type "bytes") (.cons (.aa 5) .nil))) .nil))))
noncomputable abbrev kc : IR:= .cons (.dH (.cmp .Lt (.aa 2) (.ag (.int 0))) (.cons .fail .nil) .nil) (.cons (.dH (.cmp .Gt (.bin .Add (.aa 2) (.call "len" (.builtin "len") (.cons (.aa 3) .nil))) (.aO (.am (.aa 0) "super") "most_size" .nil)) (.cons .fail .nil) .nil) (.cons (.asg (.aa 4) (.ag (.int 0))) (.cons (.gT (.and (.cmp .Lt (.aa 4) (.call "len" (.builtin "len") (.cons (.aa 3) .nil))) (.cmp .GtE (.aO (.am (.aa 0) "journal") "left" .nil) (.glob "MOST_A_PIECE" (.int 4)))) (.cons (.asg (.aa 5) (.aO (.aa 0) "write_part" (.cons (.aa 1) (.cons (.bin .Add (.aa 2) (.aa 4)) (.cons (.aa 3) (.cons (.aa 4) .nil)))))) (.cons (.dH (.cmp .Eq (.aa 5) (.ag (.int 0))) (.cons .brk .nil) .nil) (.cons (.asg (.aa 4) (.bin .Add (.aa 4) (.aa 5))) .nil)))) (.cons (.dH (.and (.cmp .Gt (.aa 4) (.ag (.int 0))) (.cmp .Gt (.bin .Add (.aa 2) (.aa 4)) (.am (.aa 1) "size"))) (.cons (.asg (.am (.aa 1) "size") (.bin .Add (.aa 2) (.aa 4))) .nil) .nil) (.cons (.expr (.aO (.aa 0) "update" (.cons (.aa 1) .nil))) (.cons (.ret (.aa 4)) .nil))))))
noncomputable abbrev gk : IR:= .cons (.DZ [("NoRoom",76, .int 0)] (.cons (.asg (.aa 5) (.aO (.aa 0) "block_of" (.cons (.aa 1) (.cons (.bin .FloorDiv (.aa 2) (.am (.am (.aa 0) "super") "block")) (.cons (.ag (.bool true)) .nil))))) .nil)) (.cons (.asg (.aa 6) (.bin .Mod (.aa 2) (.am (.am (.aa 0) "super") "block"))) (.cons (.asg (.aa 7) (.call "min" (.builtin "min") (.cons (.bin .Sub (.am (.am (.aa 0) "super") "block") (.aa 6)) (.cons (.bin .Sub (.call "len" (.builtin "len") (.cons (.aa 3) .nil)) (.aa 4)) .nil)))) (.cons (.asg (.aa 8) (.aO (.am (.aa 0) "cache") "get" (.cons (.aa 5) .nil))) (.cons (.asg (.slice (.am (.aa 8) "data") (.aa 6) (.bin .Add (.aa 6) (.aa 7))) (.slice (.aa 3) (.aa 4) (.bin .Add (.aa 4) (.aa 7)))) (.cons (.expr (.aO (.am (.aa 0) "journal") "write" (.cons (.aa 8) .nil))) (.cons (.expr (.aO (.am (.aa 0) "cache") "release" (.cons (.aa 8) .nil))) (.cons (.ret (.aa 7)) .nil)))))))
noncomputable abbrev mW : IR:= .cons (.ret (.ite (.iq "str" (.aa 0)) .fail (.call "bytes" (.type "bytes") (.cons (.aa 0) .nil)))) .nil
noncomputable abbrev oV : IR:= .cons (.ret (.slice (.call "octets_of" (.ref 464) (.cons (.aa 0) .nil)) .nil (.glob "NAME" (.int 14)))) .nil
noncomputable abbrev qj : IR:= .cons (.asg (.aa 2) (.call "bytearray" (.type "bytearray") (.cons (.glob "ROW" (.int 16)) .nil))) (.cons (.expr (.call "put_half" (.ref 130) (.cons (.aa 2) (.cons (.ag (.int 0)) (.cons (.aa 0) .nil))))) (.cons (.asg (.slice (.aa 2) (.ag (.int 2)) (.bin .Add (.ag (.int 2)) (.call "len" (.builtin "len") (.cons (.aa 1) .nil)))) (.aa 1)) (.cons (.ret (.call "bytes" (.type "bytes") (.cons (.aa 2) .nil))) .nil)))
noncomputable abbrev qB : IR:= .cons (.asg (.aa 1) (.call "bytearray" (.type "bytearray") .nil)) (.cons (.fR false (.aa 2) (.iter (.slice (.aa 0) (.ag (.int 2)) (.glob "ROW" (.int 16)))) (.cons (.dH (.cmp .Eq (.aa 2) (.ag (.int 0))) (.cons .brk .nil) .nil) (.cons (.expr (.aO (.aa 1) "append" (.cons (.aa 2) .nil))) .nil))) (.cons (.ret (.call "bytes" (.type "bytes") (.cons (.aa 1) .nil))) .nil))
noncomputable abbrev k9 : IR:= .cons (.asg (.am (.aa 0) "nodes") (.aa 1)) .nil
noncomputable abbrev lz : IR:= .cons (.ret (.aO (.am (.aa 0) "nodes") "get" (.cons (.glob "ROOT" (.int 1)) .nil))) .nil
noncomputable abbrev fg : IR:= .cons (.dH (.not (.aO (.aa 1) "is_directory" .nil)) (.cons .fail .nil) .nil) .nil
noncomputable abbrev g8 : IR:= .cons (.expr (.aO (.aa 0) "need_directory" (.cons (.aa 1) .nil))) (.cons (.asg (.aa 2) (.aO (.aa 1) "read" (.cons (.ag (.int 0)) (.cons (.am (.aa 1) "size") .nil)))) (.cons (.asg (.aa 3) (.list .nil)) (.cons (.fR false (.aa 4) (.range (.cons (.ag (.int 0)) (.cons (.bin .Add (.bin .Sub (.call "len" (.builtin "len") (.cons (.aa 2) .nil)) (.glob "ROW" (.int 16))) (.ag (.int 1))) (.cons (.glob "ROW" (.int 16)) .nil)))) (.cons (.asg (.aa 5) (.slice (.aa 2) (.aa 4) (.bin .Add (.aa 4) (.glob "ROW" (.int 16))))) (.cons (.expr (.aO (.aa 3) "append" (.cons (.tup (.cons (.aa 4) (.cons (.call "half_at" (.ref 116) (.cons (.aa 5) (.cons (.ag (.int 0)) .nil))) (.cons (.call "name_in" (.ref 492) (.cons (.aa 5) .nil)) .nil)))) .nil))) .nil))) (.cons (.ret (.aa 3)) .nil))))
noncomputable abbrev kn : IR:= .cons (.ret (.comp ["place", "number", "name"] [none,none,none] true (.iter (.aO (.aa 0) "all_rows" (.cons (.aa 1) .nil))) (.tup (.cons (.aa 0) (.cons (.aa 1) (.cons (.aa 2) .nil)))) (.cons (.cmp .NotEq (.aa 1) (.ag (.int 0))) .nil) (.aa 2))) .nil
noncomputable abbrev lc : IR:= .cons (.asg (.aa 3) (.call "cut_name" (.ref 471) (.cons (.aa 2) .nil))) (.cons (.fR true (.tup (.cons (.aa 4) (.cons (.aa 5) (.cons (.aa 6) .nil)))) (.iter (.aO (.aa 0) "all_rows" (.cons (.aa 1) .nil))) (.cons (.dH (.and (.cmp .NotEq (.aa 5) (.ag (.int 0))) (.cmp .Eq (.aa 6) (.aa 3))) (.cons (.ret (.tup (.cons (.aa 5) (.cons (.aa 4) .nil)))) .nil) .nil) .nil)) (.cons (.ret (.ag .none)) .nil))
noncomputable abbrev lq : IR:= .cons (.asg (.aa 4) (.call "cut_name" (.ref 471) (.cons (.aa 2) .nil))) (.cons (.dH (.cmp .Eq (.call "len" (.builtin "len") (.cons (.aa 4) .nil)) (.ag (.int 0))) (.cons .fail .nil) .nil) (.cons (.asg (.aa 5) (.bin .Sub (.am (.aa 1) "size") (.bin .Mod (.am (.aa 1) "size") (.glob "ROW" (.int 16))))) (.cons (.fR true (.tup (.cons (.aa 6) (.cons (.aa 7) (.cons (.aa 8) .nil)))) (.rev (.aO (.aa 0) "all_rows" (.cons (.aa 1) .nil))) (.cons (.dH (.cmp .Eq (.aa 7) (.ag (.int 0))) (.cons (.asg (.aa 5) (.aa 6)) .nil) (.cons (.dH (.cmp .Eq (.aa 8) (.aa 4)) (.cons (.raise "BadCall" 88 "the name is there already") .nil) .nil) .nil)) .nil)) (.cons (.dH (.cmp .Lt (.aO (.aa 1) "write" (.cons (.aa 5) (.cons (.call "row_for" (.ref 485) (.cons (.aa 3) (.cons (.aa 4) .nil))) .nil))) (.glob "ROW" (.int 16))) (.cons (.raise "NoRoom" 76 "no block for a row of a directory") .nil) .nil) .nil))))
noncomputable abbrev jt : IR:= .cons (.expr (.aO (.aa 1) "write" (.cons (.aa 2) (.cons (.call "bytes" (.type "bytes") (.cons (.glob "ROW" (.int 16)) .nil)) .nil)))) .nil
noncomputable abbrev hM : IR:= .cons (.ret (.cmp .Eq (.comp ["name"] [none] false (.iter (.aO (.aa 0) "names" (.cons (.aa 1) .nil))) (.aa 0) (.cons (.cmp .NotIn (.aa 0) (.tup (.cons (.glob "HERE" (.bytes [46])) (.cons (.glob "ABOVE" (.bytes [46,46])) .nil)))) .nil) (.aa 0)) (.list .nil))) .nil
noncomputable abbrev jM : IR:= .cons (.asg (.am (.aa 0) "number") (.aa 1)) (.cons (.asg (.am (.aa 0) "data") (.call "bytearray" (.type "bytearray") (.cons (.aa 2) .nil))) (.cons (.asg (.am (.aa 0) "holders") (.ag (.int 0))) (.cons (.asg (.am (.aa 0) "pins") (.ag (.int 0))) .nil)))
noncomputable abbrev hV : IR:= .cons (.ret (.and (.cmp .Eq (.am (.aa 0) "holders") (.ag (.int 0))) (.cmp .Eq (.am (.aa 0) "pins") (.ag (.int 0))))) .nil
noncomputable abbrev iQ : IR:= .cons (.ret (.call "bytes" (.type "bytes") (.cons (.am (.aa 0) "data") .nil))) .nil
noncomputable abbrev jU : IR:= .cons (.dH (.cmp .NotEq (.call "len" (.builtin "len") (.cons (.aa 1) .nil)) (.call "len" (.builtin "len") (.cons (.am (.aa 0) "data") .nil))) (.cons .fail .nil) .nil) (.cons (.asg (.slice (.am (.aa 0) "data") .nil .nil) (.aa 1)) .nil)
noncomputable abbrev ju : IR:= .cons (.asg (.slice (.am (.aa 0) "data") .nil .nil) (.call "bytes" (.type "bytes") (.cons (.call "len" (.builtin "len") (.cons (.am (.aa 0) "data") .nil)) .nil))) .nil
noncomputable abbrev k7 : IR:= .cons (.dH (.cmp .Lt (.aa 2) (.ag (.int 1))) (.cons .fail .nil) .nil) (.cons (.asg (.am (.aa 0) "disk") (.aa 1)) (.cons (.asg (.am (.aa 0) "most") (.aa 2)) (.cons (.asg (.am (.aa 0) "size") (.am (.aa 1) "size")) (.cons (.asg (.am (.aa 0) "row") (.list .nil)) (.cons (.asg (.am (.aa 0) "by_number") .iT) (.cons (.asg (.am (.aa 0) "hits") (.ag (.int 0))) (.cons (.asg (.am (.aa 0) "reads") (.ag (.int 0))) (.cons (.asg (.am (.aa 0) "writes") (.ag (.int 0))) .nil))))))))
noncomputable abbrev gm : IR:= .cons (.dH (.or (.not (.iq "int" (.aa 1))) (.not (.ky .LtE .Lt (.ag (.int 0)) (.aa 1) (.am (.am (.aa 0) "disk") "blocks")))) (.cons .fail .nil) .nil) .nil
noncomputable abbrev gR : IR:= .cons (.dH (.or (.cmp .IsNot (.aO (.am (.aa 0) "by_number") "get" (.cons (.am (.aa 1) "number") .nil)) (.aa 1)) (.cmp .Eq (.am (.aa 1) "holders") (.ag (.int 0)))) (.cons .fail .nil) .nil) .nil
noncomputable abbrev mZ : IR:= .cons (.expr (.aO (.aa 0) "need_block" (.cons (.aa 1) .nil))) (.cons (.asg (.aa 2) (.aO (.am (.aa 0) "by_number") "get" (.cons (.aa 1) .nil))) (.cons (.dH (.cmp .Is (.aa 2) (.ag .none)) (.cons (.expr (.aO (.aa 0) "make_room" .nil)) (.cons (.asg (.aa 2) (.call "Buffer" (.ref 757) (.cons (.aa 1) (.cons (.aO (.am (.aa 0) "disk") "read" (.cons (.aa 1) .nil)) .nil)))) (.cons (.aug (.aa 0) "reads" .Add (.ag (.int 1))) (.cons (.asg (.item (.am (.aa 0) "by_number") (.aa 1)) (.aa 2)) (.cons (.expr (.aO (.am (.aa 0) "row") "append" (.cons (.aa 2) .nil))) .nil))))) (.cons (.aug (.aa 0) "hits" .Add (.ag (.int 1))) .nil)) (.cons (.aug (.aa 2) "holders" .Add (.ag (.int 1))) (.cons (.ret (.aa 2)) .nil))))
noncomputable abbrev gN : IR:= .cons (.dH (.cmp .Lt (.call "len" (.builtin "len") (.cons (.am (.aa 0) "row") .nil)) (.am (.aa 0) "most")) (.cons .A5 .nil) .nil) (.cons (.fR true (.tup (.cons (.aa 1) (.cons (.aa 2) .nil))) (.enum (.am (.aa 0) "row")) (.cons (.dH (.aO (.aa 2) "is_free" .nil) (.cons (.del (.am (.aa 0) "by_number") (.am (.aa 2) "number")) (.cons (.del (.am (.aa 0) "row") (.aa 1)) (.cons .A5 .nil))) .nil) .nil)) (.cons .fail .nil))
noncomputable abbrev iz : IR:= .cons (.expr (.aO (.aa 0) "need_held" (.cons (.aa 1) .nil))) (.cons (.aug (.aa 1) "holders" .Sub (.ag (.int 1))) (.cons (.dH (.cmp .Eq (.am (.aa 1) "holders") (.ag (.int 0))) (.cons (.expr (.aO (.am (.aa 0) "row") "remove" (.cons (.aa 1) .nil))) (.cons (.expr (.aO (.am (.aa 0) "row") "append" (.cons (.aa 1) .nil))) .nil)) .nil) .nil))
noncomputable abbrev nS : IR:= .cons (.expr (.aO (.aa 0) "need_held" (.cons (.aa 1) .nil))) (.cons (.aug (.aa 1) "pins" .Add (.ag (.int 1))) .nil)
noncomputable abbrev ko : IR:= .cons (.asg (.aa 2) (.aO (.am (.aa 0) "by_number") "get" (.cons (.aa 1) .nil))) (.cons (.dH (.or (.cmp .Is (.aa 2) (.ag .none)) (.cmp .Eq (.am (.aa 2) "pins") (.ag (.int 0)))) (.cons .fail .nil) .nil) (.cons (.aug (.aa 2) "pins" .Sub (.ag (.int 1))) .nil))
noncomputable abbrev jT : IR:= .cons (.expr (.aO (.aa 0) "need_held" (.cons (.aa 1) .nil))) (.cons (.expr (.aO (.am (.aa 0) "disk") "write" (.cons (.am (.aa 1) "number") (.cons (.aO (.aa 1) "octets" .nil) .nil)))) (.cons (.aug (.aa 0) "writes" .Add (.ag (.int 1))) .nil))
noncomputable abbrev jZ : IR:= .cons (.expr (.aO (.am (.aa 0) "disk") "flush" .nil)) .nil
noncomputable abbrev ls : IR:= .cons (.asg (.aa 2) (.aO (.aa 0) "get" (.cons (.aa 1) .nil))) (.cons (.asg (.aa 3) (.aO (.aa 2) "octets" .nil)) (.cons (.expr (.aO (.aa 0) "release" (.cons (.aa 2) .nil))) (.cons (.ret (.aa 3)) .nil)))
noncomputable abbrev kZ : IR:= .cons (.asg (.aa 3) (.aO (.aa 0) "get" (.cons (.aa 1) .nil))) (.cons (.expr (.aO (.aa 3) "fill" (.cons (.aa 2) .nil))) (.cons (.expr (.aO (.aa 0) "write" (.cons (.aa 3) .nil))) (.cons (.expr (.aO (.aa 0) "release" (.cons (.aa 3) .nil))) .nil)))
noncomputable abbrev mK : IR:= .cons (.dH (.or (.cmp .Lt (.aa 1) (.ag (.int 1))) (.cmp .Lt (.aa 2) (.ag (.int 1)))) (.cons .fail .nil) .nil) (.cons (.asg (.am (.aa 0) "blocks") (.aa 1)) (.cons (.asg (.am (.aa 0) "size") (.aa 2)) (.cons (.asg (.am (.aa 0) "kept") .iT) (.cons (.asg (.am (.aa 0) "latest") .iT) (.cons (.asg (.am (.aa 0) "unflushed") (.list .nil)) (.cons (.asg (.am (.aa 0) "writes") (.ag (.int 0))) (.cons (.asg (.am (.aa 0) "flushes") (.ag (.int 0))) (.cons (.asg (.am (.aa 0) "last") (.ag .none)) (.cons (.asg (.am (.aa 0) "last_flush") (.ag .none)) (.cons (.asg (.am (.aa 0) "is_dead") (.ag (.bool false))) .nil))))))))))
noncomputable abbrev gQ : IR:= .cons (.dH (.am (.aa 0) "is_dead") (.cons .fail .nil) .nil) .nil
noncomputable abbrev gH : IR:= .cons (.dH (.or (.not (.iq "int" (.aa 1))) (.not (.ky .LtE .Lt (.ag (.int 0)) (.aa 1) (.am (.aa 0) "blocks")))) (.cons .fail .nil) .nil) .nil
noncomputable abbrev mT : IR:= .cons (.expr (.aO (.aa 0) "need_power" .nil)) (.cons (.expr (.aO (.aa 0) "need_block" (.cons (.aa 1) .nil))) (.cons (.ret (.aO (.am (.aa 0) "latest") "get" (.cons (.aa 1) (.cons (.call "bytes" (.type "bytes") (.cons (.am (.aa 0) "size") .nil)) .nil)))) .nil))
noncomputable abbrev k8 : IR:= .cons (.expr (.aO (.aa 0) "need_power" .nil)) (.cons (.expr (.aO (.aa 0) "need_block" (.cons (.aa 1) .nil))) (.cons (.dH (.cmp .NotEq (.call "len" (.builtin "len") (.cons (.aa 2) .nil)) (.am (.aa 0) "size")) (.cons .fail .nil) .nil) (.cons (.dH (.and (.cmp .IsNot (.am (.aa 0) "last") (.ag .none)) (.cmp .GtE (.am (.aa 0) "writes") (.am (.aa 0) "last"))) (.cons .fail .nil) .nil) (.cons (.aug (.aa 0) "writes" .Add (.ag (.int 1))) (.cons (.asg (.item (.am (.aa 0) "latest") (.aa 1)) (.call "bytes" (.type "bytes") (.cons (.aa 2) .nil))) (.cons (.expr (.aO (.am (.aa 0) "unflushed") "append" (.cons (.tup (.cons (.aa 1) (.cons (.call "bytes" (.type "bytes") (.cons (.aa 2) .nil)) .nil))) .nil))) .nil))))))
noncomputable abbrev lA : IR:= .cons (.expr (.aO (.aa 0) "need_power" .nil)) (.cons (.dH (.and (.cmp .IsNot (.am (.aa 0) "last_flush") (.ag .none)) (.cmp .GtE (.am (.aa 0) "flushes") (.am (.aa 0) "last_flush"))) (.cons .fail .nil) .nil) (.cons (.aug (.aa 0) "flushes" .Add (.ag (.int 1))) (.cons (.fR true (.tup (.cons (.aa 1) (.cons (.aa 2) .nil))) (.iter (.am (.aa 0) "unflushed")) (.cons (.asg (.item (.am (.aa 0) "kept") (.aa 1)) (.aa 2)) .nil)) (.cons (.asg (.am (.aa 0) "unflushed") (.list .nil)) .nil))))
noncomputable abbrev lh : IR:= .cons (.asg (.aa 2) (.call "Disk" (.ref 972) (.cons (.am (.aa 0) "blocks") (.cons (.am (.aa 0) "size") .nil)))) (.cons (.asg (.am (.aa 2) "kept") (.call "dict" (.type "dict") (.cons (.am (.aa 0) "kept") .nil))) (.cons (.fR false (.aa 3) (.iter (.aa 1)) (.cons (.dH (.not (.ky .LtE .Lt (.ag (.int 0)) (.aa 3) (.call "len" (.builtin "len") (.cons (.am (.aa 0) "unflushed") .nil)))) (.cons .fail .nil) .nil) .nil)) (.cons (.fR true (.tup (.cons (.aa 3) (.cons (.tup (.cons (.aa 4) (.cons (.aa 5) .nil))) .nil))) (.enum (.am (.aa 0) "unflushed")) (.cons (.dH (.cmp .In (.aa 3) (.aa 1)) (.cons (.asg (.item (.am (.aa 2) "kept") (.aa 4)) (.aa 5)) .nil) .nil) .nil)) (.cons (.asg (.am (.aa 2) "latest") (.call "dict" (.type "dict") (.cons (.am (.aa 2) "kept") .nil))) (.cons (.ret (.aa 2)) .nil)))))
noncomputable abbrev mQ : IR:= .cons (.ret (.aO (.aa 0) "after" (.cons (.mz (.call "len" (.builtin "len") (.cons (.am (.aa 0) "unflushed") .nil))) .nil))) .nil
noncomputable abbrev jX : IR:= .cons (.dH (.cmp .Gt (.bin .Mult (.glob "NUMBER" (.int 4)) (.bin .Add (.call "len" (.builtin "len") (.cons (.aa 0) .nil)) (.ag (.int 1)))) (.aa 1)) (.cons .fail .nil) .nil) (.cons (.asg (.aa 2) (.call "bytearray" (.type "bytearray") .nil)) (.cons (.fR false (.aa 3) (.iter (.bin .Add (.list (.cons (.call "len" (.builtin "len") (.cons (.aa 0) .nil)) .nil)) (.call "list" (.type "list") (.cons (.aa 0) .nil)))) (.cons (.expr (.aO (.aa 2) "extend" (.cons (.call "bytes" (.type "bytes") (.cons (.comp ["at", "value"] [none,some 3] false (.range (.cons (.glob "NUMBER" (.int 4)) .nil)) (.aa 0) .nil (.bin .BitAnd (.bin .RShift (.aa 1) (.bin .Mult (.ag (.int 8)) (.aa 0))) (.ag (.int 255)))) .nil)) .nil))) .nil)) (.cons (.ret (.bin .Add (.call "bytes" (.type "bytes") (.cons (.aa 2) .nil)) (.call "bytes" (.type "bytes") (.cons (.bin .Sub (.aa 1) (.call "len" (.builtin "len") (.cons (.aa 2) .nil))) .nil)))) .nil)))
noncomputable abbrev jm : IR:= .cons (.dH (.or (.cmp .Lt (.aa 2) (.ag (.int 0))) (.or (.cmp .Lt (.aa 3) (.ag (.int 2))) (.cmp .Gt (.bin .Add (.aa 2) (.aa 3)) (.am (.am (.aa 1) "disk") "blocks")))) (.cons .fail .nil) .nil) (.cons (.asg (.am (.aa 0) "cache") (.aa 1)) (.cons (.asg (.am (.aa 0) "start") (.aa 2)) (.cons (.asg (.am (.aa 0) "size") (.aa 3)) (.cons (.asg (.am (.aa 0) "places") (.call "min" (.builtin "min") (.cons (.bin .Sub (.aa 3) (.ag (.int 1))) (.cons (.bin .Sub (.bin .FloorDiv (.am (.aa 1) "size") (.glob "NUMBER" (.int 4))) (.ag (.int 1))) .nil)))) (.cons (.asg (.am (.aa 0) "most") (.call "min" (.builtin "min") (.cons (.am (.aa 0) "places") (.cons (.bin .Sub (.am (.aa 1) "most") (.glob "SPARE" (.int 4))) .nil)))) (.cons (.dH (.cmp .Lt (.am (.aa 0) "most") (.ag (.int 1))) (.cons .fail .nil) .nil) (.cons (.asg (.am (.aa 0) "each") (.ite (.cmp .Is (.aa 4) (.ag .none)) (.call "min" (.builtin "min") (.cons (.glob "MOST_EACH" (.int 10)) (.cons (.am (.aa 0) "most") .nil))) (.aa 4))) (.cons (.dH (.not (.ky .LtE .LtE (.ag (.int 1)) (.am (.aa 0) "each") (.am (.aa 0) "most"))) (.cons .fail .nil) .nil) (.cons (.asg (.am (.aa 0) "numbers") (.list .nil)) (.cons (.asg (.am (.aa 0) "noted") .iT) (.cons (.asg (.am (.aa 0) "calls") (.ag (.int 0))) (.cons (.asg (.am (.aa 0) "commits") (.ag (.int 0))) .nil))))))))))))
noncomputable abbrev hJ : IR:= .cons (.ret (.ky .LtE .Lt (.am (.aa 0) "start") (.aa 1) (.bin .Add (.am (.aa 0) "start") (.am (.aa 0) "size")))) .nil
noncomputable abbrev gj : IR:= .cons (.ret (.cmp .LtE (.bin .Add (.call "len" (.builtin "len") (.cons (.am (.aa 0) "numbers") .nil)) (.bin .Mult (.bin .Add (.am (.aa 0) "calls") (.ag (.int 1))) (.am (.aa 0) "each"))) (.am (.aa 0) "most"))) .nil
noncomputable abbrev jn : IR:= .cons (.ret (.bin .Sub (.am (.aa 0) "most") (.call "len" (.builtin "len") (.cons (.am (.aa 0) "numbers") .nil)))) .nil
noncomputable abbrev iO : IR:= .cons (.dH (.not (.aO (.aa 0) "has_room" .nil)) (.cons .fail .nil) .nil) (.cons (.aug (.aa 0) "calls" .Add (.ag (.int 1))) .nil)
noncomputable abbrev iM : IR:= .cons (.dH (.cmp .Eq (.am (.aa 0) "calls") (.ag (.int 0))) (.cons .fail .nil) .nil) (.cons (.dH (.aO (.aa 0) "is_own" (.cons (.am (.aa 1) "number") .nil)) (.cons .fail .nil) .nil) (.cons (.dH (.cmp .In (.am (.aa 1) "number") (.am (.aa 0) "noted")) (.cons (.expr (.aO (.am (.aa 0) "cache") "need_held" (.cons (.aa 1) .nil))) (.cons .A5 .nil)) .nil) (.cons (.dH (.cmp .GtE (.call "len" (.builtin "len") (.cons (.am (.aa 0) "numbers") .nil)) (.am (.aa 0) "most")) (.cons .fail .nil) .nil) (.cons (.expr (.aO (.am (.aa 0) "cache") "pin" (.cons (.aa 1) .nil))) (.cons (.asg (.item (.am (.aa 0) "noted") (.am (.aa 1) "number")) (.call "len" (.builtin "len") (.cons (.am (.aa 0) "numbers") .nil))) (.cons (.expr (.aO (.am (.aa 0) "numbers") "append" (.cons (.am (.aa 1) "number") .nil))) .nil))))))
noncomputable abbrev jO : IR:= .cons (.dH (.cmp .Eq (.am (.aa 0) "calls") (.ag (.int 0))) (.cons .fail .nil) .nil) (.cons (.aug (.aa 0) "calls" .Sub (.ag (.int 1))) (.cons (.dH (.and (.cmp .Eq (.am (.aa 0) "calls") (.ag (.int 0))) (.cmp .NotEq (.am (.aa 0) "numbers") (.list .nil))) (.cons (.expr (.aO (.aa 0) "commit" .nil)) .nil) .nil) .nil))
noncomputable abbrev g0 : IR:= .cons (.expr (.aO (.aa 0) "fill_log" .nil)) (.cons (.expr (.aO (.aa 0) "write_head" (.cons (.am (.aa 0) "numbers") .nil))) (.cons (.expr (.aO (.aa 0) "install" (.cons (.am (.aa 0) "numbers") (.cons (.ag (.bool false)) .nil)))) (.cons (.expr (.aO (.aa 0) "write_head" (.cons (.list .nil) .nil))) (.cons (.fR false (.aa 1) (.iter (.am (.aa 0) "numbers")) (.cons (.expr (.aO (.am (.aa 0) "cache") "unpin" (.cons (.aa 1) .nil))) .nil)) (.cons (.asg (.am (.aa 0) "numbers") (.list .nil)) (.cons (.asg (.am (.aa 0) "noted") .iT) (.cons (.aug (.aa 0) "commits" .Add (.ag (.int 1))) .nil)))))))
noncomputable abbrev go : IR:= .cons (.fR true (.tup (.cons (.aa 1) (.cons (.aa 2) .nil))) (.enum (.am (.aa 0) "numbers")) (.cons (.expr (.aO (.am (.aa 0) "cache") "poke" (.cons (.bin .Add (.bin .Add (.am (.aa 0) "start") (.ag (.int 1))) (.aa 1)) (.cons (.aO (.am (.aa 0) "cache") "peek" (.cons (.aa 2) .nil)) .nil)))) .nil)) (.cons (.expr (.aO (.am (.aa 0) "cache") "flush" .nil)) .nil)
noncomputable abbrev fG : IR:= .cons (.expr (.aO (.am (.aa 0) "cache") "poke" (.cons (.am (.aa 0) "start") (.cons (.call "packed_head" (.ref 981) (.cons (.aa 1) (.cons (.am (.am (.aa 0) "cache") "size") .nil))) .nil)))) (.cons (.expr (.aO (.am (.aa 0) "cache") "flush" .nil)) .nil)
noncomputable abbrev gJ : IR:= .cons (.fR true (.tup (.cons (.aa 3) (.cons (.aa 4) .nil))) (.enum (.aa 1)) (.cons (.asg (.aa 5) (.aO (.am (.aa 0) "cache") "peek" (.cons (.ite (.aa 2) (.bin .Add (.bin .Add (.am (.aa 0) "start") (.ag (.int 1))) (.aa 3)) (.aa 4)) .nil))) (.cons (.expr (.aO (.am (.aa 0) "cache") "poke" (.cons (.aa 4) (.cons (.aa 5) .nil)))) .nil))) (.cons (.expr (.aO (.am (.aa 0) "cache") "flush" .nil)) .nil)
noncomputable abbrev pa : IR:= .cons (.asg (.aa 1) (.call "Disk" (.ref 972) (.cons (.am (.aa 0) "blocks") (.cons (.ag (.int 64)) .nil)))) (.cons (.expr (.aO (.aa 1) "write" (.cons (.ag (.int 1)) (.cons (.aO (.aa 0) "octets" .nil) .nil)))) (.cons (.asg (.aa 2) (.call "sum" (.builtin "sum") (.cons (.comp ["one"] [none] false (.range (.cons (.am (.aa 0) "data_start") .nil)) (.aa 0) .nil (.bin .LShift (.ag (.int 1)) (.aa 0))) .nil))) (.cons (.expr (.aO (.aa 1) "write" (.cons (.am (.aa 0) "bitmap_start") (.cons (.call "bytes" (.type "bytes") (.cons (.comp ["at", "bits"] [none,some 2] false (.range (.cons (.ag (.int 64)) .nil)) (.aa 0) .nil (.bin .BitAnd (.bin .RShift (.aa 1) (.bin .Mult (.ag (.int 8)) (.aa 0))) (.ag (.int 255)))) .nil)) .nil)))) (.cons (.expr (.aO (.aa 1) "flush" .nil)) (.cons (.ret (.aa 1)) .nil)))))
noncomputable abbrev o7 : IR:= .cons (.expr (.aO (.am (.am (.aa 0) "nodes") "journal") "begin" .nil)) (.cons (.asg (.aa 1) (.aO (.am (.aa 0) "nodes") "allocate" (.cons (.glob "DIRECTORY" (.int 1)) .nil))) (.cons (.asg (.am (.aa 1) "links") (.ag (.int 1))) (.cons (.expr (.aO (.aa 1) "update" .nil)) (.cons (.expr (.aO (.aa 0) "link" (.cons (.aa 1) (.cons (.ag (.bytes [46])) (.cons (.ag (.int 1)) .nil))))) (.cons (.expr (.aO (.aa 0) "link" (.cons (.aa 1) (.cons (.ag (.bytes [46,46])) (.cons (.ag (.int 1)) .nil))))) (.cons (.expr (.aO (.am (.am (.aa 0) "nodes") "journal") "end" .nil)) (.cons (.ret (.aa 1)) .nil)))))))
noncomputable abbrev oY : IR:= .cons (.ret (.bin .Add (.call "bytes" (.type "bytes") (.cons (.list (.cons (.bin .Add (.ag (.int 97)) (.aa 0)) .nil)) .nil)) (.bin .Mult (.ag (.bytes [46])) (.bin .Mod (.bin .Mult (.aa 0) (.ag (.int 5))) (.ag (.int 14)))))) .nil
noncomputable abbrev i5 : IR:= .cons (.dH (.cmp .In (.aa 1) (.item (.aa 0) (.ag (.str "blocks")))) (.cons (.ret (.ag (.bool true))) .nil) .nil) (.cons (.dH (.and (.cmp .Gt (.aa 1) (.ag (.int 1))) (.not (.item (.aa 0) (.ag (.str "names"))))) (.cons (.dH (.cmp .Eq (.item (.aa 0) (.ag (.str "free"))) (.ag (.int 0))) (.cons (.ret (.ag (.bool false))) .nil) .nil) (.cons (.asg (.tup (.cons (.item (.aa 0) (.ag (.str "free"))) (.cons (.item (.aa 0) (.ag (.str "names"))) .nil))) (.tup (.cons (.bin .Sub (.item (.aa 0) (.ag (.str "free"))) (.ag (.int 1))) (.cons (.ag (.bool true)) .nil)))) (.cons (.expr (.aO (.aa 2) "append" (.cons (.ag (.str "bits")) .nil))) (.cons (.expr (.aO (.aa 2) "append" (.cons (.ag (.str "names")) .nil))) .nil)))) .nil) (.cons (.dH (.cmp .Eq (.item (.aa 0) (.ag (.str "free"))) (.ag (.int 0))) (.cons (.ret (.ag (.bool false))) .nil) .nil) (.cons (.asg (.item (.aa 0) (.ag (.str "free"))) (.bin .Sub (.item (.aa 0) (.ag (.str "free"))) (.ag (.int 1)))) (.cons (.expr (.aO (.item (.aa 0) (.ag (.str "blocks"))) "append" (.cons (.aa 1) .nil))) (.cons (.expr (.aO (.aa 2) "append" (.cons (.ag (.str "bits")) .nil))) (.cons (.dH (.cmp .Gt (.aa 1) (.ag (.int 1))) (.cons (.expr (.aO (.aa 2) "append" (.cons (.ag (.str "names")) .nil))) .nil) .nil) (.cons (.ret (.ag (.bool true))) .nil)))))))
noncomputable abbrev ja : IR:= .cons (.dH (.cmp .In (.aa 1) (.item (.aa 0) (.ag (.str "slots")))) (.cons (.ret (.ag (.str "there"))) .nil) .nil) (.cons (.asg (.aa 3) (.ite (.cmp .In (.ag .none) (.item (.aa 0) (.ag (.str "slots")))) (.aO (.item (.aa 0) (.ag (.str "slots"))) "index" (.cons (.ag .none) .nil)) (.call "len" (.builtin "len") (.cons (.item (.aa 0) (.ag (.str "slots"))) .nil)))) (.cons (.asg (.aa 4) (.and (.cmp .LtE (.mx (.aa 2)) (.ag (.int 5))) (.call "_law_block" (.ref 1113) (.cons (.aa 0) (.cons (.bin .FloorDiv (.aa 3) (.ag (.int 4))) (.cons (.aa 2) .nil)))))) (.cons (.expr (.aO (.aa 2) "append" (.cons (.ag (.str "row")) .nil))) (.cons (.dH (.not (.aa 4)) (.cons (.ret (.ag (.str "room"))) .nil) .nil) (.cons (.expr (.aO (.aa 2) "append" (.cons (.bin .FloorDiv (.aa 3) (.ag (.int 4))) .nil))) (.cons (.asg (.item (.aa 0) (.ag (.str "slots"))) (.bin .Add (.bin .Add (.slice (.item (.aa 0) (.ag (.str "slots"))) .nil (.aa 3)) (.list (.cons (.aa 1) .nil))) (.slice (.item (.aa 0) (.ag (.str "slots"))) (.bin .Add (.aa 3) (.ag (.int 1))) .nil))) (.cons (.ret (.ag (.str "done"))) .nil)))))))
noncomputable abbrev pk : IR:= .cons (.DZ [("BadCall",88, .str "there"),("NoRoom",76, .str "room")] (.cons (.expr (.aO (.aa 0) "link" (.cons (.aa 1) (.cons (.aa 2) (.cons (.aa 3) .nil))))) .nil)) (.cons (.ret (.ag (.str "done"))) .nil)
noncomputable abbrev fv : IR:= .cons (.asg (.tup (.cons (.aa 4) (.cons (.aa 5) .nil))) (.tup (.cons (.bin .Mod (.bin .FloorDiv (.aa 3) (.ag (.int 3))) (.ag (.int 20))) (.cons (.list .nil) .nil)))) (.cons (.expr (.aO (.am (.am (.aa 0) "nodes") "journal") "begin" .nil)) (.cons (.dH (.cmp .Eq (.bin .Mod (.aa 3) (.ag (.int 3))) (.ag (.int 2))) (.cons (.asg (.aa 6) (.call "_law_name" (.ref 1106) (.cons (.aa 4) .nil))) (.cons (.asg (.aa 7) (.aO (.aa 0) "look" (.cons (.aa 1) (.cons (.aa 6) .nil)))) (.cons (.asg (.aa 8) (.cmp .Eq (.aa 7) (.ite (.cmp .In (.aa 6) (.item (.aa 2) (.ag (.str "slots")))) (.tup (.cons (.bin .Add (.ag (.int 2)) (.aa 4)) (.cons (.bin .Mult (.ag (.int 16)) (.aO (.item (.aa 2) (.ag (.str "slots"))) "index" (.cons (.aa 6) .nil))) .nil))) (.ag .none)))) (.cons (.dH (.and (.cmp .IsNot (.aa 7) (.ag .none)) (.aa 8)) (.cons (.expr (.aO (.aa 0) "unlink" (.cons (.aa 1) (.cons (.item (.aa 7) (.ag (.int 1))) .nil)))) (.cons (.asg (.item (.item (.aa 2) (.ag (.str "slots"))) (.aO (.item (.aa 2) (.ag (.str "slots"))) "index" (.cons (.aa 6) .nil))) (.ag .none)) .nil)) .nil) .nil)))) (.cons (.asg (.aa 9) (.comp ["k", "first"] [none,some 4] false (.range (.cons (.bin .Add (.ag (.int 1)) (.bin .Mod (.bin .FloorDiv (.aa 3) (.ag (.int 60))) (.ag (.int 3)))) .nil)) (.aa 0) .nil (.bin .Mod (.bin .Add (.aa 1) (.aa 0)) (.ag (.int 20))))) (.cons (.asg (.aa 10) (.comp ["k", "paths", "root"] [none,some 0,some 1] false (.iter (.aa 9)) (.aa 0) .nil (.call "_law_link" (.ref 1127) (.cons (.aa 1) (.cons (.aa 2) (.cons (.call "_law_name" (.ref 1106) (.cons (.aa 0) .nil)) (.cons (.bin .Add (.ag (.int 2)) (.aa 0)) .nil))))))) (.cons (.asg (.aa 8) (.cmp .Eq (.aa 10) (.comp ["k", "own", "noted"] [none,some 2,some 5] false (.iter (.aa 9)) (.aa 0) .nil (.call "_law_given" (.ref 1120) (.cons (.aa 1) (.cons (.call "_law_name" (.ref 1106) (.cons (.aa 0) .nil)) (.cons (.aa 2) .nil))))))) .nil)))) (.cons (.expr (.aO (.am (.am (.aa 0) "nodes") "journal") "end" .nil)) (.cons (.ret (.aa 8)) .nil))))
noncomputable abbrev oS : IR:= .cons (.asg (.aa 3) (.item (.aa 2) (.ag (.str "slots")))) (.cons (.asg (.aa 4) (.comp ["at", "slots", "own"] [none,some 3,some 2] false (.range (.cons (.call "len" (.builtin "len") (.cons (.aa 3) .nil)) .nil)) (.aa 0) .nil (.tup (.cons (.bin .Mult (.ag (.int 16)) (.aa 0)) (.cons (.ite (.cmp .Is (.item (.aa 1) (.aa 0)) (.ag .none)) (.ag (.int 0)) (.aO (.item (.aa 2) (.ag (.str "numbers"))) "get" (.cons (.item (.aa 1) (.aa 0)) (.cons (.ag (.int 1)) .nil)))) (.cons (.or (.item (.aa 1) (.aa 0)) (.ag (.bytes []))) .nil)))))) (.cons (.dH (.or (.cmp .NotEq (.aO (.aa 0) "all_rows" (.cons (.aa 1) .nil)) (.aa 4)) (.cmp .NotEq (.am (.aa 1) "size") (.bin .Mult (.ag (.int 16)) (.call "len" (.builtin "len") (.cons (.aa 3) .nil))))) (.cons (.ret (.ag (.bool false))) .nil) .nil) (.cons (.dH (.or (.cmp .NotEq (.aO (.aa 0) "names" (.cons (.aa 1) .nil)) (.comp ["name"] [none] false (.iter (.aa 3)) (.aa 0) (.cons (.cmp .IsNot (.aa 0) (.ag .none)) .nil) (.aa 0))) (.cmp .NotEq (.aO (.aa 0) "is_empty" (.cons (.aa 1) .nil)) (.cmp .Eq (.aO (.aa 3) "count" (.cons (.ag .none) .nil)) (.bin .Sub (.call "len" (.builtin "len") (.cons (.aa 3) .nil)) (.ag (.int 2)))))) (.cons (.ret (.ag (.bool false))) .nil) .nil) (.cons (.ret (.cmp .Eq (.aO (.am (.aa 0) "nodes") "free_blocks" .nil) (.item (.aa 2) (.ag (.str "free"))))) .nil))))
noncomputable abbrev ug : IR:= .cons (.asg (.aa 1) (.ite (.cmp .Eq (.aa 0) (.list .nil)) (.list (.cons (.ag (.int 0)) .nil)) (.comp ["n"] [none] false (.iter (.slice (.aa 0) .nil (.ag (.int 4)))) (.aa 0) .nil (.bin .Mod (.call "abs" (.builtin "abs") (.cons (.aa 0) .nil)) (.bin .Pow (.ag (.int 10)) (.ag (.int 12))))))) (.cons (.asg (.aa 2) (.bin .Add (.ag (.int 2)) (.bin .Mod (.call "sum" (.builtin "sum") (.cons (.aa 1) .nil)) (.ag (.int 5))))) (.cons (.asg (.aa 3) (.call "Super" (.ref 204) (.cons (.ag (.int 64)) (.cons (.bin .Add (.ag (.int 15)) (.aa 2)) (.cons (.ag (.int 4)) (.cons (.ag (.int 10)) (.cons (.ag (.int 2)) .nil))))))) (.cons (.asg (.aa 4) (.call "_law_disk" (.ref 1092) (.cons (.aa 3) .nil))) (.cons (.asg (.aa 5) (.call "Paths" (.ref 659) (.cons (.call "Nodes" (.ref 453) (.cons (.call "Journal" (.ref 1083) (.cons (.call "Cache" (.ref 874) (.cons (.aa 4) (.cons (.ag (.int 14)) .nil))) (.cons (.ag (.int 2)) (.cons (.ag (.int 10)) .nil)))) (.cons (.aa 3) .nil))) .nil))) (.cons (.asg (.aa 6) (.call "_law_root" (.ref 1099) (.cons (.aa 5) .nil))) (.cons (.asg (.aa 7) (.dD ["slots", "blocks", "names", "free"] (.cons (.list (.cons (.ag (.bytes [46])) (.cons (.ag (.bytes [46,46])) .nil))) (.cons (.list (.cons (.ag (.int 0)) .nil)) (.cons (.ag (.bool false)) (.cons (.bin .Sub (.aa 2) (.ag (.int 1))) .nil)))))) (.cons (.asg (.item (.aa 7) (.ag (.str "numbers"))) (.pq (.comp ["k"] [none] false (.range (.cons (.ag (.int 20)) .nil)) (.aa 0) .nil (.tup (.cons (.call "_law_name" (.ref 1106) (.cons (.aa 0) .nil)) (.cons (.bin .Add (.ag (.int 2)) (.aa 0)) .nil)))))) (.cons (.fR false (.aa 8) (.iter (.aa 1)) (.cons (.dH (.or (.not (.call "_law_call_right" (.ref 1132) (.cons (.aa 5) (.cons (.aa 6) (.cons (.aa 7) (.cons (.aa 8) .nil)))))) (.not (.call "_law_same" (.ref 1137) (.cons (.aa 5) (.cons (.aa 6) (.cons (.aa 7) .nil)))))) (.cons (.ret (.ag (.bool false))) .nil) .nil) .nil)) (.cons (.asg (.aa 9) (.call "Paths" (.ref 659) (.cons (.call "Nodes" (.ref 453) (.cons (.call "Journal" (.ref 1083) (.cons (.call "Cache" (.ref 874) (.cons (.aO (.aa 4) "copy" .nil) (.cons (.ag (.int 14)) .nil))) (.cons (.ag (.int 2)) (.cons (.ag (.int 10)) .nil)))) (.cons (.aa 3) .nil))) .nil))) (.cons (.ret (.call "_law_same" (.ref 1137) (.cons (.aa 9) (.cons (.aO (.aa 9) "root" .nil) (.cons (.aa 7) .nil))))) .nil))))))))))
noncomputable def Ar : List (Addr×Nat×Nat×List MV×IR):=[(116,2,2,[],ri),(123,2,2,[],qV),(130,3,3,[],o0),(137,3,3,[],o6),(144,2,2,[],lC),(159,6,6,[.int 12],la),(166,1,1,[],f7),(173,1,1,[],gL),(180,1,2,[],jS),(187,1,4,[],jE),(194,2,2,[],jD),(201,2,3,[],jC),(222,3,3,[],nO),(229,1,1,[],ga),(234,4,4,[],iG),(241,3,5,[],jv),(255,3,3,[],nh),(262,3,3,[],lj),(276,1,1,[],jQ),(311,3,3,[],kW),(318,2,2,[],fW),(325,2,6,[],iR),(332,2,6,[],mI),(340,4,6,[.int 0, .int 0],g7),(347,2,5,[],jF),(375,1,7,[],gi),(382,4,7,[],gZ),(389,2,3,[],fV),(403,1,7,[],f9),(410,4,5,[],fj),(417,4,6,[],fY),(424,4,10,[],kY),(431,4,6,[],kc),(438,5,9,[],gk),(464,1,1,[],mW),(471,1,1,[],oV),(485,2,3,[],qj),(492,1,3,[],qB),(506,2,2,[],k9),(513,1,1,[],lz),(520,2,2,[],fg),(527,2,6,[],g8),(532,2,2,[],kn),(539,3,7,[],lc),(546,4,9,[],lq),(553,3,3,[],jt),(558,2,2,[],hM),(677,3,3,[],jM),(684,1,1,[],hV),(691,1,1,[],iQ),(719,2,2,[],jU),(726,1,1,[],ju),(775,3,3,[],k7),(782,2,2,[],gm),(789,2,2,[],gR),(796,2,3,[],mZ),(803,1,3,[],gN),(810,2,2,[],iz),(817,2,2,[],nS),(824,2,3,[],ko),(831,2,2,[],jT),(838,1,1,[],jZ),(845,2,4,[],ls),(852,3,4,[],kZ),(892,3,3,[],mK),(899,1,1,[],gQ),(906,2,2,[],gH),(913,2,2,[],mT),(920,3,3,[],k8),(934,1,3,[],lA),(955,2,6,[],lh),(962,1,1,[],mQ),(981,2,4,[],jX),(996,5,5,[.none],jm),(1003,2,2,[],hJ),(1010,1,1,[],gj),(1017,1,1,[],jn),(1024,1,1,[],iO),(1031,2,2,[],iM),(1038,1,1,[],jO),(1045,1,2,[],g0),(1052,1,3,[],go),(1059,2,2,[],fG),(1066,3,6,[],gJ),(1092,1,3,[],pa),(1099,1,2,[],o7),(1106,1,1,[],oY),(1113,3,3,[],i5),(1120,3,5,[],ja),(1127,4,4,[],pk),(1132,4,11,[],fv),(1137,3,5,[],oS),(1142,1,10,[],ug)]
noncomputable def GI : List (Addr×List (String×Addr)):=[(204,[("most_blocks",166),("most_size",173),("words",180),("octets",187),("row_of",194),("bit_of",201)]),(293,[("is_directory",229),("take_row",234),("put_row",241),("read",255),("write",262),("update",276)]),(453,[("need_number",318),("kind_at",325),("get",332),("allocate",340),("update",347),("take_block",375),("free_bit",382),("clear_block",389),("free_blocks",403),("block_of",410),("named_block",417),("read",424),("write",431),("write_part",438)]),(659,[("root",513),("need_directory",520),("all_rows",527),("names",532),("look",539),("link",546),("unlink",553),("is_empty",558)]),(757,[("is_free",684),("octets",691),("fill",719),("clear",726)]),(874,[("need_block",782),("need_held",789),("get",796),("make_room",803),("release",810),("pin",817),("unpin",824),("write",831),("flush",838),("peek",845),("poke",852)]),(972,[("need_power",899),("need_block",906),("read",913),("write",920),("flush",934),("after",955),("copy",962)]),(1083,[("is_own",1003),("has_room",1010),("left",1017),("begin",1024),("write",1031),("end",1038),("commit",1045),("fill_log",1052),("write_head",1059),("install",1066)])]
noncomputable def attrL : List (Addr×List String):=[(204,["block", "blocks", "inodes", "log", "direct", "row", "rows", "indirect", "log_start", "inode_start", "bitmap_start", "data_start"]),(293,["nodes", "number", "holders", "kind", "major", "minor", "links", "size", "places"]),(453,["journal", "cache", "super", "table"]),(659,["nodes"]),(757,["number", "data", "holders", "pins"]),(874,["disk", "most", "size", "row", "by_number", "hits", "reads", "writes"]),(972,["blocks", "size", "kept", "latest", "unflushed", "writes", "flushes", "last", "last_flush", "is_dead"]),(1083,["cache", "start", "size", "places", "most", "each", "numbers", "noted", "calls", "commits"])]
noncomputable def HH : List (Addr×Addr):=[(204,159),(293,222),(453,311),(659,506),(757,677),(874,775),(972,892),(1083,996)]
noncomputable def n4 : List Addr:=[76,88]
noncomputable def tab : Tab where
 aO C x:=((GI.lookup C).getD []).lookup x
 am C x:=((attrL.lookup C).getD []).contains x
 fn a:=Ar.lookup a
 cls C:=HH.lookup C
 nU C D:=if n4.contains C&&n4.contains D then some (C==D) else none
 eqs C:=C==757
theorem xF : tab.fn 116=some (2,2,[],ri):=rfl
theorem xK : tab.fn 123=some (2,2,[],qV):=rfl
theorem vE : tab.fn 130=some (3,3,[],o0):=rfl
theorem wh : tab.fn 137=some (3,3,[],o6):=rfl
theorem rM : tab.fn 144=some (2,2,[],lC):=rfl
theorem rY : tab.fn 159=some (6,6,[.int 12],la):=rfl
theorem ka : tab.fn 166=some (1,1,[],f7):=rfl
theorem lV : tab.fn 173=some (1,1,[],gL):=rfl
theorem qt : tab.fn 180=some (1,2,[],jS):=rfl
theorem pF : tab.fn 187=some (1,4,[],jE):=rfl
theorem pu : tab.fn 194=some (2,2,[],jD):=rfl
theorem pM : tab.fn 201=some (2,3,[],jC):=rfl
theorem tV : tab.fn 222=some (3,3,[],nO):=rfl
theorem jN : tab.fn 229=some (1,1,[],ga):=rfl
theorem n6 : tab.fn 234=some (4,4,[],iG):=rfl
theorem pH : tab.fn 241=some (3,5,[],jv):=rfl
theorem tz : tab.fn 255=some (3,3,[],nh):=rfl
theorem sd : tab.fn 262=some (3,3,[],lj):=rfl
theorem q8 : tab.fn 276=some (1,1,[],jQ):=rfl
theorem sC : tab.fn 311=some (3,3,[],kW):=rfl
theorem jR : tab.fn 318=some (2,2,[],fW):=rfl
theorem oM : tab.fn 325=some (2,6,[],iR):=rfl
theorem u3 : tab.fn 332=some (2,6,[],mI):=rfl
theorem nG : tab.fn 340=some (4,6,[.int 0, .int 0],g7):=rfl
theorem pE : tab.fn 347=some (2,5,[],jF):=rfl
theorem kP : tab.fn 375=some (1,7,[],gi):=rfl
theorem nH : tab.fn 382=some (4,7,[],gZ):=rfl
theorem kj : tab.fn 389=some (2,3,[],fV):=rfl
theorem kq : tab.fn 403=some (1,7,[],f9):=rfl
theorem hG : tab.fn 410=some (4,5,[],fj):=rfl
theorem gb : tab.fn 417=some (4,6,[],fY):=rfl
theorem rK : tab.fn 424=some (4,10,[],kY):=rfl
theorem qm : tab.fn 431=some (4,6,[],kc):=rfl
theorem kQ : tab.fn 438=some (5,9,[],gk):=rfl
theorem ty : tab.fn 464=some (1,1,[],mW):=rfl
theorem v4 : tab.fn 471=some (1,1,[],oV):=rfl
theorem xz : tab.fn 485=some (2,3,[],qj):=rfl
theorem xd : tab.fn 492=some (1,3,[],qB):=rfl
theorem r7 : tab.fn 506=some (2,2,[],k9):=rfl
theorem rN : tab.fn 513=some (1,1,[],lz):=rfl
theorem iK : tab.fn 520=some (2,2,[],fg):=rfl
theorem mG : tab.fn 527=some (2,6,[],g8):=rfl
theorem qu : tab.fn 532=some (2,2,[],kn):=rfl
theorem sg : tab.fn 539=some (3,7,[],lc):=rfl
theorem rL : tab.fn 546=some (4,9,[],lq):=rfl
theorem pA : tab.fn 553=some (3,3,[],jt):=rfl
theorem mD : tab.fn 558=some (2,2,[],hM):=rfl
theorem q9 : tab.fn 677=some (3,3,[],jM):=rfl
theorem nq : tab.fn 684=some (1,1,[],hV):=rfl
theorem oa : tab.fn 691=some (1,1,[],iQ):=rfl
theorem qO : tab.fn 719=some (2,2,[],jU):=rfl
theorem pK : tab.fn 726=some (1,1,[],ju):=rfl
theorem sA : tab.fn 775=some (3,3,[],k7):=rfl
theorem kL : tab.fn 782=some (2,2,[],gm):=rfl
theorem lG : tab.fn 789=some (2,2,[],gR):=rfl
theorem t5 : tab.fn 796=some (2,3,[],mZ):=rfl
theorem lJ : tab.fn 803=some (1,3,[],gN):=rfl
theorem oG : tab.fn 810=some (2,2,[],iz):=rfl
theorem t7 : tab.fn 817=some (2,2,[],nS):=rfl
theorem qK : tab.fn 824=some (2,3,[],ko):=rfl
theorem qy : tab.fn 831=some (2,2,[],jT):=rfl
theorem rj : tab.fn 838=some (1,1,[],jZ):=rfl
theorem su : tab.fn 845=some (2,4,[],ls):=rfl
theorem sc : tab.fn 852=some (3,4,[],kZ):=rfl
theorem tH : tab.fn 892=some (3,3,[],mK):=rfl
theorem lF : tab.fn 899=some (1,1,[],gQ):=rfl
theorem mu : tab.fn 906=some (2,2,[],gH):=rfl
theorem u4 : tab.fn 913=some (2,2,[],mT):=rfl
theorem rS : tab.fn 920=some (3,3,[],k8):=rfl
theorem rP : tab.fn 934=some (1,3,[],lA):=rfl
theorem r9 : tab.fn 955=some (2,6,[],lh):=rfl
theorem uc : tab.fn 962=some (1,1,[],mQ):=rfl
theorem qY : tab.fn 981=some (2,4,[],jX):=rfl
theorem pL : tab.fn 996=some (5,5,[.none],jm):=rfl
theorem nR : tab.fn 1003=some (2,2,[],hJ):=rfl
theorem kM : tab.fn 1010=some (1,1,[],gj):=rfl
theorem pD : tab.fn 1017=some (1,1,[],jn):=rfl
theorem nX : tab.fn 1024=some (1,1,[],iO):=rfl
theorem oB : tab.fn 1031=some (2,2,[],iM):=rfl
theorem qw : tab.fn 1038=some (1,1,[],jO):=rfl
theorem nn : tab.fn 1045=some (1,2,[],g0):=rfl
theorem kN : tab.fn 1052=some (1,3,[],go):=rfl
theorem jG : tab.fn 1059=some (2,2,[],fG):=rfl
theorem lQ : tab.fn 1066=some (3,6,[],gJ):=rfl
theorem vz : tab.fn 1092=some (1,3,[],pa):=rfl
theorem wy : tab.fn 1099=some (1,2,[],o7):=rfl
theorem wL : tab.fn 1106=some (1,1,[],oY):=rfl
theorem uU : tab.fn 1113=some (3,3,[],i5):=rfl
theorem uy : tab.fn 1120=some (3,5,[],ja):=rfl
theorem vX : tab.fn 1127=some (4,4,[],pk):=rfl
theorem nA : tab.fn 1132=some (4,11,[],fv):=rfl
theorem vQ : tab.fn 1137=some (3,5,[],oS):=rfl
theorem HB : tab.fn 1142=some (1,10,[],ug):=rfl
end
end Internal
namespace Internal
open PySem PySem.W PyProof.Rows PySem.Calls
noncomputable section
structure SE where
 names : List Str
 kinds : List (Str×NameKind)
 cells : List Str
 fn : Bool
structure Nt where
 gv : String->Option Value
 bv : String->Option Value
 Ji : String->MV->Bool
 A7 : Addr->Bool
noncomputable def yy(e:Expr):Bool:=e.ctorIdx != 0&&(e.ctorIdx != 3&&(e.ctorIdx != 5&&e.ctorIdx != 15))
noncomputable def CY(e:Expr):Bool:=e.ctorIdx==26
noncomputable def SE.kind(se:SE)(x:Str):Option NameKind:=se.kinds.lookup x
noncomputable def SE.is(se:SE)(x:Str)(k:NameKind):Bool:=se.kind x==some k
noncomputable def l9(se:SE)(scope:Scope)(cn:List Str):SE:=
 { names:=cn,kinds:=scope.names.map λ(n,k)=>if k== .free&&se.is n .cell then (n, .cell) else (n,k),cells:=[],fn:=false }
inductive Ok(p:Prop):Type where
 |no
 |yes (h:p)
noncomputable def Ok.y{p:Prop}:Ok p->Bool
 | .no=>false
 | .yes _=>true
theorem Ok.get{p:Prop}:∀ {o:Ok p},o.y=true->p
 | .yes h,_=>h
noncomputable def Ok.iff{p:Prop}(b:Bool)(f:b=true->Ok p):Ok p:=if h : b=true then f h else .no
noncomputable def Ok.eq{p:Prop}{α:Type} [DecidableEq α] (a b:α)(f:a=b->Ok p):Ok p:=if h : a=b then f h else .no
noncomputable def Ok.m1{p q:Prop}(f:p->q):Ok p->Ok q
 | .no=> .no
 | .yes h=> .yes (f h)
noncomputable def Ok.m2{p q r:Prop}(f:p->q->r):Ok p->Ok q->Ok r
 | .yes h, .yes g=> .yes (f h g)
 |_,_=> .no
noncomputable def Ok.m3{p q r t:Prop}(f:p->q->r->t)(a:Ok p)(b:Ok q)(c:Ok r):Ok t:= .m2 (λh g=>g h) a (.m2 (λh g k=>f k h g) b c)
noncomputable def Ok.or{p:Prop}:Ok p->Ok p->Ok p
 | .yes h,_=> .yes h
 | .no,b=>b
theorem nb{b:Bool}(h:(!b)=true):b=false:=by cases b<;>first | rfl | cases h
end
section
variable {cx:Cx}{n:Nat}{fd:Fd}{A:Around}{ρ:LA->Addr}{σ:MH}{loc:Loc}{s:Shared}
theorem AK : cP cx n fd (.type "list") P.Hg:=by
 intro as vs A ρ σ loc s Q X G hp hm
 induction hm with
 |@mk l ws r e a n h=>
  apply hp.eB;intro u
  refine ey ((G.obj _ _ e).2) λxs ep o1 r2=> ?_
  refine .of (call_list_seq _ (.inl rfl) o1 rfl rfl (λh' c' hk hD=>Out.iU G n s.toks (dM hk) (aG _) hD r2 h) ?_)
  refine bu▸ae r2.len▸ ?_
  exact ad a (by decide)
theorem Ax : cP cx n fd (.type "dict") P.Ha:=by
 intro as vs A ρ σ loc s Q X G hp hm
 induction hm with
 |@mk l es r e a n h=>
  apply hp.eB;intro u
  refine aT ((G.obj _ _ e).2) λkvs d kv=> ?_
  refine .of (kt_call_dict (knd:=intKind cx.prog cx.w) (eE G u) d (by refine ae kv.len▸ ?_;exact ad a (by decide)) λh' hd sb=> ?_)
  refine aT (pT hd) λod hod ntd=> ?_
  exact Out.alloc (o:= .bS es) G n s.toks (dM (λb o e=>(sb.2 b (bw (aR e))).trans (aI _ e))) (aG _) hod ntd (λ_ k=>⟨kvs,hd,kv.mono k⟩) h
theorem iI{x:Str}{np pos:Pos}{f:Value}{e:Expr}{K E:Value->Shared->Prop}(hn:fk cx n fd (.Name x np) f)(hf:keeperOf f=pure .machine)(hp:cm e=true)(G:Good cx n fd A ρ σ loc s)
  (h:cW cx.M A (eval e fd.env) (λv s1=>cW cx.M A (call f [v]) K E s1) E s):cW cx.M A (eval (.Call (.Name x np) [e] [] pos) fd.env) K E s:=by
 refine dA (fq pos (es:=[e]) (env:=fd.env) (by simp[hp])) λh1 h2=> ?_
 refine ai (.of (hn A ρ σ loc s _ _ G ?_))
 refine nJ hf h1 ?_
 have q : spliced (backTo pos (starEach [e] fd.env))=(eval e fd.env >>= λv=>pure [v] >>= λhere=>holding here (pure []) >>= λr=>pure (here++r)):=by
  rw[fm hp];rfl
 refine ae q▸ ?_
 exact ai (aD h (λv s1 y=>ai (ax (ai (aJ (ax (ax y)))))) λ_ _ y=>y)
theorem wT{x y:Str}{np py p pos:Pos}{e:Expr}{m:P MV}(hn:fk cx n fd (.Name x np) (.type "list")) (ht:fk cx n fd (.Name y py) (.type "range")) (hp:cm e=true)(h:bO cx n fd e m) :
  bO cx n fd (.Call (.Name x np) [.Call (.Name y py) [e] [] p] [] pos) (m.bind P.mz):=by
 intro A ρ σ loc s Q X G _ hm
 refine iI hn rfl rfl G (iI ht rfl hp G (aD (h A ρ σ loc s _ X G trivial hm) (λv s1 z=> ?_) λ_ _ z=>z))
 obtain⟨a,ρ1,σ1,l1,S1,G1,r1,hq⟩:=z
 have S2 : ∀ {o tk},Step fd ρ σ.us s ρ1 σ1.us { s1 with heap:=s1.heap.push o,toks:=tk }:=λ{o tk}=>S1.trans (Step.grow G1.di G1.locals (.push o) tk)
 induction hq with
 |mk n h=>
  apply r1.eH;intro t
  refine .of (call_range_1 (.of (call_list_range (n:=0) G1.ak.hh (IsRange.new s1.heap 0 0 1 s1.toks t (s1.toks+1)) (by decide) (by decide) (by decide) λh' tk acc' c' hk hS hi=> ?_)))
  have e0 : acc'=#[]:=Array.eq_empty_of_size_eq_zero hi.1
  subst e0
  exact Out.pre S2 (Out.iU (G1.push _ _) n tk (dM hk) (aG _) hS .nil h)
end
noncomputable abbrev AX(led:Bool):Obj:={ cls:= .type "set",dict:=none,data:= .set #[] 0 (.fresh 0 0 led) }
section
variable {prog:Program}{w:World}{A:Around}{E:Value->Shared->Prop}{s:Shared}{K:Type} [DecidableEq K] {knd:KeyKind prog w K}
theorem CN{l S:Addr}{items:Array Value}{ks:List K}{led:Bool}{R:Result->Shared->Prop}(hh:A.handled=none)(hl:s.heap.IsList l items)(hS:s.heap.get? S=some (AX led))(hne:l≠S)
  (hval:∀ (i:Nat) v,items[i]?=some v->∃k,ks[i]?=some k/\knd.is k v=true/\v.scannable=true)(hb:items.size+1 < scanBound)
  (h:∀ (h':Heap)(tk:Nat),h'.SetOf knd S (λk'=>decide (k'∈met (ks.take items.size))) (met (ks.take items.size)).length->(∀b o,b≠S->s.heap.get? b=some o->h'.get? b=some o)->R (.ok (.ret .none)) { s with heap:=h',toks:=tk }) :
  wpAny (model prog w) A.in1 (Builtin.«set.__init__» ⟨[.ref S, .ref l],[]⟩) (λfin s'=>match fin with | .done f=>R (.ok f) s' | .again c'=>c'.quiet=true/\codeAny (model prog w) A c' R s') (λe s'=>R (.error e) s') s:=by
 obtain⟨ol,hol,hcl,nl,hdl⟩:=_root_.id hl
 obtain⟨ocls,odict,odata,oslots⟩:=ol
 dsimp only at hcl hdl
 subst hcl hdl
 have t1:=PySem.F.sub_list_set
 have t2:=PySem.F.sub_list_frozenset
 unfold Builtin.«set.__init__» noKeywords Builtin.Frozenset.updateFrom
 generalize hp : pyIter=PI
 obtain⟨H,g,d,tk,os⟩:=s
 wp_walk
 subst hp
 refine wpAny_pyIter_list hl ?_
 refine af (wpAny_runValue ?_)
 have lS : S < H.objs.size:=aR hS
 have ll : l < H.objs.size:=aR hol
 have hSf : S∉[H.objs.size,l]:=by
  intro q
  refine Or.elim (aK.mp q) (λq=> ?_) λq=> ?_
  ·exact bw lS q
  ·exact hne (av.mp q).symm
 refine BG (knd:=knd) ((Walks.list (A:=A.in1.in1) hh _ l (bw ll) items).toS) S hSf ks hval hb (items.size - 0) 0 _ (by exact Nat.sub_zero items.size) (bC _) ⟨⟨_,aP _ rfl,rfl,rfl⟩,hl.push _⟩ ?_ ?_
 ·exact SetOf_congr ((setObjOf_fresh (knd:=knd) led).setOf (aI _ hS) (by exact Nat.zero_lt_succ 4095)) (λ_=>rfl) rfl
 ·intro s' hm hS'
  obtain⟨h',g',d',tk',os'⟩:=s'
  obtain rfl : g'=g:=hm.gens
  obtain rfl : d'=d:=hm.drawn
  obtain rfl : os'=os:=hm.os
  refine ao (ao (h h' tk' hS' λb o hb e=>hm.heap b o (λq=> ?_) (aI _ e)))
  refine Or.elim (aK.mp q) (λq=> ?_) λq=> ?_
  ·exact hb q
  ·exact bw (aR e) (av.mp q)
theorem xf{l:Addr}{items:Array Value}{ks:List K}{Q:Value->Shared->Prop}(hh:A.handled=none)(hl:s.heap.IsList l items)
  (hval:∀ (i:Nat) v,items[i]?=some v->∃k,ks[i]?=some k/\knd.is k v=true/\v.scannable=true)(hb:items.size+1 < scanBound)
  (h:∀ (h':Heap)(tk:Nat),h'.SetOf knd s.heap.objs.size (λk'=>decide (k'∈met (ks.take items.size))) (met (ks.take items.size)).length->(∀b o,s.heap.get? b=some o->h'.get? b=some o)->Q (.ref s.heap.objs.size) { s with heap:=h',toks:=tk }) :
  wpAny (model prog w) A (call (.type "set") [.ref l]) Q E s:=by
 obtain⟨c,tl,m1⟩:=PySem.F.called_set.mro
 have m2:=PySem.F.called_set.made
 have m3:=PySem.F.called_set.sub
 refine wpAny_call (codeAny_of_tree ?_)
 show wpAny _ _ (callAny (.type "set") _) _ _ _
 refine ao ⟨Code.quiet_builtin _ (by decide +kernel),dE PySem.F.entry_type_call ?_⟩
 rw[Around.under_plain (weight_type_call_type "set" [.ref l] []) rfl]
 have m4:=PySem.F.called_set.notType
 have m5:=PySem.F.called_set.canCreate
 have m6:=PySem.F.typeCall_set_1 (.ref l)
 repeat (any_goals (first | assumption | wp_step))
 refine codeAny_mono (PySem.code_set_new_1 (.ref l) (E:=E) (Q₁:=λobj s₁=>∃led : Bool,obj= .ref s.heap.objs.size/\s₁={ s with heap:=s.heap.push (AX led) }) λled=>⟨led,rfl,rfl⟩) λr s₁ hr=> ?_
 rcases r with e | (_ | _ | _ | obj)
 ·exact hr
 ·exact hr.elim
 ·exact hr.elim
 ·exact hr.elim
 obtain⟨led,rfl,rfl⟩:=hr
 have hT : Shared.TypeIs { s with heap:=s.heap.push (AX led) } (.ref s.heap.objs.size) "set" := ⟨_,(aP s.heap (o:=AX led) rfl),rfl⟩
 have n1:=PySem.F.called_set.init.lookup
 have n2:=PySem.F.called_set.init.bind (.ref s.heap.objs.size)
 repeat (any_goals (first | assumption | wp_step))
 have ne : l≠s.heap.objs.size:=λq=>by obtain⟨o,e,_⟩:=hl;exact bw (aR e) q
 obtain⟨R0,hR0⟩ : ∃R0 : Result->Shared->Prop,R0=λr s₂=>r= .ok (.ret .none)/\∃h' tk,s₂={ s with heap:=h',toks:=tk }/\h'.SetOf knd s.heap.objs.size (λk'=>decide (k'∈met (ks.take items.size))) (met (ks.take items.size)).length/\∀b o,s.heap.get? b=some o->h'.get? b=some o:=⟨_,rfl⟩
 have fill:=CN (knd:=knd) (A:=A.in1) (s:={ s with heap:=s.heap.push (AX led) }) (l:=l) (S:=s.heap.objs.size) (R:=R0)
  hh (hl.push _) (aP s.heap (o:=AX led) rfl) ne hval hb λh' tk hs hk=>by rw[hR0];exact⟨rfl,h',tk,rfl,hs,λb o e=>hk b o (bw (aR e)) (aI _ e)⟩
 refine codeAny_mono (codeAny_call_builtin (R:=R0) PySem.F.called_set.init.plain PySem.F.entry_set_init (PySem.check_set_init_1 hT fill)) λr s₂ hr=> ?_
 rw[hR0] at hr
 obtain⟨rfl,h',tk,rfl,hs,hk⟩:=hr
 dsimp only
 repeat (any_goals (first | assumption | wp_step))
 exact h h' tk hs hk
theorem zV{a:Addr}{S:K->Bool}{m:Nat}{Q:Value->Shared->Prop}(h:s.heap.SetOf knd a S m)(hm:m<=1000)(hq:∀t k,Q (.int m t) { s with toks:=k }):wpAny (model prog w) A (call (.builtin "len") [.ref a]) Q E s:=by
 obtain⟨o,es,ep,tb,ho,hx,hd,_,_,_,hf,rfl⟩:=h
 exact PySem.call_len_set ho hx hd hf (cU (aW.mpr hm) (by decide)) (hq _ _)
end
theorem ud{ρ:LA->Addr}{U:LA->Prop}{h:Heap}:∀ {vs:List MV}{ys:List Value}{ks:List (Int ⊕ Str)},cR ρ U h vs ys->lu vs=some ks->ks.length=ys.length/\∀ (i:Nat) v,ys[i]?=some v->∃k,ks[i]?=some k/\nQ k v=true/\v.scannable=true
 | [],ys,ks,r,e=>by
  cases e;refine ae r.nil_inv▸ ?_
  exact⟨rfl,λi v q=>by simp at q⟩
 |x::vs,ys,ks,r,e=>by
  refine eW r.cons_inv λy ys' zr2_ r1 r2=> ?_;subst zr2_
  have main : ∀ (k0:Int ⊕ Str),nQ k0 y=true->y.scannable=true->(lu vs).map (k0::·)=some ks->ks.length=(y::ys').length/\∀ (i:Nat) v,(y::ys')[i]?=some v->∃k,ks[i]?=some k/\nQ k v=true/\v.scannable=true:=by
   intro k0 h1 h2 h3
   refine aT (bl.mp h3) λks' e' zr2_=> ?_;subst zr2_
   refine⟨by exact Nat.succ_inj.mpr ((ud r2 e').1),λi v q=> ?_⟩
   cases i with
   |zero=>cases q;exact⟨k0,rfl,h1,h2⟩
   |succ i=>exact ((ud r2 e').2) i v q
  cases x with
  |int i=>refine cN r1.int_inv λt zr1_=> ?_;subst zr1_;exact main (.inl i) (by exact mX r1 r1 rfl) rfl e
  |str z=>refine cN r1.str_inv λt zr1_=> ?_;subst zr1_;exact main (.inr _) (by exact mX r1 r1 rfl) rfl e
  |_=>cases e
section
variable {cx:Cx}{n:Nat}{fd:Fd}
theorem wX{x y:Str}{np py p pos:Pos}{e:Expr}{m:P MV}(hn:fk cx n fd (.Name x np) (.builtin "len")) (ht:fk cx n fd (.Name y py) (.type "set")) (hp:cm e=true)(h:bO cx n fd e m) :
  bO cx n fd (.Call (.Name x np) [.Call (.Name y py) [e] [] p] [] pos) (m.bind P.mx):=by
 intro A ρ σ loc s Q X G _ hm
 refine iI hn rfl rfl G (iI ht rfl hp G (aD (h A ρ σ loc s _ X G trivial hm) (λv s1 z=> ?_) λ_ _ z=>z))
 obtain⟨a,ρ1,σ1,l1,S1,G1,r1,hq⟩:=z
 have S2 : ∀ {h' tk},(∀b o,s1.heap.get? b=some o->h'.get? b=some o)->Step fd ρ σ.us s ρ1 σ1.us { s1 with heap:=h',toks:=tk }:=λhk=>S1.trans (Step.grow G1.di G1.locals (dM hk) _)
 induction hq with
 |@mk l vs ks e1 e2 hz hq=>
  apply r1.eB;intro u
  refine aT (G1.isList e1) λxs i r2=> ?_
  have sz : xs.size=ks.length:=((ud r2 e2).1).trans bu |>.symm
  refine .of (xf (knd:=yP cx.prog cx.w) (ks:=ks) G1.ak.hh i (λi v q=>((ud r2 e2).2) i v (c9.trans q)) (by refine ae sz▸ ?_;unfold scanBound;exact az (bD hz _) (by decide)) λh' tk hs hk=> .of ?_)
  rw[sz,List.take_length] at hs
  exact zV (knd:=yP cx.prog cx.w) hs (ad (xk ks) hz) λt k=>Out.pre (S2 hk) (Out.now (G1.grow (dM hk) k) .int hq)
end
end Internal
namespace Internal
open PySem PySem.W PyProof.Rows PySem.Calls Builtin
theorem u8 : typeLookup (.type "list") "keys" = pure none:=by rw[cJ,bE];kernel_rfl
theorem sv : typeLookup (.type "list") "__getattr__" = pure none:=by rw[cJ,bE];kernel_rfl
theorem jy : entryFor table "dict.update.loop" = some Builtin.«dict.update.loop»:=entryFor_of_tree (by kernel_rfl)
theorem jw : plainId "dict.update.loop" = true:=by decide +kernel
section
variable {prog:Program}{w:World}{A:Around}{E:Value->Shared->Prop}{h:Heap}{g:Array GenState}{d:Drawn}{t:Nat}{os:OsState}{a:Addr}{items:Array Value}{ep:Nat}{sl:Array (Option Value)}
theorem zB{Q:Option Value->Shared->Prop}(hh:A.handled=none)(hx:h.get? a=some { cls:= .type "list",data:= .seq items ep,slots:=sl }) (hQ:∀h' tk,(∀b o,h.get? b=some o->h'.get? b=some o)->Q none ⟨h',g,d,tk,os⟩) :
  wpAny (model prog w) A (getAttr? (.ref a) "keys") Q E ⟨h,g,d,t,os⟩:=by
 have f1:=sub_AttributeError
 have f2:=F.slot_list_getattribute.lookup
 have f3:=F.slot_list_getattribute.bind (.ref a)
 have f5:=sv
 repeat (any_goals (first | assumption | exact (show ∀tk',(⟨h,g,d,tk',os⟩ : Shared).TypeIs (.ref a) "list" from λ_=>⟨_,hx,rfl⟩) _ | ((with_reducible show wpAny _ _ (call (Value.builtin "list.__getattribute__") _ _) _ _ _);refine call_meets F.slot_list_getattribute ((show ∀tk',(⟨h,g,d,tk',os⟩ : Shared).TypeIs (.ref a) "list" from λ_=>⟨_,hx,rfl⟩) _) am_entry_list_getattribute (F.args_list_getattribute_2 _ _) (meets_getattribute_miss_list a items ep sl "keys" _ u8 (by decide +kernel) (by decide +kernel)) ⟨hx,hh,λh' tk' e hx'=> ?_⟩) | wp_step))
 refine fu hx'.there λt' u' he=> ?_
 unfold getattributeRaised
 repeat (any_goals (first | assumption | wp_step))
 exact hQ _ _ hx'.keeps
end
section
variable {prog:Program}{w:World}{A:Around}{R:Result->Shared->Prop}{I:Addr}{fp wr:List Addr}{G:Array GenState->Array GenState->Prop}{n:Nat}{P:Nat->Value->Prop}{St:Nat->Shared->Prop}
variable {K:Type} [DecidableEq K] {knd:KeyKind prog w K}
theorem stored_new{es:List (K×Value)}{k:K}{x:Value}(h:k∉es.map (·.1)):stored es k x=es++[(k,x)]:=by
 unfold stored;rw[if_neg]
 intro q;refine aT (List.any_eq_true.mp q) λp m e=> ?_
 exact h (cq.mpr ⟨p,m,aF e⟩)
theorem CW{E:Value->Shared->Prop}{s:Shared}{S a:Addr}{kv x:Value}{k:K}{es:List (K×Value)}{Q:Unit->Shared->Prop}{f:Value->Sem (List Value)}{g:List Value->Sem Unit}(ht:s.heap.IsTuple a #[kv,x])(hk:knd.is k kv=true)(hd:s.heap.DictOf knd S es)(hs:es.length<=sizeLine)
  (hg:g [kv,x]=holding [kv,x] (dictSet S kv x))(h:∀h',h'.DictOf knd S (stored es k x)->Heap.SameBut S s.heap h'->Q () { s with heap:=h',toks:=s.toks+1 }) :
  wpAny (model prog w) A ((Dict.pairItems (.ref a)).tryCatch f >>= g) Q E s:=by
 obtain⟨o,ho,hc,n,hdt⟩:=ht
 obtain⟨c,dct,dat,sl⟩:=o
 dsimp only at hc hdt
 subst hc hdt
 obtain⟨hp,gn,d,tk,os⟩:=s
 dsimp only at ho hd h
 refine af (wpAny_tryCatch (m:=Dict.pairItems (.ref a)) (k:=f) ?_)
 refine af (wpAny_typeOf (T := "tuple") ⟨_,ho,rfl⟩ ?_)
 refine af (wpAny_seqItems ho rfl (ao ?_))
 show wpAny _ _ (g [kv,x]) _ _ _
 rw[hg];exact bk (wpAny_dictSet_pairs hk hd h hs)
theorem zK{h0:Heap}(W:WalksS prog w A.in1 I fp wr G n P St)(S:Addr)(hSf:S∉fp)(es:List (K×Value))(hn:(es.map (·.1)).Nodup)(hl:es.length=n)(hb:n<=1000)
  (hval:∀i v,P i v->∃k x a kv,es[i]?=some (k,x)/\v= .ref a/\h0.IsTuple a #[kv,x]/\knd.is k kv=true/\a∉S::wr) :
  ∀ (k i:Nat)(s:Shared),n - i=k->i<=n->St i s->(∀b o,b∉S::wr->h0.get? b=some o->s.heap.get? b=some o)->s.heap.DictOf knd S (es.take i)->
   (∀s',Moved (S::wr) G s s'->s'.heap.DictOf knd S es->R (.ok (.ret .none)) s')->
   codeAny (model prog w) A (.builtin "dict.update.loop" ⟨[.ref S, .ref I,rawInt i, .none],[]⟩) R s:=by
 have hSw : S∉wr:=λh=>hSf (W.sub _ h)
 have hsub : ∀b∈wr,b∈S::wr:=λb hb=>aB _ hb
 intro k
 induction k with
 |zero=>
  intro i s hk hi hst h0k hS hR
  have hin : i=n:=Ik hk hi
  subst hin
  refine dE jy ?_
  show wpAny _ A.in1 (pyNext (.ref I) >>= _) _ _ s
  refine af (W.done s _ _ hst λs' hm=> ?_)
  rw[<-hl,List.take_length] at hS
  exact af (ao (ao (hR s' (hm.mono hsub) (by
   refine iE hS λo es ep ho rest=> ?_
   exact⟨o,es,ep,hm.heap S _ hSw ho,rest⟩))))
 |succ k ih=>
  intro i s hk hi hst h0k hS hR
  have hlt : i < n:=by exact Nat.lt_of_sub_eq_succ hk
  refine dE jy ?_
  show wpAny _ A.in1 (pyNext (.ref I) >>= _) _ _ s
  refine af (W.item i s _ _ hlt hst λv s' hP hst' hm=> ?_)
  refine qE (hval i v hP) λki x a kv hki zr5_ hit hkk ha=> ?_;subst zr5_
  have hS' : s'.heap.DictOf knd S (es.take i):=by
   refine iE hS λo es ep ho rest=> ?_
   exact⟨o,es,ep,hm.heap S _ hSw ho,rest⟩
  have h0' : ∀b o,b∉S::wr->h0.get? b=some o->s'.heap.get? b=some o:=λb o q e=>hm.heap b o (λz=>q (hsub b z)) (h0k b o q e)
  have nk : ki∉(es.take i).map (·.1):=by
   have : (es.take (i+1)).map (·.1)=(es.take i).map (·.1)++[ki]:=by rw[bV,hki];refine (aY).trans ?_;rfl
   have nd : ((es.take (i+1)).map (·.1)).Nodup:=hn.sublist ((List.take_sublist _ _).map _)
   rw[this] at nd
   exact λm=>(List.nodup_append.mp nd).2.2 _ m _ (av.mpr rfl) rfl
  refine af (bk (CW (by refine aT hit λo e rest=> ?_;exact⟨o,h0' a o ha e,rest⟩) hkk hS' (by rw[bK];exact ad (Nat.min_le_right ..) (by rw[hl];exact ad hb (by decide))) rfl λh' hd' hsb=> ?_))
  rw[stored_new nk] at hd'
  rw[<-(show es.take (i+1)=es.take i++[(ki,x)] by refine (bV).trans ?_;rw[hki];rfl)] at hd'
  refine ao ⟨plainId_quiet jw _,ih (i+1) _ (Ja hk) hlt (W.frame _ s' _ _ hst' (cT _) λb hb o e=> ?_) (λb o q e=> ?_) hd' λs'' hm'' hS''=> ?_⟩
  ·refine ((hsb.2 b (λh:b=S=>hSf (by rw[<-h];exact hb)))).trans ?_;exact e
  ·exact (hsb.2 b λh=>q (by rw[h];exact aV)).trans (h0' b o q e)
  ·refine hR s'' (Moved.trans W.gtrans ((hm.mono hsub).then_heap (cT _) λb o hb e=> ?_) hm'') hS''
   refine ((hsb.2 b (λh:b=S=>hb (by rw[h];exact aV)))).trans ?_;exact e
end
section
variable {prog:Program}{w:World}{K:Type} [DecidableEq K] {knd:KeyKind prog w K}{A:Around}{E:Value->Shared->Prop}{s:Shared}
theorem u5{l:Addr}{items:Array Value}{ep:Nat}{es:List (K×Value)}{Q:Value->Shared->Prop}(hh:A.handled=none)(hl:s.heap.get? l=some { cls:= .type "list",data:= .seq items ep }) (hn:(es.map (·.1)).Nodup)(hz:es.length=items.size/\items.size<=1000)
  (hval:∀ (i:Nat) v,items[i]?=some v->∃k x a kv,es[i]?=some (k,x)/\v= .ref a/\s.heap.IsTuple a #[kv,x]/\knd.is k kv=true)
  (h:∀ (h':Heap)(tk:Nat),h'.DictOf knd s.heap.objs.size es->(∀b o,s.heap.get? b=some o->h'.get? b=some o)->Q (.ref s.heap.objs.size) { s with heap:=h',toks:=tk }) :
  wpAny (model prog w) A (call (.type "dict") [.ref l]) Q E s:=by
 refine callType_codes (Q₁:=λobj s₁=>obj= .ref s.heap.objs.size/\s₁={ s with heap:=s.heap.push { cls:= .type "dict",data:= .dict #[] } }) F.kt_called_dict (F.kt_typeCall_dict_1 _) F.entry_dict_init (kt_code_dict_new _ ⟨rfl,rfl⟩) ?_
 rintro obj s₁ ⟨rfl,rfl⟩
 have hnew : (s.heap.push { cls:= .type "dict",data:= .dict #[] }).DictOf knd s.heap.objs.size []:=Heap.DictOf.new s.heap
 refine⟨hnew.typeIs,F.args_dict_init_2 _ _, ?_⟩
 dsimp only[Builtin.«dict.__init__»]
 refine af ?_
 dsimp only[Builtin.Dict.selfAndRest]
 refine af (wpAny_notOrdered_dict hnew.typeIs ?_)
 refine ao ?_
 show wpAny _ _ (Builtin.Dict.updateFrom "dict.__init__" s.heap.objs.size (.ref l) [] .none) _ _ _
 skip
 have hl' : (s.heap.push { cls:= .type "dict",data:= .dict #[] }).get? l=some { cls:= .type "list",data:= .seq items ep }:=aI _ hl
 generalize hp : pyIter=PI
 refine af (wpAny_typeOf (T := "list") ⟨_,hl',rfl⟩ ?_)
 refine af (zB hh hl' λh1 tk hk=> ?_)
 refine af (wpAny_rule ?_)
 subst hp
 have hl1 : h1.IsList l items:=⟨_,hk _ _ hl',rfl,_,rfl⟩
 refine af (wpAny_pyIter_list hl1 ?_)
 have lS : s.heap.objs.size < h1.objs.size:=aR (hk _ _ (aP _ rfl))
 have hSf : s.heap.objs.size∉[h1.objs.size,l]:=by
  intro q
  refine Or.elim (aK.mp q) (λq=> ?_) λq=> ?_
  ·exact bw lS q
  ·exact Nat.ne_of_gt (aR hl) (av.mp q)
 refine ao ⟨plainId_quiet jw _,zK (knd:=knd) (A:=A.in1) (i:=0) (h0:=s.heap) (Walks.list (A:=A.in1.in1) hh _ l (bw (cG (aR hl) lS)) items).toS _ hSf es hn hz.1 hz.2 (λi v q=> ?_) (items.size - 0) _ rfl (bC _) ⟨⟨_,aP _ rfl,rfl,rfl⟩,hl1.push _⟩ (λb o _ e=>aI _ ((λb o e=>hk b o (aI _ e)) b o e)) ?_ λs' hm hS'=> ?_⟩
 ·refine EV (hval i v q) λk x a kv e1 e2 e3 e4=> ?_
  refine⟨k,x,a,kv,e1,e2,e3,e4,λq=> ?_⟩
  refine aT e3 λo ho _=> ?_
  refine Or.elim (aK.mp q) (λq=> ?_) λq=> ?_
  ·exact bw (aR ho) q
  ·exact bw (cG (aR ho) lS) (av.mp q)
 ·refine iE hnew λo es' ep' ho rest=> ?_
  exact⟨o,es',ep',aI _ (hk _ _ ho),rest⟩
 ·obtain⟨h',g',d',tk',os'⟩:=s'
  obtain rfl : g'=s.gens:=hm.gens
  obtain rfl : d'=s.drawn:=hm.drawn
  obtain rfl : os'=s.os:=hm.os
  refine⟨rfl,h h' tk' hS' λb o e=>hm.heap b o (λq=> ?_) (aI _ ((λb o e=>hk b o (aI _ e)) b o e))⟩
  refine Or.elim (aK.mp q) (λq=> ?_) λq=> ?_
  ·exact bw (aR e) q
  ·exact bw (cG (aR e) lS) (av.mp q)
end
end Internal
namespace Internal
open PySem PySem.W PyProof.Rows PySem.Calls
section
variable {cx:Cx}{n:Nat}{fd:Fd}
theorem tQ{l r1 r2:Expr}{o1 o2:CmpOp}{pos:Pos}{m1 m2 m3:P MV}(h1:bO cx n fd l m1)(h2:bO cx n fd r1 m2)(h3:bO cx n fd r2 m3)(hb:lastMarks [o1,o2] [r1,r2]=false) :
  bO cx n fd (.Compare l [o1,o2] [r1,r2] pos) (m1.bind λa=>m2.bind λb=>(P.cmp o1 a b).bind λr=>P.cond (P.truth r) (m3.bind λc=>P.cmp o2 b c) (P.ret r)):=by
 have e : eval (.Compare l [o1,o2] [r1,r2] pos) fd.env=(eval l fd.env >>= λa=>holding [a] (eval r1 fd.env) >>= λb=>standAt pos >>= λ_=>
   holding [a,b] (compareOp o1 a b) >>= λc=>release [a,b] [c] >>= λ_=>holding [c,b] (truthy c) >>= λt=>if t then
    (holding [b] (eval r2 fd.env) >>= λd=>standAt pos >>= λ_=>operate [b,d] (compareOp o2 b d)) else pure c):=by
  show (eval l fd.env >>= λa=>compareChain pos a [o1,o2] (markedEach [o1,o2] [r1,r2] [eval r1 fd.env,eval r2 fd.env]))=_
  refine ae (markedEach_of_false _ _ _ hb)▸ ?_;rfl
 show eQ cx n fd VR _ _
 rw[e]
 refine aM.bind h1 λa va=> ?_
 refine aM.bind (aM.holding (aM.gS bM.vr h2)) λb vb=> ?_
 refine aM.standAt ?_
 have hc : aM cx n fd (λρ U h=>(VR ρ U h b vb/\VR ρ U h a va)) (λρ U h x y=>VR ρ U h x y/\VR ρ U h b vb) (compareOp o1 va vb) (P.cmp o1 a b):=
  (aM.frame (q:=λρ U h=>VR ρ U h b vb) bM.vr (kB (op:=o1) (a:=a) (b:=b) (va:=va) (vb:=vb))).weak λ_ _ _ q=>⟨⟨q.2,q.1⟩,q.1⟩
 intro A ρ σ loc s Q X G hp hm
 refine ai (aJ (aD (hc A ρ σ loc s _ X G hp hm) (λvc s1 h=> ?_) λ_ _ y=>y))
 obtain⟨c,ρ1,σ1,l1,S1,G1,⟨rc,rb⟩,hq⟩:=h
 refine ai (eD (ai (aJ ?_)))
 refine aD ((aM.frame (q:=λρ U h=>VR ρ U h b vb/\VR ρ U h c vc) (bM.and bM.vr bM.vr) (fO (cx:=cx) (n:=n) (fd:=fd) (a:=c) (v:=vc))) A ρ1 σ1 l1 s1 _ X G1 ⟨rc,rb,rc⟩ hq) (λt s2 h=> ?_) λ_ _ y=>y.pre S1
 obtain⟨t',ρ2,σ2,l2,S2,G2,⟨e2,rb2,rc2⟩,hq2⟩:=h
 cases e2
 cases t with
 |false=>exact ax ((Out.now G2 rc2 hq2).pre (S1.trans S2))
 |true=>
  have hrest : aM cx n fd (λρ U h=>VR ρ U h b vb) VR (holding [vb] (eval r2 fd.env) >>= λd=>standAt pos >>= λ_=>operate [vb,d] (compareOp o2 vb d)) (m3.bind λc=>P.cmp o2 b c):=by
   refine aM.bind (aM.holding (aM.gS bM.vr h3)) λd vd=> ?_
   exact aM.standAt (aM.operate (kB.weak λρ U h q=>⟨q.2,q.1⟩))
  exact aD (hrest A ρ2 σ2 l2 s2 Q X G2 rb2 hq2) (λ_ _ y=>y.pre (S1.trans S2)) λ_ _ y=>y.pre (S1.trans S2)
theorem pairs_at{prog:Program}{w:World}{ρ:LA->Addr}{U:LA->Prop}{h:Heap}:∀ {es:List (List UInt8×MV)}{ys:List Value},cR ρ U h (es.map yV) ys->
  ∃kvs : List (List UInt8×Value),iy ρ U h id es kvs/\∀ (i:Nat) v,ys[i]?=some v->∃k x a kv,kvs[i]?=some (k,x)/\v= .ref a/\h.IsTuple a #[kv,x]/\(bytesKind prog w).is k kv=true
 | [],ys,r=>⟨[], .nil,λi v q=>by replace q:=r.nil_inv▸q;cases q⟩
 | (b,m)::es,ys,r=>by
  refine eW r.cons_inv λy ys' zr2_ r1 r2=> ?_;subst zr2_
  refine aT (pairs_at (prog:=prog) (w:=w) r2) λkvs kv g=> ?_
  refine qE r1.dN λa o xs ep zr4_ ho hc hd hv=> ?_;subst zr4_
  refine eW hv.cons_inv λy1 l1 e1 v1 hv=> ?_
  refine eW hv.cons_inv λy2 l2 e2 v2 hv=> ?_
  have e3:=hv.nil_inv
  subst e3 e2
  have ex : xs=#[y1,y2]:=(Array.toArray_toList (xs:=xs)).symm.trans (ah List.toArray e1)
  subst ex
  refine⟨(b,y2)::kvs, .cons v2 kv,λi v q=> ?_⟩
  cases i with
  |zero=>cases q;exact⟨b,y2,a,y1,rfl,rfl,⟨o,ho,hc,ep,hd⟩,by apply v1.dg;intro t;exact beq_self_eq_true b⟩
  |succ i=>exact g i v q
theorem iy.fst{ρ:LA->Addr}{U:LA->Prop}{h:Heap}{es:List (List UInt8×MV)}{ys:List (List UInt8×Value)}(k:iy ρ U h id es ys):ys.map (·.1)=es.map (·.1):=by
 induction k with
 |nil=>rfl
 |cons _ _ ih=>exact ah (_::·) ih
theorem Aa{x:Str}{np pos:Pos}{e:Expr}{m:P MV}(hn:fk cx n fd (.Name x np) (.type "dict")) (hp:cm e=true)(h:bO cx n fd e m) :
  bO cx n fd (.Call (.Name x np) [e] [] pos) (m.bind P.pq):=by
 intro A ρ σ loc s Q X G _ hm
 refine iI hn rfl hp G (aD (h A ρ σ loc s _ X G trivial hm) (λv s1 z=> ?_) λ_ _ z=>z)
 obtain⟨a,ρ1,σ1,l1,S1,G1,r1,hq⟩:=z
 induction hq with
 |@mk l es r e a n h=>
  apply r1.eB;intro u
  refine ey ((G1.obj _ _ e).2) λxs ep o1 r2=> ?_
  refine aT (pairs_at (prog:=cx.prog) (w:=cx.w) r2) λkvs kv g=> ?_
  have sz : xs.size=es.length:=bu.symm.trans (r2.len.trans (aq ..))
  refine .of (u5 (knd:=bytesKind cx.prog cx.w) G1.ak.hh o1 (kv.fst▸a.2) ⟨by exact ae kv.len▸ae sz▸rfl,sz▸a.1⟩ (λi v q=>g i v (c9.trans q)) λh' tk hd hk=> ?_)
  refine aT (pT hd) λod hod ntd=> ?_
  exact Out.pre S1 (Out.alloc (o:= .iS es) G1 n tk (dM hk) (aG _) hod ntd (λ_ k=>⟨kvs,hd,kv.mono k⟩) h)
end
noncomputable section
structure mM(se:SE)(fd:Fd):Prop where
 names : fd.names=se.names
 kind : ∀x,fd.env.kindOf x=se.kind x
 hk : fd.env.scope.kind= .function
 nd : fd.names.Nodup
 gl : fd.env.globals=mainGlobals
 bi : fd.env.builtins=builtinsNs
 cells : ∀x∈se.cells,x∈fd.env.cells.map (·.1)
 F : se.fn=true->Ag fd
noncomputable abbrev Ge(d:uf):SE:={ names:=d.names,kinds:=d.fn.scope.names,cells:=(cellsFrom 0 d.fn.scope.names []).map (·.1),fn:=true }
structure fU(cx:Cx)(T:Tab)(V:Nt):Prop where
 tb : I6 cx T.toTb
 cls : ∀C i,T.cls C=some i->GO cx C i
 nU : ∀C D b,T.nU C D=some b->exmOne cx.K (.ref C) (.ref D)=some b
 eqs : ∀C,T.eqs C=true->eqB cx.K C=true
 gv : ∀x v,V.gv x=some v->nsIn cx.K mainGlobals (Str.ofString x)=some (some v)/\jY cx v
 bv : ∀x v,V.bv x=some v->nsIn cx.K mainGlobals (Str.ofString x)=some none/\bootBuiltins (Str.ofString x)=some v/\Str.ofString x ≠ "__name__" /\ jY cx v
 Ji : ∀x v,V.Ji x v=true->∃u,nsIn cx.K mainGlobals (Str.ofString x)=some (some u)/\VC v u
 A7 : ∀C,V.A7 C=true->∃B0 d,Dp cx C B0 d
noncomputable abbrev Al(se:SE)(p:Fd->Prop):Prop:=∀fd,mM se fd->p fd
section
variable {cx:Cx}{n:Nat}{fd:Fd}{se:SE}
theorem g6{x:Str}{k:NameKind}(F:mM se fd)(h:se.is x k=true):fd.env.kindOf x=some k:=(F.kind x).trans (eq_of_beq h)
theorem zC{e:Expr}{m:P MV}(hf:yy e=true)(h:bO cx n fd e m):gx cx n fd e (m.bind P.truth):=by
 refine xA ?_ h
 clear h
 cases e<;>first | rfl | cases hf
structure wn(cx:Cx)(n:Nat)(fd:Fd)(x:Expr)(m:P MV):Prop where
 s : bO cx n fd x m
 a : kG x=true->∀y py (sp:Pos) mt,swapsWith x (some (.Name y py)) sp.line fd.env=pure true->ew cx n fd (.Name y py) mt->gd cx n fd (.Assign [.Name y py] x sp) (m.bind λv=>(mt v).bind λ_=>P.ret MF.next)
theorem wn.pl{x:Expr}{m:P MV}(hc:kG x=false)(h:bO cx n fd x m):wn cx n fd x m:=⟨h,λq=>absurd (hc.symm.trans q) aE⟩
structure Ev(cx:Cx)(n:Nat)(se:SE)(d:Dn):Type where
 e : ∀x,Ok (Al se λfd=>wn cx n fd x d.e):=λ_=> .no
 b : ∀x,Ok (Al se λfd=>gx cx n fd x d.b):=λ_=> .no
 it : ∀x,Ok (Al se λfd=>qP cx n fd x d.it):=λ_=> .no
 t : ∀x,Ok (Al se λfd=>ew cx n fd x d.t):=λ_=> .no
 s : ∀x,Ok (Al se λfd=>gd cx n fd x d.s):=λ_=> .no
 ss : ∀x,Ok (Al se λfd=>jH cx n fd x d.s):=λ_=> .no
 es : ∀x,Ok (Al se λfd=>kK (bO cx n fd) x d.ms/\x.all cm=true):=λ_=> .no
 ts : ∀x,Ok (Al se λfd=>sU cx n fd x d.ts/\x.all cm=true/\x.length=d.tn):=λ_=> .no
 o : ∀x,Ok (Al se λfd=>rU cx n fd x d.e):=λ_=> .no
 c : ∀x,Ok (Al se λfd=>ib cx n fd x d.c):=λ_=> .no
noncomputable def G7{m:P MV}(he:∀x,Ok (Al se λfd=>wn cx n fd x m)):∀x,Ok (Al se λfd=>rU cx n fd x m)
 |some x=>(he x).m1 λh fd F=>z8 (h fd F).s
 |none=> .no
noncomputable def CH{m:P MV}(he:∀x,Ok (Al se λfd=>wn cx n fd x m))(x:Expr):Ok (Al se λfd=>gx cx n fd x (m.bind P.truth)):= .iff (yy x) λq=>(he x).m1 λh fd F=>zC q (h fd F).s
noncomputable def Ev.bo{d:Dn}(he:∀x,Ok (Al se λfd=>wn cx n fd x d.e))(hb:∀x,Ok (Al se λfd=>gx cx n fd x d.b)):Ev cx n se d where
 e:=he
 b:=hb
 o:=G7 he
noncomputable def Ev.ex{m:P MV}(he:∀x,Ok (Al se λfd=>wn cx n fd x m)):Ev cx n se (Dn.ex m):= .bo he (CH he)
noncomputable def Ev.ext{m:P MV}{mt:MV->P Unit}(he:∀x,Ok (Al se λfd=>wn cx n fd x m))(ht:∀x,Ok (Al se λfd=>ew cx n fd x mt)):Ev cx n se { e:=m,b:=m.bind P.truth,t:=mt } where
 e:=he
 b:=CH he
 o:=G7 he
 t:=ht
noncomputable def Ev.st{m:P MF}(h:∀x,Ok (Al se λfd=>gd cx n fd x m)):Ev cx n se (Dn.st m) where
 s:=h
theorem wk{x:Expr}{r:List Expr}(p:cm x=true)(q:r.all cm=true):(x::r).all cm=true:=by rw[List.all_cons,p,q];rfl
structure GN(x:String)(z:Str)(fd:Fd):Prop where
 eq : z=Str.ofString x
 k : fd.env.kindOf z=some .globalImplicit
 d : (z==("__debug__" : Str))=false
noncomputable def v9(se:SE)(x:String)(z:Str):Ok (Al se (GN x z)):= .eq z (Str.ofString x) λq=> .iff (se.is z .globalImplicit) λk=> .iff (!(z==("__debug__" : Str))) λd=> .yes λ_ F=>⟨q,g6 F k,nb d⟩
structure NV(cx:Cx)(n:Nat)(f:Value)(z:Str)(fd:Fd):Prop where
 is : ∀p,fk cx n fd (.Name z p) f
 k : jY cx f
theorem L5{T:Tab}{V:Nt}(O:fU cx T V){x:String}{f:Value}{z:Str}(h:V.gv x=some f)(F:mM se fd)(g:GN x z fd):NV cx n f z fd:=by
 obtain⟨rfl,k,d⟩:=g
 exact⟨λp A ρ σ loc s Q E G hq=>ti G F.hk k F.gl d (O.gv _ _ h).1 hq,(O.gv _ _ h).2⟩
theorem LZ{T:Tab}{V:Nt}(O:fU cx T V){x:String}{f:Value}{z:Str}(h:V.bv x=some f)(F:mM se fd)(g:GN x z fd):NV cx n f z fd:=by
 obtain⟨rfl,k,d⟩:=g
 have o:=O.bv _ _ h
 exact⟨λp A ρ σ loc s Q E G hq=>xP G F.hk k F.gl F.bi d o.1 o.2.1 o.2.2.1 hq,o.2.2.2⟩
noncomputable def ke{T:Tab}{V:Nt}(O:fU cx T V)(se:SE)(x:String)(f:Value)(z:Str):Ok (Al se (NV cx n f z)):=
 .or (.iff (V.gv x==some f) λh=>(v9 se x z).m1 λg fd F=>L5 O (eq_of_beq h) F (g fd F)) (.iff (V.bv x==some f) λh=>(v9 se x z).m1 λg fd F=>LZ O (eq_of_beq h) F (g fd F))
noncomputable def yO(c:Const)(v:MV):Prop:=kH c=some v∨∃y : String,c= .str (Str.ofString y)/\v= .str y
noncomputable def yL : (c:Const)->(v:MV)->Ok (yO c v)
 | .none, .none=> .yes (.inl rfl)
 | .bool a, .bool b=> .eq a b λh=> .yes (h▸ .inl rfl)
 | .int a, .int b=> .eq a b λh=> .yes (h▸ .inl rfl)
 | .bytes a, .bytes b=> .eq a b λh=> .yes (h▸ .inl rfl)
 | .str a, .str b=> .eq a (Str.ofString b) λh=> .yes (h▸ .inr ⟨_,rfl,rfl⟩)
 |_,_=> .no
theorem EN{c:Const}{v:MV}{k:Nat}{p:Pos}(h:yO c v):bO cx n fd (.Constant c k p) (P.ret v):=by
 rcases h with h | ⟨y,rfl,rfl⟩
 ·exact z9 h
 ·exact yv
noncomputable def B5 : (keys:List (Option Expr))->(ks:List String)->Ok (kK Bn keys ks)
 | [],[]=> .yes .nil
 |some (.Constant (.str s) kk p)::r,k::ks=> .eq s (Str.ofString k) λe=>(B5 r ks).m1 λh=> .cons ⟨kk,p,e▸rfl⟩ h
 |_,_=> .no
noncomputable def Bf : (o:Expr)->Ok (∀ (x:Str)(env:Env)(w:Sem Value),attributeBase o x env w=w)
 | .Name .. | .Attribute .. | .Subscript .. | .Call (.Attribute ..) .. | .Call (.Name ..) (_::_) ..=> .yes λ_ _ _=>rfl
 |_=> .no
noncomputable def yw{T:Tab}{V:Nt}(O:fU cx T V)(se:SE):(hs':List ExceptHandler)->(hs:List (String×Addr×MV))->Ok (Al se λfd=>kK (qs cx fd) hs' (hs.map (·.2)))
 | [],[]=> .yes λ_ _=> .nil
 | .ExceptHandler (some (.Name y _)) none [.Return (some (.Constant cc _ _)) _] _::r,(x,D,v)::rs=> .iff (V.gv x==some (.ref D)) λh=>
  .m3 (λ(g:Al se (GN x y)) k t fd F=> .cons (.mk (g fd F).k (g fd F).d ((g fd F).eq▸(O.gv _ _ (eq_of_beq h)).1) k) (t fd F)) (v9 se x y) (yL cc v) (yw O se r rs)
 |_,_=> .no
noncomputable def q5(cmap:List (Option Nat))(i:Nat):Bool:=match cmap[i]? with
 |some (some _)=>true
 |_=>false
noncomputable def Iz(se:SE)(scope:Scope)(cn:List Str)(cmap:List (Option Nat))(i:Nat):Bool:=match cn[i]?,cmap[i]? with
 |some x,some (some j)=>se.names[j]?==some x&&scope.names.contains (x, .free)&&(se.is x .cell||se.is x .free)
 |_,_=>true
theorem GV{a b:Bool}{p:Prop}(h:(!a||b)=true)(ha:a=true)(f:b=true->p):p:=f (by replace h:=ha▸h;exact h)
theorem Fl(F:mM se fd){scope:Scope}{cn:List Str}{C:Addr}(hk:scope.kind= .function)(nd:cn.Nodup):mM (l9 se scope cn) (fd.comp scope cn C):=by
 refine⟨rfl,λx=> ?_,hk,nd,F.gl,F.bi,λx h=>(nomatch h),λh=>(nomatch h)⟩
 show (scope.names.map λ(n,k)=>if (k==NameKind.free&&fd.env.scope.kind== .function&&fd.env.kindOf n==some .cell)=true then (n,NameKind.cell) else (n,k)).lookup x=(scope.names.map _).lookup x
 congr 1
 refine List.map_congr_left λp _=> ?_
 dsimp only
 rw[F.hk,F.kind,beq_self_eq_true,Bool.and_true]
 rfl
theorem Am(F:mM se fd){scope:Scope}{cn:List Str}{cmap:List (Option Nat)}(h1:scope.kind= .function)(h2:scope.names.all (λx=> !(x.2== .cell))=true)(h3:scope.names.all (λx=> !(x.2== .local)||scope.names.lookup x.1==some .local)=true)
  (h4:(scope.names.map (·.1)).Nodup)(h6:scope.names.all (λx=> !(x.2== .free)||(List.range cn.length).any λi=>cn[i]?==some x.1&&q5 cmap i)=true)(h7:(List.range cn.length).all (Iz se scope cn cmap)=true):jc fd scope cn cmap:=by
 refine⟨h1,λx hx e=> ?_,λx hx e=> ?_,h4,λx hx e=> ?_,λi j x hi hj=> ?_⟩
 ·have:=List.all_eq_true.mp h2 x hx;replace this:=e▸this;cases this
 ·exact GV (List.all_eq_true.mp h3 x hx) (by refine ae e▸ ?_;rfl) eq_of_beq
 ·refine GV (List.all_eq_true.mp h6 x hx) (by refine ae e▸ ?_;rfl) λq=> ?_
  refine aT (List.any_eq_true.mp q) λi _ q=> ?_
  have q2:=(an.mp q).2
  unfold q5 at q2
  split at q2
  ·rename_i j q3;exact⟨i,j,eq_of_beq (an.mp q).1,q3⟩
  ·exact nomatch q2
 ·have:=List.all_eq_true.mp h7 i (List.mem_range.mpr (be.mp hi).1)
  unfold Iz at this
  rw[hi,hj] at this
  have this:=an.mp this
  exact⟨F.names▸eq_of_beq (an.mp this.1).1,bX.mp (an.mp this.1).2,(dp.mp this.2).imp (g6 F) (g6 F)⟩
theorem Kr(F:mM se fd):fd.env.scope.kind≠ .module:=by refine ae F.hk▸ ?_;intro h;cases h
theorem E1{e:Expr}{n':Str}{p:Pos}{l:Nat}{env:Env}:∃b,swapsWith e (some (.Name n' p)) l env=pure b:=by cases e<;>exact⟨_,rfl⟩
theorem C2{z:Str}{pz pos:Pos}{e:Expr}{m:P MV}{mt:MV->P Unit}(h:wn cx n fd e m)(ht:ew cx n fd (.Name z pz) mt):gd cx n fd (.Assign [.Name z pz] e pos) (m.bind λv=>(mt v).bind λ_=>P.ret MF.next):=by
 cases hc : kG e with
 |false=>exact fA rfl (jA hc) rfl h.s ht
 |true=>
  refine cN (E1 (e:=e) (n':=z) (p:=pz) (l:=pos.line) (env:=fd.env)) λb hb=> ?_
  cases b with
  |false=>exact fA rfl hb rfl h.s ht
  |true=>exact h.a hc _ _ _ _ hb ht
noncomputable def Bu(se:SE):Expr->Bool
 | .Name id _=> !se.is id .local
 |_=>true
theorem xO(F:mM se fd){ts:List Expr}(h:ts.any (Bu se)=true):ts.all (E2 fd.env)=false:=by
 refine List.all_eq_false.mpr (let ⟨x,hx,hn⟩:=List.any_eq_true.mp h;⟨x,hx,λq=> ?_⟩)
 unfold E2 at q
 split at q
 ·rename_i id p
  replace q:=(F.kind ..)▸q
  exact aE ((nb hn).symm.trans q)
 ·cases q
end
end
noncomputable section
variable {cx:Cx}{n:Nat}{T:Tab}{V:Nt}{call:Value->List MV->P MV}{se:SE}{a b c d e es o t i lo hi:IR}
theorem zk(m:P Bool):P.cond m (P.ret true) (P.ret false)=m:=by
 funext loc σ Q X
 show m loc σ (λc l s=>bif c then Q true l s else Q false l s) X=_
 congr 1;funext c l s;cases c<;>rfl
theorem tp{fd:Fd}{op:BoolOp}{y:Expr}{p:Pos}{m:P Bool}(h:gx cx n fd y m):gx cx n fd (.BoolOp op [y] p) m:=by
 cases op
 ·exact zk m▸qv h (uZ (pos:=p))
 ·exact zk m▸u9 h (wl (pos:=p))
noncomputable abbrev c7(cx:Cx)(n:Nat)(T:Tab)(call:Value->List MV->P MV)(se:SE)(a:IR):=Ev cx n se (den T call a)
noncomputable def HW : c7 cx n T call se .fail where
 e:=λ_=> .yes λ_ _=>⟨λ_ _ _ _ _ _ _ _ _ hm=>hm.elim,λ_ _ _ _ _ _ _ _ _ _ _ _ _ _ _ _ hm=>hm.elim⟩
 b:=λ_=> .yes λ_ _ _ _ _ _ _ _ _ _ _ hm=>hm.elim
 it:=λ_=> .yes λ_ _ _ _ _ _ _ _ _ _ hm=>hm.elim
 t:=λ_=> .yes λ_ _ _ _ _ _ _ _ _ _ _ _ _ hm=>hm.elim
 s:=λ_=> .yes λ_ _ _ _ _ _ _ _ _ _ _ hm=>hm.elim
 ss:=λ_=> .yes λ_ _ _ _ _ _ _ _ _ _ _ hm=>hm.elim
 o:=λ_=> .yes λ_ _ _ _ _ _ _ _ _ _ _ hm=>hm.elim
noncomputable def Ko : c7 cx n T call se .nil where
 ss:=λ | []=> .yes λ_ _=>qF | _=> .no
 es:=λ | []=> .yes λ_ _=>⟨.nil,rfl⟩ | _=> .no
 ts:=λ | []=> .yes λ_ _=>⟨zI,rfl,rfl⟩ | _=> .no
 o:=λ | none=> .yes λ_ _=>Aw | _=> .no
 c:=λ | []=> .yes λ_ _=>xp | _=> .no
noncomputable def HD(A:c7 cx n T call se a)(B:c7 cx n T call se b):c7 cx n T call se (.cons a b) where
 ss:=λ | x::r=> .m2 (λh g fd F=>Av (h fd F) (g fd F)) (A.s x) (B.ss r) | _=> .no
 es:=λ | x::r=> .iff (cm x) λp=> .m2 (λh g fd F=>⟨.cons (h fd F).s (g fd F).1,wk p (g fd F).2⟩) (A.e x) (B.es r) | _=> .no
 ts:=λ | x::r=> .iff (cm x) λp=> .m2 (λh g fd F=>⟨w9 p (h fd F) (g fd F).1,wk p (g fd F).2.1,ah Nat.succ (g fd F).2.2⟩) (A.t x) (B.ts r) | _=> .no
 c:=λ | [x]=>(A.b x).m1 λh fd F=>w2 (h fd F) | _=> .no
structure EH(P:Expr->Prop):Type where
 name : ∀a b,Ok (P (.Name a b)):=λ_ _=> .no
 bin : ∀a b c d,Ok (P (.BinOp a b c d)):=λ_ _ _ _=> .no
 cmp : ∀a b c d,Ok (P (.Compare a b c d)):=λ_ _ _ _=> .no
 ite : ∀a b c d,Ok (P (.IfExp a b c d)):=λ_ _ _ _=> .no
 un : ∀a b c,Ok (P (.UnaryOp a b c)):=λ_ _ _=> .no
 bo : ∀a b c,Ok (P (.BoolOp a b c)):=λ_ _ _=> .no
 am : ∀a b c,Ok (P (.Attribute a b c)):=λ_ _ _=> .no
 sub : ∀a b c,Ok (P (.Subscript a b c)):=λ_ _ _=> .no
 slice : ∀a b c d,Ok (P (.Slice a b c d)):=λ_ _ _ _=> .no
 list : ∀a b,Ok (P (.List a b)):=λ_ _=> .no
 tup : ∀a b c,Ok (P (.Tuple a b c)):=λ_ _ _=> .no
 dict : ∀a b c,Ok (P (.Dict a b c)):=λ_ _ _=> .no
 comp : ∀a b c d,Ok (P (.ListComp a b c d)):=λ_ _ _ _=> .no
 call : ∀a b c d,Ok (P (.Call a b c d)):=λ_ _ _ _=> .no
 ag : ∀a b c,Ok (P (.Constant a b c)):=λ_ _ _=> .no
noncomputable def EH.run{P:Expr->Prop}(h:EH P):∀e,Ok (P e)
 | .Name a b=>h.name a b
 | .BinOp a b c d=>h.bin a b c d
 | .Compare a b c d=>h.cmp a b c d
 | .IfExp a b c d=>h.ite a b c d
 | .UnaryOp a b c=>h.un a b c
 | .BoolOp a b c=>h.bo a b c
 | .Attribute a b c=>h.am a b c
 | .Subscript a b c=>h.sub a b c
 | .Slice a b c d=>h.slice a b c d
 | .List a b=>h.list a b
 | .Tuple a b c=>h.tup a b c
 | .Dict a b c=>h.dict a b c
 | .ListComp a b c d=>h.comp a b c d
 | .Call a b c d=>h.call a b c d
 | .Constant a b c=>h.ag a b c
 |_=> .no
structure SH(P:Stmt->Prop):Type where
 ex : ∀a b,Ok (P (.Expr a b)):=λ_ _=> .no
 asg : ∀a b c,Ok (P (.Assign [a] b c)):=λ_ _ _=> .no
 aug : ∀a b c d,Ok (P (.AugAssign a b c d)):=λ_ _ _ _=> .no
 del : ∀a b,Ok (P (.Delete [a] b)):=λ_ _=> .no
 dH : ∀a b c d,Ok (P (.If a b c d)):=λ_ _ _ _=> .no
 gT : ∀a b c,Ok (P (.While a b [] c)):=λ_ _ _=> .no
 fR : ∀a b c d,Ok (P (.For a b c [] d)):=λ_ _ _ _=> .no
 ret : ∀a b,Ok (P (.Return a b)):=λ_ _=> .no
 pass : ∀a,Ok (P (.Pass a)):=λ_=> .no
 brk : ∀a,Ok (P (.Break a)):=λ_=> .no
 MZ : ∀a b,Ok (P (.Raise (some a) none b)):=λ_ _=> .no
 MT : ∀a b c,Ok (P (.Try a b [] [] c)):=λ_ _ _=> .no
noncomputable def SH.run{P:Stmt->Prop}(h:SH P):∀e,Ok (P e)
 | .Expr a b=>h.ex a b
 | .Assign [a] b c=>h.asg a b c
 | .AugAssign a b c d=>h.aug a b c d
 | .Delete [a] b=>h.del a b
 | .If a b c d=>h.dH a b c d
 | .While a b [] c=>h.gT a b c
 | .For a b c [] d=>h.fR a b c d
 | .Return a b=>h.ret a b
 | .Pass a=>h.pass a
 | .Break a=>h.brk a
 | .Raise (some a) none b=>h.MZ a b
 | .Try a b [] [] c=>h.MT a b c
 |_=> .no
section
variable {P:Expr->Prop}
noncomputable def m0(h:∀a b,Ok (P (.Name a b))):∀e,Ok (P e):=EH.run { name:=h }
noncomputable def Hv(h:∀a b c d,Ok (P (.BinOp a b c d))):∀e,Ok (P e):=EH.run { bin:=h }
noncomputable def DG(h:∀a b c d,Ok (P (.Compare a b c d))):∀e,Ok (P e):=EH.run { cmp:=h }
noncomputable def HV(h:∀a b c d,Ok (P (.IfExp a b c d))):∀e,Ok (P e):=EH.run { ite:=h }
noncomputable def JE(h:∀a b c,Ok (P (.UnaryOp a b c))):∀e,Ok (P e):=EH.run { un:=h }
noncomputable def JK(h:∀a b c,Ok (P (.BoolOp a b c))):∀e,Ok (P e):=EH.run { bo:=h }
noncomputable def pY(h:∀a b c,Ok (P (.Attribute a b c))):∀e,Ok (P e):=EH.run { am:=h }
noncomputable def uO(h:∀a b c,Ok (P (.Subscript a b c))):∀e,Ok (P e):=EH.run { sub:=h }
noncomputable def Bx(h:∀a b c d,Ok (P (.Slice a b c d))):∀e,Ok (P e):=EH.run { slice:=h }
noncomputable def EM(h:∀a b,Ok (P (.List a b))):∀e,Ok (P e):=EH.run { list:=h }
noncomputable def BE(h:∀a b c,Ok (P (.Tuple a b c))):∀e,Ok (P e):=EH.run { tup:=h }
noncomputable def yq(h:∀a b c,Ok (P (.Dict a b c))):∀e,Ok (P e):=EH.run { dict:=h }
noncomputable def Gx(h:∀a b c d,Ok (P (.ListComp a b c d))):∀e,Ok (P e):=EH.run { comp:=h }
noncomputable def yD(h:∀a b c d,Ok (P (.Call a b c d))):∀e,Ok (P e):=EH.run { call:=h }
noncomputable def vJ(h:∀a b c,Ok (P (.Constant a b c))):∀e,Ok (P e):=EH.run { ag:=h }
noncomputable def nL(h:∀z q b d,Ok (P (.Call (.Name z q) b [] d))):∀e,Ok (P e):=yD λa b c d=>match c with
 | []=>m0 (P:=λa=>P (.Call a b [] d)) (λz q=>h z q b d) a
 |_=> .no
noncomputable def fX(h:∀z q x d,Ok (P (.Call (.Name z q) [x] [] d))):∀e,Ok (P e):=nL λz q b d=>match b with
 | [x]=>h z q x d
 |_=> .no
noncomputable def y5(h:∀l o r d,Ok (P (.Compare l [o] [r] d))):∀e,Ok (P e):=DG λa b c d=>match b,c with
 | [o],[r]=>h a o r d
 |_,_=> .no
noncomputable def yA(h:∀l o p r q d,Ok (P (.Compare l [o,p] [r,q] d))):∀e,Ok (P e):=DG λa b c d=>match b,c with
 | [o,p],[r,q]=>h a o p r q d
 |_,_=> .no
noncomputable def Cz(h:∀x d,Ok (P (.UnaryOp .Not x d))):∀e,Ok (P e):=JE λa b c=>match a with
 | .Not=>h b c
 |_=> .no
noncomputable def GS(h:∀o l u q d,Ok (P (.Subscript o (.Slice l u none q) d))):∀e,Ok (P e):=uO λa b c=>Bx (P:=λb=>P (.Subscript a b c)) (λl u s q=>match s with
 |none=>h a l u q c
 |_=> .no) b
noncomputable def pQ(op:BoolOp)(h2:∀x y p,Ok (P (.BoolOp op [x,y] p)))(h3:∀x y z r p,Ok (P (.BoolOp op (x::y::z::r) p))):∀e,Ok (P e):=JK λa b c=> .eq op a λq=>Eq.rec (motive:=λx _=>Ok (P (.BoolOp x b c))) (match b with
 | [x,y]=>h2 x y c
 |x::y::z::r=>h3 x y z r c
 |_=> .no) q
end
noncomputable def E9{v:MV}:c7 cx n T call se (.ag v):= .ex (vJ λc _ _=>(yL c v).m1 λh _ _=> .pl rfl (EN h))
theorem Fp{i:Nat}{x:Str}{p:Pos}{fd:Fd}(F:mM se fd)(h1:se.names[i]?=some x)(h2:(!(x==("__debug__" : Str)))=true) (h3:(!(x==("__classdict__" : Str)))=true) (k:(se.is x .local||(se.is x .cell||se.is x .free))=true):wn cx n fd (.Name x p) (P.aa i):=
 .pl rfl (Ce (F.names▸h1) F.hk ((dp.mp k).imp (g6 F) λk=>(dp.mp k).imp (g6 F) (g6 F)) (nb h2) (nb h3))
noncomputable def Hr{i:Nat}:c7 cx n T call se (.aa i):= .ext
 (m0 λx _=> .eq (se.names[i]?) (some x) λh1=> .iff (!(x==("__debug__" : Str))) λh2=> .iff (!(x==("__classdict__" : Str))) λh3=> .iff (se.is x .local||(se.is x .cell||se.is x .free)) λk=> .yes λ_ F=>Fp F h1 h2 h3 k)
 (m0 λx _=> .eq (se.names[i]?) (some x) λh1=> .or
    (.iff (se.is x .local) λk=> .yes λfd F=>ww F.hk F.nd (F.names▸h1) (g6 F k))
    (.iff se.fn λh2=> .iff (se.is x .cell) λk=> .iff (se.cells.contains x) λh4=> .yes λfd F=>xY (F.F h2) (F.names▸h1) (.inr ⟨g6 F k,F.cells _ (bX.mp h4)⟩)))
theorem FH(O:fU cx T V){x:String}{v:MV}{z:Str}{p:Pos}{fd:Fd}(h:V.Ji x v=true)(F:mM se fd)(g:GN x z fd):wn cx n fd (.Name z p) (P.ret v):=by
 refine aT (O.Ji _ _ h) λu e hc=> ?_
 exact .pl rfl (DV hc F.hk g.k F.gl g.d (g.eq▸e))
noncomputable def HI(O:fU cx T V){x:String}{v:MV}:c7 cx n T call se (.glob x v):= .ex (m0 λz _=> .iff (V.Ji x v) λh=>(v9 se x z).m1 λg fd F=>FH O h F (g fd F))
noncomputable def KJ{op:Operator}(A:c7 cx n T call se a)(B:c7 cx n T call se b):c7 cx n T call se (.bin op a b):= .ex (Hv λl o r _=> .eq o op λq=> .m2 (λh g fd F=> .pl rfl (q▸AZ (h fd F).s (g fd F).s)) (A.e l) (B.e r))
noncomputable def J9{op:CmpOp}(A:c7 cx n T call se a)(B:c7 cx n T call se b):c7 cx n T call se (.cmp op a b):= .bo
 (y5 λl o r _=> .iff (!lastMarks [o] [r]) λk=> .eq o op λq=> .m2 (λh g fd F=> .pl rfl (q▸tA (h fd F).s (g fd F).s (nb k))) (A.e l) (B.e r))
 (y5 λl o r _=> .iff (!lastMarks [o] [r]) λk=> .eq o op λq=> .m2 (λh g fd F=>q▸rI (h fd F).s (g fd F).s (nb k)) (A.e l) (B.e r))
noncomputable def Iw{o1 o2:CmpOp}(A:c7 cx n T call se a)(B:c7 cx n T call se b)(C:c7 cx n T call se c):c7 cx n T call se (.ky o1 o2 a b c):= .bo
 (yA λl p q r r' _=> .iff (!lastMarks [p,q] [r,r']) λk=> .eq p o1 λe1=> .eq q o2 λe2=> .m3 (λh g w fd F=> .pl rfl (e1▸e2▸tQ (h fd F).s (g fd F).s (w fd F).s (nb k))) (A.e l) (B.e r) (C.e r'))
 (yA λl p q r r' _=> .iff (!lastMarks [p,q] [r,r']) λk=> .eq p o1 λe1=> .eq q o2 λe2=> .m3 (λh g w fd F=>e1▸e2▸sx (h fd F).s (g fd F).s (w fd F).s (nb k)) (A.e l) (B.e r) (C.e r'))
noncomputable def KP(t':c7 cx n T call se t)(A:c7 cx n T call se a)(B:c7 cx n T call se b):c7 cx n T call se (.ite t a b):= .bo
 (HV λx y z _=> .m3 (λh g w fd F=> .pl rfl (zP (h fd F) (g fd F).s (w fd F).s)) (t'.b x) (A.e y) (B.e z)) λ_=> .no
noncomputable def JO(A:c7 cx n T call se a):c7 cx n T call se (.not a):= .bo
 (Cz λx _=>(A.e x).m1 λh fd F=> .pl rfl (EO (h fd F).s)) (Cz λx _=>(A.b x).m1 λh fd F=>BK (h fd F))
noncomputable def KI(A:c7 cx n T call se a)(B:c7 cx n T call se b):c7 cx n T call se (.and a b):= .bo
 (pQ .And (λx y _=> .m2 (λh g fd F=> .pl rfl (yf (h fd F).s (pe (g fd F).s))) (A.e x) (B.e y)) λx y z r p=> .m2 (λh g fd F=> .pl rfl (yf (h fd F).s (g fd F).s)) (A.e x) (B.e (.BoolOp .And (y::z::r) p)))
 (pQ .And (λx y _=> .m2 (λh g fd F=>qv (h fd F) (tp (g fd F))) (A.b x) (B.b y)) λx y z r p=> .m2 (λh g fd F=>qv (h fd F) (g fd F)) (A.b x) (B.b (.BoolOp .And (y::z::r) p)))
noncomputable def LU(A:c7 cx n T call se a)(B:c7 cx n T call se b):c7 cx n T call se (.or a b):= .bo
 (pQ .Or (λx y _=> .m2 (λh g fd F=> .pl rfl (C5 (h fd F).s (pe (g fd F).s))) (A.e x) (B.e y)) λx y z r p=> .m2 (λh g fd F=> .pl rfl (C5 (h fd F).s (g fd F).s)) (A.e x) (B.e (.BoolOp .Or (y::z::r) p)))
 (pQ .Or (λx y _=> .m2 (λh g fd F=>u9 (h fd F) (tp (g fd F))) (A.b x) (B.b y)) λx y z r p=> .m2 (λh g fd F=>u9 (h fd F) (g fd F)) (A.b x) (B.b (.BoolOp .Or (y::z::r) p)))
noncomputable def Hk(O:fU cx T V){x:String}(A:c7 cx n T call se a):c7 cx n T call se (.am a x):= .ext
 (pY λo y _=> .eq y (Str.ofString x) λq=> .m2 (λg h fd F=> .pl rfl (q▸sG O.tb.am (g fd F).s (h _ _ _))) (A.e o) (Bf o))
 (pY λo y _=> .eq y (Str.ofString x) λq=>(A.e o).m1 λg fd F=>q▸xN O.tb.am (g fd F).s)
noncomputable def HO(A:c7 cx n T call se a)(B:c7 cx n T call se b):c7 cx n T call se (.item a b):= .ext
 (uO λo i _=> .m2 (λh g fd F=> .pl rfl (si (h fd F).s (g fd F).s)) (A.e o) (B.e i))
 (uO λo i _=> .iff (!CY i) λk=> .m2 (λh g fd F=>xr (λp q r z=>aE ((nb k).symm.trans (z▸rfl))) (h fd F).s (g fd F).s) (A.e o) (B.e i))
noncomputable def Gm(A:c7 cx n T call se a)(L:c7 cx n T call se lo)(H:c7 cx n T call se hi):c7 cx n T call se (.slice a lo hi):= .ext
 (GS λo l h _ _=> .m3 (λh g w fd F=> .pl rfl (AF (h fd F).s (g fd F) (w fd F))) (A.e o) (L.o l) (H.o h))
 (GS λo l h _ _=> .m3 (λh g w fd F=>vZ (h fd F).s (g fd F) (w fd F)) (A.e o) (L.o l) (H.o h))
noncomputable def IV(E:c7 cx n T call se es):c7 cx n T call se (.list es):= .ex (EM λxs _=>(E.es xs).m1 λh fd F=> .pl rfl (CJ (iD (h fd F).2 (h fd F).1)))
theorem EY{xs:List Expr}{k:Nat}{p:Pos}{fd:Fd}{m:List MV->P Unit}{tn:Nat}(h:sU cx n fd xs m/\xs.all cm=true/\xs.length=tn):ew cx n fd (.Tuple xs k p) (P.zv tn m):=h.2.2▸vI h.2.1 h.1
noncomputable def JY(E:c7 cx n T call se es):c7 cx n T call se (.tup es):= .ext
 (BE λxs _ _=>(E.es xs).m1 λh fd F=> .pl rfl (AB (iD (h fd F).2 (h fd F).1)))
 (BE λxs _ _=>(E.ts xs).m1 λh fd F=>EY (h fd F))
noncomputable def EX : c7 cx n T call se .iT:= .ex (yq λa b _=>match a,b with
 | [],[]=> .yes λ_ _=> .pl rfl zT
 |_,_=> .no)
noncomputable def Gn{ks:List String}(E:c7 cx n T call se es):c7 cx n T call se (.dD ks es):= .ex (yq λkeys xs _=> .eq ks.length xs.length λc2=> .iff (decide (0 < ks.length)) λc3=> .iff (decide (ks.length<=15)) λc4=> .m2 (λh c1 fd F=> .pl rfl (zY c1 c2 (aF c3) (aF c4) (h fd F).1)) (E.es xs) (B5 keys ks))
theorem Fn{fd:Fd}{scope:Scope}{cn:List Str}{cmap:List (Option Nat)}{elt target iter:Expr}{fs:List Expr}{p:Pos}{tt:Bool}{mi:P It}{mt:MV->P Unit}{mf:P Bool}{me:P MV}(F:mM se fd)(K:jc fd scope cn cmap)(nd:cn.Nodup)(q:c5 target=tt)
  (h1:qP cx n fd iter mi)(h2:Al (l9 se scope cn) λfd=>ew cx n fd target mt)(h3:Al (l9 se scope cn) λfd=>ib cx n fd fs mf)(h4:Al (l9 se scope cn) λfd=>wn cx n fd elt me) :
  wn cx n fd (.ListComp elt [⟨target,iter,fs,0⟩] scope p) (P.comp cmap tt mi mt mf me):=by
 subst q
 have D:=λC=>Fl (C:=C) F K.hk nd
 exact⟨t9 K (Kr F) h1 (λC=>h2 _ (D C)) (λC=>h3 _ (D C)) λC=>(h4 _ (D C)).s,λ_ y py sp mt' hsw hmt=>pC K (Kr F) hsw h1 (λC=>h2 _ (D C)) (λC=>h3 _ (D C)) (λC=>(h4 _ (D C)).s) hmt⟩
noncomputable def H4{cn:List Str}{cmap:List (Option Nat)}{tt:Bool}{tg ifs el:IR}(I:c7 cx n T call se i)(G:∀se,c7 cx n T call se tg)(U:∀se,c7 cx n T call se ifs)(L:∀se,c7 cx n T call se el):c7 cx n T call se (.comp cn cmap tt i tg ifs el):= .ex (Gx λelt gs scope _=>match gs with
 | [⟨target,iter,fs,0⟩]=> .eq scope.kind .function λh1=> .iff (scope.names.all λx=> !(x.2== .cell)) λh2=> .iff (scope.names.all λx=> !(x.2== .local)||scope.names.lookup x.1==some .local) λh3=>
  .iff (decide (scope.names.map (·.1)).Nodup) λh4=> .iff (decide cn.Nodup) λh5=> .iff (scope.names.all λx=> !(x.2== .free)||(List.range cn.length).any λi=>cn[i]?==some x.1&&q5 cmap i) λh6=> .iff ((List.range cn.length).all (Iz se scope cn cmap)) λh7=>
  .eq (c5 target) tt λq=> .m2 (λh g fd F=>Fn F (Am F h1 h2 h3 (aF h4) h6 h7) (aF h5) q (h fd F) g.1 g.2.1 g.2.2) (I.it iter) (.m3 (λx y z=>And.intro x (And.intro y z)) ((G (l9 se scope cn)).t target) ((U (l9 se scope cn)).c fs) ((L (l9 se scope cn)).e elt))
 |_=> .no)
noncomputable def H9(O:fU cx T V)(hc:∀fd f,cP cx n fd f (call f)){x:String}{f:Value}(E:c7 cx n T call se es):c7 cx n T call se (.call x f es):= .ex (nL λz _ args _=> .m2 (λh g fd F=> .pl rfl (tZ ((h fd F).is _) (h fd F).k (g fd F).2 (iD (g fd F).2 (g fd F).1) (hc fd f))) (ke (n:=n) O se x f z) (E.es args))
noncomputable def HL(O:fU cx T V)(hc:∀fd f,cP cx n fd f (call f)){x:String}(A:c7 cx n T call se o)(E:c7 cx n T call se es):c7 cx n T call se (.aO o x es):= .ex (yD λf args kw q=>match kw with
 | []=>pY (P:=λf=>Al se λfd=>wn cx n fd (.Call f args [] q) _) (λo' y p=> .eq y (Str.ofString x) λe=> .iff (p.endLine==q.line) λc2=> .iff (decide (args.length < 30)) λc3=> .m3 (λk h g fd F=> .pl rfl (e▸tF O.tb (h fd F).s (k _ _ _) c2 (aF c3) (g fd F).2 (λ_=>iD (g fd F).2 (g fd F).1) (hc fd))) (Bf o') (A.e o') (E.es args)) f
 |_=> .no)
noncomputable def B1(O:fU cx T V){t:String}(A:c7 cx n T call se a):c7 cx n T call se (.iq t a):= .ex (nL λz _ args q=>match args with
 | [x,y]=>m0 (P:=λy=>Al se λfd=>wn cx n fd (.Call (.Name z _) [x,y] [] q) _) (λy _=> .iff (cm x) λc=> .m3 (λh k g fd F=> .pl rfl (xG ((h fd F).is _) ((k fd F).is _) c (g fd F).s)) (ke (n:=n) O se "isinstance" (.builtin "isinstance") z) (ke (n:=n) O se t (.type t) y) (A.e x)) y
 |_=> .no)
noncomputable def Bz(O:fU cx T V)(A:c7 cx n T call se a):c7 cx n T call se (.mx a):= .ex (fX λz _ w q=>fX (P:=λw=>Al se λfd=>wn cx n fd (.Call (.Name z _) [w] [] q) _) (λy _ x _=> .iff (cm x) λc=> .m3 (λh k g fd F=> .pl rfl (wX ((h fd F).is _) ((k fd F).is _) c (g fd F).s)) (ke (n:=n) O se "len" (.builtin "len") z) (ke (n:=n) O se "set" (.type "set") y) (A.e x)) w)
noncomputable def FS(O:fU cx T V)(A:c7 cx n T call se a):c7 cx n T call se (.pq a):= .ex (fX λz _ x _=> .iff (cm x) λc=> .m2 (λh g fd F=> .pl rfl (Aa ((h fd F).is _) c (g fd F).s)) (ke (n:=n) O se "dict" (.type "dict") z) (A.e x))
noncomputable def DL(O:fU cx T V)(A:c7 cx n T call se a):c7 cx n T call se (.mz a):= .ex (fX λz _ w q=>fX (P:=λw=>Al se λfd=>wn cx n fd (.Call (.Name z _) [w] [] q) _) (λy _ x _=> .iff (cm x) λc=> .m3 (λh k g fd F=> .pl rfl (wT ((h fd F).is _) ((k fd F).is _) c (g fd F).s)) (ke (n:=n) O se "list" (.type "list") z) (ke (n:=n) O se "range" (.type "range") y) (A.e x)) w)
noncomputable def Hz(A:c7 cx n T call se a):c7 cx n T call se (.iter a) where
 it:=λx=> .iff (!xj x) λc=>(A.e x).m1 λh fd F=>zF (nb c) (h fd F).s
noncomputable def Fq(O:fU cx T V)(E:c7 cx n T call se es):c7 cx n T call se (.range es) where
 it:=nL λz _ args _=> .m2 (λh g fd F=>xR ((h fd F).is _) (g fd F).2 (iD (g fd F).2 (g fd F).1)) (ke (n:=n) O se "range" (.type "range") z) (E.es args)
noncomputable def IG(O:fU cx T V)(A:c7 cx n T call se a):c7 cx n T call se (.enum a) where
 it:=fX λz _ x _=> .iff (cm x) λc=> .m2 (λh g fd F=>Aq ((h fd F).is _) c (g fd F).s) (ke (n:=n) O se "enumerate" (.type "enumerate") z) (A.e x)
noncomputable def JU(O:fU cx T V)(A:c7 cx n T call se a):c7 cx n T call se (.rev a) where
 it:=fX λz _ x _=> .iff (cm x) λc=> .m2 (λh g fd F=>Cq ((h fd F).is _) c (g fd F).s) (ke (n:=n) O se "reversed" (.type "reversed") z) (A.e x)
noncomputable def Ih(A:c7 cx n T call se a):c7 cx n T call se (.expr a):= .st (SH.run { ex:=λx _=> .iff se.fn λf=> .iff (!kG x) λc=>(A.e x).m1 λh fd F=>Aj (F.F f) (nb c) (h fd F).s })
theorem Fi{e o:Expr}{y:Str}{p:Pos}{l:Nat}{env:Env}:swapsWith e (some (.Attribute o y p)) l env=pure false:=by cases e<;>rfl
theorem FX{e o i:Expr}{p:Pos}{l:Nat}{env:Env}:swapsWith e (some (.Subscript o i p)) l env=pure false:=by cases e<;>rfl
theorem Gw{e:Expr}{ts:List Expr}{k:Nat}{p:Pos}{l:Nat}{env:Env}:swapsWith e (some (.Tuple ts k p)) l env=pure false:=by cases e<;>rfl
noncomputable def Kg(B:c7 cx n T call se t)(A:c7 cx n T call se a):c7 cx n T call se (.asg t a):= .st (SH.run { asg:=λt' x p=>EH.run (P:=λt'=>Al se λfd=>gd cx n fd (.Assign [t'] x p) _) {
 name:=λz p=> .m2 (λh g fd F=>C2 (h fd F) (g fd F)) (A.e x) (B.t (.Name z p))
 am:=λo y p=> .m2 (λh g fd F=>fA rfl Fi rfl (h fd F).s (g fd F)) (A.e x) (B.t (.Attribute o y p))
 sub:=λo y p=> .m2 (λh g fd F=>fA rfl FX rfl (h fd F).s (g fd F)) (A.e x) (B.t (.Subscript o y p))
 tup:=λts k p=> .iff (ts.any (Bu se)|| !c5 x) λc=> .m2 (λh g fd F=>fA rfl Gw (Az ((dp.mp c).imp (xO F) nb)) (h fd F).s (g fd F)) (A.e x) (B.t (.Tuple ts k p)) } t' })
noncomputable def Ki(O:fU cx T V){x:String}{op:Operator}{v:IR}(A:c7 cx n T call se o)(B:c7 cx n T call se v):c7 cx n T call se (.aug o x op v):= .st (SH.run { aug:=λt' op' v' p=>pY (P:=λt'=>Al se λfd=>gd cx n fd (.AugAssign t' op' v' p) _) (λo' y _=> .eq y (Str.ofString x) λe1=> .eq op' op λe2=> .m2 (λh g fd F=>e1▸e2▸DM O.tb.am (h fd F).s (g fd F).s) (A.e o') (B.e v')) t' })
noncomputable def JN(A:c7 cx n T call se o)(B:c7 cx n T call se i):c7 cx n T call se (.del o i):= .st (SH.run { del:=λt' p=>uO (P:=λt'=>Al se λfd=>gd cx n fd (.Delete [t'] p) _) (λx y _=> .m2 (λh g fd F=>DT (h fd F).s (g fd F).s) (A.e x) (B.e y)) t' })
noncomputable def Mi(t':c7 cx n T call se t)(A:c7 cx n T call se a)(B:c7 cx n T call se b):c7 cx n T call se (.dH t a b):= .st (SH.run { dH:=λx y z _=> .m3 (λh g w fd F=>E3 (h fd F) (g fd F) (w fd F)) (t'.b x) (A.ss y) (B.ss z) })
noncomputable def F3(t':c7 cx n T call se t)(B:c7 cx n T call se b):c7 cx n T call se (.gT t b):= .st (SH.run { gT:=λx y _=> .iff se.fn λf=> .m2 (λh g fd F=>xQ (F.F f) (h fd F) (g fd F) qF) (t'.b x) (B.ss y) })
noncomputable def JL{tt:Bool}(t':c7 cx n T call se t)(I:c7 cx n T call se i)(B:c7 cx n T call se b):c7 cx n T call se (.fR tt t i b):= .st (SH.run { fR:=λx y z _=> .iff se.fn λf=> .eq (c5 x) tt λq=> .m3 (λh g w fd F=>q▸B6 (F.F f) (g fd F) (h fd F) (w fd F) qF) (t'.t x) (I.it y) (B.ss z) })
noncomputable def J1(A:c7 cx n T call se a):c7 cx n T call se (.ret a):= .st (SH.run { ret:=λx _=>match x with
 |some x=>(A.e x).m1 λh fd F=>v5 (h fd F).s
 |_=> .no })
noncomputable def Ir : c7 cx n T call se .A5:= .st (SH.run { ret:=λx _=>match x with
 |none=> .yes λ_ _=>tM
 |_=> .no })
noncomputable def I4 : c7 cx n T call se .pass:= .st (SH.run { pass:=λ_=> .yes λ_ _=>AT })
noncomputable def J5 : c7 cx n T call se .brk:= .st (SH.run { brk:=λ_=> .yes λ_ _=>xb })
theorem C0(O:fU cx T V){C:Addr}{nm x:String}{y:Str}{np cp pos p:Pos}{k:Nat}{fd:Fd}(h1:V.A7 C=true)(h2:V.gv nm=some (.ref C))(F:mM se fd)(g:GN nm y fd):gd cx n fd (.Raise (some (.Call (.Name y np) [.Constant (.str (Str.ofString x)) k p] [] cp)) none pos) (P.raise C):=by
 refine fu (O.A7 _ h1) λB0 d K=> ?_
 exact wV K F.hk g.k F.gl g.d (g.eq▸(O.gv _ _ h2).1)
noncomputable def F4(O:fU cx T V){C:Addr}{nm x:String}:c7 cx n T call se (.raise nm C x):= .st (SH.run { MZ:=λe p=>fX (P:=λe=>Al se λfd=>gd cx n fd (.Raise (some e) none p) _) (λy q w d=>vJ (P:=λw=>Al se λfd=>gd cx n fd (.Raise (some (.Call (.Name y q) [w] [] d)) none p) _) (λs _ _=>match s with | .str s=> .eq s (Str.ofString x) λe=> .iff (V.A7 C) λh1=> .iff (V.gv nm==some (.ref C)) λh2=>(v9 se nm y).m1 λg fd F=>e▸C0 O h1 (eq_of_beq h2) F (g fd F) | _=> .no) w) e })
noncomputable def KN(O:fU cx T V){hs:List (String×Addr×MV)}(B:c7 cx n T call se b):c7 cx n T call se (.DZ hs b):= .st (SH.run { MT:=λx hs' _=> .iff se.fn λf=> .iff (!hs'.isEmpty) λk=> .m2 (λh g fd F=>C7 (F.F f) F.gl O.nU (h fd F) (g fd F) (nb k)) (B.ss x) (yw O se hs' hs) })
noncomputable def ck(O:fU cx T V)(hc:∀fd f,cP cx n fd f (call f))(ir:IR):∀se,c7 cx n T call se ir:=
 IR.rec (motive:=λir=>∀se,c7 cx n T call se ir) (λ_=>HW) (λ_=>Ko) (λ_ _ A B s=>HD (A s) (B s)) (λ_ _=>E9) (λ_ _=>Hr) (λ_ _ _=>HI O)
  (λ_ _ _ A B s=>KJ (A s) (B s)) (λ_ _ _ A B s=>J9 (A s) (B s)) (λ_ _ _ _ _ A B C s=>Iw (A s) (B s) (C s)) (λ_ _ _ A B C s=>KP (A s) (B s) (C s)) (λ_ A s=>JO (A s)) (λ_ _ A B s=>KI (A s) (B s)) (λ_ _ A B s=>LU (A s) (B s))
  (λ_ _ A s=>Hk O (A s)) (λ_ _ A B s=>HO (A s) (B s)) (λ_ _ _ A B C s=>Gm (A s) (B s) (C s)) (λ_ A s=>IV (A s)) (λ_ A s=>JY (A s)) (λ_=>EX) (λ_ _ A s=>Gn (A s)) (λ_ _ _ _ _ _ _ A B C D s=>H4 (A s) B C D)
  (λ_ _ _ A s=>H9 O hc (A s)) (λ_ _ _ A B s=>HL O hc (A s) (B s)) (λ_ _ A s=>B1 O (A s)) (λ_ A s=>Bz O (A s)) (λ_ A s=>FS O (A s)) (λ_ A s=>DL O (A s)) (λ_ A s=>Hz (A s)) (λ_ A s=>Fq O (A s)) (λ_ A s=>IG O (A s)) (λ_ A s=>JU O (A s))
  (λ_ A s=>Ih (A s)) (λ_ _ A B s=>Kg (A s) (B s)) (λ_ _ _ _ A B s=>Ki O (A s) (B s)) (λ_ _ A B s=>JN (A s) (B s)) (λ_ _ _ A B C s=>Mi (A s) (B s) (C s)) (λ_ _ A B s=>F3 (A s) (B s)) (λ_ _ _ _ A B C s=>JL (A s) (B s) (C s))
  (λ_ A s=>J1 (A s)) (λ_=>Ir) (λ_=>I4) (λ_=>J5) (λ_ _ _ _=>F4 O) (λ_ _ A s=>KN O (A s)) ir
end
section
variable {cx:Cx}{n:Nat}{fd:Fd}{T:Tab}{V:Nt}{se:SE}
theorem P.rE{f:Value}:cP cx n fd f (λ_=>P.fail):=λ_ _ _ _ _ _ _ _ _ _ _ hm=>hm.elim
theorem cj{f:Value}{p:Prop} [Decidable p] {a b:List MV->P MV}(h:p->cP cx n fd f a)(g:cP cx n fd f b):cP cx n fd f (λas=>(if p then a as else b as:P MV)):=λas vs=>by
 by_cases q : p
 ·show aM _ _ _ _ _ _ (if p then a as else b as:P MV)
  rw[if_pos q];exact h q as vs
 ·show aM _ _ _ _ _ _ (if p then a as else b as:P MV)
  rw[if_neg q];exact g as vs
theorem AY(hE:∀C,T.eqs C=true->eqB cx.K C=true){id:String}:cP cx n fd (.builtin id) (GY T id):=
 cj (λe=>e▸Fj.toN)<|cj (λe=>e▸CQ.toN)<|cj (λe=>e▸Bm.toN)<|cj (λe=>e▸CG)<|cj (λe=>e▸Dv)<|
 cj (λe=>e▸xB.toN)<|cj (λe=>e▸xm.toN)<|cj (λe=>e▸(vD hE).toN)<|cj (λe=>e▸FD.toN)<|cj (λe=>e▸Fg.toN)<|cj (λe=>e▸FL.toN) P.rE
theorem zZ{t:String}:cP cx n fd (.type t) (GZ t):=
 cj (λe=>e▸zO.toN)<|cj (λe=>e▸sE)<|cj (λe=>e▸Ax)<|cj (λe=>e▸AK) P.rE
theorem yQ{d:uf}(F:sj cx d)(nd:d.names.Nodup){L:Addr}:mM (Ge d) (Fd.call fd d L):=by
 exact⟨rfl,λ_=>rfl,F.kind,nd,F.gl,F.bi,λx h=>(gC _ _ _ _ _ rfl)▸h,λ_=>⟨rfl,rfl,F.kind,λc h=>aB _ (cq.mpr ⟨c,h,rfl⟩),nd,(gC _ _ _ _ _ rfl)▸F.cn⟩⟩
structure Ma(cx:Cx)(T:Tab)(V:Nt)(O:fU cx T V)(a ar nl:Nat)(dm:List MV)(body:IR):Prop where
 h : ∃d,sj cx d/\d.addr=a/\d.arity=ar/\d.names.length=nl/\d.dm=dm/\d.names.Nodup/\∀n call hc,((ck (n:=n) (call:=call) O hc body (Ge d)).ss d.body).y=true
structure Dw(cx:Cx)(T:Tab)(V:Nt):Prop where
 A : fU cx T V
 fn : ∀a ar nl dm body,T.fn a=some (ar,nl,dm,body)->Ma cx T V A a ar nl dm body
theorem vG(O:fU cx T V)(h:∀a as,kD cx n (.ref a) as (lg T n a as))(fd:Fd)(f:Value):cP cx n fd f (zr T n f):=by
 cases f with
 |ref b=>exact cP.of (h b)
 |builtin id=>exact AY O.eqs
 |type t=>exact zZ
 |_=>exact P.rE
theorem rh(O:Dw cx T V):∀ (n:Nat)(a:Addr)(as:List MV),kD cx n (.ref a) as (lg T n a as)
 |0,_,_=>λ_ _ _ _ _ _ _ _ _ _ _ hm=>hm.elim
 |n+1,a,as=>by
  dsimp only[lg]
  split
  ·rename_i ar nl dm body e
   refine JQ ((O.fn _ _ _ _ _ e).h) λd F zr2_ zr3_ zr4_ zr5_ nd g=> ?_;subst zr2_;subst zr3_;subst zr4_;subst zr5_
   exact EA F λfd L=>Ok.get (g n _ (vG O.A (rh O n))) _ (yQ F nd)
  ·split
   ·rename_i init e
    exact Cg (O.A.cls _ _ e) λl=>rh O n init _
   ·exact λ_ _ _ _ _ _ _ _ _ _ _ hm=>hm.elim
end
noncomputable section
noncomputable def MK : List (String×Addr):=[("half_at",116),("word_at",123),("put_half",130),("put_word",137),("rounded_up",144),("octets_of",464),("cut_name",471),("row_for",485),("name_in",492),("packed_head",981),("_law_disk",1092),("_law_root",1099),("_law_name",1106),("_law_block",1113),("_law_given",1120),("_law_link",1127),("_law_call_right",1132),("_law_same",1137),("Super",204),("Node",293),("Nodes",453),("Paths",659),("Buffer",757),("Cache",874),("Disk",972),("Journal",1083),("NoRoom",76),("BadCall",88)]
noncomputable def LN : List (String×Bool):=[("len",false),("abs",false),("min",false),("sum",false),("bytes",true),("bytearray",true),("dict",true),("list",true),("isinstance",false),("int",true),("str",true),("set",true),("range",true),("enumerate",true),("reversed",true)]
noncomputable def LL : List (String×Int×Tok):=[("MAGIC",270544960,315),("FREE",0,317),("DIRECTORY",1,319),("FILE",2,321),("DEVICE",3,323),("ROOT",1,325),("FIRST_LOG",2,327),("HEAD",12,331),("PIECE",16,333),("SUPER_WORDS",9,335),("MOST_A_PIECE",4,337),("NAME",14,849),("ROW",16,851),("NUMBER",4,1558),("MOST_EACH",10,1560),("SPARE",4,1562)]
noncomputable def L1 : List (String×List UInt8×Tok):=[("HERE",[46],855),("ABOVE",[46,46],857)]
noncomputable def LH(x:String):Bool->Value
 |true=> .type x
 |false=> .builtin x
noncomputable def nt : Nt where
 gv x:=(MK.lookup x).map .ref
 bv x:=(LN.lookup x).map (LH x)
 Ji x v:=match v with
  | .int i=>(LL.lookup x).any (·.1==i)
  | .bytes b=>(L1.lookup x).any (·.1==b)
  |_=>false
 A7 C:=n4.contains C
noncomputable abbrev Eh:=Addr×Nat×Nat×List MV×IR
noncomputable def fnD? : Data->Option FuncData
 | .func fd=>some fd
 |_=>none
noncomputable def fnAt(K:Frag)(a:Addr):Option FuncData:=(K.lookup a).bind λo=>fnD? o.data
noncomputable def MI(K:Frag)(a:Addr):Bool:=(fnAt K a).isSome
noncomputable def eZ(K:Frag)(a:Addr):FuncData:=(fnAt K a).getD default
theorem Kw{K:Frag}{a:Addr}(h:MI K a=true):∃o,K.lookup a=some o/\o.data= .func (eZ K a):=by
 refine cN (cb.mp h) λfd e=> ?_
 refine aT (Option.bind_eq_some_iff.mp e) λo q f=> ?_
 refine⟨o,q, ?_⟩
 unfold eZ
 refine ae e▸ ?_
 generalize o.data=d at f ⊢
 cases d<;>first | exact ah Data.func (aS f) | cases f
noncomputable def zc : FuncBody->List Stmt
 | .stmts b=>b
 |_=>[]
noncomputable def yN : FuncBody->Bool
 | .stmts _=>true
 |_=>false
theorem Cm : ∀ {b:FuncBody},yN b=true->b= .stmts (zc b)
 | .stmts _,_=>rfl
noncomputable def namesOf(a:Addr)(fd:FuncData):List Str:=if a==1142 then (["script", "marks", "spare", "plan", "disk", "paths", "root", "own", "n", "later"]:List String).map Str.ofString else (fd.scope.names.filter λx=>x.2== .local||x.2== .cell).map (·.1)
noncomputable def wJ(a:Addr):List (MV×Value):=if a==159 then [(.int 12, .int 12 329)] else if a==340 then [(.int 0, .int 0 642),(.int 0, .int 0 643)] else if a==996 then [(.none, .none)] else if a==36 then [(.str "", .str (Str.ofString "") 208)] else []
theorem IA{a:Addr}{ρ:LA->Addr}{U:LA->Prop}{h:Heap}:cR ρ U h ((wJ a).map (·.1)) ((wJ a).map (·.2)):=by
 unfold wJ
 cases a==159
 ·cases a==340
  ·cases a==996
   ·cases a==36
    ·exact .nil
    ·exact .cons .str .nil
   ·exact .cons .none .nil
  ·exact .cons .int (.cons .int .nil)
 ·exact .cons .int .nil
noncomputable def iF(K:Frag)(p:Eh):uf:=⟨p.1,eZ K p.1,zc (eZ K p.1).body,namesOf p.1 (eZ K p.1),p.2.1,(wJ p.1).map (·.2),(wJ p.1).map (·.1)⟩
noncomputable abbrev GR(fd:FuncData):List Str:=(cellsFrom 0 fd.scope.names []).map (·.1)
noncomputable abbrev MN(K:Frag)(p:Eh):Prop:=MI K p.1=true/\yN (eZ K p.1).body=true/\codeIn K (eZ K p.1).code (eZ K p.1).qualname=true/\(eZ K p.1).scope.isCoroutine=false/\(eZ K p.1).scope.isGenerator=false/\(eZ K p.1).scope.kind= .function/\
 (eZ K p.1).closure.isEmpty=true/\(eZ K p.1).globals=mainGlobals/\(eZ K p.1).builtins=builtinsNs/\(iF K p).names.Nodup/\p.2.1<=(iF K p).names.length/\
 (∀x∈(iF K p).names.take p.2.1,(eZ K p.1).scope.names.lookup x=some .local∨((eZ K p.1).scope.names.lookup x=some .cell/\x∈GR (eZ K p.1)))/\(GR (eZ K p.1)).Nodup/\(iF K p).names.length=p.2.2.1
noncomputable abbrev Bd:=Setting->(Nat->Value)->Option (List Value)
noncomputable def J7(K:Frag)(p:Eh)(k:Nat)(S:Setting)(v:Nat->Value):Option (List (Str×Value)):=peek K S (bindArgs (eZ K p.1) ⟨(List.range (p.2.1 - k)).map v,[]⟩)
noncomputable def F9(K:Frag)(S:Setting)(v:Nat->Value)(p:Eh):Bool:=(List.range ((wJ p.1).length+1)).all λk=>(J7 K p k S v).map (·.map (·.1))==some ((iF K p).names.take p.2.1)
noncomputable def C8(K:Frag)(p:Eh):List Bd:=(List.range ((wJ p.1).length+1)).map λk S v=>(J7 K p k S v).map (·.map (·.2))
noncomputable def BL(p:Eh):List Bd:=(List.range ((wJ p.1).length+1)).map λk _ v=>some ((List.range (p.2.1 - k)).map v++((wJ p.1).map (·.2)).drop ((wJ p.1).length - k))
theorem I8{K:Frag}{p:Eh}{S:Setting}{v:Nat->Value}(h:F9 K S v p=true)(e:C8 K p=BL p){k:Nat}(hk:k<=(wJ p.1).length) :
  J7 K p k S v=some (((iF K p).names.take p.2.1).zip ((List.range (p.2.1 - k)).map v++((wJ p.1).map (·.2)).drop ((wJ p.1).length - k))):=by
 have h1:=eq_of_beq (List.all_eq_true.mp h k (List.mem_range.mpr (Nat.lt_succ_of_le hk)))
 have h2:=ah (λ(l:List Bd)=>l[k]?) e
 simp only[C8,BL,bc,List.getElem?_range (Nat.lt_succ_of_le hk),Option.map_some,Option.some.injEq] at h2
 have h2:=congrFun (congrFun h2 S) v
 cases q : J7 K p k S v with
 |none=>rw[q] at h1;cases h1
 |some l=>
  rw[q] at h1 h2
  exact ah some (List.zip_of_prod (aS h1) (aS h2))
theorem wZ{vals:List Value}:vals=(List.range vals.length).map λi=>vals.getD i default:=
 List.ext_getElem (by simp) λi h1 h2=>by simp[aQ,ay h1]
theorem Gb{cx:Cx}{p:Eh}(h:MN cx.K p)(hn:∀S v,F9 cx.K S v p=true)(he:C8 cx.K p=BL p) :
  sj cx (iF cx.K p)/\(iF cx.K p).names.Nodup/\(iF cx.K p).names.length=p.2.2.1:=by
 obtain⟨h0,h1,h2,h3,h4,h5,h6,h7,h8,h9,h10,h11,h12,h15⟩:=h
 refine aT (Kw h0) λo ho hd=> ?_
 refine⟨⟨⟨o,cx.X _ _ ho,hd⟩,codeRec_of cx.X h2,h3,h4,Cm h1,h5,List.isEmpty_iff.mp h6,h7,h8,h9.sublist (List.take_sublist _ _),h10,h11,h12,(aq ..).trans (aq ..).symm,λρ U hp=>IA,λs vals top l1 l2=> ?_⟩,h9,h15⟩
 have l2 : p.2.1<=vals.length+((wJ p.1).map (·.2)).length:=l2
 rw[aq] at l2
 have b:=λS=>I8 (S:=S) (hn S λi=>vals.getD i default) he (k:=p.2.1 - vals.length) (Nat.sub_le_iff_le_add'.mpr l2)
 unfold J7 at b
 rw[Nat.sub_sub_self (show vals.length<=p.2.1 from l1),<-wZ] at b
 show BindsTo s _ _ ((List.take _ _).zip (vals++((wJ p.1).map (·.2)).drop (((wJ p.1).map (·.2)).length - (p.2.1 - vals.length))))
 refine ae (aq ..)▸ ?_
 exact kp_binds (cx.X.keeps top) b
end
section
variable {cx:Cx}{n:Nat}{A:Around}{ρ ρ':LA->Addr}{σ σ':MH}{s s₁:Shared}{d:uf}
noncomputable abbrev M0 : Fd:={ env:=default,names:=[],cI:=[],outer:=[],gB:=[] }
theorem Dk{args:List MV}{vals:List Value}{m:P MF}{Q:MV->MH->Prop}(F:sj cx d)(hb:∀fd L,jH cx n (Fd.call fd d L) d.body m)(G:qL cx (n+1) [] A ρ σ s)(hv:cR ρ σ.us s.heap args vals)(hm:PH.fn d args m σ Q λ_ _=>False) :
  cW cx.M A (call (.ref d.addr) vals) (λv s'=>∃mv ρ' σ',VR ρ' σ'.us s'.heap mv v/\Q mv σ'/\(∃h' tk,s'={ s with heap:=h',toks:=tk })/\(∀b o,cx.h0.get? b=some o->s'.heap.get? b=some o)/\
   (∀l o,σ'.get l=some o->lM cx.prog cx.w ρ' σ'.us s'.heap (ρ' l) o)/\∀l,σ.us l->ρ' l=ρ l) (λ_ _=>False) s:=by
 refine dA hm λzo0_ hm=> ?_;have h1:=zo0_.1;have h2:=zo0_.2
 refine iN (bP (λ_ _ _ _=>rfl) (.of (om F G.top (by have:=G.ak.dep;show A.depth < _;exact az (Nat.le_add_right_of_le (Nat.le_add_right_of_le (aG _))) this) (hv.len▸h1) (by refine ae hv.len▸F.dl▸ ?_;exact h2) λs₁ I=>And.intro rfl ?_)))
 refine rf (aD (hb M0 s.heap.objs.size _ ρ σ _ s₁ _ (λ_ _ _=>False) (G.enter F hv h1 h2 I) trivial hm) (λf s₂ y=> ?_) λe s₂ y=> ?_)
 ·obtain⟨mf,ρ',σ',l',S,G2,r,hq⟩:=y
  refine fu I.toInCall.same λh1 t1 e1=> ?_
  refine fu S.rest λh2 t2 e2=> ?_
  refine⟨fZ mf,ρ',σ', ?_,hq,⟨h2,t2,by refine (e2).trans ?_;rw[e1]⟩,G2.top,λl o e=>(G2.obj l o e).2,λl u=>(S.us l u).2⟩
  induction r with
  |ret r=>exact r
  |_=>exact .none
 ·obtain⟨e',C,ρ',σ',l',rfl,S,G2,x,hx⟩:=y
  exact hx.elim
end
end Internal
namespace Internal
open PySem PySem.W PyProof.Rows PySem.Calls
set_option synthInstance.maxHeartbeats 200000
set_option synthInstance.maxSize 2000
noncomputable section
noncomputable abbrev rr : Eh:=(36,2,2,[.str ""], .fail)
noncomputable def KM : List Stmt:=[.Expr (.Call (.Attribute (.Name "ValueError" ⟨8,8,8,18⟩) "__init__" ⟨8,8,8,27⟩) [.Name "self" ⟨8,28,8,32⟩, .Name "reason" ⟨8,34,8,40⟩] [] ⟨8,8,8,41⟩) ⟨8,8,8,41⟩, .Assign [.Attribute (.Name "self" ⟨9,8,9,12⟩) "reason" ⟨9,8,9,19⟩] (.Name "reason" ⟨9,22,9,28⟩) ⟨9,8,9,28⟩]
noncomputable abbrev Ju(K:Frag)(x:String):Option (Option Value):=nsIn K mainGlobals (Str.ofString x)
noncomputable abbrev Mb(K:Frag)(C:Addr):Prop:=F0 K C 39=true/\findIn K (.ref C) "__init__" = some (some (.ref 36))/\typeIn K (.ref 36)=some (.type "function")/\findIn K (.ref C) "__setattr__" = some (some (.builtin "object.__setattr__"))/\findIn K (.ref C) "reason" = some none/\keepIn K (.ref C)=true
noncomputable abbrev LW(K:Frag)(x:String):Option NameKind:=(eZ K 36).scope.names.lookup (Str.ofString x)
noncomputable abbrev LI(K:Frag):Prop:=(iF K rr).names=[("self" : Str),("reason" : Str)]/\LW K "self" = some .local/\LW K "reason" = some .local/\LW K "ValueError" = some .globalImplicit/\Ju K "ValueError" = some none
noncomputable abbrev Kq(K:Frag):Prop:=(∀p∈GI,∀q∈p.2,G8 K p.1 q.1 q.2=true)/\(∀p∈attrL,∀x∈p.2,gu K p.1 x=true)/\
 (∀p∈HH,makesIn K p.1=true/\findIn K (.ref p.1) "__init__" = some (some (.ref p.2))/\typeIn K (.ref p.2)=some (.type "function"))/\(∀C∈n4,∀D∈n4,exmOne K (.ref C) (.ref D)=some (C==D))/\eqB K 757=true/\
 (∀p∈MK,Ju K p.1=some (some (.ref p.2))/\keepIn K (.ref p.2)=true)/\(∀p∈LN,Ju K p.1=some none/\bootBuiltins (Str.ofString p.1)=some (LH p.1 p.2)/\Str.ofString p.1≠("__name__" : Str))/\
 (∀p∈LL,Ju K p.1=some (some (.int p.2.1 p.2.2)))/\(∀p∈L1,Ju K p.1=some (some (.bytes p.2.1.toArray p.2.2)))/\(∀C∈n4,Mb K C)/\LI K/\Ju K "law" = some (some (.ref 1142))/\∀p∈rr::Ar,MN K p
noncomputable abbrev L9:=(cx:Cx)->fU cx tab nt->(n:Nat)->(call:Value->List MV->P MV)->(∀fd f,cP cx n fd f (call f))->Bool
noncomputable def yK(K:Frag):Bool×List Stmt×L9×(Setting->(Nat->Value)->Bool)×List (List Bd):=
 (decide (Kq K),(iF K rr).body,λ_ O _ _ hc=>Ar.all λp=>((ck O hc p.2.2.2.2 (Ge (iF K p))).ss (iF K p).body).y,λS v=>(rr::Ar).all (F9 K S v),(rr::Ar).map (C8 K))
noncomputable abbrev yY : Bool×List Stmt×L9×(Setting->(Nat->Value)->Bool)×List (List Bd):=(true,KM,λ_ _ _ _ _=>true,λ_ _=>true,(rr::Ar).map BL)
structure mj(K:Frag):Prop where
 t : Kq K
 b : (iF K rr).body=KM
 c : (λcx O n call hc=>Ar.all λp=>((ck O hc p.2.2.2.2 (Ge (iF K p))).ss (iF K p).body).y : L9)=λ_ _ _ _ _=>true
 f : ∀p∈rr::Ar,∀S v,F9 K S v p=true
 v : ∀p∈rr::Ar,C8 K p=BL p
theorem mj.of{K:Frag}(h:yK K=yY):mj K:=
 ⟨aF (ah (·.1) h),ah (·.2.1) h,ah (·.2.2.1) h,λp m S v=>List.all_eq_true.mp (congrFun (congrFun (ah (·.2.2.2.1) h) S) v) p m,List.map_inj_left.mp (ah (·.2.2.2.2) h)⟩
theorem eM{α β:Type} [BEq α] [LawfulBEq α] {a:α}{b:β}:∀ {l:List (α×β)},l.lookup a=some b->(a,b)∈l
 | (x,y)::r,h=>by
  rw[List.lookup_cons] at h
  cases q : a==x with
  |true=>(replace h:=q▸h);refine ae (eq_of_beq q)▸ ?_;cases h;exact .head _
  |false=>rw[q] at h;exact .tail _ (eM h)
noncomputable def fragOf(h:Heap)(L:List Addr):Frag:=L.filterMap λa=>(h.get? a).map (a,·)
theorem Fm{h:Heap}{L:List Addr}:(fragOf h L).In h:=λa o e=>by
 refine aT (cS.mp (eM e)) λb _ q=> ?_
 refine aT (bl.mp q) λo' q1 q2=> ?_
 cases q2;exact q1
theorem getD_mem{α:Type}{L:List (Addr×List α)}{C:Addr}{x:α}(h:x∈(L.lookup C).getD []):∃ms,(C,ms)∈L/\x∈ms:=by
 cases q : L.lookup C with
 |none=>(replace h:=q▸h);exact nomatch h
 |some ms=>rw[q] at h;exact⟨ms,eM q,h⟩
section
variable {cx:Cx}
theorem yh(h:mj cx.K){p:Eh}(m:p∈rr::Ar):sj cx (iF cx.K p)/\(iF cx.K p).names.Nodup/\(iF cx.K p).names.length=p.2.2.1:=
 Gb (h.t.2.2.2.2.2.2.2.2.2.2.2.2 p m) (h.f p m) (h.v p m)
theorem Fe{x:String}{v:Value}(h:nt.bv x=some v):∃b,(x,b)∈LN/\LH x b=v:=
 let ⟨b,h1,h2⟩:=bl.mp h
 ⟨b,eM h1,h2⟩
theorem EC{x:String}{v:MV}(h:nt.Ji x v=true):(∃p∈LL,p.1=x/\v= .int p.2.1)∨∃p∈L1,p.1=x/\v= .bytes p.2.1:=by
 cases v with
 |int i=>exact .inl ((by refine aT ((Option.any_eq_true ..).mp h) λp h1 h2=> ?_;exact⟨_,eM h1,rfl,ah MV.int (eq_of_beq h2).symm⟩))
 |bytes i=>exact .inr ((by refine aT ((Option.any_eq_true ..).mp h) λp h1 h2=> ?_;exact⟨_,eM h1,rfl,ah MV.bytes (eq_of_beq h2).symm⟩))
 |_=>cases h
theorem Dg{C D:Addr}{b:Bool}(h:tab.nU C D=some b):(C∈n4/\D∈n4)/\b=(C==D):=by
 have h : (if n4.contains C&&n4.contains D then some (C==D) else none)=some b:=h
 cases q : n4.contains C&&n4.contains D with
 |false=>rw[q] at h;cases h
 |true=>(replace h:=q▸h);cases h;exact⟨(an.mp q).imp bX.mp bX.mp,rfl⟩
theorem wc(h:mj cx.K):fU cx tab nt:=by
 have hx:=yh h (.head _)
 have hb:=h.b
 obtain⟨hme,hat,hcl,hem,heq,hgv,hbv,hgi,hgb,hex,⟨k2,k3,k4,k5,k6⟩,_,_⟩:=h.t
 clear h
 refine⟨⟨λC x f h=> ?_,λC x h=> ?_⟩,λC i h=> ?_,λC D b h=> ?_,λC h=> ?_,λx v h=> ?_,λx v h=> ?_,λx v h=> ?_,λC h=> ?_⟩
 ·refine aT (getD_mem (eM h)) λms h1 h2=> ?_
  exact hme _ h1 _ h2
 ·refine aT (getD_mem (bX.mp h)) λms h1 h2=> ?_
  exact hat _ h1 _ h2
 ·have t:=hcl _ (eM h)
  exact⟨t.1,t.2.1,t.2.2⟩
 ·refine dA (Dg h) λzo0_ zr1_=> ?_;have h1:=zo0_.1;subst zr1_
  exact hem _ h1 _ zo0_.2
 ·exact eq_of_beq h▸heq
 ·refine aT (bl.mp h) λa h1 zr2_=> ?_;subst zr2_
  have t:=hgv _ (eM h1)
  exact⟨t.1,looks_keep t.2 cx.X⟩
 ·refine aT (Fe h) λb h1 zr2_=> ?_;subst zr2_
  have t:=hbv _ h1
  exact⟨t.1,t.2.1,t.2.2,match b with | true=>AI _ | false=>fw _⟩
 ·rcases EC h with ⟨p,m,rfl,rfl⟩ | ⟨p,m,rfl,rfl⟩
  ·exact⟨_,hgi p m,λ_ _ _=> .int⟩
  ·exact⟨_,hgb p m,λ_ _ _=> .bytes⟩
 ·refine L7 (hex _ (bX.mp h)) λa1 a2 a3 a4 a5 a6=> ?_
  exact⟨39,iF cx.K rr,hx.1,⟨⟨_,_,_,_,_,_,_,_,_,_,hb,rfl⟩,k2,rfl,λL=>⟨k3,k4,k5⟩,k6⟩,a1,a2,a3,a4,a5,a6⟩
theorem Fa(h:mj cx.K):Dw cx tab nt:=⟨wc h,λa ar nl dm body e=>by
 have m:=eM ((e))
 refine ip (yh h (.tail _ m)) λF nd l=> ?_
 exact⟨_,F,rfl,rfl,l,List.map_inj_left.mp (show Ar.map (λp=>(wJ p.1).map (·.1))=Ar.map (·.2.2.2.1) by rfl) _ m,nd,λn call hc=>List.all_eq_true.mp (congrFun (congrFun (congrFun (congrFun (congrFun h.c cx) (wc h)) n) call) hc) _ m⟩⟩
end
end
end Internal
namespace Internal
open PySem PySem.W PyProof.Rows PySem.Calls
theorem AA{h:Heap}:RecFacts [] h:=recFacts_of (s:=⟨h,#[],{},0,{}⟩) rfl
noncomputable def LD : List Addr:=[3,38,39,29,152,333,989]++(n4++HH.map (·.1)++36::Ar.map (·.1)).flatMap λa=>[a,a - 1]
theorem BF(left:LeftO pw q0 jh (λ_=>true) (λs=>yK (fragOf s.heap LD)) (λ_=>yY) 16100)
  (call:∀d kwd,defOf q0 PySem.Challenge.rw_nz0231_01.row.name=some (d,kwd)->GJ q0 jh (λ_ _=>True) (λ_ h=>∃K : Frag,K.In h/\mj K) PySem.Challenge.rw_nz0231_01.row.toRowW d kwd):PySem.Challenge.rw_nz0231_01.Holds :=Bs λsaid=>Hd.PySem.W.holds_open (q:=q0) (loose:=jh) (Xt:=λ_=>true) (XP:=λ_ _=>True) (YP:=λ_ h=>∃K : Frag,K.In h/\mj K) left
  (λw s e=>⟨_,Fm, .of e⟩) (λw h h' zz k=>(by refine aT zz λK i l=> ?_;exact⟨K,i.keeps k,l⟩)) (λ_ _=>trivial) (λ_ _ _ _ _=>trivial) (by rfl) (by rfl) (by rfl) (λs _=>AA) (by rfl) said (by decide +kernel) ⟨rfl,rfl,rfl,rfl,rfl,by decide +kernel⟩
  ⟨[.list []],by decide +kernel,by decide +kernel⟩ (call _ _ (by rfl))
noncomputable def HY(s:SharedT)(a:Addr):Option Obj:=if a < s.n then alive ((s.tree.get a).getD default) else none
theorem Df{s:SharedT}{a:Addr}:s.abs.heap.get? a=HY s a:=by
 show (absHeap s.tree s.n s.life).get? a=_
 unfold HY
 by_cases h : a < s.n
 ·rw[if_pos h]
  unfold Heap.get?
  rw[absHeap_at,if_pos h]
  obtain⟨c,d,dt,sl⟩:=(s.tree.get a).getD default
  cases dt<;>rfl
 ·rw[if_neg h,abs_get_none h]
noncomputable def GF(s:SharedT)(L:List Addr):Frag:=L.filterMap λa=>(HY s a).map (a,·)
theorem DI{s:SharedT}{L:List Addr}:fragOf s.abs.heap L=GF s L:=ah (L.filterMap ·) (funext λ_=>ah (Option.map _) Df)
noncomputable abbrev IB(w:World)(os:OsState):Option (Flow×SharedT×Code×Pos):=J8 PySem.W.Fast.tw10110043849684766642 PySem.W.Fast.tw14364793385576792824 PySem.W.Fast.tw12563942051412417395 w os
theorem Ke : ∀w : World,(λos=>(IB w os).map λr=>(r.1,r.2.2.1,yW w r.2.1.abs,openSeen q0 jh (importedModules pw.main.body) (λ_=>true) true r.2.1.abs,yK (GF r.2.1 LD)))=λ_=>some (.next,jW,true,openGood q0 jh,yY):=λw=>by kernel_rfl
theorem JF{sr:KB}{tb:String->Option Builtin}{ex:List Stmt->Env->Sem Flow}{w:World}{os:OsState}:J8 sr tb ex w os=sr tb pw w 11 mS 1 8000 (Cw w os) (Lq ex):=rfl
theorem E8{w:World}{os:OsState}:IB w os=segRunT treeTable pw w 11 mS 1 8000 (Cw w os) (Lq execs):=by
 unfold IB
 rw[JF,<-PySem.W.Fast.te10110043849684766642,<-PySem.W.Fast.te14364793385576792824,<-PySem.W.Fast.te12563942051412417395]
theorem Ky : LeftO pw q0 jh (λ_=>true) (λs=>yK (fragOf s.heap LD)) (λ_=>yY) 16100:=
 JA λw os=>by
  obtain⟨⟨f,s',c,q⟩,hr,hs⟩:=bl.mp (congrFun (Ke w) os)
  obtain⟨h1,hs⟩:=Prod.mk.inj hs
  obtain⟨h2,hs⟩:=Prod.mk.inj hs
  obtain⟨h3,hs⟩:=Prod.mk.inj hs
  obtain⟨h4,ht⟩:=Prod.mk.inj hs
  dsimp only at h1 h2 h3 h4 ht
  subst h1 h2
  exact⟨s',q,E8▸hr,h3,h4,DI▸ht⟩
theorem Di{d:DefRec}{kwd:List (Str×Expr)}(h:defOf q0 PySem.Challenge.rw_nz0231_01.row.name=some (d,kwd)):d.name=("law" : Str):=(defOf_name h).trans rfl
noncomputable abbrev nI(o:PySem.Obj)(ns:List Int):MH:={ get:=λl=>if l= .tm 0 then some (.fz o (ns.map .int)) else none,us:=λl=>l= .tm 0 }
noncomputable abbrev xL(ns:List Int):Prop:=∀o,lg tab 40 1142 [.ref (.tm 0)] (nI o ns) (λv σ'=>v= .bool true/\σ'.get (.tm 0)=some (.fz o (ns.map .int))) λ_ _=>False
theorem has_int{x:WData}(h:WShape.has [] x .int=true):∃n,x= .int n:=by
 cases x<;>first | exact⟨_,rfl⟩ | exact absurd h aE
theorem E6{x:WData}(h:WShape.has [] x (.list .int)=true):∃xs,x= .list xs/\WShape.hasItems [] xs .int=true:=by
 cases x<;>first | exact⟨_,rfl,(Bool.or_false _).symm.trans h⟩ | exact absurd h aE
theorem wF : ∀ {xs:List WData},WShape.hasItems [] xs .int=true->∃ns : List Int,xs=ns.map .int
 | [],_=>⟨[],rfl⟩
 |x::xs,h=>by
  refine cN (wF (an.mp h).2) λns zr1_=> ?_;subst zr1_
  refine cN (has_int (an.mp h).1) λn zr1_=> ?_;subst zr1_
  exact⟨n::ns,rfl⟩
theorem CB{args:List WData}(h:(PySem.Challenge.rw_nz0231_01.row.toRowW).claim.pre args=true):∃ns : List Int,args=[.list (ns.map .int)]/\ns.length<=63:=by
 refine dA (pre_splitW h) λh1 h2=> ?_
 refine eW (hasAllW_cons (show WShape.hasAll [] args [.list .int]=true from h1)) λx r zr2_ h3 h4=> ?_;subst zr2_
 obtain rfl:=hasAllW_nil h4
 refine aT (E6 h3) λxs zr1_ h5=> ?_;subst zr1_
 refine cN (wF h5) λns zr1_=> ?_;subst zr1_
 have h7:=br (nb (condW_of (holds_andW h2).1 ((rfl))))
 rw[aq] at h7
 exact⟨ns,rfl,aW.mp (cZ.mp h7)⟩
theorem lay_ints{R:WRecords}{cl:Str->Option Addr}{P:Params}{ord:List DictEntry->List DictEntry}:∀ (ns:List Int){s:Shared}{r:List Value×Shared},layAllW R cl P ord (ns.map .int) s=some r->(∃t,r.2={ s with toks:=t })/\∀ρ U h,cR ρ U h (ns.map .int) r.1
 | [],s,r,h=>by cases h;exact⟨⟨s.toks,rfl⟩,λ_ _ _=> .nil⟩
 |n::ns,s,r,h=>by
  refine eW (layAllW_cons h) λa q h1 h2 zr4_=> ?_;subst zr4_
  cases h1
  refine dA (lay_ints ns h2) λzo0_ v=> ?_;refine cN zo0_ λt e=> ?_
  exact⟨⟨t,e⟩,λρ U h=> .cons .int (v ρ U h)⟩
noncomputable abbrev lst(rv:List Value):PySem.Obj:={ cls:= .type "list",data:= .seq rv.toArray }
section
variable {cx:Cx}{ns:List Int}{rv:List Value}{s:Shared}
theorem HM(hs:s.heap=cx.h0.push (lst rv))(hv:∀ρ U h,cR ρ U h (ns.map .int) rv)(hg:s.gens=#[]):qL cx 40 [] callerA (λ_=>cx.h0.objs.size) (nI (lst rv) ns) s:=by
 have hnew : s.heap.get? cx.h0.objs.size=some (lst rv):=hs▸aP _ rfl
 refine⟨λl x e=> ?_,λl l' u u' _=>Eq.trans (b:= .tm 0) u (ae u'),λl u=>⟨aG _,_,hnew,cQ⟩,λb x e=>hs▸aI _ e, ?_,(λ_ h=>nomatch h),(λ_ h=>nomatch h),⟨rfl,by decide,by decide,rfl⟩,hg⟩
 ·have e : (if l= .tm 0 then some (MO.fz (lst rv) (ns.map .int)) else none)=some x:=e
  by_cases hl : l= .tm 0
  ·rw[if_pos hl] at e
   cases e
   exact⟨hl,hnew,rv.toArray,0,rfl,hv _ _ _⟩
  ·rw[if_neg hl] at e;cases e
 ·refine ae hs▸ ?_;refine ae (Heap.size_push ..)▸ ?_;exact cT _
theorem Cn(TO:Dw cx tab nt)(H:xL ns)(hs:s.heap=cx.h0.push (lst rv))(hv:∀ρ U h,cR ρ U h (ns.map .int) rv)(hg:s.gens=#[]) :
  cW cx.M callerA (PySem.call (.ref 1142) [.ref cx.h0.objs.size]) (λv s'=>v= .bool true/\(∃h' tk,s'={ s with heap:=h',toks:=tk })/\∀b o,s.heap.get? b=some o->s'.heap.get? b=some o) (λ_ _=>False) s:=by
 refine JQ ((TO.fn 1142 1 10 [] ug rfl).h) λd F da dar dnl ddm dnd dck=> ?_
 have run : PH.fn d [.ref (.tm 0)] (den tab (zr tab 39) ug).s (nI (lst rv) ns) (λv σ'=>v= .bool true/\σ'.get (.tm 0)=some (.fz (lst rv) (ns.map .int))) λ_ _=>False:=by
  dsimp only[PH.fn,ux]
  refine ae dar▸ae ddm▸ae dnl▸ ?_
  exact H (lst rv)
 have hcl:=Dk (n:=39) F (λfd L=>Ok.get (dck 39 _ (vG TO.A (rh TO 39))) _ (yQ F dnd)) (HM hs hv hg) (vals:=[.ref cx.h0.objs.size]) (.cons (.ref (l:= .tm 0) rfl) .nil) run
 rw[da] at hcl
 refine aD hcl (λv s' y=> ?_) λ_ _ y=>y
 refine Mf y λmv ρ' σ' rv' zo4_ r top obj hρ=> ?_;obtain⟨rfl,hfz⟩:=zo4_
 have ho:=(obj _ _ hfz).1
 rw[hρ (.tm 0) rfl] at ho
 refine⟨rv'.bool_inv,r,λb o e=> ?_⟩
 replace e:=hs▸e
 rcases Nat.lt_trichotomy b cx.h0.objs.size with q | q | q
 ·exact top b o (get?_push_back q e)
 ·subst q
  rw[aP _ rfl] at e
  cases e;exact ho
 ·have hlt:=aR e
  rw[Heap.size_push] at hlt
  exact (iL (Nat.lt_succ_iff.mp hlt) q).elim
end
theorem Ae(args:List WData):(PySem.Challenge.rw_nz0231_01.row.toRowW).claim.post args (.bool true) args=true:=by kernel_rfl
theorem Ao(H:∀ns : List Int,ns.length<=63->xL ns):PySem.Challenge.rw_nz0231_01.Holds :=BF Ky λd0 kwd hdef=>by
 intro w s mg mb G ⟨K,KX,LK⟩ fa o pm cd doc dV kV ho hd hcd hD hmg hgens hlow args vals s₁ hpre hlay ⟨ord,hord,hl⟩
 clear hd hcd hD ho hlay hlow
 refine aT (CB hpre) λns zr1_ hlen=> ?_;subst zr1_
 let cx : Cx:={ prog:=PySem.Challenge.pw_nz0231_01,w:=w,K:=K,h0:=s.heap,mg:=mg,mb:=mb,X:=KX,g:=G.T.g,b:=G.T.b,bt:=G.T.builtins,nl:=G.T.nolimit }
 have hfa : some (Value.ref fa)=some (.ref 1142):=(Di hdef▸hmg).symm.trans (mg_of KX G.T.g LK.t.2.2.2.2.2.2.2.2.2.2.2.1)
 cases hfa
 refine eW (layAllW_cons hl) λa q h1 h2 h3=> ?_
 cases h2
 refine aT (layW_list h1) λr hr zr2_=> ?_;subst zr2_
 obtain⟨⟨t,e1⟩,e2⟩:=lay_ints ns hr
 obtain⟨rv,rs⟩:=r
 subst e1
 cases h3
 refine aD (Cn (cx:=cx) (Fa LK) (H ns hlen) rfl e2 hgens) (λv s' y=> ?_) λ_ _ y=>y.elim
 obtain⟨rfl,⟨h',tk,rfl⟩,k⟩:=y
 exact GoodW.toG ⟨.inl ⟨_, .bool true,[],rfl,λcls=>rfl, .bool true,Ae _,λ_=>⟨.nil,λ_ h=>nomatch h⟩⟩,λb o e=>k b o e,rfl,hgens⟩
end Internal
namespace Internal
open PySem
noncomputable def dn(n:Nat)(ir:IR):Dn:=den tab (zr tab n) ir
noncomputable def eK(n:Nat)(f:Value)(as:List MV):P MV:=zr tab n f as
noncomputable def Nm(p:Prop):Prop:=p
noncomputable abbrev As:=MH->Prop
noncomputable def dP(S:As)(l:LA)(o:MO):Prop:=∀σ,S σ->σ.get l=some o
noncomputable def Us(S:As)(l:LA):Prop:=∀σ,S σ->σ.us l
noncomputable def Obj(S:As)(l:LA)(C:Addr)(fs:List (String×MV)):Prop:=∀σ,S σ->∃D,σ.get l=some (.inst C D)/\σ.get D=some (.ns fs)
noncomputable def Upd(S:As)(l:LA)(o:MO)(S':As):Prop:=∀σ,S σ->S' (σ.set l o)
noncomputable def wd(S:As)(l:LA)(x:String)(v:MV)(S':As):Prop:=∀σ,S σ->∃C D fs,(σ.get l=some (.inst C D)/\σ.get D=some (.ns fs)/\tab.am C x=true/\fs.length<=100)/\S' (σ.set D (.ns (gK x v fs)))
noncomputable def pW(S:As)(o:MO)(S':LA->As):Prop:=∀σ,S σ->∃r,¬σ.us r/\S' r (σ.new r o)
noncomputable abbrev Po:=MV->Loc->MH->Prop
section
variable {S:As}{loc:Loc}
noncomputable def fE(op:Operator)(x y v:MV):Prop:=∀ (loc:Loc)(σ:MH)(Q:Po),Q v loc σ->jV loc σ Q op x y
theorem fE.ok{op:Operator}{x y v:MV}(h:fE op x y v){loc:Loc}{σ:MH}{Q:Po}(q:Q v loc σ):jV loc σ Q op x y:=h _ _ _ q
section
variable {x y:Int}
theorem fE.add : fE .Add (.int x) (.int y) (.int (x+y)):=λ_ _ _=> .add
theorem fE.sub : fE .Sub (.int x) (.int y) (.int (x - y)):=λ_ _ _=> .sub
theorem fE.mul(h:Nm (x.natAbs < 2^32/\y.natAbs < 2^32)):fE .Mult (.int x) (.int y) (.int (x * y)):=λ_ _ _=> .mul h
theorem fE.fdiv(h:Nm (y≠0/\x.natAbs < 2^60/\y.natAbs < 2^60)):fE .FloorDiv (.int x) (.int y) (.int (x.fdiv y)):=λ_ _ _=> .fdiv h
theorem fE.mod(h:Nm (y≠0)):fE .Mod (.int x) (.int y) (.int (x.fmod y)):=λ_ _ _=> .mod h
theorem fE.shl(h:Nm (0<=y/\y<=1000/\x.natAbs < 2^64)):fE .LShift (.int x) (.int y) (.int (x * 2^y.toNat)):=λ_ _ _=> .shl h
theorem fE.shr(h:Nm (0<=y)):fE .RShift (.int x) (.int y) (.int (x.fdiv (2^y.toNat))):=λ_ _ _=> .shr h
theorem fE.band : fE .BitAnd (.int x) (.int y) (.int (Builtin.bitAnd x y)):=λ_ _ _=> .band
theorem fE.bor : fE .BitOr (.int x) (.int y) (.int (Builtin.bitOr x y)):=λ_ _ _=> .bor
theorem fE.Ea{x y:List UInt8}(h:Nm (x.length+y.length<=100000)):fE .Add (.bytes x) (.bytes y) (.bytes (x++y)):=λ_ _ _=> .Ea h
theorem fE.Gz{x:List UInt8}(h:Nm (0<=y/\y<=1000/\x.length<=16/\x≠[])):fE .Mult (.bytes x) (.int y) (.bytes (List.replicate y.toNat x).flatten):=λ_ _ _=> .Gz h
theorem fE.pow : fE .Pow (.int 10) (.int 12) (.int (10^12)):=λ_ _ _=> .pow
end
inductive LG(x:MV):MO->Bool->Prop where
 |dI {k es} (e:x= .int k):LG x (.bS es) (es.lookup k).isSome
 |list {vs} (t:Nm (vs.all (λv=>(v.fe x).isSome)=true)):LG x (.list vs) (vs.any λv=>(v.fe x).getD false)
noncomputable def I9(o:MO)(y v:MV):Prop:=∀ (l:LA)(loc:Loc)(σ:MH)(Q:Po),σ.get l=some o->Q v loc σ->lx loc σ Q (.ref l) y
theorem I9.list{k:Int}{vs:List MV}{v:MV}(h:Nm (0<=k/\k < vs.length/\vs.length<=100000))(e:vs[k.toNat]?=some v):I9 (.list vs) (.int k) v:=λ_ _ _ _ f=> .list f h e
theorem I9.ba{k:Int}{b:List UInt8}(h:Nm (0<=k/\k < b.length/\b.length<=100000)):I9 (.bW b) (.int k) (.int (b.getD k.toNat 0).toNat):=λ_ _ _ _ f=> .ba f h
theorem I9.dS{x:String}{es:List (String×MV)}{v:MV}(e:es.lookup x=some v):I9 (.dD es) (.str x) v:=λ_ _ _ _ f=> .dS f e
noncomputable def Cb(o:MO)(k:Nat):Prop:=∀ (l:LA)(loc:Loc)(σ:MH)(Q:Po),σ.get l=some o->k<=100000->Q (.int k) loc σ->zW loc σ Q [.ref l]
theorem Cb.list{vs:List MV}:Cb (.list vs) vs.length:=λ_ _ _ _=> .list
theorem Cb.ba{b:List UInt8}:Cb (.bW b) b.length:=λ_ _ _ _=> .ba
noncomputable def dU(S:As)(op:CmpOp)(x y:MV)(k:Bool):Prop:=∀ (loc:Loc)(σ:MH)(Q:Po),S σ->Q (.bool k) loc σ->iP loc σ Q op x y
theorem dU.ok{op:CmpOp}{x y:MV}{k:Bool}(h:dU S op x y k){loc:Loc}{σ:MH}(s:S σ){Q:Po}(q:Q (.bool k) loc σ):iP loc σ Q op x y:=h _ _ _ s q
section
variable {x y:Int}
theorem dU.lt : dU S .Lt (.int x) (.int y) (decide (x < y)):=λ_ _ _ _=> .lt
theorem dU.le : dU S .LtE (.int x) (.int y) (decide (x<=y)):=λ_ _ _ _=> .le
theorem dU.gt : dU S .Gt (.int x) (.int y) (decide (x > y)):=λ_ _ _ _=> .gt
theorem dU.ge : dU S .GtE (.int x) (.int y) (decide (x≥y)):=λ_ _ _ _=> .ge
theorem dU.ne : dU S .NotEq (.int x) (.int y) (x != y):=λ_ _ _ _=> .ne
theorem dU.lD : dU S .Eq (.int x) (.int y) (x==y):=λ_ _ _ _=> .eq rfl
end
theorem dU.Lu{x y:Bool}:dU S .NotEq (.bool x) (.bool y) (!(x==y)):=λ_ _ _ _=> .Lu
theorem dU.is{x:MV}:dU S .Is x .none (Internal.M5 x):=λ_ _ _ _=> .is .none
theorem dU.vm{x:MV}:dU S .IsNot x .none (!Internal.M5 x):=λ_ _ _ _=> .vm .none
theorem dU.My{l m:LA}{C:Addr}{fs:List (String×MV)}(e:Obj S l C fs)(u:Us S m):dU S .IsNot (.ref l) (.ref m) (!decide (l=m)):=λ_ σ _ s=>(e σ s).elim λ_ e=> .vm (.ref e.1 (u σ s))
theorem dU.eqB{x y:List UInt8}:dU S .Eq (.bytes x) (.bytes y) (x==y):=λ_ _ _ _=> .eq rfl
theorem dU.inR{x:MV}{l:LA}{o:MO}{p:Bool}(e:dP S l o)(h:LG x o p):dU S .In x (.ref l) p:=λ_ σ _ s q=>by
 cases h with
 |dI h=>subst h;exact .inD (e σ s) q
 |list t=>exact .MQ (e σ s) t q
section
variable {k l:LA}{x:MV}{vs ws:List MV}
theorem dU.Lg(e:dP S k (.list vs))(f:dP S l (.list ws))(t:Nm (f0 MV.ia vs ws=true)):dU S .Eq (.ref k) (.ref l) (o8 MV.ia vs ws):=λ_ σ _ s=> .Lg (e σ s) (f σ s) t
theorem dU.Jz(e:dP S k (.list vs))(f:dP S l (.list ws))(t:Nm (f0 MV.ia vs ws=true)):dU S .NotEq (.ref k) (.ref l) (!o8 MV.ia vs ws):=λ_ σ _ s=> .Jz (e σ s) (f σ s) t
theorem dU.Lh(t:Nm (vs.all (λv=>(v.fe x).isSome)=true)):dU S .NotIn x (.tup vs) (!vs.any λv=>(v.fe x).getD false):=λ_ _ _ _=> .Lh t
end
noncomputable def AJ(S:As)(x y v:MV):Prop:=∀ (loc:Loc)(σ:MH)(Q:Po),S σ->Q v loc σ->lx loc σ Q x y
theorem AJ.ok{x y v:MV}(h:AJ S x y v){loc:Loc}{σ:MH}(s:S σ){Q:Po}(q:Q v loc σ):lx loc σ Q x y:=h _ _ _ s q
theorem AJ.oct{b:List UInt8}{k:Int}(h:Nm (0<=k/\k < b.length/\b.length<=100000)):AJ S (.bytes b) (.int k) (.int (b.getD k.toNat 0).toNat):=λ_ _ _ _=> .oct h
theorem AJ.tup{vs:List MV}{k:Int}{v:MV}(h:Nm (0<=k/\k < vs.length/\vs.length<=100000))(e:vs[k.toNat]?=some v):AJ S (.tup vs) (.int k) v:=λ_ _ _ _=> .tup h e
theorem AJ.ref{l:LA}{o:MO}{y v:MV}(f:dP S l o)(h:I9 o y v):AJ S (.ref l) y v:=λ_ σ _ s=>h _ _ _ _ (f σ s)
noncomputable def fb(S:As)(f:Value)(vs:List MV)(v:MV):Prop:=∀ (n:Nat)(loc:Loc)(σ:MH)(Q:Po)(X:Addr->Loc->MH->Prop),S σ->Q v loc σ->eK n f vs loc σ Q X
theorem fb.ok{f:Value}{vs:List MV}{v:MV}(h:fb S f vs v){n:Nat}{loc:Loc}{σ:MH}(s:S σ){Q:Po}{X:Addr->Loc->MH->Prop}(q:Q v loc σ):eK n f vs loc σ Q X:=h _ _ _ _ _ s q
theorem fb.x4{b:List UInt8}(h:Nm (b.length<=100000)):fb S (.builtin "len") [.bytes b] (.int b.length):=λ_ _ _ _ _ _=>zW.oct h
theorem fb.len{l:LA}{o:MO}{k:Nat}(e:dP S l o)(g:Cb o k)(h:Nm (k<=100000)):fb S (.builtin "len") [.ref l] (.int k):=λ_ _ σ _ _ s=>g _ _ _ _ (e σ s) h
theorem fb.min{i j:Int}:fb S (.builtin "min") [.int i, .int j] (.int (if j < i then j else i)):=λ_ _ _ _ _ _=>Hw.mk
theorem fb.abs{i:Int}:fb S (.builtin "abs") [.int i] (.int (if i < 0 then -i else i)):=λ_ _ _ _ _ _=>IC.mk
theorem fb.sum{l:LA}{vs:List MV}{ns:List Int}(e:dP S l (.list vs))(f:intsOf vs=some ns):fb S (.builtin "sum") [.ref l] (.int ns.sum):=λ_ _ σ _ _ s=>IY.mk (e σ s) f
theorem fb.x9{b:List UInt8}:fb S (.type "bytes") [.bytes b] (.bytes b):=λ_ _ _ _ _ _=>iX.oct
theorem fb.vp{i:Int}(h:Nm (0<=i/\i<=100000)):fb S (.type "bytes") [.int i] (.bytes (List.replicate i.toNat 0)):=λ_ _ _ _ _ _=>iX.int h
theorem fb.oQ{l:LA}{b:List UInt8}(e:dP S l (.bW b))(h:Nm (b.length<=100000)):fb S (.type "bytes") [.ref l] (.bytes b):=λ_ _ σ _ _ s=>iX.ba (e σ s) h
noncomputable def lL(v:MV)(p:Bool):Prop:=∀ (loc:Loc)(σ:MH)(Q:Bool->Loc->MH->Prop)(X:Addr->Loc->MH->Prop),Q p loc σ->P.truth v loc σ Q X
theorem lL.ok{v:MV}{p:Bool}(h:lL v p){loc:Loc}{σ:MH}{Q:Bool->Loc->MH->Prop}{X:Addr->Loc->MH->Prop}(q:Q p loc σ):P.truth v loc σ Q X:=h _ _ _ _ q
theorem lL.bool{p:Bool}:lL (.bool p) p:=λ_ _ _ _ q=>q
theorem lL.none : lL .none false:=λ_ _ _ _ q=>q
theorem lL.oct{b:List UInt8}(h:Nm (b.length<=100000)):lL (.bytes b) (!b.isEmpty):=λ_ _ _ _ q=>⟨h,q⟩
noncomputable def PE(loc:Loc)(S:As)(ir:IR)(v:MV):Prop:=∀ (σ:MH)(n:Nat)(Q:Po)(X:Addr->Loc->MH->Prop),S σ->Q v loc σ->(dn n ir).e loc σ Q X
noncomputable def PL(loc:Loc)(S:As)(ir:IR)(vs:List MV):Prop:=∀ (σ:MH)(n:Nat)(Q:List MV->Loc->MH->Prop)(X:Addr->Loc->MH->Prop),S σ->Q vs loc σ->P.gU (dn n ir).ms loc σ Q X
noncomputable def PB(loc:Loc)(S:As)(ir:IR)(p:Bool):Prop:=∀ (σ:MH)(n:Nat)(Q:Bool->Loc->MH->Prop)(X:Addr->Loc->MH->Prop),S σ->Q p loc σ->(dn n ir).b loc σ Q X
theorem PE.ok{ir:IR}{v:MV}(h:PE loc S ir v){σ:MH}(s:S σ){n:Nat}{Q:Po}{X:Addr->Loc->MH->Prop}(q:Q v loc σ):(dn n ir).e loc σ Q X:=h _ _ _ _ s q
theorem PL.ok{ir:IR}{vs:List MV}(h:PL loc S ir vs){σ:MH}(s:S σ){n:Nat}{Q:List MV->Loc->MH->Prop}{X:Addr->Loc->MH->Prop}(q:Q vs loc σ):P.gU (dn n ir).ms loc σ Q X:=h _ _ _ _ s q
theorem PB.ok{ir:IR}{p:Bool}(h:PB loc S ir p){σ:MH}(s:S σ){n:Nat}{Q:Bool->Loc->MH->Prop}{X:Addr->Loc->MH->Prop}(q:Q p loc σ):(dn n ir).b loc σ Q X:=h _ _ _ _ s q
theorem yt{i:Nat}{v:MV}{σ:MH}{Q:MV->Loc->MH->Prop}{X:Addr->Loc->MH->Prop}(h:loc[i]?=some (some v))(q:Q v loc σ):P.aa i loc σ Q X:=by unfold P.aa;refine ae h▸ ?_;exact q
theorem Cc{p q:Bool}{Q:Bool->Loc->MH->Prop}{σ:MH}{A:Prop}(f:Q q loc σ->A)(h:Q (p&&q) loc σ):bif p then A else Q false loc σ:=match p,h with
 |true,h=>f h
 |false,h=>h
section
variable {a b c:IR}{v w u:MV}{l:LA}{x:String}
theorem PE.ag : PE loc S (.ag v) v:=λ_ _ _ _ _ q=>q
theorem PE.glob : PE loc S (.glob x v) v:=λ_ _ _ _ _ q=>q
theorem PE.nil : PE loc S .nil .none:=λ_ _ _ _ _ q=>q
theorem PE.aa{i:Nat}(h:loc[i]?=some (some v)):PE loc S (.aa i) v:=λ_ _ _ X _ q=>yt (X:=X) h q
theorem PE.bin{op:Operator}(h1:PE loc S a v)(h2:PE loc S b w)(h:fE op v w u):PE loc S (.bin op a b) u:=λ_ _ _ _ s q=>h1.ok s (h2.ok s (h.ok q))
theorem PE.cmp{op:CmpOp}{p:Bool}(h1:PE loc S a v)(h2:PE loc S b w)(h:dU S op v w p):PE loc S (.cmp op a b) (.bool p):=λ_ _ _ _ s q=>h1.ok s (h2.ok s (h.ok s q))
theorem PE.am{C:Addr}{fs:List (String×MV)}(h:PE loc S a (.ref l))(o:Obj S l C fs)(h3:tab.am C x=true)(h4:fs.lookup x=some v):PE loc S (.am a x) v:=λσ _ _ _ s q=>(o σ s).elim λ_ e=>h.ok s (.mk e.1 e.2 h3 h4 q)
theorem PE.item(h1:PE loc S a v)(h2:PE loc S b w)(h:AJ S v w u):PE loc S (.item a b) u:=λ_ _ _ _ s q=>h1.ok s (h2.ok s (h.ok s q))
theorem PE.call{f:Value}{vs:List MV}(h1:PL loc S a vs)(h:fb S f vs v):PE loc S (.call x f a) v:=λ_ _ _ _ s q=>h1.ok s (h.ok s q)
theorem PE.tup{vs:List MV}(h1:PL loc S a vs)(h:Nm (vs.length<=100000)):PE loc S (.tup a) (.tup vs):=λ_ _ _ _ s q=>h1.ok s ⟨h,q⟩
theorem PE.get{k:Int}{d:List (Int×MV)}(h1:PE loc S a (.ref l))(h2:dP S l (.bS d))(h3:PE loc S b (.int k))(e:(d.lookup k).getD .none=v):PE loc S (.aO a "get" (.cons b .nil)) v:=λσ _ _ _ s q=>h1.ok s (.dI (h2 σ s) rfl (h3.ok s (sZ.one (h2 σ s) (e▸q))))
theorem PE.Mo{k:Int}{d:List (Int×MV)}(h1:PE loc S a (.ref l))(h2:dP S l (.bS d))(h3:PE loc S b (.int k))(h4:PE loc S c u)(e:(d.lookup k).getD u=v):PE loc S (.aO a "get" (.cons b (.cons c .nil))) v:=λσ _ _ _ s q=>h1.ok s (.dI (h2 σ s) rfl (h3.ok s (h4.ok s (sZ.two (h2 σ s) (e▸q)))))
theorem PE.Mz{p q:Bool}(h1:PE loc S a (.bool p))(h2:PE loc S b (.bool q)):PE loc S (.and a b) (.bool (p&&q)):=λ_ _ Q _ s g=>h1.ok s (by cases p;exact g;exact h2.ok s g)
theorem PE.ky{o1 o2:CmpOp}{p q:Bool}(h1:PE loc S a u)(h2:PE loc S b v)(h3:PE loc S c w)(h:dU S o1 u v p)(h':dU S o2 v w q):PE loc S (.ky o1 o2 a b c) (.bool (p&&q)):=λ_ _ Q _ s g=>h1.ok s (h2.ok s (h.ok s (by cases p;exact g;exact h3.ok s (h'.ok s g))))
theorem PE.yb{d:List UInt8}{i j:Option Int}(h1:PE loc S a (.bytes d))(h2:PE loc S b u)(h3:PE loc S c v)(e:e9 u i)(f:e9 v j)(h:Nm (d.length<=100000)):PE loc S (.slice a b c) (.bytes (cut d i j)):=λ_ _ _ _ s q=>h1.ok s (h2.ok s (h3.ok s ⟨_,_,e,f, .oct h q⟩))
theorem PE.Mp{i:Nat}(h:loc[i]?=some (some (.bool false)))(h1:PE loc S b v):PE loc S (.ite (.aa i) a b) v:=λ_ n Q X s q=>yt (X:=X) (Q:=λv l s=>P.truth v l s (λc l s=>bif c then _ else (dn n _).e l s Q X) X) h (h1.ok s q)
theorem PE.Mw{y:List UInt8}(h:PE loc S a (.bytes y))(h1:PE loc S b v):PE loc S (.ite (.iq "str" a) c b) v:=λ_ _ _ _ s q=>h.ok s (.oct (h1.ok s q))
theorem PL.nil : PL loc S .nil []:=λ_ _ _ _ _ q=>q
theorem PL.cons{vs:List MV}(h1:PE loc S a v)(h2:PL loc S b vs):PL loc S (.cons a b) (v::vs):=λ_ _ _ _ s q=>h1.ok s (h2.ok s q)
section
variable {p q:Bool}
theorem PB.cmp{op:CmpOp}(h1:PE loc S a v)(h2:PE loc S b w)(h:dU S op v w p):PB loc S (.cmp op a b) p:=λ_ _ _ _ s q=>h1.ok s (h2.ok s (h.ok s q))
theorem PB.ky{o1 o2:CmpOp}(h1:PE loc S a u)(h2:PE loc S b v)(h3:PE loc S c w)(h:dU S o1 u v p)(h':dU S o2 v w q):PB loc S (.ky o1 o2 a b c) (p&&q):=λ_ _ _ _ s g=>h1.ok s (h2.ok s (h.ok s (Cc (λg=>h3.ok s (h'.ok s g)) g)))
theorem PB.not(h:PB loc S a p):PB loc S (.not a) (!p):=λ_ _ _ _ s q=>h.ok s q
theorem PB.and(h1:PB loc S a p)(h2:PB loc S b q):PB loc S (.and a b) (p&&q):=λ_ _ _ _ s g=>h1.ok s (Cc (λg=>h2.ok s g) g)
theorem PB.or(h1:PB loc S a p)(h2:PB loc S b q):PB loc S (.or a b) (p||q):=λ_ _ _ _ s g=>h1.ok s (match p,g with
 |true,g=>g
 |false,g=>h2.ok s g)
theorem PB.aa{i:Nat}(h:PE loc S (.aa i) v)(t:lL v p):PB loc S (.aa i) p:=λ_ n _ _ s q=>h.ok s (n:=n) (t.ok q)
theorem PB.am(h:PE loc S (.am a x) v)(t:lL v p):PB loc S (.am a x) p:=λ_ _ _ _ s q=>h.ok s (t.ok q)
theorem PB.item(h:PE loc S (.item a b) v)(t:lL v p):PB loc S (.item a b) p:=λ_ _ _ _ s q=>h.ok s (t.ok q)
theorem PB.isI{i:Int}(h:PE loc S a (.int i)):PB loc S (.iq "int" a) true:=λ_ _ _ _ s q=>h.ok s (.int q)
theorem PB.Mr(h:PB loc S a p)(e:p=false){σ:MH}(s:S σ){n:Nat}{Q:Bool->Loc->MH->Prop}{X:Addr->Loc->MH->Prop}(q:Q false loc σ):(dn n (.and a b)).b loc σ Q X:=by
 subst e;exact h.ok s q
end
end
end
noncomputable def We{α:Type}(E:Addr->As->Prop)(S:As)(loc:Loc)(R:α->As->Prop)(m:P α):Prop:=
 ∀σ,S σ->∀ (Q:α->Loc->MH->Prop)(X:Addr->Loc->MH->Prop),(∀a σ' S',S' σ'->R a S'->Q a loc σ')->(∀C l σ' S',S' σ'->E C S'->X C l σ')->m loc σ Q X
noncomputable def Wp{α:Type}(E:Addr->As->Prop)(S:As)(loc:Loc)(T:α->Loc->As->Prop)(m:P α):Prop:=
 ∀σ,S σ->∀ (Q:α->Loc->MH->Prop)(X:Addr->Loc->MH->Prop),(∀f l σ' S',S' σ'->T f l S'->Q f l σ')->(∀C l σ' S',S' σ'->E C S'->X C l σ')->m loc σ Q X
noncomputable def Ct(E:Addr->As->Prop)(R:MV->As->Prop)(S:As)(a:Addr)(n:Nat)(args:List MV):Prop:=
 ∀σ,S σ->∀ (Q:MV->MH->Prop)(X:Addr->MH->Prop),(∀v σ' S',S' σ'->R v S'->Q v σ')->(∀C σ' S',S' σ'->E C S'->X C σ')->lg tab n a args σ Q X
inductive pZ{α:Type}(p q:α->Prop):Prop
 |mk {a} (h:p a)(k:q a)
structure Br(p:Bool)(A B:Prop):Prop where
 t : p=true->A
 f : p=false->B
noncomputable def Lx(S:As)(l:LA)(x:String)(f:Value):Prop:=∀σ,S σ->∀ (loc:Loc)(Q:Value->Loc->MH->Prop),Q f loc σ->qo tab.toTb x loc σ Q (.ref l)
noncomputable def xM(n:Nat)(b:IR)(T:MF->Loc->As->Prop)(E:Addr->As->Prop)(f:MF)(l:Loc)(S:As):Prop:=match f with
 | .next=>Wp E S l T (dn n b).s
 |f=>T f l S
inductive H7 : Operator->Int->Int->Int->Prop where
 |add {i j}:H7 .Add i j (i+j)
 |sub {i j}:H7 .Sub i j (i - j)
inductive ES : MO->String->String->Prop where
 |list {vs x id} (h:mN x=some id):ES (.list vs) x id
 |ba {b x id} (h:uQ x=some id):ES (.bW b) x id
inductive uG(w:MV):MO->MV->MO->Prop where
 |list {k:Int} {vs} (h:Nm (0<=k/\k < vs.length/\vs.length<=100000)):uG w (.list vs) (.int k) (.list (vs.set k.toNat w))
 |ba {k x:Int} {b} (e:w= .int x)(h:Nm (0<=k/\k < b.length/\b.length<=100000/\0<=x/\x < 256)):uG w (.bW b) (.int k) (.bW (b.set k.toNat x.toNat.toUInt8))
 |dI {k es} (h:Nm (es.length<=100000)):uG w (.bS es) (.int k) (.bS (gX es k w))
 |dS {x es} (h:Nm (es.length<=100000)):uG w (.dD es) (.str x) (.dD (gX es x w))
section
variable {n:Nat}{loc loc':Loc}{S S' S1:As}{a b c t e o es:IR}{i:Nat}{f:Addr}{vs:List MV}{v w:MV}{p:Bool}{l:LA}{C:Addr}{fs:List (String×MV)}{x y:String}{R:MV->As->Prop}{T:MF->Loc->As->Prop}{E:Addr->As->Prop}
theorem bq(h:PE loc S a v)(q:R v S):We E S loc R (dn n a).e:=λσ s _ _ k _=>h.ok s (k v σ S s q)
theorem tD{α:Type}{m:P α}{R:α->As->Prop}(h:∀σ,S σ->S1 σ)(g:We E S1 loc R m):We E S loc R m:=λσ s=>g σ (h σ s)
theorem fN{α:Type}{m:P α}{T:α->Loc->As->Prop}(h:∀σ,S σ->S1 σ)(g:Wp E S1 loc T m):Wp E S loc T m:=λσ s=>g σ (h σ s)
theorem pP{args:List MV}(h:∀σ,S σ->S1 σ)(g:Ct E R S1 f n args):Ct E R S f n args:=λσ s=>g σ (h σ s)
theorem l7{op:Operator}(h:We E S loc (λv S1=>We E S1 loc (λw S2=>pZ (fE op v w) λu=>R u S2) (dn n b).e) (dn n a).e):We E S loc R (dn n (.bin op a b)).e:=
 λσ s Q X k x=>h σ s _ X (λ_ σ1 _ s1 g=>g σ1 s1 _ X (λ_ σ2 S2 s2 zz=>(by obtain⟨h,g⟩:=zz;exact h.ok (k _ σ2 S2 s2 g))) x) x
theorem uz(h:We E S loc (λv S1=>We E S1 loc (λw S2=>pZ (AJ S2 v w) λu=>R u S2) (dn n b).e) (dn n a).e):We E S loc R (dn n (.item a b)).e:=
 λσ s Q X k x=>h σ s _ X (λ_ σ1 _ s1 g=>g σ1 s1 _ X (λ_ σ2 S2 s2 zz=>(by obtain⟨h,g⟩:=zz;exact h.ok s2 (k _ σ2 S2 s2 g))) x) x
theorem oh{op:CmpOp}(h:We E S loc (λv S1=>We E S1 loc (λw S2=>pZ (dU S2 op v w) λu=>R (.bool u) S2) (dn n b).e) (dn n a).e):We E S loc R (dn n (.cmp op a b)).e:=
 λσ s Q X k x=>h σ s _ X (λ_ σ1 _ s1 g=>g σ1 s1 _ X (λ_ σ2 S2 s2 zz=>(by obtain⟨h,g⟩:=zz;exact h.ok s2 (k _ σ2 S2 s2 g))) x) x
theorem ci{R:List MV->As->Prop}(q:R [] S):We E S loc R (P.gU (dn n .nil).ms):=λσ s _ _ k _=>k _ σ S s q
theorem bj{R:List MV->As->Prop}(h:We E S loc (λv S1=>We E S1 loc (λvs S2=>R (v::vs) S2) (P.gU (dn n b).ms)) (dn n a).e):We E S loc R (P.gU (dn n (.cons a b)).ms):=
 λσ s Q X k x=>h σ s _ X (λ_ σ1 _ s1 g=>g σ1 s1 _ X (λ_ σ2 S2 s2 g=>k _ σ2 S2 s2 g) x) x
theorem c8{R:List MV->As->Prop}(h:PL loc S es vs)(q:R vs S):We E S loc R (P.gU (dn n es).ms):=λσ s _ _ k _=>h.ok s (k _ σ S s q)
theorem cV{f:Value}(h:We E S loc (λvs S1=>We E S1 loc R (eK n f vs)) (P.gU (dn n es).ms)):We E S loc R (dn n (.call x f es)).e:=
 λσ s Q X k x=>h σ s _ X (λ_ σ1 _ s1 g=>g σ1 s1 Q X k x) x
theorem ed(h:Ct E R S f n vs):We E S loc R (eK n (.ref f) vs):=λσ s Q X k x=>h σ s (λv σ'=>Q v loc σ') (λC σ'=>X C loc σ') k λC σ' S' s' e=>x C loc σ' S' s' e
theorem cr(h:PL loc S es vs)(g:Ct E R S f n vs):We E S loc R (dn n (.call x (.ref f) es)).e:=cV (c8 h (ed g))
theorem cM{f:Value}(ho:PE loc S o (.ref l))(m:Lx S l x f)(h:We E S loc (λvs S1=>We E S1 loc R (eK n f (.ref l::vs))) (P.gU (dn n es).ms)):We E S loc R (dn n (.aO o x es)).e:=
 λσ s Q X k x=>ho.ok s (m σ s _ _ (h σ s _ X (λ_ σ1 _ s1 g=>g σ1 s1 Q X k x) x))
theorem mP(o:Obj S l C fs)(h:fs.lookup x=none)(g:tab.aO C x=some f):Lx S l x (.ref f):=λσ s _ _ q=>(by refine aT (o σ s) λ_ e1 e2=> ?_;exact .inst e1 e2 h g q)
theorem gO{id:String}{o:MO}(g:dP S l o)(h:ES o x id):Lx S l x (.builtin id):=λσ s _ _ q=>by
 cases h with
 |list h=>exact .list (g σ s) h q
 |ba h=>exact .ba (g σ s) h q
theorem bT(ho:PE loc S o (.ref l))(ob:Obj S l C fs)(h3:fs.lookup x=none)(h4:tab.aO C x=some f)(h:PL loc S es vs)(g:Ct E R S f n (.ref l::vs)):We E S loc R (dn n (.aO o x es)).e:=cM ho (mP ob h3 h4) (c8 h (ed g))
theorem dz(h:We E S loc (λvs S1=>vs.length<=100000/\pZ (pW S1 (.list vs)) λS2=>∀r,R (.ref r) (S2 r)) (P.gU (dn n es).ms)):We E S loc R (dn n (.list es)).e:=
 λσ s Q X k q=>h σ s _ X (λv σ1 S1 s1 ⟨hl,h,g⟩=>(by refine aT (h σ1 s1) λr hr s2=> ?_;exact⟨hl,r,hr,k _ _ _ s2 (g r)⟩)) q
theorem L2{f:Value}(h:fb S f vs v)(q:R v S):We E S loc R (eK n f vs):=λσ s _ _ k _=>h.ok s (k v σ S s q)
theorem md{vs:List MV}(h:dP S l (.list vs))(hl:Nm (vs.length<=100000))(u:Upd S l (.list (vs++[v])) S')(q:R .none S'):We E S loc R (eK n (.builtin "list.append") [.ref l,v]):=λσ s _ _ k _=>CA.mk (h σ s) hl (k _ _ S' (u σ s) q)
theorem FN{bs:List UInt8}{j:Int}(h:dP S l (.bW bs))(hl:Nm (bs.length<=100000/\0<=j/\j < 256))(u:Upd S l (.bW (bs++[j.toNat.toUInt8])) S')(q:R .none S'):We E S loc R (eK n (.builtin "bytearray.append") [.ref l, .int j]):=λσ s _ _ k _=>C1.mk (h σ s) hl (k _ _ S' (u σ s) q)
theorem HZ{bs cs:List UInt8}(h:dP S l (.bW bs))(hl:Nm (bs.length<=100000/\cs.length<=100000))(u:Upd S l (.bW (bs++cs)) S')(q:R .none S'):We E S loc R (eK n (.builtin "bytearray.extend") [.ref l, .bytes cs]):=λσ s _ _ k _=>vC.oct (h σ s) hl (k _ _ S' (u σ s) q)
theorem wQ{S':LA->As}(u:pW S (.bW []) S')(q:∀r,R (.ref r) (S' r)):We E S loc R (eK n (.type "bytearray") []):=λσ s _ _ k _=>(by refine aT (u σ s) λr hr s'=> ?_;exact qR.nil hr (k _ _ _ s' (q r)))
theorem I7{bs:List UInt8}{S':LA->As}(hl:Nm (bs.length<=100000))(u:pW S (.bW bs) S')(q:∀r,R (.ref r) (S' r)):We E S loc R (eK n (.type "bytearray") [.bytes bs]):=λσ s _ _ k _=>(by refine aT (u σ s) λr hr s'=> ?_;exact qR.oct hl hr (k _ _ _ s' (q r)))
theorem Bc{j:Int}{S':LA->As}(hl:Nm (0<=j/\j<=100000))(u:pW S (.bW (List.replicate j.toNat 0)) S')(q:∀r,R (.ref r) (S' r)):We E S loc R (eK n (.type "bytearray") [.int j]):=λσ s _ _ k _=>(by refine aT (u σ s) λr hr s'=> ?_;exact qR.int hl hr (k _ _ _ s' (q r)))
theorem eY{R:Bool->As->Prop}(h:PB loc S a p)(q:R p S):We E S loc R (dn n a).b:=λσ s _ _ k _=>h.ok s (k p σ S s q)
theorem uY{R:Bool->As->Prop}(h:We E S loc (λp S1=>R (!p) S1) (dn n a).b):We E S loc R (dn n (.not a)).b:=λσ s _ X k x=>h σ s _ X (λ_ σ1 S1 s1 g=>k _ σ1 S1 s1 g) x
theorem Gi{R:Bool->As->Prop}{es:IR}(h:We E S loc (λv S1=>pZ (lL v) λp=>R p S1) (dn n (.aO o x es)).e):We E S loc R (dn n (.aO o x es)).b:=
 λσ s _ X k x=>h σ s _ X (λ_ σ1 S1 s1 zz=>(by obtain⟨t,g⟩:=zz;exact t.ok (k _ σ1 S1 s1 g))) x
theorem xo{R:Bool->As->Prop}(h:We E S loc (λp S1=>Br p (We E S1 loc R (dn n b).b) (R false S1)) (dn n a).b):We E S loc R (dn n (.and a b)).b:=by
 refine λσ s _ X k x=>h σ s _ X (λp σ1 S1 s1 g=> ?_) x
 cases p
 ·exact k _ σ1 S1 s1 (g.f rfl)
 ·exact g.t rfl σ1 s1 _ X k x
theorem ic{R:Bool->As->Prop}{op:CmpOp}(h:We E S loc (λv S1=>We E S1 loc (λw S2=>pZ (dU S2 op v w) λu=>R u S2) (dn n b).e) (dn n a).e):We E S loc R (dn n (.cmp op a b)).b:=
 λσ s Q X k x=>h σ s _ X (λ_ σ1 _ s1 g=>g σ1 s1 _ X (λ_ σ2 S2 s2 zz=>(by obtain⟨h,g⟩:=zz;exact h.ok s2 (k _ σ2 S2 s2 g))) x) x
theorem bQ{T:Unit->Loc->As->Prop}(hi:Nat.blt i loc.length=true)(q:T () (loc.set i (some v)) S):Wp E S loc T ((dn n (.aa i)).t v):=λσ s _ _ k _=>⟨aj hi,k () _ σ S s q⟩
theorem cX{T:Unit->Loc->As->Prop}(ho:PE loc S o (.ref l))(u:wd S l x v S')(q:T () loc S'):Wp E S loc T ((dn n (.am o x)).t v):=
 λσ s _ _ k _=>ho.ok s (by refine iE (u σ s) λ_ _ _ zo3_ s'=> ?_;refine ig zo3_ λe1 e2 e3 e4=> ?_;exact .mk e1 e2 e3 e4 (k () _ _ S' s' q))
theorem GT{o o':MO}(g:dP S l o)(h:uG v o w o')(u:Upd S l o' S'){σ:MH}(s:S σ){Q:Unit->Loc->MH->Prop}(q:∀σ',S' σ'->Q () loc σ'):iB v loc σ Q (.ref l) w:=by
 have q:=q _ (u σ s)
 cases h with
 |list h=>exact .list (g σ s) h q
 |ba e h=>exact .ba (g σ s) e h q
 |dI h=>exact .dI (g σ s) h q
 |dS h=>exact .dS (g σ s) h q
theorem dW{T:Unit->Loc->As->Prop}{m m':MO}(ho:PE loc S o (.ref l))(hb:PE loc S b w)(g:dP S l m)(h:uG v m w m')(u:Upd S l m' S')(q:T () loc S'):Wp E S loc T ((dn n (.item o b)).t v):=
 λσ s _ _ k _=>ho.ok s (hb.ok s (GT g h u s λσ' s'=>k () _ _ S' s' q))
theorem m7{T:Unit->Loc->As->Prop}{lo hi:IR}{u z:MV}{j k:Option Int}{bs cs:List UInt8}(ho:PE loc S o (.ref l))(hl:PE loc S lo u)(hh:PE loc S hi z)(c:e9 u j)(d:e9 z k)(g:dP S l (.bW bs))(h:Nm (bs.length<=100000/\cs.length<=100000))(w:Upd S l (.bW (gf bs j k cs)) S')(q:T () loc S'):Wp E S loc T ((dn n (.slice o lo hi)).t (.bytes cs)):=
 λσ s _ _ kk _=>ho.ok s (hl.ok s (hh.ok s ⟨_,_,c,d, .mk (g σ s) h (kk () _ _ S' (w σ s) q)⟩))
theorem iZ{T:Unit->Loc->As->Prop}(q:T () loc S):Wp E S loc T ((dn n .nil).ts []):=λσ s _ _ k _=>k () _ σ S s q
theorem c6{T:Unit->Loc->As->Prop}{vs:List MV}(h:Wp E S loc (λ_ l S1=>Wp E S1 l T ((dn n b).ts vs)) ((dn n a).t v)):Wp E S loc T ((dn n (.cons a b)).ts (v::vs)):=
 λσ s Q X k x=>h σ s _ X (λ_ _ σ1 _ s1 g=>g σ1 s1 Q X k x) x
theorem iW{T:Unit->Loc->As->Prop}{vs:List MV}(e:vs.length=(dn n es).tn)(h:Wp E S loc T ((dn n es).ts vs)):Wp E S loc T ((dn n (.tup es)).t (.tup vs)):=λσ s Q X k x=>⟨e,h σ s Q X k x⟩
theorem bh(q:T .next loc S):Wp E S loc T (dn n .nil).s:=λσ s _ _ k _=>k _ _ σ S s q
theorem cC(h:PE loc S a v)(q:T (.ret v) loc S):Wp E S loc T (dn n (.cons (.ret a) b)).s:=λσ s _ _ k _=>h.ok s (n:=n) (k _ _ σ S s q)
theorem oN(h:PE loc S a v)(d:∀σ,S σ->S1 σ)(q:T (.ret v) loc S1):Wp E S loc T (dn n (.cons (.ret a) b)).s:=λσ s _ _ k _=>h.ok s (n:=n) (k _ _ σ S1 (d σ s) q)
theorem eT(h:We E S loc (λv S1=>T (.ret v) loc S1) (dn n a).e):Wp E S loc T (dn n (.cons (.ret a) b)).s:=λσ s _ X k x=>h σ s _ X (λ_ σ1 S1 s1 g=>k _ _ σ1 S1 s1 g) x
theorem xJ(q:T (.ret .none) loc S):Wp E S loc T (dn n (.cons .A5 b)).s:=λσ s _ _ k _=>k _ _ σ S s q
theorem GC(q:T .brk loc S):Wp E S loc T (dn n (.cons .brk b)).s:=λσ s _ _ k _=>k _ _ σ S s q
theorem tL(q:E C S):Wp E S loc T (dn n (.cons (.raise x C y) b)).s:=λσ s _ _ _ x=>x _ _ σ S s q
theorem bY(h:We E S loc (λ_ S1=>Wp E S1 loc T (dn n b).s) (dn n a).e):Wp E S loc T (dn n (.cons (.expr a) b)).s:=λσ s Q X k x=>h σ s _ X (λ_ σ1 _ s1 g=>g σ1 s1 Q X k x) x
theorem gA(h:PE loc S a v)(hi:Nat.blt i loc.length=true)(g:Wp E S (loc.set i (some v)) T (dn n b).s):Wp E S loc T (dn n (.cons (.asg (.aa i) a) b)).s:=λσ s Q X k x=>h.ok s ⟨aj hi,g σ s Q X k x⟩
theorem de(hi:Nat.blt i loc.length=true)(h:We E S loc (λv S1=>Wp E S1 (loc.set i (some v)) T (dn n b).s) (dn n a).e):Wp E S loc T (dn n (.cons (.asg (.aa i) a) b)).s:=
 λσ s Q X k x=>h σ s _ X (λ_ σ1 _ s1 g=>⟨aj hi,g σ1 s1 Q X k x⟩) x
theorem DN(h:PE loc S a v)(ho:PE loc S o (.ref l))(u:wd S l x v S')(g:Wp E S' loc T (dn n b).s):Wp E S loc T (dn n (.cons (.asg (.am o x) a) b)).s:=
 λσ s Q X k q=>h.ok s (ho.ok s (by refine iE (u σ s) λ_ _ _ e s'=> ?_;exact .mk e.1 e.2.1 e.2.2.1 e.2.2.2 (g _ s' Q X k q)))
theorem ct(h:We E S loc (λv S1=>Wp E S1 loc (λ_ l S2=>Wp E S2 l T (dn n b).s) ((dn n t).t v)) (dn n a).e):Wp E S loc T (dn n (.cons (.asg t a) b)).s:=
 λσ s Q X k x=>h σ s _ X (λ_ σ1 _ s1 g=>g σ1 s1 _ X (λ_ _ σ2 _ s2 g=>g σ2 s2 Q X k x) x) x
theorem jB{op:Operator}{i j r:Int}(ho:PE loc S o (.ref l))(ob:Obj S l C fs)(h3:tab.am C x=true)(h6:fs.lookup x=some (.int i))(h:PE loc S e (.int j))(hr:H7 op i j r)(u:wd S l x (.int r) S')(g:Wp E S' loc T (dn n b).s):Wp E S loc T (dn n (.cons (.aug o x op e) b)).s:=by
 intro σ s Q X k q
 refine aT (ob σ s) λD e1 e2=> ?_
 refine iE (u σ s) λ_ _ _ zo3_ s'=> ?_;refine ig zo3_ λf1 f2 f3 f4=> ?_
 refine ho.ok s (.mk e1 e2 h3 h6 (h.ok s ?_))
 have m:=q7.mk (okA:=tab.am) (loc:=loc) (Q:=λ_ l1 σ1=>(dn n b).s l1 σ1 Q X) f1 f2 f3 f4 (g _ s' Q X k q)
 induction hr with
 |add=>exact .add m
 |sub=>exact .sub m
theorem qX{Q:MF->Loc->MH->Prop}{X:Addr->Loc->MH->Prop}(k:∀f l σ' S',S' σ'->T f l S'->Q f l σ')(x:∀C l σ' S',S' σ'->E C S'->X C l σ')(f:MF)(l:Loc)(σ':MH)(S':As)(s:S' σ')(g:xM n b T E f l S') :
  (λf l s=>match f with | .next=>(dn n b).s l s Q X | f=>Q f l s : MF->Loc->MH->Prop) f l σ':=by
 cases f with
 |next=>exact g σ' s Q X k x
 |_=>exact k _ l σ' S' s g
theorem s0(h:We E S loc (λp S1=>Br p (Wp E S1 loc (xM n b T E) (dn n a).s) (Wp E S1 loc (xM n b T E) (dn n c).s)) (dn n t).b):Wp E S loc T (dn n (.cons (.dH t a c) b)).s:=by
 intro σ s Q X k x
 refine h σ s _ X (λp σ1 S1 s1 g=> ?_) x
 cases p
 ·exact g.f rfl σ1 s1 _ X (qX k x) x
 ·exact g.t rfl σ1 s1 _ X (qX k x) x
theorem wS(h:PB loc S t p)(g1:p=true->Wp E S loc (xM n b T E) (dn n a).s)(g2:p=false->Wp E S loc (xM n b T E) (dn n c).s):Wp E S loc T (dn n (.cons (.dH t a c) b)).s:=s0 (eY h ⟨g1,g2⟩)
theorem iC(h:PB loc S t p)(g1:p=true->Wp E S loc (xM n b T E) (dn n a).s)(g2:p=false->Wp E S loc T (dn n b).s):Wp E S loc T (dn n (.cons (.dH t a .nil) b)).s:=wS h g1 λq=>bh (g2 q)
theorem gG(h:We E S loc (λp S1=>Br p (Wp E S1 loc (xM n b T E) (dn n a).s) (Wp E S1 loc T (dn n b).s)) (dn n t).b):Wp E S loc T (dn n (.cons (.dH t a .nil) b)).s:=
 s0 λσ s Q X k x=>h σ s Q X (λp σ1 S1 s1 g=>k p σ1 S1 s1 ⟨g.t,λq=>bh (g.f q)⟩) x
theorem jo(h:PB loc S t p)(e:p=true)(g:Wp E S loc (xM n b T E) (dn n a).s):Wp E S loc T (dn n (.cons (.dH t a c) b)).s:=wS h (λ_=>g) λq=>nomatch e.symm.trans q
theorem cO(h:PB loc S t p)(e:p=false)(g:Wp E S loc T (dn n b).s):Wp E S loc T (dn n (.cons (.dH t a .nil) b)).s:=wS h (λq=>nomatch e.symm.trans q) λ_=>bh g
theorem Hy{k:Int}{ps:List (Int×MV)}(ho:PE loc S o (.ref l))(hi:PE loc S c (.int k))(e:dP S l (.bS ps))(h:Nm (ps.length<=100000/\ps.any (λe=>e.1=k)=true))(u:Upd S l (.bS (DA ps k)) S')(g:Wp E S' loc T (dn n b).s):Wp E S loc T (dn n (.cons (.del o c) b)).s:=
 λσ s Q X k x=>ho.ok s (hi.ok s (.dI (e σ s) h (g _ (u σ s) Q X k x)))
theorem Io{k:Int}(ho:PE loc S o (.ref l))(hi:PE loc S c (.int k))(e:dP S l (.list vs))(h:Nm (0<=k/\k < vs.length/\vs.length<=100000))(u:Upd S l (.list (vs.eraseIdx k.toNat)) S')(g:Wp E S' loc T (dn n b).s):Wp E S loc T (dn n (.cons (.del o c) b)).s:=
 λσ s Q X k x=>ho.ok s (hi.ok s (.list (e σ s) h (g _ (u σ s) Q X k x)))
theorem Ch(h:PB loc S t p)(e:p=false)(g:Wp E S loc T (dn n b).s):Wp E S loc T (dn n (.cons (.dH (.and t c) a .nil) b)).s:=s0 (λσ s _ _ k _=>h.Mr e s (k _ σ S s ⟨λq=>(aE q).elim,λ_=>bh g⟩))
theorem tU{k a ar nl:Nat}{dm args:List MV}{ir:IR}(h:tab.fn a=some (ar,nl,dm,ir))(hl:(Nat.ble args.length ar&&Nat.ble ar (args.length+dm.length))=true)
  (hb:Wp E S ((args++dm.drop (dm.length - (ar - args.length))).map some++List.replicate (nl - ar) none) (λf _ S'=>R (fZ f) S') (dn k ir).s):Ct E R S a (k+1) args:=by
 intro σ s Q X k x
 dsimp only[lg];rw[h];exact⟨⟨aj (an.mp hl).1,aj (an.mp hl).2⟩,hb σ s _ _ (λ_ _=>k _) λC _=>x C⟩
noncomputable def IU(S:As)(C:Addr)(S':LA->LA->As):Prop:=∀σ,S σ->∃l d,(¬σ.us l/\¬σ.us d/\l≠d)/\S' l d ((σ.new d (.ns [])).new l (.inst C d))
theorem io{k C init:Addr}{args:List MV}{S':LA->LA->As}(h1:tab.fn C=none)(h2:tab.cls C=some init)(nw:IU S C S')(g:∀l d,Ct E (λv S1=>v= .none/\R (.ref l) S1) (S' l d) init k (.ref l::args)):Ct E R S C (k+1) args:=by
 intro σ s Q X kk x
 dsimp only[lg];refine ae h1▸ ?_;dsimp only;rw[h2]
 refine ey (nw σ s) λl d hn s'=> ?_
 exact⟨l,d,hn,g l d _ s' _ X (λv σ' S' s' zz=>by obtain⟨e,q⟩:=zz;subst e;exact kk _ _ _ s' q) x⟩
theorem dh{k a nl:Nat}{x0:MV}{ir:IR}(h:tab.fn a=some (1,nl,[],ir))(hb:Wp E S (some x0::List.replicate (nl - 1) none) (λf _ S'=>R (fZ f) S') (dn k ir).s):Ct E R S a (k+1) [x0]:=tU h rfl hb
theorem df{k a nl:Nat}{x0 x1:MV}{ir:IR}(h:tab.fn a=some (2,nl,[],ir))(hb:Wp E S (some x0::some x1::List.replicate (nl - 2) none) (λf _ S'=>R (fZ f) S') (dn k ir).s):Ct E R S a (k+1) [x0,x1]:=tU h rfl hb
theorem fH{k a nl:Nat}{x0 x1 x2:MV}{ir:IR}(h:tab.fn a=some (3,nl,[],ir))(hb:Wp E S (some x0::some x1::some x2::List.replicate (nl - 3) none) (λf _ S'=>R (fZ f) S') (dn k ir).s):Ct E R S a (k+1) [x0,x1,x2]:=tU h rfl hb
theorem kX{k a nl:Nat}{x0 x1 x2 x3:MV}{ir:IR}(h:tab.fn a=some (4,nl,[],ir))(hb:Wp E S (some x0::some x1::some x2::some x3::List.replicate (nl - 4) none) (λf _ S'=>R (fZ f) S') (dn k ir).s):Ct E R S a (k+1) [x0,x1,x2,x3]:=tU h rfl hb
end
noncomputable def rV(S:As)(it:It)(r:Option (MV×It)):Prop:=∀σ,S σ->Nx σ it r
noncomputable def bd(J:Loc->As->Prop)(T:MF->Loc->As->Prop)(f:MF)(l:Loc)(S:As):Prop:=match f with
 | .next=>J l S
 | .cont=>J l S
 | .brk=>T .next l S
 | .ret v=>T (.ret v) l S
noncomputable abbrev Wf(n:Nat)(t b:IR)(N:Nat)(it:It)(loc:Loc)(S:As)(T:MF->Loc->As->Prop)(E:Addr->As->Prop):Prop:=Wp E S loc T (P.ya (dn n t).t (dn n b).s (P.ret .next) N it)
inductive Fo(n:Nat)(tt:Bool)(t b:IR)(it:It)(loc:Loc)(S:As)(T:MF->Loc->As->Prop)(E:Addr->As->Prop):Prop
 |mk (N:Nat)(h:(!it.dT||tt)=true)(g:Wf n t b N it loc S T E)
section
variable {n:Nat}{loc:Loc}{S:As}{a b c t i:IR}{l:LA}{vs:List MV}{v:MV}{T:MF->Loc->As->Prop}{E:Addr->As->Prop}{R:It->As->Prop}{tt:Bool}
theorem lY{it:Nat->It}{L:Nat}{I:Nat->Loc->As->Prop}
  (step:∀i loc S,i < L->I i loc S->pZ (λv=>rV S (it i) (some (v,it (i+1)))) λv=>Wp E S loc (λ_ l S1=>Wp E S1 l (bd (I (i+1)) T) (dn n b).s) ((dn n t).t v))
  (stop:∀loc S,I L loc S->rV S (it L) none/\T .next loc S):∀ (k i:Nat)(loc:Loc)(S:As),i+k=L->I i loc S->Wf n t b (k+1) (it i) loc S T E
 |0,i,loc,S,e,h=>λσ s Q X k x=>by
  subst e
  exact .stop ((stop loc S h).1 σ s) (k _ _ σ S s (stop loc S h).2)
 |k+1,i,loc,S,e,h=>λσ s Q X kk x=>by
  have ⟨h1,g⟩:=step i loc S (e▸Nat.lt_add_of_pos_right (Nat.succ_pos k)) h
  refine .turn (h1 σ s) (g σ s _ X (λ_ l1 σ1 S1 s1 g=>g σ1 s1 _ X (λf l2 σ2 S2 s2 g=> ?_) x) x)
  cases f with
  |next=>exact lY step stop k (i+1) l2 S2 ((Nat.succ_add_eq_add_succ i k).trans e) g σ2 s2 Q X kk x
  |cont=>exact lY step stop k (i+1) l2 S2 ((Nat.succ_add_eq_add_succ i k).trans e) g σ2 s2 Q X kk x
  |brk=>exact kk _ _ σ2 S2 s2 g
  |ret v=>exact kk _ _ σ2 S2 s2 g
theorem to(h:We E S loc (λit S1=>Fo n tt t b it loc S1 (xM n c T E) E) (dn n i).it):Wp E S loc T (dn n (.cons (.fR tt t i b) c)).s:=λσ s Q X k x=>by
 refine h σ s _ X (λit σ1 S1 s1 ⟨N,h,g⟩=>⟨λq=> ?_,N,g σ1 s1 _ X (qX k x) x⟩) x
 replace h:=q▸h;exact h
theorem dj{it:Nat->It}{L:Nat}{I:Nat->Loc->As->Prop}(h:We E S loc (λi0 S1=>i0=it 0/\I 0 loc S1) (dn n i).it)(hn:(!(it 0).dT||tt)=true)
  (step:∀i loc S,i < L->I i loc S->pZ (λv=>rV S (it i) (some (v,it (i+1)))) λv=>Wp E S loc (λ_ l S1=>Wp E S1 l (bd (I (i+1)) (xM n c T E)) (dn n b).s) ((dn n t).t v))
  (stop:∀loc S,I L loc S->rV S (it L) none/\Wp E S loc T (dn n c).s):Wp E S loc T (dn n (.cons (.fR tt t i b) c)).s:=
 to λσ s Q X k x=>h σ s Q X (λi0 σ1 S1 s1 zz=>(by refine dA zz λe g=> ?_;exact k i0 σ1 S1 s1 (e▸ .mk (L+1) hn (lY step stop L 0 loc S1 (bZ L) g)))) x
theorem jf(h:PE loc S a (.ref l))(e:dP S l (.list vs))(q:R (.lst l 0) S):We E S loc R (dn n (.iter a)).it:=λσ s _ _ k _=>h.ok s (.lst (e σ s) (k _ σ S s q))
theorem H0{b:List UInt8}(h:PE loc S a (.bytes b))(q:R (.rF b 0) S):We E S loc R (dn n (.iter a)).it:=λσ s _ _ k _=>h.ok s (.rF (k _ σ S s q))
theorem F2(h:We E S loc (λv S1=>pZ (λl=>v= .ref l) λl=>pZ (λvs=>dP S1 l (.list vs)) λ_=>R (.lst l 0) S1) (dn n a).e):We E S loc R (dn n (.iter a)).it:=
 λσ s _ X k x=>h σ s _ X (λv σ1 S1 s1 zz=>by obtain⟨e,e1,q⟩:=zz;subst e;exact .lst (e1 σ1 s1) (k _ σ1 S1 s1 q)) x
theorem nK(h:PE loc S a (.ref l))(e:dP S l (.list vs))(p:Nm (vs.length<=100000))(q:R (.nT l 0) S):We E S loc R (dn n (.enum a)).it:=λσ s _ _ k _=>h.ok s (.mk (e σ s) p (k _ σ S s q))
theorem IN(h:We E S loc (λv S1=>pZ (λl=>v= .ref l) λl=>pZ (λvs=>dP S1 l (.list vs)/\vs.length<=100000) λvs=>R (.rev l vs.length) S1) (dn n a).e):We E S loc R (dn n (.rev a)).it:=
 λσ s _ X k x=>h σ s _ X (λv σ1 S1 s1 zz=>by obtain⟨e,e1,q⟩:=zz;subst e;exact .mk (e1.1 σ1 s1) e1.2 (k _ σ1 S1 s1 q)) x
theorem i8{j:Int}(h:PL loc S a [.int j])(p:Nm (-(2^60)<=j/\j < 2^60))(q:R (.jK 0 (if 0 < j then j - 0 else 0) 1) S):We E S loc R (dn n (.range a)).it:=λσ s _ _ k _=>h.ok s (.one p (k _ σ S s q))
theorem yc{i j:Int}(h:PL loc S a [.int i, .int j])(p:Nm (-(2^60)<=i/\i < 2^60/\ -(2^60)<=j/\j < 2^60))(q:R (.jK i (if i < j then j - i else 0) 1) S):We E S loc R (dn n (.range a)).it:=λσ s _ _ k _=>h.ok s (.two p (k _ σ S s q))
theorem Eo{i j m:Int}(h:PL loc S a [.int i, .int j, .int m])(p:Nm (-(2^60)<=i/\i < 2^60/\ -(2^60)<=j/\j < 2^60/\0 < m/\m < 2^60))(q:R (.jK i (if i < j then (j - i - 1) / m+1 else 0) m) S):We E S loc R (dn n (.range a)).it:=λσ s _ _ k _=>h.ok s (.three p (k _ σ S s q))
theorem ie{i:Nat}(e:dP S l (.list vs))(g:vs[i]?=some v):rV S (.lst l i) (some (v, .lst l (i+1))):=λσ s=> .lst (e σ s) g
theorem fB(e:dP S l (.list vs)):rV S (.lst l vs.length) none:=λσ s=> .Lc (e σ s) (List.getElem?_eq_none (aG _))
theorem qZ{i:Nat}(e:dP S l (.list vs))(g:vs[i]?=some v):rV S (.nT l i) (some (.tup [.int i,v], .nT l (i+1))):=λσ s=> .nT (e σ s) g
theorem mV(e:dP S l (.list vs)):rV S (.nT l vs.length) none:=λσ s=> .Lf (e σ s) (List.getElem?_eq_none (aG _))
noncomputable def hB(x d:Int)(L:Nat)(i:Nat):It:= .jK (x+i * d) (L - i : Nat) d
theorem uN{x d:Int}{L i:Nat}(h:i < L):rV S (hB x d L i) (some (.int (x+i * d),hB x d L (i+1))):=λσ s=>by
 have:=Nx.jK (σ:=σ) (x:=x+i * d) (left:=(L - i : Nat)) (step:=d) (aX.mpr (Nat.sub_pos_of_lt h))
 rwa [show x+i * d+d=x+(i+1 : Nat) * d from (Int.add_assoc ..).trans (ah (x+·) ((ah (i * d+·) (Int.one_mul d).symm).trans (Int.add_mul i 1 d).symm)),Ip h] at this
theorem gz{x d:Int}{L:Nat}:rV S (hB x d L L) none:=λσ s=> .K6 (by refine ae (Nat.sub_self ..)▸ ?_;decide)
noncomputable def Wn(loc:Loc)(S:As)(b t:IR)(k:Nat)(E:Addr->As->Prop)(n:Nat)(T:MF->Loc->As->Prop):Prop:=Wp E S loc T (P.rB (dn n t).b (dn n b).s (P.ret .next) k)
theorem i4{k:Nat}(h:We E S loc (λp S1=>Br p (Wp E S1 loc (bd (λl S=>Wn l S b t k E n T) T) (dn n b).s) (T .next loc S1)) (dn n t).b):Wn loc S b t (k+1) E n T:=by
 refine λσ s Q X kk x=>h σ s _ X (λp σ1 S1 s1 g=> ?_) x
 cases p
 ·exact kk _ _ σ1 S1 s1 (g.f rfl)
 ·refine g.t rfl σ1 s1 _ X (λf l2 σ2 S2 s2 g=> ?_) x
  cases f with
  |next=>exact g σ2 s2 Q X kk x
  |cont=>exact g σ2 s2 Q X kk x
  |brk=>exact kk _ _ σ2 S2 s2 g
  |ret v=>exact kk _ _ σ2 S2 s2 g
theorem pX(k:Nat)(h:Wn loc S b t k E n (xM n c T E)):Wp E S loc T (dn n (.cons (.gT t b) c)).s:=λσ s Q X kk x=>⟨k,h σ s _ X (qX kk x) x⟩
theorem Fu{J J':Loc->As->Prop}(h:∀l S,J l S->J' l S){f:MF}{l:Loc}{S:As}(g:bd J T f l S):bd J' T f l S:=by
 cases f with
 |next=>exact h _ _ g
 |cont=>exact h _ _ g
 |brk=>exact g
 |ret v=>exact g
theorem we{I:Nat->Loc->As->Prop}(k:Nat)(h:I k loc S)(h0:∀loc S,¬I 0 loc S)
  (step:∀k loc S,I (k+1) loc S->We E S loc (λp S1=>Br p (Wp E S1 loc (bd (I k) (xM n c T E)) (dn n b).s) (Wp E S1 loc T (dn n c).s)) (dn n t).b):Wp E S loc T (dn n (.cons (.gT t b) c)).s:=by
 have all : ∀k loc S,I k loc S->Wn loc S b t k E n (xM n c T E):=by
  intro k
  induction k with
  |zero=>exact λloc S h=>(h0 loc S h).elim
  |succ k ih=>exact λloc S h=>i4 λσ s Q X kk x=>step k loc S h σ s Q X (λp σ1 S1 s1 g=>kk p σ1 S1 s1 ⟨λe σ s Q X kk x=>g.t e σ s Q X (λf l σ' S' s' g=>kk f l σ' S' s' (Fu ih g)) x,g.f⟩) x
 exact pX k (all k loc S h)
noncomputable def z7(cmap:List (Option Nat))(loc:Loc):Bool:=cmap.all λo=>match o with
 |none=>true
 |some j=>match loc[j]? with
  |some (some _)=>true
  |_=>false
theorem ze{cmap:List (Option Nat)}(h:z7 cmap loc=true):n0 cmap loc:=λi j e=>by
 have:=List.all_eq_true.mp h _ (au e)
 dsimp only at this
 split at this
 ·exact⟨_,‹_›⟩
 ·cases this
noncomputable abbrev Eg : Addr->As->Prop:=λ_ _=>False
theorem oE{tg ifs el:IR}{it:Nat->It}{L:Nat}{I:Nat->List MV->Loc->As->Prop}{D:List MV->As->Prop}
  (step:∀i acc loc S,i < L->I i acc loc S->acc.length<=100000/\pZ (λv=>rV S (it i) (some (v,it (i+1)))) λv=>Wp Eg S loc (λ_ l S1=>We Eg S1 l (λb S2=>Br b (We Eg S2 l (λy S3=>I (i+1) (acc++[y]) l S3) (dn n el).e) (I (i+1) acc l S2)) (dn n ifs).c) ((dn n tg).t v))
  (stop:∀acc loc S,I L acc loc S->rV S (it L) none/\D acc S):∀ (k i:Nat)(acc:List MV)(loc:Loc)(S:As),i+k=L->I i acc loc S->Wp Eg S loc (λacc _ S=>D acc S) (P.lE (dn n tg).t (dn n ifs).c (dn n el).e (k+1) (it i) acc)
 |0,i,acc,loc,S,e,h=>λσ s Q X k x=>by
  subst e
  exact .stop ((stop acc loc S h).1 σ s) (k _ _ σ S s (stop acc loc S h).2)
 |k+1,i,acc,loc,S,e,h=>λσ s Q X kk x=>by
  have ⟨hl,h1,g⟩:=step i acc loc S (e▸Nat.lt_add_of_pos_right (Nat.succ_pos k)) h
  have X' : ∀ {C l σ' S'},S' σ'->Eg C S'->X C l σ':=λ_ h=>h.elim
  refine .turn (h1 σ s) ⟨hl,g σ s _ X (λ_ l1 σ1 S1 s1 g=>g σ1 s1 _ X (λb σ2 S2 s2 g=> ?_) λ_ _ _ _=>X') λ_ _ _ _=>X'⟩
  cases b
  ·exact oE step stop k (i+1) acc l1 S2 ((Nat.succ_add_eq_add_succ i k).trans e) (g.f rfl) σ2 s2 Q X kk x
  ·exact g.t rfl σ2 s2 _ X (λy σ3 S3 s3 g=>oE step stop k (i+1) _ l1 S3 ((Nat.succ_add_eq_add_succ i k).trans e) g σ3 s3 Q X kk x) λ_ _ _ _=>X'
theorem fT{R:MV->As->Prop}{cn:List Str}{cmap:List (Option Nat)}{tg ifs el:IR}{it:Nat->It}{L:Nat}{I:Nat->List MV->Loc->As->Prop}(h:We E S loc (λi0 S1=>i0=it 0/\I 0 [] (eR cmap loc) S1) (dn n i).it)(hn:((!(it 0).dT||tt)&&(it 0).plain&&z7 cmap loc)=true)
  (step:∀i acc loc S,i < L->I i acc loc S->acc.length<=100000/\pZ (λv=>rV S (it i) (some (v,it (i+1)))) λv=>Wp Eg S loc (λ_ l S1=>We Eg S1 l (λb S2=>Br b (We Eg S2 l (λy S3=>I (i+1) (acc++[y]) l S3) (dn n el).e) (I (i+1) acc l S2)) (dn n ifs).c) ((dn n tg).t v))
  (stop:∀acc loc S,I L acc loc S->rV S (it L) none/\pZ (pW S (.list acc)) λS'=>∀r,R (.ref r) (S' r)):We E S loc R (dn n (.comp cn cmap tt i tg ifs el)).e:=by
 have hm:=an.mp (an.mp hn).1
 refine λσ s Q X k x=>h σ s _ X (λi0 σ1 S1 s1 ⟨e,g⟩=> ?_) x
 subst e
 refine⟨λq=> ?_,hm.2,ze (an.mp hn).2,L+1,oE step stop L 0 [] _ S1 (bZ L) g σ1 s1 _ _ (λacc l σ' S' s' ⟨nw,q⟩=>(by refine aT (nw σ' s') λr hr s2=> ?_;exact⟨r,hr,k _ _ _ s2 (q r)⟩)) λ_ _ _ _ _ h=>h⟩
 have:=hm.1;replace this:=q▸this;exact this
theorem fS{R:Bool->As->Prop}(q:R true S):We E S loc R (dn n .nil).c:=λσ s _ _ k _=>k true σ S s q
theorem ut{R:Bool->As->Prop}(h:We E S loc R (dn n a).b):We E S loc R (dn n (.cons a .nil)).c:=h
inductive Kk(S:As)(R:MV->As->Prop):MV->MV->Prop
 |mk {k l vs ws S'} (e:dP S k (.list vs))(f:dP S l (.list ws))(h:vs.length+ws.length<=100000)(nw:pW S (.list (vs++ws)) S')(q:∀r,R (.ref r) (S' r)):Kk S R (.ref k) (.ref l)
theorem uD{R:MV->As->Prop}(h:We E S loc (λv S1=>We E S1 loc (λw S2=>Kk S2 R v w) (dn n b).e) (dn n a).e):We E S loc R (dn n (.bin .Add a b)).e:=
 λσ s Q X k x=>h σ s _ X (λ_ σ1 _ s1 g=>g σ1 s1 _ X (λ_ σ2 S2 s2 g=>by
  cases g with | mk e f h nw q=>exact (by refine aT (nw σ2 s2) λr hr s3=> ?_;exact .Ll (e σ2 s2) (f σ2 s2) h hr (k _ _ _ s3 (q r)))) x) x
theorem Fb{R:MV->As->Prop}{S':LA->As}(e:dP S l (.list vs))(h:vs.length<=1000)(nw:pW S (.list vs) S')(q:∀r,R (.ref r) (S' r)):We E S loc R (eK n (.type "list") [.ref l]):=λσ s _ _ k _=>(by refine aT (nw σ s) λr hr s2=> ?_;exact xI.mk (e σ s) h hr (k _ _ _ s2 (q r)))
theorem on{R:MV->As->Prop}{ns:List Int}(e:dP S l (.list vs))(h:vs.length<=100000)(f:intsOf vs=some ns)(g:∀n∈ns,0<=n/\n < 256)(q:R (.bytes (ns.map λn=>n.toNat.toUInt8)) S):We E S loc R (eK n (.type "bytes") [.ref l]):=λσ s _ _ k _=>iX.list (e σ s) h f g (k _ _ S s q)
end
noncomputable abbrev Cell:=LA×MO
structure Zs(Z:List Cell)(σ:MH):Prop where
 get : ∀p∈Z,σ.get p.1=some p.2/\σ.us p.1
 nd : (Z.map (·.1)).Nodup
 fr : ∃N,∀i,N<=i->¬σ.us (.tm i)
section
variable {Z Z':List Cell}{σ:MH}{l d:LA}{o o':MO}{C:Addr}
theorem Zs.perm(h:Zs Z σ)(e:Z.Perm Z'):Zs Z' σ:=⟨λp m=>h.get p (e.mem_iff.mpr m),(e.map _).nodup_iff.mp h.nd,h.fr⟩
theorem Zs.sub(h:Zs Z σ)(e:Z'.Sublist Z):Zs Z' σ:=⟨λp m=>h.get p (e.mem m),h.nd.sublist (e.map _),h.fr⟩
theorem Zs.upd(h:Zs ((l,o)::Z) σ):Zs ((l,o')::Z) (σ.set l o'):=by
 refine⟨λp m=> ?_,h.nd,h.fr⟩
 refine Or.elim (aK.mp m) (λe=> ?_) λm=> ?_
 ·subst e;exact⟨if_pos rfl,(h.get _ (.head _)).2⟩
 ·have:=h.get p (.tail _ m)
  exact⟨(if_neg λe=>(List.nodup_cons.mp h.nd).1 (cq.mpr ⟨p,m,e⟩)).trans this.1,this.2⟩
theorem Zs.put(h:Zs Z σ){N:Nat}(hN:∀i,N<=i->¬σ.us (.tm i)):Zs ((.tm N,o)::Z) (σ.new (.tm N) o):=by
 have ne : ∀p∈Z,p.1≠ .tm N:=λp m e=>hN N (aG _) (e▸(h.get p m).2)
 refine⟨λp m=> ?_,List.nodup_cons.mpr ⟨λm=>(by obtain⟨p,m,e⟩:=cq.mp m;exact ne p m e),h.nd⟩,N+1,λi hi u=>u.elim (λe=> ?_) (hN i (ad (Nat.le_add_right_of_le (aG _)) hi))⟩
 ·rcases aK.mp m with e | m
  ·subst e;exact⟨if_pos rfl, .inl rfl⟩
  ·exact⟨(if_neg (ne p m)).trans (h.get p m).1, .inr (h.get p m).2⟩
 ·cases e;exact absurd hi (Nat.not_succ_le_self _)
theorem Zs.new : pW (Zs Z) o λr=>Zs ((r,o)::Z):=λ_ h=>(by obtain⟨N,hN⟩:=h.fr;exact⟨.tm N,hN N (aG _),h.put hN⟩)
theorem tK : ∀ {Z:List Cell}{i:Nat}{p q:Cell},Z[i]?=some p->∃Y,Z.Perm (p::Y)/\(Z.set i q).Perm (q::Y)
 | [],_,_,_,e=>nomatch e
 |a::Z,0,_,_,e=>by cases e;exact⟨Z, .refl _, .refl _⟩
 |a::Z,i+1,p,q,e=>(by refine aT (tK (Z:=Z) (q:=q) e) λY h1 h2=> ?_;exact⟨a::Y,(h1.cons a).trans (.swap ..),(h2.cons a).trans (.swap ..)⟩)
theorem Zs.set{i:Nat}(e:Z[i]?=some (l,o)):Upd (Zs Z) l o' (Zs (Z.set i (l,o'))):=λσ h=>
 let ⟨_,h1,h2⟩:=tK e;(h.perm h1).upd.perm h2.symm
theorem Zs.Jt{i:Nat}{p q:Cell}(h:Zs (q::Z) σ)(e:Z[i]?=some p):Zs (Z.set i q) σ:=by
 refine aT (tK (q:=q) e) λY h1 h2=> ?_
 exact ((h.perm (h1.cons q)).sub (.cons_cons q (.cons p (.refl Y)))).perm h2.symm
end
structure yB where
 l : LA
 d : LA
 r : LA
noncomputable def dk{β:Type}(f:Int->β)(g:β->MV)(ks:List Int):List (Int×MV):=ks.map λk=>(k,g (f k))
structure En where
 a : Nat->LA
 nb : Int
structure Lo(g:En) where
 kk : List Int
 e : Int->List UInt8
 lk : List Int
 d : Int->List UInt8
 un : LA
 ch : List (Int×List UInt8)
 wr : Int
 fl : Int
 row : List Int
 ks : List Int
 bn : Int->yB
 hold : Option Int
 pins : List Int
 c : Int->List UInt8
 hits : Int
 rd : Int
 cw : Int
 nm : LA
 nums : List Int
 nt : LA
 nd : List Int
 calls : Int
 Eb : Int
noncomputable abbrev zeros : List UInt8:=List.replicate 64 0
noncomputable def mw(p:Int×List UInt8):MV:= .tup [.int p.1, .bytes p.2]
noncomputable abbrev yB.ref(x:yB):MV:= .ref x.l
noncomputable def iH(p:Bool):Int:=bif p then 1 else 0
section
variable {g:En}(h:Lo g)
noncomputable abbrev Lo.a(h:Lo g):Nat->LA:=g.a
noncomputable abbrev Lo.nb(h:Lo g):Int:=g.nb
noncomputable def Lo.nsD : List (String×MV):=[("blocks", .int h.nb),("size", .int 64),("kept", .ref (h.a 2)),("latest", .ref (h.a 3)),("unflushed", .ref h.un),("writes", .int h.wr),("flushes", .int h.fl),("last", .none),("last_flush", .none),("is_dead", .bool false)]
noncomputable def Lo.Lk : List (String×MV):=[("disk", .ref (h.a 0)),("most", .int 14),("size", .int 64),("row", .ref (h.a 7)),("by_number", .ref (h.a 8)),("hits", .int h.hits),("reads", .int h.rd),("writes", .int h.cw)]
noncomputable def Lo.Mx : List (String×MV):=[("cache", .ref (h.a 5)),("start", .int 2),("size", .int 10),("places", .int 9),("most", .int 9),("each", .int 9),("numbers", .ref h.nm),("noted", .ref h.nt),("calls", .int h.calls),("commits", .int h.Eb)]
noncomputable def Lo.D1(n:Int):List (String×MV):=[("number", .int n),("data", .ref (h.bn n).r),("holders", .int (iH (h.hold==some n))),("pins", .int (iH (h.pins.contains n)))]
noncomputable def Lo.buf(n:Int):List Cell:=[((h.bn n).l, .inst gq (h.bn n).d),((h.bn n).d, .ns (h.D1 n)),((h.bn n).r, .bW (h.c n))]
noncomputable def Lo.refs : List MV:=h.row.map λn=>(h.bn n).ref
noncomputable def Lo.pO : List (Int×MV):=dk h.bn yB.ref h.ks
noncomputable def Lo.noted : List (Int×MV):=h.nd.zipIdx.map λp=>(p.1, .int p.2)
noncomputable def Lo.objs : List Cell:=[(h.a 0, .inst jq (h.a 1)),(h.a 1, .ns h.nsD),(h.a 2, .bS (dk h.e .bytes h.kk)),(h.a 3, .bS (dk h.d .bytes h.lk)),(h.un, .list (h.ch.map mw)),(h.a 5, .inst mq (h.a 6)),(h.a 6, .ns h.Lk),(h.a 7, .list h.refs),(h.a 8, .bS h.pO),
 (h.a 9, .inst eJ (h.a 10)),(h.a 10, .ns h.Mx),(h.nm, .list (h.nums.map .int)),(h.nt, .bS h.noted)]
noncomputable def Lo.fF : List Cell:=h.row.flatMap h.buf
noncomputable def Lw(F:List Cell):As:=Zs (h.objs++(F++h.fF))
noncomputable abbrev Lo.Nb : Lo g:={ h with wr:=h.wr+1 }
noncomputable abbrev Lo.Lj : Lo g:={ h with fl:=h.fl+1 }
noncomputable abbrev Lo.Lp(k:List Int)(e:Int->List UInt8):Lo g:={ h with kk:=k,e:=e }
noncomputable abbrev Lo.Lm(k:List Int)(d:Int->List UInt8):Lo g:={ h with lk:=k,d:=d }
noncomputable abbrev Lo.MY(u:List (Int×List UInt8)):Lo g:={ h with ch:=u }
noncomputable abbrev Lo.Hb(l:LA):Lo g:={ h with un:=l,ch:=[] }
noncomputable abbrev Lo.Lb : Lo g:={ h with hits:=h.hits+1 }
noncomputable abbrev Lo.Jx : Lo g:={ h with rd:=h.rd+1 }
noncomputable abbrev Lo.Ms : Lo g:={ h with cw:=h.cw+1 }
noncomputable abbrev Lo.Hh(b:List Int):Lo g:={ h with ks:=b }
noncomputable abbrev Lo.rz(b:List Int):Lo g:={ h with row:=b }
noncomputable abbrev Lo.kx(k:Int):Lo g:={ h with calls:=k }
noncomputable abbrev Lo.Mu : Lo g:={ h with Eb:=h.Eb+1 }
noncomputable abbrev Lo.Hf(k:List Int):Lo g:={ h with nums:=k }
noncomputable abbrev Lo.KR(k:List Int):Lo g:={ h with nd:=k }
noncomputable abbrev Lo.Ed(l:LA):Lo g:={ h with nm:=l,nums:=[] }
noncomputable abbrev Lo.MX(l:LA):Lo g:={ h with nt:=l,nd:=[] }
end
noncomputable def upd{α:Type}(f:Int->α)(n:Int)(v:α)(m:Int):α:=if m=n then v else f m
noncomputable abbrev Lo.pt{g:En}(h:Lo g)(o:Option Int):Lo g:={ h with hold:=o }
noncomputable abbrev Lo.rA{g:En}(h:Lo g)(p:List Int):Lo g:={ h with pins:=p }
noncomputable abbrev Lo.tv{g:En}(h:Lo g)(n:Int)(x:yB):Lo g:={ h with bn:=upd h.bn n x }
noncomputable abbrev Lo.cB{g:En}(h:Lo g)(n:Int)(v:List UInt8):Lo g:={ h with c:=upd h.c n v }
structure Vw where
 kk : List Int
 e : Int->List UInt8
 lk : List Int
 d : Int->List UInt8
 un : LA
 ch : List (Int×List UInt8)
 pins : List Int
 c : Int->List UInt8
 nm : LA
 nums : List Int
 nt : LA
 nd : List Int
 calls : Int
noncomputable def Lo.vw{g:En}(h:Lo g):Vw:=⟨h.kk,h.e,h.lk,h.d,h.un,h.ch,h.pins,h.c,h.nm,h.nums,h.nt,h.nd,h.calls⟩
structure Lo.Ok{g:En}(h:Lo g):Prop where
 nd : h.row.Nodup
 ks : h.ks.Perm h.row
 jK : ∀n∈h.row,0<=n/\n < h.nb
 most : h.row.length<=14
 pin : ∀n∈h.pins,n∈h.row
 Ec : h.pins.Nodup
 pl : h.pins.length<=9
 sI : ∀n,h.hold=some n->n∈h.row
 cl : ∀n,n∉h.pins->h.hold≠some n->h.c n=h.d n
 Ek : ∀n,n∉h.lk->h.d n=zeros
 len : ∀n,(h.d n).length=64/\(h.c n).length=64
inductive LF{g:En}(h:Lo g):LA->MO->Prop where
 |kept : LF h (h.a 2) (.bS (dk h.e .bytes h.kk))
 |Jr : LF h (h.a 3) (.bS (dk h.d .bytes h.lk))
 |un : LF h h.un (.list (h.ch.map mw))
 |row : LF h (h.a 7) (.list h.refs)
 |pO : LF h (h.a 8) (.bS h.pO)
 |nm : LF h h.nm (.list (h.nums.map .int))
 |nt : LF h h.nt (.bS h.noted)
inductive LO{g:En}(h:Lo g):LA->Addr->List (String×MV)->Prop where
 |d : LO h (h.a 0) jq h.nsD
 |c : LO h (h.a 5) mq h.Lk
 |j : LO h (h.a 9) eJ h.Mx
section
variable {g:En}{h h':Lo g}{F F':List Cell}{l D:LA}{o o':MO}{C:Addr}{fs:List (String×MV)}{i:Nat}{n:Int}
theorem Zs.has{Z:List Cell}(m:(l,o)∈Z):dP (Zs Z) l o:=λ_ s=>(s.get _ m).1
theorem Zs.obj{Z:List Cell}(m:(l, .inst C D)∈Z)(m':(D, .ns fs)∈Z):Obj (Zs Z) l C fs:=λ_ s=>⟨D,(s.get _ m).1,(s.get _ m').1⟩
theorem Lw.has(m:LF h l o):dP (Lw h F) l o:=by
 refine Zs.has (bJ _ ?_)
 induction m with
 |kept=>exact au (i:=2) rfl
 |Jr=>exact au (i:=3) rfl
 |un=>exact au (i:=4) rfl
 |row=>exact au (i:=7) rfl
 |pO=>exact au (i:=8) rfl
 |nm=>exact au (i:=11) rfl
 |nt=>exact au (i:=12) rfl
theorem Lw.obj(m:LO h l C fs):Obj (Lw h F) l C fs:=by
 induction m with
 |d=>exact Zs.obj (D:=h.a 1) (au (i:=0) rfl) (au (i:=1) rfl)
 |c=>exact Zs.obj (D:=h.a 6) (au (i:=5) rfl) (au (i:=6) rfl)
 |j=>exact Zs.obj (D:=h.a 10) (au (i:=9) rfl) (au (i:=10) rfl)
theorem Lw.cH(e:F[i]?=some (l,o)):dP (Lw h F) l o:=Zs.has (bx _ (bJ _ (au e)))
theorem Lw.kz(e:F[i]?=some (l, .inst C D))(e':F[i+1]?=some (D, .ns fs)):Obj (Lw h F) l C fs:=Zs.obj (bx _ (bJ _ (au e))) (bx _ (bJ _ (au e')))
theorem eS{p:Cell}(m:n∈h.row)(e:p∈h.buf n):p∈h.objs++(F++h.fF):=bx _ (bx _ (List.mem_flatMap.mpr ⟨n,m,e⟩))
theorem Lw.gg(m:n∈h.row):Obj (Lw h F) (h.bn n).l gq (h.D1 n):=Zs.obj (eS m (.head _)) (eS m (.tail _ (.head _)))
theorem Lw.hasB(m:n∈h.row):dP (Lw h F) (h.bn n).r (.bW (h.c n)):=Zs.has (eS m (.tail _ (.tail _ (.head _))))
theorem Lw.Nc(m:n∈h.row):Us (Lw h F) (h.bn n).l:=λ_ s=>(s.get _ (eS m (.head _))).2
theorem Lw.x5(e:h.objs[i]?=some (l,o))(e':h'.objs=h.objs.set i (l,o'))(b:h'.fF=h.fF):Upd (Lw h F) l o' (Lw h' F):=λσ s=>by
 have:=Zs.set (o':=o') (i:=i) ((cY (be.mp e).1).trans e) σ s
 rw[List.set_append_left _ _ (be.mp e).1,<-e',<-b] at this
 exact this
theorem Lw.Mv{x:String}{v:MV}(e:h.objs[i]?=some (l, .inst C D))(e1:h.objs[i+1]?=some (D, .ns fs))(e2:(tab.am C x&&Nat.ble fs.length 100)=true)(e':h'.objs=h.objs.set (i+1) (D, .ns (gK x v fs)))(b:h'.fF=h.fF):wd (Lw h F) l x v (Lw h' F):=λσ s=>
 ⟨C,D,fs,⟨(s.get _ (bJ _ (au e))).1,(s.get _ (bJ _ (au e1))).1,(an.mp e2).1,aj (an.mp e2).2⟩,Lw.x5 e1 e' b σ s⟩
theorem Lw.KY{x:String}{v:MV}(e':h'.objs=h.objs.set 1 (h.a 1, .ns (gK x v h.nsD)))(b:h'.fF=h.fF)(e2:tab.am jq x=true):wd (Lw h F) (h.a 0) x v (Lw h' F):=Lw.Mv (i:=0) rfl rfl (by refine ae e2▸ ?_;rfl) e' b
theorem Lw.Jp{x:String}{v:MV}(e':h'.objs=h.objs.set 6 (h.a 6, .ns (gK x v h.Lk)))(b:h'.fF=h.fF)(e2:tab.am mq x=true):wd (Lw h F) (h.a 5) x v (Lw h' F):=Lw.Mv (i:=5) rfl rfl (by refine ae e2▸ ?_;rfl) e' b
theorem Lw.Jf{x:String}{v:MV}(e':h'.objs=h.objs.set 10 (h.a 10, .ns (gK x v h.Mx)))(b:h'.fF=h.fF)(e2:tab.am eJ x=true):wd (Lw h F) (h.a 9) x v (Lw h' F):=Lw.Mv (i:=9) rfl rfl (by refine ae e2▸ ?_;rfl) e' b
theorem Lw.x7{x:String}{r:LA}{j:Nat}{q:Cell}(e:h.objs[i]?=some (l, .inst C D))(e1:h.objs[i+1]?=some (D, .ns fs))(e2:(tab.am C x&&Nat.ble fs.length 100)=true)(e3:(h.objs.set (i+1) (D, .ns (gK x (.ref r) fs)))[j]?=some q)
  (e':h'.objs=(h.objs.set (i+1) (D, .ns (gK x (.ref r) fs))).set j (r,o))(b:h'.fF=h.fF):wd (Lw h ((r,o)::F)) l x (.ref r) (Lw h' F):=λσ s=>by
 have g:=λ{p:Cell}(m:p∈h.objs)=>(Zs.get (Z:=h.objs++((r,o)::F++h.fF)) s p (bJ _ m)).1
 refine⟨C,D,fs,⟨g (au e),g (au e1),(an.mp e2).1,aj (an.mp e2).2⟩, ?_⟩
 have hi:=(be.mp e1).1
 have:=(Zs.set (o':= .ns (gK x (.ref r) fs)) (i:=i+1) ((cY hi).trans e1) σ s)
 rw[List.set_append_left _ _ hi] at this
 have hj:=(be.mp e3).1
 have:=(this.perm List.perm_middle).Jt (i:=j) ((cY hj).trans e3)
 rw[List.set_append_left _ _ hj,<-e',<-b] at this
 exact this
theorem Lw.perm{σ:MH}(s:Lw h F σ)(e:F.Perm F'):Lw h F' σ:=Zs.perm s (.append_left _ (.append_right _ e))
theorem Lw.sub{σ:MH}(s:Lw h F σ)(e:F'.Sublist F):Lw h F' σ:=Zs.sub s (.append (.refl _) (.append e (.refl _)))
theorem Lw.new : pW (Lw h F) o λr=>Lw h ((r,o)::F):=λσ s=>(by obtain⟨r,hr,s'⟩:=Zs.new σ s;exact⟨r,hr,s'.perm List.perm_middle.symm⟩)
theorem Zs.pN{Z:List Cell}:IU (Zs Z) C λl d=>Zs ((l, .inst C d)::(d, .ns [])::Z):=λσ s=>by
 obtain⟨N,hN⟩:=s.fr
 have hN' : ∀i,N+1<=i->¬(σ.new (.tm N) (.ns [])).us (.tm i):=λi hi u=>u.elim (λe=>by cases e;exact absurd hi (Nat.not_succ_le_self _)) (hN i (ad (Nat.le_add_right_of_le (aG _)) hi))
 exact⟨.tm (N+1), .tm N,⟨hN _ (a9 N 1),hN _ (aG _),λe=>by cases e⟩,(s.put (o:= .ns []) hN).put hN'⟩
theorem Lw.pN : IU (Lw h F) C λl d=>Lw h ((l, .inst C d)::(d, .ns [])::F):=λσ s=>(by refine ey (Zs.pN (C:=C) σ s) λl d hr s'=> ?_;exact⟨l,d,hr,s'.perm (((List.perm_middle.trans (List.perm_middle.cons _)).symm))⟩)
theorem Lw.jJ(e:F[i]?=some (l,o))(e':F'=F.set i (l,o')):Upd (Lw h F) l o' (Lw h F'):=λσ s=>by
 have hi:=(be.mp e).1
 have:=Zs.set (o':=o') (i:=i) ((cY hi).trans e) σ (Zs.perm s (dK.trans (.of_eq (aH ..))))
 rw[List.set_append_left _ _ hi,<-e',<-aH] at this
 exact this.perm dK
theorem Lw.kT{x:String}{v:MV}{j:Nat}(e:F[i]?=some (l, .inst C D))(e1:F[j]?=some (D, .ns fs))(e2:(tab.am C x&&Nat.ble fs.length 100)=true)(e':F'=F.set j (D, .ns (gK x v fs))):wd (Lw h F) l x v (Lw h F'):=λσ s=>
 ⟨C,D,fs,⟨Lw.cH e σ s,Lw.cH e1 σ s,(an.mp e2).1,aj (an.mp e2).2⟩,Lw.jJ e1 e' σ s⟩
end
section
variable {g:En}{h h':Lo g}{F F':List Cell}{n:Int}{x:String}{v:MV}
theorem zG(nd:h.row.Nodup)(m:n∈h.row)(e:h'.row=h.row)(k:∀m,m≠n->h'.buf m=h.buf m):∃Y,h.fF.Perm (h.buf n++Y)/\h'.fF.Perm (h'.buf n++Y):=by
 refine⟨(h.row.erase n).flatMap h.buf,(List.perm_cons_erase m).flatMap_right _, ?_⟩
 unfold Lo.fF
 rw[e]
 refine ((List.perm_cons_erase m).flatMap_right _).trans (.append_left _ (.of_eq ?_))
 exact ah List.flatten (List.map_congr_left λy hy=>k y λq=>(nd.not_mem_erase (q▸hy)))
theorem Lw.setB{i:Nat}{l:LA}{o o':MO}(nd:h.row.Nodup)(m:n∈h.row)(eo:h'.objs=h.objs)(e:h'.row=h.row)(k:∀m,m≠n->h'.buf m=h.buf m)(g:(h.buf n)[i]?=some (l,o))(g':h'.buf n=(h.buf n).set i (l,o')):Upd (Lw h F) l o' (Lw h' F):=λσ s=>by
 refine aT (zG nd m e k) λY p p'=> ?_
 have hi:=(be.mp g).1
 have:=Zs.set (o':=o') (i:=i) ((cY hi).trans g) σ (Zs.perm s (((List.Perm.append_left _ (.append_left _ p)).trans (.of_eq (aH ..).symm)).trans ((dK).trans (.of_eq (aH ..)))))
 rw[List.set_append_left _ _ hi,<-g',<-eo] at this
 exact this.perm (((List.Perm.of_eq (aH ..).symm).trans dK).trans ((List.Perm.of_eq (aH ..)).trans (.append_left _ (.append_left _ p'.symm))))
theorem Lw.Jq(nd:h.row.Nodup)(m:n∈h.row)(eo:h'.objs=h.objs)(e:h'.row=h.row)(k:∀m,m≠n->h'.buf m=h.buf m)(g':h'.buf n=(h.buf n).set 1 ((h.bn n).d, .ns (gK x v (h.D1 n))))(e2:tab.am gq x=true):wd (Lw h F) (h.bn n).l x v (Lw h' F):=λσ s=>
 ⟨gq,(h.bn n).d,h.D1 n,⟨(s.get _ (eS m (.head _))).1,(s.get _ (eS m (.tail _ (.head _)))).1,e2,aj rfl⟩,Lw.setB nd m eo e k (i:=1) rfl g' σ s⟩
theorem Lw.GB{b:List UInt8}(nd:h.row.Nodup)(m:n∈h.row):Upd (Lw h F) (h.bn n).r (.bW b) (Lw (h.cB n b) F):=
 Lw.setB nd m rfl rfl (λm q=>by unfold Lo.buf;refine ae (show (h.cB n b).c m=h.c m from if_neg q)▸ ?_;rfl) (i:=2) rfl (by unfold Lo.buf;refine ae (show (h.cB n b).c n=b from if_pos rfl)▸ ?_;rfl)
theorem Lw.Ef(m:n∈h.row){vs:List MV}(hv:vs=(h.row.erase n).map λn=>(h.bn n).ref):Upd (Lw h F) (h.a 7) (.list vs) (Lw (h.rz (h.row.erase n)) (h.buf n++F)):=λσ s=>by
 have:=Zs.set (i:=7) (o':= .list vs) rfl σ s
 exact this.perm ((List.Perm.of_eq (by rw[hv];rfl)).trans (.append_left (h.rz (h.row.erase n)).objs (((List.Perm.append_left F (show h.fF.Perm (h.buf n++(h.rz (h.row.erase n)).fF) from (List.perm_cons_erase m).flatMap_right _)).trans (.of_eq (aH ..).symm)).trans (.append_right _ dK))))
theorem Lw.D3{vs:List MV}(hv:vs=h.refs++[(h.bn n).ref]):Upd (Lw h (h.buf n++F)) (h.a 7) (.list vs) (Lw (h.rz (h.row++[n])) F):=λσ s=>by
 have:=Zs.set (i:=7) (o':= .list vs) rfl σ s
 have e : (h.objs++(h.buf n++F++h.fF)).set 7 (h.a 7, .list vs)=(h.rz (h.row++[n])).objs++(h.buf n++F++h.fF):=by
  rw[(show vs=(h.row++[n]).map λn=>(h.bn n).ref by refine (hv).trans ?_;rw[aY];rfl)];rfl
 rw[e] at this
 refine this.perm (.append_left _ ?_)
 rw[aH]
 refine dK.trans (.trans (.of_eq (aH ..)) (.append_left _ (.of_eq ?_)))
 show h.row.flatMap h.buf++h.buf n=(h.row++[n]).flatMap h.buf
 rw[List.flatMap_append,List.flatMap_singleton]
end
end Internal
namespace Internal
open PySem PyProof.Rows PySem.W
inductive Fr(p:List (Option MV))(n:Nat):Loc->Prop
 |mk (x:Nat->Option MV):Fr p n (p++(List.range n).map x)
theorem Fr.of{p:List (Option MV)}{n:Nat}{loc:Loc}(e:loc.take p.length=p)(l:(loc.drop p.length).length=n):Fr p n loc:=by
 have : loc=p++(List.range n).map λi=>(loc.drop p.length).getD i none:=by
  refine (List.take_append_drop p.length loc).symm.trans (congr (ah _ e) (List.ext_getElem (by refine (l).trans ?_;rw[aq,d8]) λi h h'=> ?_))
  rw[List.getElem_map,List.getElem_range,aQ,ay h];rfl
 refine ae this▸ ?_;exact .mk _
section
variable {m:Nat}{g:En}{h:Lo g}{F:List Cell}{R:MV->As->Prop}{E:Addr->As->Prop}{n:Int}
theorem i7{S:As}{l:LA}{fs:List (String×MV)}(o:Obj S l jq fs)(e:fs.lookup "is_dead" = some (.bool false)) (q:R .none S):Ct E R S 899 (m+1) [.ref l]:=
 dh lF (cO (.am (.am (.aa rfl) o rfl e) .bool) rfl (bh q))
theorem vT{nb:Int}(b:0<=n/\n < nb):(!true|| !(decide (0<=n)&&decide (n < nb)))=false:=by rw[aZ b.1,aZ b.2];rfl
theorem zp{S:As}{l:LA}{fs:List (String×MV)}{nb:Int}(o:Obj S l jq fs)(e:fs.lookup "blocks" = some (.int nb)) (b:0<=n/\n < nb)(q:R .none S):Ct E R S 906 (m+1) [.ref l, .int n]:=
 df mu (cO (.or (.not (.isI (.aa rfl))) (.not (.ky .ag (.aa rfl) (.am (.aa rfl) o rfl e) .le .lt))) (vT b) (bh q))
theorem Go(b:0<=n/\n < h.nb)(q:R .none (Lw h F)):Ct E R (Lw h F) 782 (m+1) [.ref (h.a 5), .int n]:=by
 refine df kL ?_
 have:=vT b
 refine cO (.or (.not (.isI (.aa rfl))) (.not (.ky .ag (.aa rfl) (.am (.am (.aa rfl) (Lw.obj .c) rfl rfl) (Lw.obj .d) rfl rfl) .le .lt))) this (bh ?_)
 exact q
theorem nW{β:Type}{f:Int->β}{g:β->MV}{ks:List Int}:(dk f g ks).lookup n=if n∈ks then some (g (f n)) else none:=by
 induction ks with
 |nil=>rfl
 |cons k ks ih=>
  show (match n==k with | true=>some (g (f k)) | false=>(dk f g ks).lookup n)=_
  refine ae ih▸ ?_
  by_cases q : n=k
  ·subst q;rw[beq_self_eq_true,if_pos aV]
  ·rw[beq_eq_false_iff_ne.mpr q]
   by_cases p : n∈ks
   ·refine ((if_pos p)).trans ?_;rw[if_pos (aB _ p)]
   ·refine ((if_neg p)).trans ?_;exact ae (if_neg λm=>p ((aK.mp m).resolve_left q))▸rfl
theorem HU(b:0<=n/\n < h.nb)(q:R (((dk h.d .bytes h.lk).lookup n).getD (.bytes zeros)) (Lw h F)):Ct E R (Lw h F) 913 (m+2) [.ref (h.a 0), .int n]:=by
 refine df u4 ?_
 refine bY (bT (.aa rfl) (Lw.obj .d) rfl rfl .nil ?_)
 refine i7 (Lw.obj .d) rfl ?_
 refine bY (bT (.aa rfl) (Lw.obj .d) rfl rfl (.cons (.aa rfl) .nil) ?_)
 refine zp (Lw.obj .d) rfl b ?_
 refine cC (.Mo (.am (.aa rfl) (Lw.obj .d) rfl rfl) (Lw.has .Jr) (.aa rfl) (.call (.cons (.am (.aa rfl) (Lw.obj .d) rfl rfl) .nil) (.vp (by unfold Nm;decide))) rfl) ?_
 exact q
noncomputable def ins(ks:List Int)(n:Int):List Int:=if n∈ks then ks else ks++[n]
theorem wW{β:Type}{f:Int->β}{g:β->MV}{ks:List Int}:(dk f g ks).any (λe=>e.1=n)=decide (n∈ks):=by
 rw[dk,List.any_map];refine eu.mpr ?_;refine (List.any_eq_true).trans ?_;rw[decide_eq_true_iff]
 exact⟨λzz=>(by refine aT zz λx m e=> ?_;exact aF e▸m),λm=>⟨n,m,aZ rfl⟩⟩
theorem qb{β:Type}{f:Int->β}{g:β->MV}{ks:List Int}{v:β}:gX (dk f g ks) n (g v)=dk (upd f n v) g (ins ks n):=by
 delta gX ins
 refine ae wW▸ ?_
 by_cases q : n∈ks
 ·refine ((if_pos (aZ q))).trans ?_;rw[if_pos q];rw[dk];refine (List.map_map).trans ?_
  refine List.map_congr_left λk _=> ?_
  by_cases e : k=n
  ·subst e;exact (if_pos rfl).trans (by rw[upd,if_pos rfl])
  ·exact (if_neg e).trans (by rw[upd,if_neg e])
 ·refine ((if_neg (λe=>q (aF e)))).trans ?_;rw[if_neg q,dk,dk,aY]
  refine congr (ah _ (List.map_congr_left λk m=> ?_)) (by rw[List.map_singleton,upd,if_pos rfl])
  rw[upd,if_neg λe : k=n=>q (e▸m)]
noncomputable abbrev Lo.wrote{g:En}(h:Lo g)(n:Int)(o:List UInt8):Lo g:=(h.Nb.Lm (ins h.lk n) (upd h.d n o)).MY (h.ch++[(n,o)])
theorem Lw.Jc{o:List UInt8}:Upd (Lw h F) (h.a 3) (.bS (gX (dk h.d .bytes h.lk) n (.bytes o))) (Lw (h.Lm (ins h.lk n) (upd h.d n o)) F):=Lw.x5 (i:=3) rfl (by rw[qb];rfl) rfl
theorem Lw.KT{o:List UInt8}:Upd (Lw h F) h.un (.list (h.ch.map mw++[.tup [.int n, .bytes o]])) (Lw (h.MY (h.ch++[(n,o)])) F):=Lw.x5 (i:=4) rfl (by rw[show h.ch.map mw++[.tup [.int n, .bytes o]]=(h.ch++[(n,o)]).map mw from (aY (f:=mw) (l₂:=[(n,o)])).symm];rfl) rfl
structure Vw.Sz(v:Vw):Prop where
 lk : v.lk.length<=1000
 un : v.ch.length<=1000
structure Dd where
 kk : List Int
 e : Int->List UInt8
 lk : List Int
 d : Int->List UInt8
 un : LA
 ch : List (Int×List UInt8)
 wr : Int
 fl : Int
noncomputable def Dd.ns(v:Dd)(nb:Int)(ak al:LA):List (String×MV):=[("blocks", .int nb),("size", .int 64),("kept", .ref ak),("latest", .ref al),("unflushed", .ref v.un),("writes", .int v.wr),("flushes", .int v.fl),("last", .none),("last_flush", .none),("is_dead", .bool false)]
noncomputable abbrev Dd.put(v:Dd)(n:Int)(o:List UInt8):Dd:={ v with wr:=v.wr+1,lk:=ins v.lk n,d:=upd v.d n o,ch:=v.ch++[(n,o)] }
noncomputable abbrev Dd.keep(v:Dd)(k:List Int)(e:Int->List UInt8):Dd:={ v with kk:=k,e:=e }
noncomputable abbrev Dd.vk(v:Dd)(i:Nat):Dd:=v.keep (((v.ch.take i).map (·.1)).foldl ins v.kk) ((v.ch.take i).foldl (λf p=>upd f p.1 p.2) v.e)
noncomputable abbrev Dd.fld(v:Dd)(r:LA):Dd:={ { v with fl:=v.fl+1 }.vk v.ch.length with un:=r,ch:=[] }
structure Ei(nb:Int)(a ak al:LA)(T:Dd->As):Prop where
 ob : ∀v,Obj (T v) a jq (v.ns nb ak al)
 kept : ∀v,dP (T v) ak (.bS (dk v.e .bytes v.kk))
 Jr : ∀v,dP (T v) al (.bS (dk v.d .bytes v.lk))
 un : ∀v,dP (T v) v.un (.list (v.ch.map mw))
 MA : ∀v i,wd (T v) a "writes" (.int i) (T { v with wr:=i })
 Mq : ∀v i,wd (T v) a "flushes" (.int i) (T { v with fl:=i })
 Jd : ∀v n o,Upd (T v) al (.bS (gX (dk v.d .bytes v.lk) n (.bytes o))) (T { v with lk:=ins v.lk n,d:=upd v.d n o })
 D0 : ∀v n o,Upd (T v) ak (.bS (gX (dk v.e .bytes v.kk) n (.bytes o))) (T (v.keep (ins v.kk n) (upd v.e n o)))
 Mm : ∀v n o,Upd (T v) v.un (.list (v.ch.map mw++[.tup [.int n, .bytes o]])) (T { v with ch:=v.ch++[(n,o)] })
 Hb : ∀v,∃S',pW (T v) (.list []) S'/\∀r,wd (S' r) a "unflushed" (.ref r) (T { v with un:=r,ch:=[] })
noncomputable abbrev Lo.dd{g:En}(h:Lo g):Dd:=⟨h.kk,h.e,h.lk,h.d,h.un,h.ch,h.wr,h.fl⟩
theorem Ei.lw : Ei g.nb (g.a 0) (g.a 2) (g.a 3) λv=>Lw ({ h with kk:=v.kk,e:=v.e,lk:=v.lk,d:=v.d,un:=v.un,ch:=v.ch,wr:=v.wr,fl:=v.fl }:Lo g) F where
 ob v:=Lw.obj .d
 kept v:=Lw.has .kept
 Jr v:=Lw.has .Jr
 un v:=Lw.has .un
 MA v i:=Lw.KY rfl rfl rfl
 Mq v i:=Lw.KY rfl rfl rfl
 Jd v n o:=Lw.Jc
 D0 v n o:=Lw.x5 (i:=2) rfl (by exact ae qb▸rfl) rfl
 Mm v n o:=Lw.KT
 Hb v:=⟨_,Lw.new,λr=>Lw.x7 (i:=0) (j:=4) rfl rfl rfl rfl rfl rfl⟩
theorem uj{nb:Int}{a ak al:LA}{T:Dd->As}(D:Ei nb a ak al T){v:Dd}{o:List UInt8}(b:0<=n/\n < nb)(ho:o.length=64)(z:v.lk.length<=1000/\v.ch.length<=1000)(q:R .none (T (v.put n o))):Ct E R (T v) 920 (m+2) [.ref a, .int n, .bytes o]:=by
 refine fH rS (bY (bT (.aa rfl) (D.ob v) rfl rfl .nil (i7 (D.ob v) rfl (bY (bT (.aa rfl) (D.ob v) rfl rfl (.cons (.aa rfl) .nil) (zp (D.ob v) rfl b ?_))))))
 refine cO (.cmp (.call (.cons (.aa rfl) .nil) (.x4 (ho▸aj rfl))) (.am (.aa rfl) (D.ob v) rfl rfl) .ne) (by refine ae ho▸ ?_;rfl) (Ch (.cmp (.am (.aa rfl) (D.ob v) rfl rfl) .ag .vm) rfl ?_)
 refine jB (.aa rfl) (D.ob v) rfl rfl .ag .add (D.MA v _) ?_
 refine ct (bq (.call (.cons (.aa rfl) .nil) .x9) (dW (.am (.aa rfl) (D.ob { v with wr:=v.wr+1 }) rfl rfl) (.aa rfl) (D.Jr { v with wr:=v.wr+1 }) (.dI (show (dk v.d MV.bytes v.lk).length<=100000 by rw[dk,aq];exact ad z.1 (by decide))) (D.Jd _ n o) ?_))
 exact bY (cM (.am (.aa rfl) (D.ob { v with wr:=v.wr+1,lk:=ins v.lk n,d:=upd v.d n o }) rfl rfl) (gO (D.un _) (.list rfl)) (c8 (.cons (.tup (.cons (.aa rfl) (.cons (.call (.cons (.aa rfl) .nil) .x9) .nil)) (aj rfl)) .nil) (md (D.un _) (show (v.ch.map mw).length<=100000 by rw[aq];exact ad z.2 (by decide)) (D.Mm _ n o) (bh q))))
end
section
variable {m:Nat}{g:En}{h:Lo g}{F:List Cell}{R:MV->As->Prop}{E:Addr->As->Prop}{n:Int}
noncomputable abbrev Lo.vk{g:En}(h:Lo g)(i:Nat):Lo g:=h.Lp (((h.ch.take i).map (·.1)).foldl ins h.kk) ((h.ch.take i).foldl (λf p=>upd f p.1 p.2) h.e)
theorem yE{ks:List Int}:(ins ks n).length<=ks.length+1:=by unfold ins;split<;>simp
theorem vf{ns ks:List Int}:(ns.foldl ins ks).length<=ks.length+ns.length:=by
 induction ns generalizing ks with
 |nil=>exact aG _
 |cons a ns ih=>exact ad (ih (ks:=ins ks a)) (ad (bD (yE (n:=a) (ks:=ks)) _) (aw (Nat.add_right_comm ..)))
theorem Md{v:Dd}{i:Nat}{o:List UInt8}(g:v.ch[i]?=some (n,o)):v.vk (i+1)=(v.vk i).keep (ins (v.vk i).kk n) (upd (v.vk i).e n o):=by
 dsimp only[Dd.vk]
 refine ae bV▸ae g▸ae aY▸ae List.foldl_append▸ ?_;exact ah _ List.foldl_append
theorem y6{nb:Int}{a ak al:LA}{T:Dd->As}(D:Ei nb a ak al T){v:Dd}(z:v.ch.length<=1000/\v.kk.length<=1000)(q:∀r,R .none (T (v.fld r))):Ct E R (T v) 934 (m+2) [.ref a]:=by
 refine dh rP (bY (bT (.aa rfl) (D.ob v) rfl rfl .nil (i7 (D.ob v) rfl (Ch (.cmp (.am (.aa rfl) (D.ob v) rfl rfl) .ag .vm) rfl (jB (.aa rfl) (D.ob v) rfl rfl .ag .add (D.Mq v _) ?_)))))
 generalize hv : ({ v with fl:=v.fl+1 }:Dd)=u
 have q : ∀r,R .none (T { u.vk u.ch.length with un:=r,ch:=[] }):=hv▸q
 refine dj (it:=λi=> .lst u.un i) (L:=u.ch.length) (I:=λi loc S=>Fr [some (.ref a)] 2 loc/\S=T (u.vk i)) (jf (.am (.aa rfl) (D.ob u) rfl rfl) (D.un u) ⟨rfl, .of rfl rfl,rfl⟩) rfl ?_ ?_
 ·rintro i loc S hi ⟨⟨x⟩,rfl⟩
  obtain⟨⟨b,o⟩,e⟩ : ∃p,u.ch[i]?=some p:=⟨_,ay hi⟩
  refine .mk (ie (D.un (u.vk i)) (by refine (bc).trans ?_;exact ah _ e)) (iW rfl (c6 (bQ rfl (c6 (bQ rfl (iZ ?_))))))
  have z1 : (dk (u.vk i).e MV.bytes (u.vk i).kk).length<=100000:=by
   refine ae (aq ..)▸ ?_
   have:=vf (ns:=(u.ch.take i).map (·.1)) (ks:=u.kk)
   rw[aq,bK] at this
   exact ad this (have z:u.ch.length<=1000/\u.kk.length<=1000:=hv▸z;ad (bF z.2 (ad (Nat.min_le_right ..) z.1)) (by decide))
  exact ct (bq (.aa rfl) (dW (.am (.aa rfl) (D.ob _) rfl rfl) (.aa rfl) (D.kept _) (.dI z1) (D.D0 _ b o) (bh ⟨.of rfl rfl,by rw[Md (v:=u) e]⟩)))
 ·rintro loc S ⟨⟨x⟩,rfl⟩
  refine aT (D.Hb (u.vk u.ch.length)) λS' nw st=> ?_
  refine⟨?_,ct (dz (ci ⟨bC _,nw,λr=>cX (.aa rfl) (st r) (bh (q r))⟩))⟩
  have:=fB (D.un (u.vk u.ch.length));rwa [aq] at this
theorem HX(e:h.hold=some n){l:LA}:(!decide (l=l)||iH (h.hold==some n)==0)=false:=by rw[aZ rfl,e,beq_self_eq_true];rfl
theorem ve(k:n∈h.ks):(h.pO.lookup n).getD .none= .ref (h.bn n).l:=by rw[Lo.pO,nW,if_pos k];rfl
theorem g9(r:n∈h.row)(k:n∈h.ks)(e:h.hold=some n)(q:R .none (Lw h F)):Ct E R (Lw h F) 789 (m+1) [.ref (h.a 5), .ref (h.bn n).l]:=by
 refine df lG ?_
 have ob:=Lw.gg (F:=F) r
 refine cO (.or (.cmp (.get (.am (.aa rfl) (Lw.obj .c) rfl rfl) (Lw.has .pO) (.am (.aa rfl) ob rfl rfl) (ve k)) (.aa rfl) (.My ob (Lw.Nc r))) (.cmp (.am (.aa rfl) ob rfl rfl) .ag .lD)) (HX e) (bh ?_)
 exact q
theorem FY{p:Bool}(h:p=false):iH p+1=iH true:=by refine ae h▸ ?_;rfl
theorem J4(nd:h.row.Nodup)(r:n∈h.row)(k:n∈h.ks)(e:h.hold=some n)(p:n∉h.pins)(q:R .none (Lw (h.rA (h.pins++[n])) F)):Ct E R (Lw h F) 817 (m+2) [.ref (h.a 5), .ref (h.bn n).l]:=by
 refine df t7 ?_
 refine bY (bT (.aa rfl) (Lw.obj .c) rfl rfl (.cons (.aa rfl) .nil) ?_)
 refine g9 r k e ?_
 have:=Lw.gg (F:=F) r
 refine' jB (x := "pins") ?_ this rfl rfl ?_ .add (Lw.Jq (h':=h.rA (h.pins++[n])) nd r rfl rfl ?_ ?_ rfl) (bh q)
 ·exact .aa rfl
 ·exact .ag
 ·intro y hy
  dsimp only[Lo.buf,Lo.D1]
  exact ae (show (h.pins++[n]).contains y=h.pins.contains y by simp[hy])▸rfl
 ·dsimp only[Lo.buf,Lo.D1]
  rw[show (h.pins++[n]).contains n=true by simp]
  rw[<-FY (p:=h.pins.contains n) (by simp[p])];rfl
theorem Im(r:n∈h.row)(q:R (.bool (iH (h.hold==some n)==0&&iH (h.pins.contains n)==0)) (Lw h F)):Ct E R (Lw h F) 684 (m+1) [.ref (h.bn n).l]:=by
 refine dh nq ?_
 have:=Lw.gg (F:=F) r
 refine cC (.Mz (.cmp (.am (.aa rfl) this rfl rfl) .ag .lD) (.cmp (.am (.aa rfl) this rfl rfl) .ag .lD)) ?_
 exact q
theorem v8(r:n∈h.row)(ln:(h.c n).length=64)(q:R (.bytes (h.c n)) (Lw h F)):Ct E R (Lw h F) 691 (m+1) [.ref (h.bn n).l]:=by
 refine dh oa ?_
 refine cC (.call (.cons (.am (.aa rfl) (Lw.gg r) rfl rfl) .nil) (.oQ (Lw.hasB r) (by unfold Nm;exact ad (aw ln) (by decide)))) ?_
 exact q
theorem xv(b c:List UInt8):gf b none none c=c:=by simp[gf]
theorem Lw.D6{b c:List UInt8}(nd:h.row.Nodup)(r:n∈h.row):Upd (Lw h F) (h.bn n).r (.bW (gf b none none c)) (Lw (h.cB n c) F):=(xv b c).symm▸Lw.GB nd r
theorem HE{o:List UInt8}(nd:h.row.Nodup)(r:n∈h.row)(ln:(h.c n).length=64)(lo:o.length=64)(q:R .none (Lw (h.cB n o) F)):Ct E R (Lw h F) 719 (m+1) [.ref (h.bn n).l, .bytes o]:=by
 refine df qO ?_
 have : ((o.length : Int) != (h.c n).length)=false:=by rw[lo,ln];rfl
 refine cO (.cmp (.call (.cons (.aa rfl) .nil) (.x4 (by unfold Nm;exact ad (aw lo) (by decide)))) (.call (.cons (.am (.aa rfl) (Lw.gg (F:=F) r) rfl rfl) .nil) (.len (Lw.hasB (F:=F) r) .ba (by unfold Nm;exact ad (aw ln) (by decide)))) .ne) this ?_
 refine ct (bq (.aa rfl) (m7 (.am (.aa rfl) (Lw.gg (F:=F) r) rfl rfl) .nil .nil .no .no (Lw.hasB (F:=F) r) (by unfold Nm;exact⟨ad (aw ln) (by decide),ad (aw lo) (by decide)⟩) (Lw.D6 (b:=h.c n) (c:=o) nd r) ?_))
 exact bh q
theorem EI(nd:h.row.Nodup)(r:n∈h.row)(ln:(h.c n).length=64)(q:R .none (Lw (h.cB n zeros) F)):Ct E R (Lw h F) 726 (m+1) [.ref (h.bn n).l]:=by
 refine dh pK ?_
 have : (List.replicate ((h.c n).length : Int).toNat (0:UInt8)).length=64:=by rw[List.length_replicate,ln];rfl
 refine ct (bq (.call (.cons (.call (.cons (.am (.aa rfl) (Lw.gg (F:=F) r) rfl rfl) .nil) (.len (Lw.hasB (F:=F) r) .ba (by unfold Nm;exact ad (aw ln) (by decide)))) .nil) (.vp (by unfold Nm;exact⟨bA _,bp (aW.mpr (aw ln)) (by decide)⟩))) (m7 (.am (.aa rfl) (Lw.gg (F:=F) r) rfl rfl) .nil .nil .no .no (Lw.hasB (F:=F) r) (by unfold Nm;exact⟨ad (aw ln) (by decide),ad (aw this) (by decide)⟩) (Lw.D6 (b:=h.c n) (c:=List.replicate ((h.c n).length : Int).toNat 0) nd r) ?_))
 rw[ln];exact bh q
end
section
variable {m:Nat}{g:En}{h:Lo g}{F:List Cell}{R:MV->As->Prop}{E:Addr->As->Prop}{n:Int}
theorem rm : ∀ {l:List Int}{i:Nat},l.Nodup->l[i]?=some n->l.eraseIdx i=l.erase n
 |a::l,0,_,e=>by cases e;exact (List.erase_cons_head ..).symm
 |a::l,i+1,nd,e=>by
  have q:=List.nodup_cons.mp nd
  refine (List.eraseIdx_cons_succ).trans ?_;rw[List.erase_cons_tail (by rw[eI];exact λz=>q.1 (z▸au e))];exact ah _ (rm q.2 e)
theorem jj{α β:Type}{f:α->β}:∀ {l:List α}{i:Nat},(l.map f).eraseIdx i=(l.eraseIdx i).map f
 | [],_=>rfl
 |a::l,0=>rfl
 |a::l,i+1=>ah (f a::·) (jj (l:=l) (i:=i))
theorem Gq{β:Type}{f:Int->β}{g:β->MV}{ks:List Int}(nd:ks.Nodup):DA (dk f g ks) n=dk f g (ks.erase n):=by
 refine (List.filter_map).trans ?_;refine ae (nd.erase_eq_filter n)▸ ?_;exact ah (List.map _) (List.filter_congr λk _=>by refine eu.mpr ?_;simp)
theorem Lo.Ok.x8(O:h.Ok)(r:n∈h.row):n∈h.ks:=O.ks.mem_iff.mpr r
theorem Lo.Ok.Ld(O:h.Ok):h.pO.length<=100000:=by rw[Lo.pO,dk,aq,O.ks.length_eq];exact ad O.most (by decide)
theorem Lo.Ok.A6(O:h.Ok):h.refs.length<=100000:=by rw[Lo.refs,aq];exact ad O.most (by decide)
theorem F5(O:h.Ok)(p:n∈h.pins)(q:R .none (Lw (h.rA (h.pins.erase n)) F)):Ct E R (Lw h F) 824 (m+1) [.ref (h.a 5), .int n]:=by
 refine df qK ?_
 have r:=O.pin _ p
 have e1 : iH (h.pins.contains n)=1:=by refine (ah _ (bX.mpr p)).trans ?_;rfl
 have : (M5 (.ref (h.bn n).l)||iH (h.pins.contains n)==0)=false:=by rw[e1];rfl
 refine gA (.get (.am (.aa rfl) (Lw.obj .c) rfl rfl) (Lw.has .pO) (.aa rfl) (ve (O.x8 r))) rfl (cO (.or (.cmp (.aa rfl) .ag .is) (.cmp (.am (.aa rfl) (Lw.gg r) rfl rfl) .ag .lD)) this ?_)
 refine' jB (x := "pins") ?_ (Lw.gg (F:=F) r) rfl rfl ?_ .sub (Lw.Jq (h':=h.rA (h.pins.erase n)) O.nd r rfl rfl ?_ ?_ rfl) ?_
 ·exact .aa rfl
 ·exact .ag
 ·intro y hy
  dsimp only[Lo.buf,Lo.D1]
  exact ae (show (h.pins.erase n).contains y=h.pins.contains y by rw[eu,bX,bX,List.mem_erase_of_ne hy])▸rfl
 ·dsimp only[Lo.buf,Lo.D1]
  refine ae (show (h.pins.erase n).contains n=false from Bool.eq_false_iff.mpr λq=>O.Ec.not_mem_erase (bX.mp q))▸ae e1▸ ?_;rfl
 ·exact bh q
noncomputable abbrev Lo.less{g:En}(h:Lo g)(n:Int):Lo g:=(h.Hh (h.ks.erase n)).rz (h.row.erase n)
theorem Lw.He{ks:List Int}:Upd (Lw h F) (h.a 8) (.bS (dk h.bn yB.ref ks)) (Lw (h.Hh ks) F):=Lw.x5 (i:=8) rfl rfl rfl
theorem JS{p:Bool}:(iH p==0)= !p:=by cases p<;>rfl
theorem yU : (iH (h.hold==some n)==0&&iH (h.pins.contains n)==0)=true↔h.hold≠some n/\n∉h.pins:=by rw[JS,JS];simp
theorem wq(O:h.Ok)(hh:h.hold=none)(q0:h.row.length < 14->R .none (Lw h F))(q:∀n∈h.row,n∉h.pins->R .none (Lw (h.less n) F)):Ct E R (Lw h F) 803 (m+2) [.ref (h.a 5)]:=by
 refine dh lJ ?_
 have e0 : h.refs.length=h.row.length:=aq ..
 refine' wS ?t1 ?t2 ?t3
 case t1=>exact .cmp (.call (.cons (.am (.aa rfl) (Lw.obj .c) rfl rfl) .nil) (.len (Lw.has .row) .list (by exact Lo.Ok.A6 O))) (.am (.aa rfl) (Lw.obj .c) rfl rfl) .lt
 case t2=>intro e;rw[decide_eq_true_iff,e0] at e;exact xJ (q0 (by exact aX.mp e))
 intro e
 rw[decide_eq_false_iff_not] at e
 refine bh ?_
 refine dj (it:=λi=> .nT (h.a 7) i) (L:=h.refs.length) (I:=λi loc S=>(∀y∈h.row.take i,y∈h.pins)/\∃x y,loc=[some (.ref (h.a 5)),x,y]/\S=Lw h F) ?_ rfl ?_ ?_
 ·refine' nK ?_ (Lw.has .row) O.A6 ⟨rfl,(λ_ m=>by cases m),_,_,rfl,rfl⟩
  exact .am (.aa rfl) (Lw.obj .c) rfl rfl
 ·rintro i loc S hi ⟨hp,x,y,rfl,rfl⟩
  replace hi:=e0▸hi
  have g : h.row[i]?=some h.row[i]:=ay hi
  revert g
  generalize h.row[i]=n
  intro g
  have r:=au g
  refine .mk (qZ (Lw.has .row) (by rw[Lo.refs,bc];exact ah _ g)) (iW rfl (c6 (bQ rfl (c6 (bQ rfl (iZ ?_))))))
  refine s0 (Gi (bT (by exact .aa rfl) (Lw.gg (F:=F) r) rfl rfl (by exact .nil) (Im r (.mk .bool ⟨λe=> ?_,λe=> ?_⟩))))
  ·have fr:=(yU.mp e).2
   refine' Hy (ps:=h.pO) ?_ ?_ (Lw.has .pO) ⟨O.Ld,(show (dk h.bn yB.ref h.ks).any (λe=>e.1=n)=true by rw[wW];exact aZ (O.x8 r))⟩ (by rw[Lo.pO,Gq (O.ks.nodup_iff.mpr O.nd)];exact Lw.He) ?_
   ·exact .am (.aa rfl) (Lw.obj .c) rfl rfl
   ·exact .am (.aa rfl) (Lw.gg (F:=F) r) rfl rfl
   refine' Io (vs:=h.refs) ?_ ?_ (Lw.has (h:=h.Hh (h.ks.erase n)) .row) ⟨bA i,by rw[e0];exact aX.mpr hi,O.A6⟩ (Lw.Ef (n:=n) (h:=h.Hh (h.ks.erase n)) r (by rw[Lo.refs,jj,Int.toNat_natCast];exact ah _ (rm O.nd g))) ?_
   ·exact .am (.aa rfl) (Lw.obj .c) rfl rfl
   ·exact .aa rfl
   exact fN (S1:=Lw (h.less n) F) (λσ s=>Lw.sub s (List.sublist_append_right ..)) (xJ (q n r fr))
  ·refine bh (bh ⟨λy hy=> ?_,_,_,rfl,rfl⟩)
   rw[bV,g] at hy
   refine Or.elim (bI.mp hy) (λhy=> ?_) λhy=> ?_
   ·exact hp y hy
   ·cases av.mp hy
    exact Decidable.byContradiction λz=>aE (e.symm.trans (yU.mpr ⟨by rw[hh];exact nofun,z⟩))
 ·rintro loc S ⟨hp,_⟩
  rw[e0,List.take_length] at hp
  exact absurd (cU (aW.mpr (ad (aw e0) (ad (List.Nodup.length_le_of_subset O.nd hp) O.pl))) (by decide)) e
end
section
variable {m:Nat}{g:En}{h:Lo g}{F:List Cell}{R:MV->As->Prop}{E:Addr->As->Prop}{n:Int}
theorem IT{l d:LA}{o:List UInt8}(lo:o.length=64)
  (q:∀r,R .none (Lw h ((r, .bW o)::(l, .inst gq d)::(d, .ns [("number", .int n),("data", .ref r),("holders", .int 0),("pins", .int 0)])::F))) :
  Ct E R (Lw h ((l, .inst gq d)::(d, .ns [])::F)) 677 (m+1) [.ref l, .int n, .bytes o]:=by
 refine fH q9 ?_
 refine DN (.aa rfl) (.aa rfl) (Lw.kT (i:=0) (j:=1) rfl rfl rfl rfl) ?_
 refine ct (cV (c8 (vs:=[.bytes o]) (by exact .cons (.aa rfl) .nil) (I7 (by exact id (by unfold Nm;exact ad (aw lo) (by decide))) Lw.new λr=> ?_)))
 refine' cX ?t1 (Lw.kT (i:=1) (j:=2) rfl rfl rfl rfl) ?_
 case t1=>exact .aa rfl
 refine DN .ag (.aa rfl) (Lw.kT (i:=1) (j:=2) rfl rfl rfl rfl) ?_
 refine DN .ag (.aa rfl) (Lw.kT (i:=1) (j:=2) rfl rfl rfl rfl) ?_
 exact bh (q r)
theorem EK{α β:Type}{f:Int->α}{g:α->β}{x:α}{ns:List Int}(h:n∉ns):(ns.map λk=>g (upd f n x k))=ns.map λk=>g (f k):=
 List.map_congr_left λk m=>by exact ah _ (if_neg λe:k=n=>h (e▸m))
theorem Lw.adopt{l d r:LA}(r0:n∉h.row)(k0:n∉h.ks)(hh:h.hold=none)(p:n∉h.pins){σ:MH}
  (s:Lw h ((r, .bW (h.c n))::(l, .inst gq d)::(d, .ns [("number", .int n),("data", .ref r),("holders", .int 0),("pins", .int 0)])::F) σ):Lw (h.tv n ⟨l,d,r⟩) ((h.tv n ⟨l,d,r⟩).buf n++F) σ:=by
 have e4 : (h.tv n ⟨l,d,r⟩).fF=h.fF:=ah List.flatten (List.map_congr_left λk m=>by
  delta Lo.buf Lo.D1;exact ae (show (h.tv n ⟨l,d,r⟩).bn k=h.bn k from if_neg λe : k=n=>r0 (e▸m))▸rfl)
 have e5 : (h.tv n ⟨l,d,r⟩).buf n=[(l, .inst gq d),(d, .ns [("number", .int n),("data", .ref r),("holders", .int 0),("pins", .int 0)]),(r, .bW (h.c n))]:=by
  delta Lo.buf Lo.D1
  refine ae (show (h.tv n ⟨l,d,r⟩).bn n=⟨l,d,r⟩ from if_pos rfl)▸ae (show (h.tv n ⟨l,d,r⟩).hold=none from hh)▸ae (show (h.tv n ⟨l,d,r⟩).pins.contains n=false from Bool.eq_false_iff.mpr λq=>p (bX.mp q))▸ ?_;rfl
 unfold Lw
 rw[(show (h.tv n ⟨l,d,r⟩).objs=h.objs by dsimp only[Lo.objs];refine ae (show (h.tv n ⟨l,d,r⟩).refs=h.refs from EK (g:=yB.ref) r0)▸ae (show (h.tv n ⟨l,d,r⟩).pO=h.pO from List.map_congr_left λk m=>ah (λx:yB=>(k,x.ref)) (if_neg λe:k=n=>k0 (e▸m)))▸ ?_;rfl),e4,e5]
 exact Zs.perm s (.append_left _ ((List.Perm.swap ..).trans ((List.Perm.swap ..).cons _)))
theorem Lw.KS{x:yB}(k0:n∉h.ks)(e:h.bn n=x):Upd (Lw h F) (h.a 8) (.bS (gX h.pO n x.ref)) (Lw (h.Hh (h.ks++[n])) F):=by
 have : gX h.pO n x.ref=dk h.bn yB.ref (h.ks++[n]):=by
  delta gX Lo.pO
  refine ae wW▸ ?_;refine ((if_neg λq=>k0 (aF q))).trans ?_;rw[dk,dk,aY,<-e];rfl
 refine ae this▸ ?_;exact Lw.He
noncomputable abbrev Lo.Lv{g:En}(h:Lo g)(n:Int)(x:yB):Lo g:=(((h.tv n x).Jx).Hh (h.ks++[n])).rz (h.row++[n])
theorem Lo.Ok.less(O:h.Ok)(hh:h.hold=none)(p:n∉h.pins):(h.less n).Ok where
 nd:=O.nd.erase n
 ks:=O.ks.erase n
 jK y m:=O.jK y (List.mem_of_mem_erase m)
 most:=ad (List.length_erase_le ..) O.most
 pin y m:=(List.mem_erase_of_ne λe : y=n=>p (e▸m)).mpr (O.pin y m)
 Ec:=O.Ec
 pl:=O.pl
 sI y e:=nomatch hh.symm.trans e
 cl:=O.cl
 Ek:=O.Ek
 len:=O.len
theorem Lo.Ok.Lv{x:yB}(O:h.Ok)(hh:h.hold=none)(r:n∉h.row)(b:0<=n/\n < h.nb)(ln:h.row.length < 14):(h.Lv n x).Ok where
 nd:=List.nodup_append.mpr ⟨O.nd,List.nodup_cons.mpr ⟨List.not_mem_nil,List.nodup_nil⟩,λa m b m' e=>r (by cases av.mp m';exact e▸m)⟩
 ks:=O.ks.append_right _
 jK y m:=(bI.mp m).elim (O.jK y) λm=>by cases av.mp m;exact b
 most:=by refine ae aA▸ ?_;exact ln
 pin y m:=bJ _ (O.pin y m)
 Ec:=O.Ec
 pl:=O.pl
 sI y e:=nomatch hh.symm.trans e
 cl:=O.cl
 Ek:=O.Ek
 len:=O.len
theorem Lo.Ok.hold{o:Option Int}(O:h.Ok)(a:∀n,o=some n->n∈h.row)(c:∀n,n∉h.pins->o≠some n->h.c n=h.d n):(h.pt o).Ok:={ O with sI:=a,cl:=c }
theorem Lo.Ok.hit(O:h.Ok):h.Lb.Ok:={ O with }
theorem Lo.Ok.read(O:h.Ok):((dk h.d MV.bytes h.lk).lookup n).getD (.bytes zeros)= .bytes (h.d n):=by
 rw[nW];split
 ·rfl
 ·rename_i q;refine ae (O.Ek n q)▸ ?_;rfl
theorem Lw.KZ(O:h.Ok)(r:n∈h.row){o:Option Int}{v:MV}(e:h.hold=none/\o=some n∨h.hold=some n/\o=none)(hv:v= .int (iH (o==some n))):wd (Lw h F) (h.bn n).l "holders" v (Lw (h.pt o) F):=by
 refine Lw.Jq O.nd r rfl rfl (λy hy=> ?_) ?_ rfl
 ·dsimp only[Lo.buf,Lo.D1]
  have : (o==some y)=(h.hold==some y):=by rcases e with ⟨a,b⟩ | ⟨a,b⟩<;>refine ae a▸ae b▸ ?_<;>simp[Ne.symm hy]
  exact ae this▸rfl
 ·refine ae hv▸ ?_;rfl
theorem Bp(O:h.Ok)(hh:h.hold=none)(r:n∈h.row){loc:Loc}(e:loc[2]?=some (some (.ref (h.bn n).l)))(q:R (.ref (h.bn n).l) (Lw (h.pt (some n)) F)) :
  Wp E (Lw h F) loc (λf _ S=>R (fZ f) S) (dn m (.cons (.aug (.aa 2) "holders" .Add (.ag (.int 1))) (.cons (.ret (.aa 2)) .nil))).s:=by
 refine jB (x := "holders") (.aa e) (Lw.gg r) rfl rfl .ag .add (Lw.KZ O r (.inl ⟨hh,rfl⟩) ?_) (cC (.aa e) q)
 refine ae hh▸ ?_;rw[beq_self_eq_true];rfl
theorem BJ(O:h.Ok)(hh:h.hold=none)(b:0<=n/\n < h.nb)(q:∀h' : Lo g,h'.Ok->h'.hold=some n->h'.vw=h.vw->R (.ref (h'.bn n).l) (Lw h' F)):Ct E R (Lw h F) 796 (m+3) [.ref (h.a 5), .int n]:=by
 refine df t5 ?_
 refine bY (bT (.aa rfl) (Lw.obj .c) rfl rfl (.cons (.aa rfl) .nil) ?_)
 refine Go b ?_
 by_cases r : n∈h.row
 ·have:=ve (O.x8 r)
  refine gA (.get (.am (.aa rfl) (Lw.obj .c) rfl rfl) (Lw.has .pO) (.aa rfl) this) rfl ?_
  refine' wS ?t1 ?t2 ?t3
  case t1=>exact .cmp (.aa rfl) .ag .is
  case t2=>exact nofun
  intro _
  refine jB (.aa rfl) (Lw.obj .c) rfl rfl .ag (by constructor) (Lw.Jp (h':=h.Lb) rfl rfl rfl) ?_
  refine bh (Bp O.hit hh r rfl (q _ (O.hit.hold (λ_ e=> ?_) λy p _=>O.cl y p ?_) rfl rfl))
  ·cases e;exact r
  ·rw[hh];exact nofun
 ·have k0 : n∉h.ks:=λk=>r (O.ks.mem_iff.mp k)
  have : (h.pO.lookup n).getD .none= .none:=by rw[Lo.pO,nW,if_neg k0];rfl
  have fin : ∀h1 : Lo g,h1.Ok->h1.hold=none->n∉h1.row->h1.row.length < 14->h1.vw=h.vw->∀ {loc},loc=[some (.ref (h.a 5)),some (.int n),some .none]->Wp E (Lw h1 F) loc (xM (m+2) (.cons (.aug (.aa 2) "holders" .Add (.ag (.int 1))) (.cons (.ret (.aa 2)) .nil)) (λf _ S=>R (fZ f) S) E) (dn (m+2) (.cons (.asg (.aa 2) (.call "Buffer" (.ref 757) (.cons (.aa 1) (.cons (.aO (.am (.aa 0) "disk") "read" (.cons (.aa 1) .nil)) .nil)))) (.cons (.aug (.aa 0) "reads" .Add (.ag (.int 1))) (.cons (.asg (.item (.am (.aa 0) "by_number") (.aa 1)) (.aa 2)) (.cons (.expr (.aO (.am (.aa 0) "row") "append" (.cons (.aa 2) .nil))) .nil))))).s:=by
   intro h1 O1 hh1 r1 ln v loc el
   subst el
   refine de rfl (cV (bj (bq (.aa rfl) (bj ?_))))
   refine bT (.am (.aa rfl) (Lw.obj .c) rfl rfl) (Lw.obj .d) rfl rfl (.cons (.aa rfl) .nil) ?_
   refine HU b ?_
   refine ae O1.read▸ ?_
   refine ci (ed (io rfl rfl Lw.pN λl d=>IT (O1.len n).1 λr=>⟨rfl, ?_⟩))
   rw[<-O1.cl n (λp=>r1 (O1.pin _ p)) (by refine ae hh1▸ ?_;exact nofun)]
   refine fN (S1:=Lw (h1.tv n ⟨l,d,r⟩) ((h1.tv n ⟨l,d,r⟩).buf n++F)) (λ_ s=>Lw.adopt r1 (λk=>r1 (O1.ks.mem_iff.mp k)) hh1 (λp=>r1 (O1.pin _ p)) s) ?_
   refine jB (.aa rfl) (Lw.obj .c) rfl rfl .ag (by constructor) (Lw.Jp (h':=(h1.tv n ⟨l,d,r⟩).Jx) rfl rfl rfl) ?_
   have eb : (h1.tv n ⟨l,d,r⟩).bn n=⟨l,d,r⟩:=if_pos rfl
   have z1 : (h1.tv n ⟨l,d,r⟩).Jx.pO.length<=100000:=by have:=O1.Ld;dsimp only[Lo.pO,dk] at this ⊢;rwa [aq] at this ⊢
   refine' ct (bq (.aa rfl) (dW ?y1 (.aa rfl) (Lw.has .pO) (.dI z1) (Lw.KS (h:=(h1.tv n ⟨l,d,r⟩).Jx) (λk=>r1 (O1.ks.mem_iff.mp k)) eb) ?_))
   case y1=>exact .am (.aa rfl) (Lw.obj .c) rfl rfl
   refine bY ?_
   refine' cM ?y2 (gO (Lw.has (h:=(h1.tv n ⟨l,d,r⟩).Jx.Hh (h1.ks++[n])) .row) (.list rfl)) (c8 ?y3 (md (Lw.has .row) (by have:=O1.A6;dsimp only[Lo.refs] at this ⊢;rwa [aq] at this ⊢) (Lw.D3 (h:=(h1.tv n ⟨l,d,r⟩).Jx.Hh (h1.ks++[n])) (by rw[eb])) ?_))
   case y2=>exact .am (.aa rfl) (Lw.obj .c) rfl rfl
   case y3=>exact .cons (.aa rfl) .nil
   have mn : n∈h1.row++[n]:=bx _ (av.mpr rfl)
   refine bh (Bp (O1.Lv (x:=⟨l,d,r⟩) hh1 r1 b ln) hh1 mn (ah (λx:yB=>some (some (MV.ref x.l))) eb.symm) (q _ ((O1.Lv (x:=⟨l,d,r⟩) hh1 r1 b ln).hold (λy e=> ?_) λy p _=>O1.cl y p ?_) rfl v))
   ·cases e;exact mn
   ·rw[hh1];exact nofun
  refine gA (.get (.am (.aa rfl) (Lw.obj .c) rfl rfl) (Lw.has .pO) (.aa rfl) this) rfl (jo (.cmp (.aa rfl) .ag .is) rfl (bY (bT (.aa rfl) (Lw.obj .c) rfl rfl .nil ?_)))
  refine wq O hh (λln=>fin h O hh r ln rfl rfl) λy ry py=>fin (h.less y) (O.less hh py) hh (λq=>r (List.mem_of_mem_erase q)) ?_ rfl rfl
  refine ae (List.length_erase_of_mem ry)▸ ?_
  exact aC (Nat.pred_lt (Nat.ne_of_gt (List.length_pos_of_mem ry))) O.most
end
section
variable {m:Nat}{g:En}{h:Lo g}{F:List Cell}{R:MV->As->Prop}{E:Addr->As->Prop}{n:Int}{loc:Loc}
theorem Lw.inj{σ:MH}(s:Lw h F σ){k:Int}(r:n∈h.row)(rk:k∈h.row)(e:(h.bn k).l=(h.bn n).l):k=n:=by
 have e3:=(aS (((s.get _ (eS rk (aB _ (aV ..)))).1).symm.trans ((ah σ.get (by injection ((aS (((s.get _ (eS rk (aV ..))).1).symm.trans ((ah σ.get e).trans ((s.get _ (eS r (aV ..))).1))))))).trans ((s.get _ (eS r (aB _ (aV ..)))).1))))
 injection e3 with e3
 injection e3 with e3
 injection e3 with _ e3
 injection e3
theorem Lw.remove(O:h.Ok)(r:n∈h.row)(q:R .none (Lw (h.rz (h.row.erase n)) (h.buf n++F))):We E (Lw h F) loc R (eK m (.builtin "list.remove") [.ref (h.a 7), .ref (h.bn n).l]):=by
 intro σ s Q X k x
 obtain⟨i,hi,e⟩:=List.getElem_of_mem r
 have hl : h.refs.length=h.row.length:=aq ..
 refine DQ.mk (C:=gq) (db:=(h.bn n).d) (j:=i) ((Lw.has .row) σ s) O.A6 rfl (λv mv=> ?_) (s.get _ (eS r (aV ..))).1 ?_ (k _ _ _ (Lw.Ef r (by rw[Lo.refs];refine (jj).trans ?_;exact ah _ (rm O.nd (by refine ((ay hi)).trans ?_;exact ah _ e))) σ s) q)
 ·refine aT (cq.mp mv) λy my zr2_=> ?_;subst zr2_
  exact⟨_,_,rfl,(s.get _ (eS my (aV ..))).1⟩
 ·refine List.findIdx?_eq_some_iff_getElem.mpr ?_
  have nth : ∀j (hj:j < h.row.length),pV (h.bn n).l (h.refs[j]'(hl.symm▸hj))=true->h.row[j]=n:=λj hj t=>by
   rw[show h.refs[j]'(hl.symm▸hj)=(h.bn h.row[j]).ref from List.getElem_map ..] at t
   exact Lw.inj s r (List.getElem_mem hj) (aF t)
  refine⟨hl.symm▸hi, ?_,λj hj t=> ?_⟩
  ·refine (ah _ (show h.refs[i]'(hl.symm▸hi)=(h.bn h.row[i]).ref from List.getElem_map ..)).trans ?_;refine ae e▸ ?_;exact aZ rfl
  ·exact bw hj ((List.getElem_inj O.nd).mp ((nth j (cG hj hi) t).trans e.symm))
theorem Lo.Ok.turn(O:h.Ok)(r:n∈h.row):(h.rz (h.row.erase n++[n])).Ok:=by
 have p : (h.row.erase n++[n]).Perm h.row:=dK.trans (List.perm_cons_erase r).symm
 exact { O with nd:=p.symm.nodup_iff.mp O.nd,ks:=O.ks.trans p.symm,jK:=λy m=>O.jK y (p.mem_iff.mp m),most:=p.length_eq▸O.most,pin:=λy m=>p.mem_iff.mpr (O.pin y m),sI:=λy e=>p.mem_iff.mpr (O.sI y e) }
theorem oA(O:h.Ok)(hh:h.hold=some n)(hc:n∉h.pins->h.c n=h.d n)(q:∀h' : Lo g,h'.Ok->h'.hold=none->h'.vw=h.vw->R .none (Lw h' F)):Ct E R (Lw h F) 810 (m+2) [.ref (h.a 5), .ref (h.bn n).l]:=by
 have r:=O.sI n hh
 refine df oG ?_
 refine bY (bT (.aa rfl) (Lw.obj .c) rfl rfl (.cons (.aa rfl) .nil) ?_)
 refine g9 r (O.x8 r) hh ?_
 refine jB (x := "holders") (.aa rfl) (Lw.gg r) rfl rfl .ag .sub (Lw.KZ O r (.inr ⟨hh,rfl⟩) (by rw[hh,beq_self_eq_true];rfl)) ?_
 have O1 : (h.pt none).Ok:=O.hold nofun λy p _=>(Decidable.em (y=n)).elim (λe=>e▸hc (e▸p)) λe=>O.cl y p (by refine ae hh▸ ?_;exact λq=>e (aS q).symm)
 have ob:=Lw.gg (h:=h.pt none) (F:=F) r
 refine jo (.cmp (.am (.aa rfl) ob rfl rfl) .ag .lD) rfl (bY ?_)
 refine' cM ?y1 (gO (Lw.has (h:=h.pt none) .row) (.list rfl)) (c8 ?y2 (Lw.remove O1 r ?_))
 case y1=>exact .am (.aa rfl) (Lw.obj .c) rfl rfl
 case y2=>exact .cons (.aa rfl) .nil
 refine bY ?_
 refine' cM ?y3 (gO (Lw.has (h:=(h.pt none).rz (h.row.erase n)) .row) (.list rfl)) (c8 ?y4 (md (Lw.has .row) (ad (aw (aq ..)) (ad (List.length_erase_le (a:=n) (l:=h.row)) (ad (aw (aq ..).symm) O.A6))) (Lw.D3 (h:=(h.pt none).rz (h.row.erase n)) (n:=n) rfl) ?_))
 case y3=>exact .am (.aa rfl) (Lw.obj .c) rfl rfl
 case y4=>exact .cons (.aa rfl) .nil
 exact bh (bh (q _ (O1.turn r) rfl rfl))
theorem Fz(O:h.Ok)(hh:h.hold=some n)(z:h.vw.Sz)(q:R .none (Lw (h.wrote n (h.c n)).Ms F)):Ct E R (Lw h F) 831 (m+3) [.ref (h.a 5), .ref (h.bn n).l]:=by
 have r:=O.sI n hh
 refine df qy ?_
 refine bY (bT (.aa rfl) (Lw.obj .c) rfl rfl (.cons (.aa rfl) .nil) ?_)
 refine g9 r (O.x8 r) hh ?_
 refine bY ?_
 refine' cM ?y1 (mP (Lw.obj .d) rfl rfl) (bj (bq ?y2 (bj ?_)))
 case y1=>exact .am (.aa rfl) (Lw.obj .c) rfl rfl
 case y2=>exact .am (.aa rfl) (Lw.gg (F:=F) r) rfl rfl
 refine bT (.aa rfl) (Lw.gg (F:=F) r) rfl rfl .nil ?_
 refine v8 r (O.len n).2 (ci (ed (uj (Ei.lw (h:=h)) (v:=h.dd) (O.jK n r) (O.len n).2 ⟨z.lk,z.un⟩ ?_)))
 refine jB (.aa rfl) (Lw.obj .c) rfl rfl .ag (by constructor) (Lw.Jp (h':=(h.wrote n (h.c n)).Ms) rfl rfl rfl) ?_
 exact bh q
theorem Gj(z:h.ch.length<=1000/\h.kk.length<=1000)(q:∀r,R .none (Lw ((h.Lj.vk h.ch.length).Hb r) F)):Ct E R (Lw h F) 838 (m+3) [.ref (h.a 5)]:=by
 refine dh rj ?_
 refine bY (bT (.am (.aa rfl) (Lw.obj .c) rfl rfl) (Lw.obj .d) rfl rfl .nil ?_)
 refine y6 (Ei.lw (h:=h)) (v:=h.dd) z λr=> ?_
 refine bh ?_
 exact q r
theorem Lo.Ok.clean{h':Lo g}(O':h'.Ok)(v:h'.vw=h.vw)(hh:h.hold=none)(O:h.Ok)(p:n∉h'.pins):h'.c n=h'.d n:=by
 have:=O.cl n (by refine ae (show h.pins=h'.pins from (ah Vw.pins v).symm)▸ ?_;exact p) (by refine ae hh▸ ?_;exact nofun)
 exact (show h.d=h'.d from (ah Vw.d v).symm)▸(show h.c=h'.c from (ah Vw.c v).symm)▸this
theorem C3(O:h.Ok)(hh:h.hold=none)(b:0<=n/\n < h.nb)(q:∀h' : Lo g,h'.Ok->h'.hold=none->h'.vw=h.vw->R (.bytes (h.c n)) (Lw h' F)):Ct E R (Lw h F) 845 (m+4) [.ref (h.a 5), .int n]:=by
 refine df su ?_
 refine de rfl (bT (.aa rfl) (Lw.obj .c) rfl rfl (.cons (.aa rfl) .nil) ?_)
 refine BJ O hh b λh1 O1 hh1 v1=> ?_
 have r:=O1.sI n hh1
 refine de rfl (bT (.aa rfl) (Lw.gg (F:=F) r) rfl rfl .nil ?_)
 refine v8 r (O1.len n).2 ?_
 refine bY (bT (.aa rfl) (Lw.obj .c) rfl rfl (.cons (.aa rfl) .nil) ?_)
 refine oA O1 hh1 (λp=> ?_) λh2 O2 hh2 v2=> ?_
 ·exact O1.clean v1 hh O p
 refine cC (.aa rfl) ?_
 refine ae (show h1.c n=h.c n from congrFun (ah Vw.c v1) n)▸ ?_
 exact q h2 O2 hh2 (v2.trans v1)
theorem Lo.Ok.cB(O:h.Ok)(hh:h.hold=some n){o:List UInt8}(lo:o.length=64):(h.cB n o).Ok:=
 { O with cl:=λy p e=>(if_neg λq:y=n=>e (q▸hh)).trans (O.cl y p e),len:=λy=>⟨(O.len y).1,by show (upd h.c n o y).length=64;unfold upd;split;exact lo;exact (O.len y).2⟩ }
theorem yH{ks:List Int}{y:Int}(q:y∉ins ks n):y≠n/\y∉ks:=by unfold ins at q;split at q<;>simp_all;rintro rfl;contradiction
theorem Lo.Ok.wrote(O:h.Ok):(h.wrote n (h.c n)).Ms.Ok:=
 { O with cl:=λy p e=>(by show h.c y=upd h.d n (h.c n) y;unfold upd;split;(rename_i q;exact ah _ q);exact O.cl y p e),Ek:=λy q=>(if_neg (yH q).1).trans (O.Ek y (yH q).2),len:=λy=>⟨by show (upd h.d n (h.c n) y).length=64;unfold upd;split;exact (O.len n).2;exact (O.len y).1,(O.len y).2⟩ }
noncomputable def Vw.wM(v:Vw)(n:Int)(o:List UInt8):Vw:={ v with c:=upd v.c n o,d:=upd v.d n o,lk:=ins v.lk n,ch:=v.ch++[(n,o)] }
theorem xD(O:h.Ok)(hh:h.hold=none)(b:0<=n/\n < h.nb){o:List UInt8}(lo:o.length=64)(z:h.vw.Sz)(q:∀h' : Lo g,h'.Ok->h'.hold=none->h'.vw=h.vw.wM n o->R .none (Lw h' F)):Ct E R (Lw h F) 852 (m+4) [.ref (h.a 5), .int n, .bytes o]:=by
 refine fH sc ?_
 refine de rfl (bT (.aa rfl) (Lw.obj .c) rfl rfl (.cons (.aa rfl) .nil) ?_)
 refine BJ O hh b λh1 O1 hh1 v1=> ?_
 have r:=O1.sI n hh1
 refine bY (bT (.aa rfl) (Lw.gg (F:=F) r) rfl rfl (.cons (.aa rfl) .nil) ?_)
 refine HE O1.nd r (O1.len n).2 lo ?_
 refine bY (bT (.aa rfl) (Lw.obj .c) rfl rfl (.cons (.aa rfl) .nil) ?_)
 refine Fz (O1.cB hh1 lo) hh1 (by rw[<-v1] at z;exact⟨z.lk,z.un⟩) ?_
 refine bY (bT (.aa rfl) (Lw.obj .c) rfl rfl (.cons (.aa rfl) .nil) ?_)
 refine oA ((O1.cB hh1 lo).wrote (n:=n)) hh1 (λ_=>(if_pos rfl).symm) λh2 O3 hh2 v2=> ?_
 refine bh ?_
 refine q h2 O3 hh2 (v2.trans ?_)
 exact ae (show (h1.cB n o).c n=o from if_pos rfl)▸v1▸rfl
end
theorem wa(x y k:Nat)(h:x < 2^k):x &&& (y * 2^k)=0:=by
 apply Nat.eq_of_testBit_eq
 intro i
 refine (Nat.testBit_and ..).trans ?_;rw[Nat.zero_testBit]
 by_cases q : i < k
 ·refine (ah _ (Nat.testBit_mul_two_pow ..)).trans ?_;refine ae (bz (Nat.not_le.mpr q))▸ ?_;exact Bool.and_false _
 ·rw[Nat.testBit_lt_two_pow (aC h (Nat.pow_le_pow_right (by decide) (Nat.le_of_not_lt q)))];rfl
theorem Dr(x y k:Nat)(h:x < 2^k):Builtin.bitOr (x:Int) ((y:Int) * 2^k)=((x+y * 2^k : Nat):Int):=by
 rw[bitOr_and,(show ((y:Int) * 2^k)=((y * 2^k : Nat):Int) by rw[Int.natCast_mul,Int.natCast_pow];rfl)]
 have : Builtin.bitAnd (x:Int) ((y * 2^k : Nat):Int)=0:=by
  unfold Builtin.bitAnd
  rw[aZ (bA x),aZ (bA (y * 2^k))]
  show ((((x:Int).toNat &&& ((y * 2^k : Nat):Int).toNat : Nat)):Int)=0
  rw[Int.toNat_natCast,Int.toNat_natCast,wa x y k h];rfl
 rw[this];exact ae ((λ{a b}=>Int.neg_inj.mp) rfl)
noncomputable def wO(b:List UInt8)(i:Nat):Nat:=(b.getD i 0).toNat+(b.getD (i+1) 0).toNat * 2^8
noncomputable def Kn(b:List UInt8)(i:Nat):Nat:=wO b i+wO b (i+2) * 2^16
theorem Do(b:List UInt8)(i:Nat):wO b i < 2^16:=by
 exact aC (Nat.add_lt_add_of_lt_of_le (b.getD i 0).toNat_lt (Nat.mul_le_mul_right _ (bH (b.getD (i+1) 0).toNat_lt))) (by decide)
noncomputable def vu(b:List UInt8)(i v:Nat):List UInt8:=(b.set i (v % 256).toUInt8).set (i+1) (v / 256 % 256).toUInt8
noncomputable def GM(b:List UInt8)(i v:Nat):List UInt8:=vu (vu b i (v % 65536)) (i+2) (v / 65536 % 65536)
theorem dX(b:List UInt8)(i v:Nat):(vu b i v).length=b.length:=by rw[vu];refine (cL).trans ?_;exact cL
theorem uh(b:List UInt8)(i v:Nat):(GM b i v).length=b.length:=by rw[GM];refine (dX ..).trans ?_;exact (dX ..)
theorem GP(v:Nat):Builtin.bitAnd (v:Int) 255=((v % 256 : Nat):Int):=by rw[bitAnd_m8];exact ae (Nat.ToInt.mod_congr rfl rfl)
theorem By(v:Nat):Builtin.bitAnd (v:Int) 65535=((v % 65536 : Nat):Int):=by rw[bitAnd_m16];exact ae (Nat.ToInt.mod_congr rfl rfl)
theorem yF(v k:Nat):(v:Int).fdiv (2^(k:Int).toNat)=((v / 2^k : Nat):Int):=by
 exact (Int.fdiv_eq_ediv_of_nonneg _ (Int.pow_nonneg (by decide)))
inductive G6(S:As):MV->List UInt8->Prop
 |b {b}:G6 S (.bytes b) b
 |r {l b} (e:dP S l (.bW b)):G6 S (.ref l) b
structure Ba(S:List UInt8->As)(l:LA):Prop where
 has : ∀b,dP (S b) l (.bW b)
 upd : ∀b b',Upd (S b) l (.bW b') (S b')
section
variable {m i:Nat}{S:As}{o:MV}{b:List UInt8}{k j:Int}{R:MV->As->Prop}{E:Addr->As->Prop}
theorem G6.it(h:G6 S o b)(i:Nat)(hk:k=i)(hi:i < b.length)(hz:b.length<=100000):AJ S o (.int k) (.int (b.getD i 0).toNat):=by
 subst hk
 have z : Nm ((0:Int)<=i/\(i:Int) < b.length/\b.length<=100000):=⟨bA _,aX.mpr hi,hz⟩
 cases h with
 |b=>exact .oct z
 |r e=>exact .ref e (.ba z)
theorem gD(h:G6 S o b)(i:Nat)(hk:k=i)(hi:i+1 < b.length)(hz:b.length<=100000)(q:R (.int (wO b i)) S):Ct E R S 116 (m+1) [o, .int k]:=by
 have:=(b.getD (i+1) 0).toNat_lt
 refine df xF ?_
 refine cC (.bin (.item (.aa rfl) (.aa rfl) (h.it i hk (az (Nat.le_add_right_of_le (aG _)) hi) hz)) (.bin (.item (.aa rfl) (.bin (.aa rfl) .ag .add) (h.it (k:=k+1) (i+1) (ah (·+1) hk) hi hz)) .ag (.shl (by unfold Nm;exact⟨by decide,by decide,aC this (by decide)⟩))) .bor) ?_
 exact (Dr _ (b.getD (i+1) 0).toNat 8 (b.getD i 0).toNat_lt).symm▸q
theorem oO(h:G6 S o b)(i:Nat)(hk:k=i)(hi:i+3 < b.length)(hz:b.length<=100000)(q:R (.int (Kn b i)) S):Ct E R S 123 (m+2) [o, .int k]:=by
 refine df xK (eT (l7 ?_))
 refine cr (.cons (.aa rfl) (.cons (.aa rfl) .nil)) ?_
 refine gD h i hk (az (bb (by decide) _) hi) hz (l7 ?_)
 refine cr (.cons (.aa rfl) (.cons (.bin (.aa rfl) .ag .add) .nil)) ?_
 refine gD h (i+2) (ah (·+2) hk) hi hz (bq .ag (.mk (.shl ?_) (.mk .bor ?_)))
 ·have:=Do b (i+2);exact id (by unfold Nm;exact⟨by decide,by decide,aC this (by decide)⟩)
 ·exact (Dr _ (wO b (i+2)) 16 (Do b i)).symm▸q
theorem JZ{i u:Nat}(hk:k=i)(hj:j=u)(hi:i < b.length)(hz:b.length<=100000)(hu:u < 256):uG (.int j) (.bW b) (.int k) (.bW (b.set i u.toUInt8)):=by
 subst hk hj;exact .ba (x:=u) rfl ⟨bA _,aX.mpr hi,hz,bA _,aX.mpr hu⟩
variable {T:List UInt8->As}{l:LA}
theorem eX(B:Ba T l)(v:Nat)(i:Nat)(hk:k=i)(hj:j=v)(hi:i+1 < b.length)(hz:b.length<=100000)(q:R .none (T (vu b i v))):Ct E R (T b) 130 (m+1) [.ref l, .int k, .int j]:=by
 subst hj
 refine fH vE ?_
 refine' ct (bq ?t1 (dW (.aa rfl) (.aa rfl) (B.has b) (JZ hk (GP v) (az (Nat.le_add_right_of_le (aG _)) hi) hz (Nat.mod_lt _ (by decide))) (B.upd _ _) ?_))
 case t1=>exact .bin (.aa rfl) .ag .band
 refine' ct (bq ?t2 (dW (.aa rfl) ?t3 (B.has _) (JZ (k:=k+1) (i:=i+1) (ah (·+1) hk) ((ah (Builtin.bitAnd · 255) (yF v 8)).trans (GP _)) (by rw[cL];exact hi) (by rw[cL];exact hz) (Nat.mod_lt _ (by decide))) (B.upd _ _) (bh q)))
 case t2=>exact .bin (.bin (.aa rfl) .ag (.shr (Int.zero_le_ofNat 8))) .ag .band
 case t3=>exact .bin (.aa rfl) .ag .add
theorem jg(B:Ba T l)(v:Nat)(i:Nat)(hk:k=i)(hj:j=v)(hi:i+3 < b.length)(hz:b.length<=100000)(q:R .none (T (GM b i v))):Ct E R (T b) 137 (m+2) [.ref l, .int k, .int j]:=by
 subst hj
 refine fH wh ?_
 refine bY (cr (.cons (.aa rfl) (.cons (.aa rfl) (.cons (.bin (.aa rfl) .ag .band) .nil))) ?_)
 refine eX B (v % 65536) i hk (By v) (az (bb (by decide) _) hi) hz ?_
 refine bY (cr (.cons (.aa rfl) (.cons (.bin (.aa rfl) .ag .add) (.cons (.bin (.bin (.aa rfl) .ag (.shr (by unfold Nm;exact Int.zero_le_ofNat 16))) .ag .band) .nil))) ?_)
 refine eX B (v / 65536 % 65536) (i+2) (ah (·+2) hk) ((ah (Builtin.bitAnd · 65535) (yF v 16)).trans (By _)) (by rw[dX];exact hi) (by rw[dX];exact hz) ?_
 refine bh ?_
 exact q
end
noncomputable def by4(z:Int)(n:Nat):List Int:=(List.range n).map λj : Nat=>Builtin.bitAnd (z.fdiv (2^(8 * (j:Int)).toNat)) 255
theorem Iv{z:Int}{n:Nat}:∀x∈by4 z n,0<=x/\x < 256:=λx m=>let ⟨_,_,e⟩:=cq.mp m;by
 refine e▸ ?_;refine ae (bitAnd_m8 ..)▸ ?_;exact⟨Int.emod_nonneg _ (by decide),Int.emod_lt_of_pos _ (by decide)⟩
theorem LB : ∀L : Nat,L < 10->L<=100000/\decide (4 * ((L:Int)+1) > 64)=false/\((4:Int).natAbs < 2^32/\((L:Int)+1).natAbs < 2^32):=by decide +kernel
theorem L8 : ∀j : Nat,j < 4->((8:Int).natAbs < 2^32/\(j:Int).natAbs < 2^32)/\0<=8 * (j:Int):=by decide +kernel
theorem LV : ∀i : Nat,i < 11->4 * i<=100000:=by decide +kernel
theorem LX : ∀b : Nat,b < 44->b<=100000/\(0<=64 - (b:Int)/\64 - (b:Int)<=100000)/\(64 - (b:Int)).toNat=64 - b/\b+(64 - b)=64:=by decide +kernel
section
variable {m:Nat}{g:En}{h:Lo g}{F:List Cell}{R:MV->As->Prop}{E:Addr->As->Prop}{n:Int}{loc:Loc}
theorem gF : ∀ {xs:List Int},intsOf (xs.map .int)=some xs
 | []=>rfl
 |x::xs=>by show (intsOf (xs.map .int)).map (x::·)=_;rw[gF];rfl
theorem kE{L i:Nat}{S:As}(h:i < L):rV S (hB 0 1 L i) (some (.int i,hB 0 1 L (i+1))):=by
 have:=uN (S:=S) (x:=0) (d:=1) h
 rwa [Int.mul_one,Int.zero_add] at this
theorem IQ{l:LA}{ns:List Int}(e:∀F',F.Sublist F'->dP (Lw h F') l (.list (ns.map .int)))(hn:ns.length<=9)(q:∀o,o.length=64->R (.bytes o) (Lw h F)):Ct E R (Lw h F) 981 (m+1) [.ref l, .int 64]:=by
 refine df qY ?_
 have lm : (ns.map MV.int).length=ns.length:=aq ..
 refine ip (LB _ (Nat.lt_succ_of_le hn)) λa0 a1 a2=> ?_
 have l0 : (ns.map MV.int).length<=100000:=lm▸a0
 have : decide (4 * (((ns.map MV.int).length : Int)+1) > 64)=false:=lm▸a1
 refine cO (.cmp (.bin .glob (.bin (.call (.cons (.aa rfl) .nil) (.len (e F (.refl _)) .list (by assumption))) .ag .add) (.mul (by exact And.comm.mp (id (And.symm (lm▸a2)))))) (.aa rfl) .gt) this (de rfl ?_)
 refine cV (ci (wQ Lw.new λr0=> ?_))
 have e1:=e ((r0, .bW [])::F) (.cons _ (.refl _))
 refine to (F2 (uD (dz (c8 (vs:=[.int (ns.map MV.int).length]) (.cons (.call (.cons (.aa rfl) .nil) (.len e1 .list l0)) .nil) ⟨aj rfl,Lw.new,λr1=> ?_⟩))))
 have e2:=e ((r1, .list [.int (ns.map MV.int).length])::(r0, .bW [])::F) (.cons _ (.cons _ (.refl _)))
 refine cV (c8 (vs:=[.ref l]) (.cons (.aa rfl) .nil) (Fb e2 (lm▸ad hn (by decide)) Lw.new λr2=> ?_))
 refine .mk (Lw.cH (i:=1) rfl) (Lw.cH (i:=0) rfl) (lm▸ad (bb hn 1) (by decide)) Lw.new λr3=> .mk rfl (.mk (Lw.cH (i:=0) rfl) ?_)
 generalize hz : ((ns.map MV.int).length : Int)::ns=zs
 have hl : zs.length < 11:=by refine hz▸ ?_;exact Nat.succ_lt_succ (Nat.lt_succ_of_le hn)
 refine ae (show [MV.int (ns.map MV.int).length]++ns.map MV.int=zs.map .int by refine hz▸ ?_;rfl)▸ ?_
 refine .mk (zs.length+1) rfl (fN (S1:=Lw h ((r3, .list (zs.map .int))::(r0, .bW [])::F)) (λ_ s=>Lw.sub s (.cons_cons _ (.cons _ (.cons _ (.refl _))))) (lY (it:=λi=> .lst r3 i)
  (I:=λi loc S=>Fr [some (.ref l),some (.int 64),some (.ref r0)] 1 loc/\∃b : List UInt8,b.length=4 * i/\S=Lw h ((r3, .list (zs.map .int))::(r0, .bW b)::F)) ?_ ?_ _ _ _ _ (bZ _) ⟨.of rfl rfl,_,rfl,rfl⟩))
 ·rintro i loc S hi ⟨⟨x⟩,b,lb,rfl⟩
  obtain⟨z,ez⟩ : ∃z,zs[i]?=some z:=⟨_,ay hi⟩
  refine .mk (ie (v:= .int z) (Lw.cH (i:=0) rfl) (by rw[bc];exact ah _ ez)) (bQ rfl (bY ?_))
  refine cM (.aa rfl) (gO (Lw.cH (i:=1) rfl) (.ba rfl)) (bj (cV (bj (fT (it:=hB 0 1 4) (L:=4)
   (I:=λj acc loc S=>acc=(by4 z j).map .int/\(∃y,loc=[y,some (.int z)])/\S=Lw h ((r3, .list (zs.map .int))::(r0, .bW b)::F)) (i8 (j:=4) (.cons .glob .nil) (show _/\_ by decide) ⟨rfl,rfl,⟨_,rfl⟩,rfl⟩) rfl ?_ ?_))))
  ·rintro j acc loc S hj ⟨rfl,⟨y,rfl⟩,rfl⟩
   have e1:=L8 j hj
   refine⟨by rw[aq,by4,aq];refine ae d8▸ ?_;exact ad (aL hj) (by decide), .mk (kE hj) (bQ rfl (fS ⟨λ_=>bq (.bin (.bin (.aa rfl) (.bin .ag (.aa rfl) (.mul e1.1)) (.shr e1.2)) .ag .band) ⟨?_,⟨_,rfl⟩,rfl⟩,nofun⟩))⟩
   unfold by4;rw[List.range_succ,aY,aY];rfl
  ·rintro acc loc S ⟨rfl,_,rfl⟩
   refine⟨gz, .mk Lw.new λr=>ci (on (Lw.cH (i:=0) rfl) (aj rfl) gF Iv (ci ?_))⟩
   have l4:=LV i (cG hi hl)
   refine HZ (Lw.cH (i:=2) rfl) ⟨lb▸l4,aj rfl⟩ (Lw.jJ (i:=2) rfl rfl) ?_
   refine fN (S1:=Lw h ((r3, .list (zs.map .int))::(r0, .bW (b++(by4 z 4).map λn=>n.toNat.toUInt8))::F)) (λ_ s=>Lw.sub s (.cons _ (.refl _))) (bh ⟨.of rfl rfl,_, ?_,rfl⟩)
   refine (aA).trans ?_;rw[lb];rfl
 ·rintro loc S ⟨⟨x⟩,b,lb,rfl⟩
  refine⟨by have:=fB (Lw.cH (h:=h) (F:=(r3, .list (zs.map .int))::(r0, .bW b)::F) (i:=0) rfl);rwa [aq] at this, ?_⟩
  have h0:=Lw.cH (h:=h) (F:=(r3, .list (zs.map .int))::(r0, .bW b)::F) (i:=1) rfl
  refine ip (LX _ (lb.symm▸Nat.mul_lt_mul_of_pos_left hl (by decide):b.length < 44)) λz0 z1 z2=> ?_
  exact oN (.bin (.call (.cons (.aa rfl) .nil) (.oQ h0 z0)) (.call (.cons (.bin (.aa rfl) (.call (.cons (.aa rfl) .nil) (.len h0 .ba z0)) .sub) .nil) (.vp z1)) (.Ea (ad (aw ((ah (b.length+·) (List.length_replicate.trans z2.1)).trans z2.2)) (by decide)))) (λ_ s=>Lw.sub s (.cons _ (.cons _ (.refl _)))) (q (b++List.replicate (64 - (b.length : Int)).toNat 0) (aA.trans ((ah (b.length+·) (List.length_replicate.trans z2.1)).trans z2.2)))
end
section
variable {m:Nat}{g:En}{h h':Lo g}{F:List Cell}{R:MV->As->Prop}{E:Addr->As->Prop}{n:Int}{loc:Loc}{k:Nat}{v:Vw}
theorem H5(l:h.nums.length<=9)(q:R (.int (9 - h.nums.length)) (Lw h F)):Ct E R (Lw h F) 1017 (m+1) [.ref (h.a 9)]:=by
 refine dh pD (cC (.bin (.am (.aa rfl) (Lw.obj .j) rfl rfl) (.call (.cons (.am (.aa rfl) (Lw.obj .j) rfl rfl) .nil) (.len (Lw.has .nm) .list ?_)) .sub) ?_)
 ·rw[aq];exact id (by unfold Nm;exact ad l (by decide))
 ·rw[aq];exact q
theorem yS(hn:h.nums=[])(hc:h.calls=0)(q:R .none (Lw (h.kx 1) F)):Ct E R (Lw h F) 1024 (m+2) [.ref (h.a 9)]:=by
 refine dh nX (gG (uY (Gi ?_)))
 refine bT (.aa rfl) (Lw.obj .j) rfl rfl .nil ?_
 have l0 : (h.nums.map MV.int).length=0:=by refine ae hn▸ ?_;rfl
 have l1 : (h.nums.map MV.int).length<=100000:=by rw[l0];decide
 refine dh kM ?_
 refine cC (.cmp (.bin (.call (.cons (.am (.aa rfl) (Lw.obj .j) rfl rfl) .nil) (.len (Lw.has .nm) .list (by assumption))) (.bin (.bin (.am (.aa rfl) (Lw.obj .j) rfl rfl) .ag .add) (.am (.aa rfl) (Lw.obj .j) rfl rfl) (.mul (by exact And.comm.mp (id (And.symm (by rw[hc];decide)))))) .add) (.am (.aa rfl) (Lw.obj .j) rfl rfl) .le) ?_
 refine .mk .bool ?_
 rw[l0,hc]
 refine⟨nofun,λ_=> ?_⟩
 refine' jB ?t1 (Lw.obj .j) rfl rfl .ag .add (Lw.Jf (h':=h.kx 1) ?t2 rfl rfl) (bh q)
 case t1=>exact .aa rfl
 case t2=>(refine ae hc▸ ?_);rfl
theorem Kl(q:R (.bool (decide (2<=n)&&decide (n < 2+10))) (Lw h F)):Ct E R (Lw h F) 1003 (m+1) [.ref (h.a 9), .int n]:=by
 refine df nR ?_
 refine cC (.ky (.am (.aa rfl) (Lw.obj .j) rfl rfl) (.aa rfl) (.bin (.am (.aa rfl) (Lw.obj .j) rfl rfl) (.am (.aa rfl) (Lw.obj .j) rfl rfl) .add) .le .lt) ?_
 exact q
theorem sX : (h.noted.lookup n).isSome=decide (n∈h.nd):=by
 unfold Lo.noted
 generalize 0=i
 induction h.nd generalizing i with
 |nil=>rfl
 |cons x l ih=>
  show (match n==x with | true=>some _ | false=>_ : Option MV).isSome=_
  by_cases q : n=x
  ·subst q;rw[beq_self_eq_true];exact (aZ (aV ..)).symm
  ·refine ae (beq_eq_false_iff_ne.mpr q)▸ ?_
   exact (ih _).trans (decide_eq_decide.mpr ⟨aB _,λm=>(aK.mp m).resolve_left q⟩)
theorem zL : h.noted.any (λe=>e.1=n)=decide (n∈h.nd):=by
 unfold Lo.noted
 refine (List.any_map).trans ?_;rw[eu];refine (List.any_eq_true).trans ?_;rw[decide_eq_true_iff]
 refine⟨λzz=>(by refine aT zz λx m e=> ?_;exact aF e▸(List.fst_mem_of_mem_zipIdx m)),λm=> ?_⟩
 obtain⟨i,hi,e⟩:=List.getElem_of_mem m
 exact⟨(n,i),List.mem_zipIdx_iff_getElem?.mpr (e▸ay hi),aZ rfl⟩
theorem Lw.K0(q:n∉h.nd){i:Int}(e:i=h.nd.length):Upd (Lw h F) h.nt (.bS (gX h.noted n (.int i))) (Lw (h.KR (h.nd++[n])) F):=by
 refine Lw.x5 (i:=12) rfl ?_ rfl
 have : (h.KR (h.nd++[n])).noted=gX h.noted n (.int i):=by
  unfold gX
  rw[zL,if_neg λz=>q (aF z)]
  skip
  refine (ah _ List.zipIdx_append).trans ?_;refine (aY).trans ?_;rw[e,bZ];rfl
 exact this▸rfl
theorem Lw.GA : Upd (Lw h F) h.nm (.list (h.nums.map MV.int++[.int n])) (Lw (h.Hf (h.nums++[n])) F):=Lw.x5 (i:=11) rfl (by rw[<-List.map_singleton,<-aY];rfl) rfl
noncomputable abbrev Lo.ru{g:En}(h:Lo g)(n:Int):Lo g:=((h.rA (ins h.pins n)).KR (ins h.nd n)).Hf (ins h.nums n)
theorem Ff(O:h.Ok)(hh:h.hold=some n)(hc:h.calls≠0)(hn:n < 2∨12<=n)(e1:h.nd=h.nums)(e2:h.pins=h.nums)(ln:n∈h.nums∨h.nums.length < 9)(q:R .none (Lw (h.ru n) F)):Ct E R (Lw h F) 1031 (m+3) [.ref (h.a 9), .ref (h.bn n).l]:=by
 have r:=O.sI n hh
 refine df oB ?_
 refine cO (.cmp (.am (.aa rfl) (Lw.obj .j) rfl rfl) .ag .lD) (beq_eq_false_iff_ne.mpr hc) ?_
 refine gG (Gi ?_)
 refine bT (.aa rfl) (Lw.obj .j) rfl rfl (.cons (.am (.aa rfl) (Lw.gg (F:=F) r) rfl rfl) .nil) ?_
 refine Kl (.mk .bool ?_)
 rw[(show (decide (2<=n)&&decide (n < 2+10))=false by exact Bool.and_eq_false_iff.mpr (hn.imp (λh=>bz (Int.not_le.mpr h)) λh=>bz (cZ.mpr h)))]
 refine⟨nofun,λ_=> ?_⟩
 refine' iC (.cmp ?t1 ?t2 (.inR (Lw.has .nt) (.dI rfl))) ?t3 ?t4
 case t1=>exact .am (.aa rfl) (Lw.gg (F:=F) r) rfl rfl
 case t2=>exact .am (.aa rfl) (Lw.obj .j) rfl rfl
 case t3=>
  intro e
  have e:=aF (sX.symm.trans e)
  refine bY (bT (.am (.aa rfl) (Lw.obj .j) rfl rfl) (Lw.obj .c) rfl rfl (.cons (.aa rfl) .nil) ?_)
  refine g9 r (O.x8 r) hh (xJ ?_)
  unfold Lo.ru ins at q
  rw[if_pos e,if_pos (e1▸e : n∈h.nums),if_pos (by refine ae e2▸e1▸ ?_;exact e)] at q
  exact q
 intro e
 have e : n∉h.nd:=br (sX.symm.trans e)
 have en : n∉h.nums:=e1▸e
 have ln:=ln.resolve_left en
 have l1 : (h.nums.map MV.int).length<=100000:=by rw[aq];exact ad (aL ln) (by decide)
 have l2 : decide (((h.nums.map MV.int).length : Int)≥9)=false:=by refine ae (aq ..)▸ ?_;exact bz (Int.not_le.mpr (cU (aW.mpr (bH ln)) (by decide)))
 have l3 : (h.rA (h.pins++[n])).noted.length<=100000:=by dsimp only[Lo.noted];rw[aq,List.length_zipIdx];refine ae e1▸ ?_;exact ad (aL ln) (by decide)
 refine cO (.cmp (.call (.cons (.am (.aa rfl) (Lw.obj .j) rfl rfl) .nil) (.len (Lw.has .nm) .list (by assumption))) (.am (.aa rfl) (Lw.obj .j) rfl rfl) .ge) l2 (bY (bT (.am (.aa rfl) (Lw.obj .j) rfl rfl) (Lw.obj .c) rfl rfl (.cons (.aa rfl) .nil) ?_))
 refine J4 O.nd r (O.x8 r) hh (by refine ae e2▸ ?_;exact en) ?_
 unfold Lo.ru ins at q
 rw[if_neg e,if_neg en,if_neg (by refine ae e2▸ ?_;exact en)] at q
 refine ct (bq (.call (.cons (.am (.aa rfl) (Lw.obj .j) rfl rfl) .nil) (.len (Lw.has .nm) .list (by assumption))) (dW (.am (.aa rfl) (Lw.obj .j) rfl rfl) (.am (.aa rfl) (Lw.gg (h:=h.rA (h.pins++[n])) (F:=F) r) rfl rfl) (Lw.has .nt) (uG.dI (by assumption)) (Lw.K0 (h:=h.rA (h.pins++[n])) e (i:=(h.nums.map MV.int).length) (by refine (ah _ (aq ..)).trans ?_;exact ae e1▸rfl)) ?_))
 refine bY ?_
 refine cM (.am (.aa rfl) (Lw.obj .j) rfl rfl) (gO (Lw.has .nm) (ES.list rfl)) (c8 (.cons (.am (.aa rfl) (Lw.gg (h:=(h.rA (h.pins++[n])).KR (h.nd++[n])) (F:=F) r) rfl rfl) .nil) (md (Lw.has .nm) (by assumption) (Lw.GA (h:=(h.rA (h.pins++[n])).KR (h.nd++[n])) (n:=n)) ?_))
 exact bh q
end
noncomputable abbrev Le(S S':As):Prop:=∀σ,S σ->S' σ
noncomputable def Vs{g:En}(P:Lo g->Prop)(F:List Cell):As:=λσ=>∃h,P h/\Lw h F σ
structure Ck where
 c : Int->List UInt8
 ns : List Int
 k : Int
structure Ck.Ok(g:En)(s:Ck):Prop where
 nb : g.nb<=21/\17<=g.nb
 nd : s.ns.Nodup
 rg : ∀n∈s.ns,12<=n/\n < g.nb
 ln : s.ns.length<=9
structure Cv(g:En)(s:Ck)(ps:List Int)(i:Nat)(w:List Int)(v:Vw):Prop where
 c : ∀n,12<=n->v.c n=s.c n
 ns : v.nums=s.ns
 nd : v.nd=s.ns
 pins : v.pins=ps
 k : v.calls=s.k
 sk : (v.ch.map (·.1)).foldl ins v.kk=v.lk
 se : v.ch.foldl (λf p=>upd f p.1 p.2) v.e=v.d
 ln : v.lk.Nodup
 lr : ∀n∈v.lk,0<=n/\n < g.nb
 kl : v.kk.length<=100
 un : v.ch.length<=i
 wr : ∀n∈w,v.c n=v.d n
structure Pc{g:En}(s:Ck)(ps:List Int)(i:Nat)(w:List Int)(nm:LA)(h:Lo g):Prop where
 ok : h.Ok
 hh : h.hold=none
 cv : Cv g s ps i w h.vw
 nm : h.nm=nm
section
variable {m i:Nat}{g:En}{h:Lo g}{F:List Cell}{R:MV->As->Prop}{T:MF->Loc->As->Prop}{E:Addr->As->Prop}{n:Int}{loc:Loc}{s:Ck}{P:Lo g->Prop}{S:As}{ps w:List Int}{v:Vw}{o:List UInt8}{a:Addr}{args:List MV}{nm l:LA}
theorem ff(e:Le S (Vs P F))(q:∀h,P h->Ct E R (Lw h F) a m args):Ct E R S a m args:=λσ s=>let ⟨h,p,s⟩:=e σ s;q h p σ s
theorem dQ{α:Type}{p:_root_.Internal.P α}{T:α->Loc->As->Prop}(e:Le S (Vs P F))(q:∀h,P h->Wp E (Lw h F) loc T p):Wp E S loc T p:=λσ s=>let ⟨h,p,s⟩:=e σ s;q h p σ s
theorem Vs.at(p:P h):Le (Lw h F) (Vs P F):=λ_ s=>⟨h,p,s⟩
theorem og{ks:List Int}(h:ks.Nodup):(ins ks n).Nodup:=by
 unfold ins;split
 ·exact h
 ·exact List.nodup_append.mpr ⟨h,List.nodup_cons.mpr ⟨List.not_mem_nil,List.nodup_nil⟩,λa m b m' e=>‹n∉ks› (by cases av.mp m';exact e▸m)⟩
theorem qe{ks:List Int}{y:Int}(q:y∈ins ks n):y=n∨y∈ks:=by
 unfold ins at q;split at q
 ·exact .inr q
 ·exact (bI.mp q).elim .inr λq=> .inl (av.mp q)
theorem Bb{f d:Int->List UInt8}{k:Int}(h:k≠n->f k=d k):upd f n o k=upd d n o k:=by unfold upd;split;rfl;exact h ‹_›
theorem Mg{ks:List Int}(k:ks.Nodup)(b:∀n∈ks,0<=n/\n < g.nb)(nb:g.nb<=21):ks.length<=100:=
 ad (k.length_le_of_subset (l₂:=(List.range 100).map Int.ofNat) λx m=>cq.mpr ⟨x.toNat,List.mem_range.mpr (by exact aC ((Int.toNat_lt (b x m).1).mpr (aN (b x m).2 nb)) (by decide)),Int.toNat_of_nonneg (b x m).1⟩) (by exact aG _)
theorem Cv.DY(C:Cv g s ps i w v)(b:0<=n/\n < g.nb)(ho:12<=n->o=s.c n):Cv g s ps (i+1) (w++[n]) (v.wM n o):=
 { C with
  c:=λk q=>by show upd v.c n o k=_;unfold upd;split;(rename_i e;exact e▸ho (e▸q));exact C.c k q
  sk:=by show ((v.ch++[(n,o)]).map _).foldl _ _=_;refine (ah _ aY).trans ?_;refine (List.foldl_append).trans ?_;exact ah (ins · n) C.sk
  se:=by show (v.ch++[(n,o)]).foldl _ _=_;refine (List.foldl_append).trans ?_;exact ah (upd · n o) C.se
  ln:=og C.ln
  lr:=λk q=>(qe q).elim (λe=>e▸b) (C.lr k)
  un:=by show (v.ch++[(n,o)]).length<=_;rw[aA];exact Nat.succ_le_succ C.un
  wr:=λk q=>Bb λz=>C.wr k ((bI.mp q).resolve_right λq=>z (av.mp q)) }
theorem Cv.La(C:Cv g s ps i w v):Cv g s ps i [] v:={ C with wr:=nofun }
theorem Cv.sz(C:Cv g s ps i w v)(S:s.Ok g)(hi:i<=100):v.Sz:=⟨ad (Mg C.ln C.lr S.nb.1) (by decide),ad C.un (ad hi (by decide))⟩
theorem Cv.flush{r:LA}(C:Cv g s ps i w h.vw)(S:s.Ok g):Cv g s ps 0 w ((h.Lj.vk h.ch.length).Hb r).vw:=by
 have e1 : (h.Lj.vk h.ch.length).kk=h.lk:=by show ((h.ch.take _).map _).foldl _ _=_;refine ae List.take_length▸ ?_;exact C.sk
 exact { C with sk:=e1,se:=(by show (h.ch.take _).foldl _ _=_;refine (ah _ List.take_length).trans ?_;exact C.se),kl:=ad (aw (ah List.length e1)) (Mg C.ln C.lr S.nb.1),un:=aG _ }
theorem Lo.Ok.flush{r:LA}(O:h.Ok):((h.Lj.vk h.ch.length).Hb r).Ok:={ O with }
theorem Pc.flush{r:LA}(p:Pc s ps i w nm h)(S:s.Ok g):Pc s ps 0 w nm ((h.Lj.vk h.ch.length).Hb r):=⟨p.ok.flush,p.hh,p.cv.flush S,p.nm⟩
theorem Pc.DY{h':Lo g}(p:Pc s ps i w nm h)(O:h'.Ok)(hh:h'.hold=none)(e:h'.vw=h.vw.wM n o)(b:0<=n/\n < g.nb)(ho:12<=n->o=s.c n):Pc s ps (i+1) (w++[n]) nm h':=
 ⟨O,hh,e▸p.cv.DY b ho,(ah Vw.nm e).trans p.nm⟩
theorem Pc.nums(p:Pc s ps i w nm h):dP (Lw h F) nm (.list (s.ns.map .int)):=by refine p.nm▸(show h.nums=s.ns from p.cv.ns)▸ ?_;exact Lw.has .nm
theorem Vs.nums(e:Le S (Vs (Pc (g:=g) s ps i w nm) F)):dP S nm (.list (s.ns.map .int)):=λσ z=>(by refine aT (e σ z) λ_ p z=> ?_;exact p.nums σ z)
theorem cz(p:Pc s ps i w nm h)(S:s.Ok g)(hi:i<=100):h.ch.length<=1000/\h.kk.length<=1000:=⟨(p.cv.sz S hi).un,ad p.cv.kl (by decide)⟩
theorem tJ(S:s.Ok g)(p:Pc s ps i w nm h)(hi:i<=100){b:IR}(q:∀S',Le S' (Vs (Pc (g:=g) s ps 0 w nm) F)->Wp E S' loc T (dn (m+3) b).s)(h0:loc[0]?=some (some (.ref (g.a 9)))):Wp E (Lw h F) loc T (dn (m+3) (.cons (.expr (.aO (.am (.aa 0) "cache") "flush" .nil)) b)).s:=
 bY (bT (.am (.aa h0) (Lw.obj .j) rfl rfl) (Lw.obj .c) rfl rfl .nil (Gj (cz p S hi) λ_=>q _ (Vs.at (p.flush S))))
theorem wR(Z:s.Ok g)(e:Le S (Vs (Pc (g:=g) s s.ns 0 [] nm) F))(q:∀S',Le S' (Vs (Pc (g:=g) s s.ns 0 [] nm) F)->R .none S'):Ct E R S 1052 (m+5) [.ref (g.a 9)]:=by
 refine ff e λh p=>dh kN ?_
 refine dj (it:=λi=> .nT nm i) (L:=s.ns.length) (I:=λi loc S=>∃x y,loc=[some (.ref (g.a 9)),x,y]/\Le S (Vs (Pc (g:=g) s s.ns i [] nm) F)) ?_ rfl ?_ ?_
 ·exact nK (.am (.aa rfl) (Lw.obj .j) rfl (ah (λl=>some (MV.ref l)) p.nm)) p.nums (by have:=Z.ln;refine ae (aq ..)▸ ?_;exact ad this (by decide)) ⟨rfl,_,_,rfl,Vs.at p⟩
 ·rintro i loc S hi ⟨x,y,rfl,e⟩
  obtain⟨n,g'⟩ : ∃n,s.ns[i]?=some n:=⟨_,ay hi⟩
  have b:=Z.rg n (au g')
  refine .mk (qZ (Vs.nums e) (by refine (bc).trans ?_;exact ah _ g')) (iW rfl (c6 (bQ rfl (c6 (bQ rfl (iZ (dQ e λh p=> ?_)))))))
  have hl:=Z.ln
  have ec:=p.cv.c n b.1
  refine' bY (cM ?y1 (mP (Lw.obj .c) rfl rfl) (bj (bq ?y2 (bj ?_))))
  case y1=>exact .am (.aa rfl) (Lw.obj .j) rfl rfl
  case y2=>exact .bin (.bin (.am (.aa rfl) (Lw.obj .j) rfl rfl) .ag .add) (.aa rfl) .add
  refine bT (.am (.aa rfl) (Lw.obj .j) rfl rfl) (Lw.obj .c) rfl rfl (.cons (.aa rfl) .nil) ?_
  have b1 : 0<=n/\n < g.nb:=by exact⟨bp (by decide) b.1,b.2⟩
  have b2 : (0:Int)<=2+1+i/\(2:Int)+1+i < g.nb:=⟨Int.add_nonneg (by decide) (bA _),aN (Int.add_lt_add_left (aX.mpr (aC hi hl)) 3) (bp (by decide) Z.nb.2)⟩
  refine C3 p.ok p.hh b1 λh1 O1 hh1 v1=>ci (ed (xD O1 hh1 b2 (p.ok.len n).2 (v1▸p.cv.sz Z (ad (ad (aL hi) hl) (by decide))) λh2 O2 hh2 v2=>bh ⟨_,_,rfl,Vs.at ?_⟩))
  have p2:=p.DY O2 hh2 (v2.trans (ah (Vw.wM · (2+1+(i:Int)) (h.c n)) v1)) b2 (λz=>absurd z (Int.not_le.mpr (Int.add_lt_add_left (aX.mpr (aC hi hl)) 3)))
  exact { p2 with cv:=p2.cv.La }
 ·rintro loc S ⟨x,y,rfl,e⟩
  exact⟨by have:=mV (Vs.nums e);exact (aq ..)▸this,dQ e λh p=>tJ Z p (ad Z.ln (by decide)) (λS' e'=>bh (q S' e')) rfl⟩
theorem nP(Z:s.Ok g)(p:Pc s ps 0 w nm h){l:LA}{xs:List Int}(e:∀F',F.Sublist F'->dP (Lw h F') l (.list (xs.map .int)))(hx:xs.length<=9)(q:∀S',Le S' (Vs (Pc (g:=g) s ps 0 w nm) F)->R .none S'):Ct E R (Lw h F) 1059 (m+5) [.ref (g.a 9), .ref l]:=by
 refine df jG ?_
 refine' bY (cM ?y1 (mP (Lw.obj .c) rfl rfl) (bj (bq ?y2 (bj (cr ?y3 (IQ e hx λo lo=> ?_))))))
 case y1=>exact .am (.aa rfl) (Lw.obj .j) rfl rfl
 case y2=>exact .am (.aa rfl) (Lw.obj .j) rfl rfl
 case y3=>exact .cons (.aa rfl) (.cons (.am (.am (.aa rfl) (Lw.obj .j) rfl rfl) (Lw.obj .c) rfl rfl) .nil)
 have b2 : (0:Int)<=2/\(2:Int) < g.nb:=by have:=Z.nb;exact⟨by decide,aN (by decide) this.2⟩
 refine ci (ed (xD p.ok p.hh b2 lo (p.cv.sz Z (by decide)) λh2 O2 hh2 v2=> ?_))
 exact tJ Z (p.DY O2 hh2 v2 b2 (λz=>absurd z (by decide))) (by decide) (λS' e'=>bh (q S' λσ z=>(by refine aT (e' σ z) λh p z=> ?_;exact⟨h,{ p with cv:={ p.cv with wr:=λk m=>p.cv.wr k (bJ _ m) } },z⟩))) rfl
theorem AW(Z:s.Ok g)(p:Pc s s.ns 0 [] nm h)(q:∀S',Le S' (Vs (Pc (g:=g) s s.ns 0 s.ns nm) F)->R .none S'):Ct E R (Lw h F) 1066 (m+5) [.ref (g.a 9), .ref nm, .bool false]:=by
 refine fH lQ ?_
 refine dj (it:=λi=> .nT nm i) (L:=s.ns.length) (I:=λi loc S=>∃x y z,loc=[some (.ref (g.a 9)),some (.ref nm),some (.bool false),x,y,z]/\Le S (Vs (Pc (g:=g) s s.ns i (s.ns.take i) nm) F)) ?_ rfl ?_ ?_
 ·exact nK (.aa rfl) p.nums (by have:=Z.ln;refine ae (aq ..)▸ ?_;exact ad this (by decide)) ⟨rfl,_,_,_,rfl,Vs.at p⟩
 ·rintro i loc S hi ⟨x,y,z,rfl,e⟩
  obtain⟨n,g'⟩ : ∃n,s.ns[i]?=some n:=⟨_,ay hi⟩
  refine .mk (qZ (Vs.nums e) (by refine (bc).trans ?_;exact ah _ g')) (iW rfl (c6 (bQ rfl (c6 (bQ rfl (iZ (dQ e λh p=> ?_)))))))
  have hl:=Z.ln
  have b1 : 0<=n/\n < g.nb:=by exact⟨bp (by decide) (Z.rg n (au g')).1,(Z.rg n (au g')).2⟩
  refine de rfl (bT (.am (.aa rfl) (Lw.obj .j) rfl rfl) (Lw.obj .c) rfl rfl (.cons (.Mp rfl (.aa rfl)) .nil) ?_)
  refine C3 p.ok p.hh b1 λh1 O1 hh1 v1=> ?_
  refine bY (bT (.am (.aa rfl) (Lw.obj .j) rfl rfl) (Lw.obj .c) rfl rfl (.cons (.aa rfl) (.cons (.aa rfl) .nil)) ?_)
  refine xD O1 hh1 b1 (p.ok.len n).2 (v1▸p.cv.sz Z (ad (ad (aL hi) hl) (by decide))) λh2 O2 hh2 v2=>bh ⟨_,_,_,rfl,Vs.at ?_⟩
  rw[bV];refine ae g'▸ ?_
  exact p.DY O2 hh2 (v2.trans (ah (Vw.wM · n (h.c n)) v1)) b1 (p.cv.c n)
 ·rintro loc S ⟨x,y,z,rfl,e⟩
  refine⟨by have:=mV (Vs.nums e);exact (aq ..)▸this,dQ e λh p=>tJ Z p (ad Z.ln (by decide)) (λS' e'=>bh (q S' ?_)) rfl⟩
  rwa [List.take_length] at e'
end
structure Jn{g:En}(s:Ck)(o:Option Int)(h:Lo g):Prop where
 ok : h.Ok
 hh : h.hold=o
 cv : Cv g s s.ns 0 [] h.vw
noncomputable abbrev Js(g:En)(s:Ck)(F:List Cell):As:=Vs (Jn (g:=g) s none) F
section
variable {m i:Nat}{g:En}{h:Lo g}{F:List Cell}{R:MV->As->Prop}{T:MF->Loc->As->Prop}{E:Addr->As->Prop}{n:Int}{loc:Loc}{s:Ck}{P:Lo g->Prop}{S:As}{ps w:List Int}{v:Vw}{o:List UInt8}{a:Addr}{args:List MV}{nm l:LA}
theorem Pc.K9(p:Pc s (n::ps) i w nm h)(b:n∈w):Pc s ps i w nm (h.rA (h.pins.erase n)):=by
 have O:=p.ok
 refine⟨{ O with pin:=λy q=>O.pin y (List.mem_of_mem_erase q),Ec:=O.Ec.erase n,pl:=ad (List.length_erase_le ..) O.pl,cl:=λy q r=> ?_ },p.hh,{ p.cv with pins:=(by refine ae (show h.pins=n::ps from p.cv.pins)▸ ?_;exact (List.erase_cons_head ..)) },p.nm⟩
 by_cases z : y=n
 ·exact z▸p.cv.wr n b
 ·exact O.cl y (λm=>q ((List.mem_erase_of_ne z).mpr m)) r
theorem Bj(Z:s.Ok g)(e:Le S (Vs (Pc (g:=g) s s.ns 0 [] nm) F))(q:∀S',Le S' (Js g { s with ns:=[] } F)->R .none S'):Ct E R S 1045 (m+6) [.ref (g.a 9)]:=by
 refine ff e λh p=>dh nn ?_
 refine bY (bT (.aa rfl) (Lw.obj .j) rfl rfl .nil ?_)
 refine wR Z (Vs.at p) λS e=>dQ e λh p=> ?_
 have lst : ∀ {h:Lo g} {w},Pc s s.ns 0 w nm h->∀ {F},PE [some (MV.ref (g.a 9)),none] (Lw h F) (.am (.aa 0) "numbers") (.ref nm):=λp _=> .am (.aa rfl) (Lw.obj .j) rfl (ah (λl=>some (MV.ref l)) p.nm)
 refine bY (bT (.aa rfl) (Lw.obj .j) rfl rfl (.cons (lst p) .nil) (nP Z p (λF' _=>p.nums) Z.ln λS e=>dQ e λh p=> ?_))
 refine bY (bT (.aa rfl) (Lw.obj .j) rfl rfl (.cons (lst p) (.cons .ag .nil)) (AW Z p λS e=>dQ e λh p=> ?_))
 refine bY (cM (.aa rfl) (mP (Lw.obj .j) rfl rfl) (bj (dz (ci ⟨bC _,Lw.new,λr=>ci (ed (nP Z p (xs:=[]) (λF' sb=> ?_) (bC _) λS e=> ?_))⟩))))
 ·exact Zs.has (bx _ (bJ _ (sb.mem (aV ..))))
 have e : Le S (Vs (Pc (g:=g) s s.ns 0 s.ns nm) F):=λσ z=>(by refine aT (e σ z) λh p z=> ?_;exact⟨h,p,Lw.sub z (.cons _ (.refl _))⟩)
 refine dj (it:=λi=> .lst nm i) (L:=s.ns.length) (I:=λi loc S=>∃x,loc=[some (.ref (g.a 9)),x]/\Le S (Vs (Pc (g:=g) s (s.ns.drop i) 0 s.ns nm) F)) ?_ rfl ?_ ?_
 ·exact λσ z=>(by refine aT (e σ z) λh p z'=> ?_;exact jf (lst p) p.nums ⟨rfl,_,rfl,Vs.at p⟩ σ z')
 ·rintro i loc S hi ⟨x,rfl,e⟩
  obtain⟨n,g'⟩ : ∃n,s.ns[i]?=some n:=⟨_,ay hi⟩
  have m':=au g'
  rw[List.drop_eq_getElem_cons hi,(List.getElem_eq_iff hi).mpr g'] at e
  refine .mk (ie (Vs.nums e) (by refine (bc).trans ?_;exact ah _ g')) (bQ rfl (dQ e λh p=> ?_))
  refine bY (bT (.am (.aa rfl) (Lw.obj .j) rfl rfl) (Lw.obj .c) rfl rfl (.cons (.aa rfl) .nil) ?_)
  exact F5 p.ok (show n∈h.vw.pins from p.cv.pins▸aV ..) (bh ⟨_,rfl,Vs.at (p.K9 m')⟩)
 ·rintro loc S ⟨x,rfl,e⟩
  refine⟨by have:=fB (Vs.nums e);exact (aq ..)▸this, ?_⟩
  rw[List.drop_length] at e
  refine dQ e λh p=>ct (dz (ci ⟨bC _,Lw.new,λr=> ?_⟩))
  refine' cX (.aa rfl) (Lw.x7 (h':=h.Ed r) (i:=9) (j:=11) rfl rfl rfl rfl rfl rfl) (ct ?_)
  refine λσ z Q X k x=>let ⟨r2,hr,z⟩:=Lw.new (o:= .bS []) σ z;⟨r2,_,⟨hr, .inl rfl⟩,k _ _ _ z ?_⟩
  refine' cX (.aa rfl) (Lw.x7 (h':=(h.Ed r).MX r2) (i:=9) (j:=12) rfl rfl rfl rfl rfl rfl) ?_
  refine jB (.aa rfl) (Lw.obj .j) rfl rfl .ag (by constructor) (Lw.Jf (h':=((h.Ed r).MX r2).Mu) rfl rfl rfl) ?_
  exact bh (q _ (Vs.at ⟨{ p.ok with },p.hh,{ p.cv.La with ns:=rfl,nd:=rfl }⟩))
theorem GH(Z:s.Ok g)(hk:s.k=1)(e:Le S (Js g s F))(q:∀S',Le S' (Js g { s with ns:=[],k:=0 } F)->R .none S'):Ct E R S 1038 (m+7) [.ref (g.a 9)]:=by
 refine ff e λh p=>dh qw ?_
 refine cO (.cmp (.am (.aa rfl) (Lw.obj .j) rfl rfl) .ag .lD) (by refine ae (show h.calls=1 from p.cv.k.trans hk)▸ ?_;rfl) ?_
 refine' jB (.aa rfl) (Lw.obj .j) rfl rfl .ag .sub (Lw.Jf (h':=h.kx 0) ?t2 rfl rfl) ?_
 case t2=>(refine ae (show h.calls=1 from p.cv.k.trans hk)▸ ?_);rfl
 have p0 : Jn { s with k:=0 } none (h.kx 0):=⟨{ p.ok with },p.hh,{ p.cv with k:=rfl }⟩
 refine gG (xo (eY (p:=true) (.cmp (.am (.aa rfl) (Lw.obj .j) rfl rfl) .ag .lD) ⟨λ_=>ic (bq (.am (.aa rfl) (Lw.obj .j) rfl rfl) (dz (ci ⟨bC _,Lw.new,λr=> ?_⟩))),nofun⟩))
 have hn : dP (Lw (h.kx 0) ((r, .list [])::F)) h.nm (.list (s.ns.map .int)):=by refine ((p.cv.ns))▸ ?_;exact Lw.has .nm
 refine .mk (.Jz hn (Lw.cH (i:=0) rfl) ?_) ⟨λb=> ?_,λb=> ?_⟩
 ·cases s.ns<;>rfl
 ·refine bY (bT (.aa rfl) (Lw.obj .j) rfl rfl .nil ?_)
  exact Bj (s:={ s with k:=0 }) ⟨Z.nb,Z.nd,Z.rg,Z.ln⟩ (λσ z=>⟨_,⟨p0.ok,p0.hh,p0.cv,rfl⟩,Lw.sub z (.cons _ (.refl _))⟩) λS' e=>bh (bh (q S' e))
 ·refine bh (q _ λσ z=>⟨_, ?_,Lw.sub z (.cons _ (.refl _))⟩)
  refine (show s.ns=[] by revert b;cases s.ns;exact λ_=>rfl;exact nofun)▸ ?_;exact p0
end
structure Jh{g:En}(s:Ck)(n:Int)(h:Lo g):Prop where
 j : Jn s (some n) h
 cl : n∉h.pins->h.c n=h.d n
structure Zo(g:En)(X:List Int)(s:Ck):Prop where
 ok : s.Ok g
 sub : ∀n∈s.ns,n∈12::14::17::X
 xl : X.length<=6
 k : s.k=1
noncomputable abbrev Ck.put(s:Ck)(n:Int)(b:List UInt8):Ck:={ s with c:=upd s.c n b }
noncomputable abbrev Ck.note(s:Ck)(n:Int):Ck:={ s with ns:=ins s.ns n }
noncomputable abbrev Ck.set(s:Ck)(n:Int)(b:List UInt8):Ck:=(s.put n b).note n
section
variable {m i:Nat}{g:En}{h:Lo g}{F:List Cell}{R:MV->As->Prop}{T:MF->Loc->As->Prop}{E:Addr->As->Prop}{n:Int}{loc:Loc}{s:Ck}{S:As}{b:List UInt8}{X:List Int}
theorem B9(e:Le S (Js g s F))(r:12<=n/\n < g.nb)(q:∀h : Lo g,Jh s n h->R (.ref (h.bn n).l) (Lw h F)):Ct E R S 796 (m+3) [.ref (g.a 5), .int n]:=
 ff e λ_ p=>BJ p.ok p.hh (by show 0<=n/\n < g.nb;exact⟨bp (by decide) r.1,r.2⟩) λh1 O1 hh1 v1=>q h1 ⟨⟨O1,hh1,v1▸p.cv⟩,O1.clean v1 p.hh p.ok⟩
theorem oJ(p:Jh s n h)(q:∀S',Le S' (Js g s F)->R .none S'):Ct E R (Lw h F) 810 (m+2) [.ref (g.a 5), .ref (h.bn n).l]:=
 oA p.j.ok p.j.hh p.cl λh1 O1 hh1 v1=>q _ (Vs.at ⟨O1,hh1,v1▸p.j.cv⟩)
theorem Jn.put(p:Jn s (some n) h)(l:b.length=64):Jn (s.put n b) (some n) (h.cB n b):=
 ⟨p.ok.cB p.hh l,p.hh,{ p.cv with c:=λk r=>by show upd _ _ _ _=upd _ _ _ _;unfold upd;split;rfl;exact p.cv.c k r,wr:=nofun }⟩
theorem v7(Z:Zo g X s)(r:12<=n/\n < g.nb)(x:n∈12::14::17::X):n∈s.ns∨s.ns.length < 9:=by
 by_cases q : n∈s.ns
 ·exact .inl q
 ·have:=(List.nodup_cons.mpr ⟨q,Z.ok.nd⟩).length_le_of_subset (l₂:=12::14::17::X) λy m=>(aK.mp m).elim (λe=>e▸x) (Z.sub y)
  have:=Z.xl;rw[cy,cy,cy,cy] at *;exact .inr (Nat.lt_of_succ_lt_succ (az (by assumption) (Nat.succ_lt_succ (Nat.succ_lt_succ (Nat.succ_lt_succ (Nat.lt_succ_of_le (by assumption)))))))
theorem Zo.put(Z:Zo g X s):Zo g X (s.put n b):=⟨⟨Z.ok.nb,Z.ok.nd,Z.ok.rg,Z.ok.ln⟩,Z.sub,Z.xl,Z.k⟩
theorem Zo.note(Z:Zo g X s)(r:12<=n/\n < g.nb)(x:n∈12::14::17::X):Zo g X (s.note n):=by
 refine⟨⟨Z.ok.nb,og Z.ok.nd,λy q=>(qe q).elim (λe=>e▸r) (Z.ok.rg y), ?_⟩,λy q=>(qe q).elim (λe=>e▸x) (Z.sub y),Z.xl,Z.k⟩
 show (ins s.ns n).length<=9
 rcases v7 Z r x with q | q
 ·unfold ins;refine ae (if_pos q)▸ ?_;exact Z.ok.ln
 ·exact ad yE q
theorem Zo.set(Z:Zo g X s)(r:12<=n/\n < g.nb)(x:n∈12::14::17::X):Zo g X (s.set n b):=Z.put.note r x
theorem Gl(p:Jn s (some n) h)(Z:Zo g X s)(r:12<=n/\n < g.nb)(x:n∈12::14::17::X)(q:Jh (s.note n) n (h.ru n)->R .none (Lw (h.ru n) F)):Ct E R (Lw h F) 1031 (m+3) [.ref (g.a 9), .ref (h.bn n).l]:=by
 have e1 : h.nums=s.ns:=p.cv.ns
 have e3 : h.pins=s.ns:=p.cv.pins
 have ns : n∈ins h.pins n:=by unfold ins;split;assumption;exact bx _ (av.mpr rfl)
 refine Ff p.ok p.hh (by refine ae (show h.calls=s.k from p.cv.k)▸ae Z.k▸ ?_;decide) (.inr r.1) (p.cv.nd.trans e1.symm) (e3.trans e1.symm) (e1▸v7 Z r x) (q ⟨⟨?_,p.hh, ?_⟩,λz=>(z ns).elim⟩)
 ·have O:=p.ok
  have sb : ∀y,y∈h.pins->y∈ins h.pins n:=λy m=>by unfold ins;split;exact m;exact bJ _ m
  exact { O with pin:=λy m=>(qe m).elim (λz=>z▸O.sI n p.hh) (O.pin y),Ec:=og O.Ec,pl:=by show (ins h.pins n).length<=9;refine ae e3▸ ?_;exact (Z.note r x).ok.ln,cl:=λy m z=>O.cl y (λw=>m (sb y w)) z }
 ·have C:=p.cv
  exact { C with ns:=ah (ins · n) e1,nd:=ah (ins · n) p.cv.nd,pins:=ah (ins · n) e3 }
theorem KL{b':List UInt8}:(h.cB n b).cB n b'=h.cB n b':=ah (λc=>({ h with c:=c }:Lo g)) (funext λk=>by show upd (upd h.c n b) n b' k=upd h.c n b' k;unfold upd;split<;>rfl)
theorem Gh : h.cB n (h.c n)=h:=ah (λc=>({ h with c:=c }:Lo g)) (funext λk=>by unfold upd;split;(rename_i e;exact ae e▸rfl);rfl)
theorem MD : Le (Lw h F) (Lw (h.cB n (h.c n)) F):=λ_ s=>Gh.symm▸s
theorem MG(nd:h.row.Nodup)(r:n∈h.row):Ba (λb=>Lw (h.cB n b) F) (h.bn n).r:=
 ⟨λb=>by have:=Lw.hasB (h:=h.cB n b) (F:=F) r;rwa [show (h.cB n b).c n=b from if_pos rfl] at this,λb b'=>by have:=Lw.GB (h:=h.cB n b) (F:=F) (b:=b') nd r;rwa [KL] at this⟩
end
noncomputable def AQ(nb:Int):List (String×MV):=[("block", .int 64),("blocks", .int nb),("inodes", .int 4),("log", .int 10),("direct", .int 2),("row", .int 24),("rows", .int 2),("indirect", .int 16),("log_start", .int 2),("inode_start", .int 12),("bitmap_start", .int 14),("data_start", .int 15)]
noncomputable def J6(g:En):List (String×MV):=[("journal", .ref (g.a 9)),("cache", .ref (g.a 5)),("super", .ref (g.a 13)),("table", .ref (g.a 17))]
noncomputable def MB(g:En)(l sz:Nat):List (String×MV):=[("nodes", .ref (g.a 15)),("number", .int 1),("holders", .int 1),("kind", .int 1),("major", .int 0),("minor", .int 0),("links", .int l),("size", .int sz),("places", .ref (g.a 20))]
noncomputable def er(n:Nat):MV:= .int n
noncomputable def Up(g:En)(l sz:Nat)(ps:List Nat)(F:List Cell):List Cell:=(g.a 13, .inst eG (g.a 14))::(g.a 14, .ns (AQ g.nb))::(g.a 15, .inst jL (g.a 16))::(g.a 16, .ns (J6 g))::(g.a 17, .bS [(1, .ref (g.a 18))])::
 (g.a 18, .inst ly (g.a 19))::(g.a 19, .ns (MB g l sz))::(g.a 20, .list (ps.map er))::(g.a 21, .inst n9 (g.a 22))::(g.a 22, .ns [("nodes", .ref (g.a 15))])::F
inductive UO(g:En)(l sz:Nat):LA->Addr->List (String×MV)->Prop where
 |p : UO g l sz (g.a 13) eG (AQ g.nb)
 |n : UO g l sz (g.a 15) jL (J6 g)
 |d : UO g l sz (g.a 18) ly (MB g l sz)
 |w : UO g l sz (g.a 21) n9 [("nodes", .ref (g.a 15))]
section
variable {m i:Nat}{g:En}{h:Lo g}{F:List Cell}{R:MV->As->Prop}{T:MF->Loc->As->Prop}{E:Addr->As->Prop}{n:Int}{loc:Loc}{s:Ck}{S:As}{b:List UInt8}{X:List Int}{l sz:Nat}{ps:List Nat}{x:LA}{C:Addr}{fs:List (String×MV)}
theorem Lw.up(u:UO g l sz x C fs):Obj (Lw h (Up g l sz ps F)) x C fs:=by
 induction u with
 |p=>exact Lw.kz (i:=0) rfl rfl
 |n=>exact Lw.kz (i:=2) rfl rfl
 |d=>exact Lw.kz (i:=5) rfl rfl
 |w=>exact Lw.kz (i:=8) rfl rfl
theorem Lw.K7 : dP (Lw h (Up g l sz ps F)) (g.a 20) (.list (ps.map er)):=Lw.cH (i:=7) rfl
variable {a b:IR}{v:MV}{k:Nat}{G:List Cell}
noncomputable abbrev w7 : IR:= .am (.aa 0) "cache"
noncomputable abbrev wY(x:String):IR:= .am (.am (.aa 0) "super") x
theorem dx{y:String}(h0:loc[0]?=some (some (.ref (g.a 15))))(e:(AQ g.nb).lookup y=some v)(e2:tab.am eG y=true):PE loc (Lw h (Up g l sz ps F)) (wY y) v:= .am (.am (.aa h0) (Lw.up .n) rfl rfl) (Lw.up .p) e2 e
theorem eF(hk:loc[k]?=some (some (.ref (h.bn n).l)))(p:Jn s (some n) h):PE loc (Lw h G) (.am (.aa k) "data") (.ref (h.bn n).r):= .am (.aa hk) (Lw.gg (p.ok.sI n p.hh)) rfl rfl
theorem has_data(p:Jn s (some n) h)(e:12<=n){d:List UInt8}(hd:s.c n=d):dP (Lw h G) (h.bn n).r (.bW d):=by refine hd▸(show h.c n=s.c n from p.cv.c n e)▸ ?_;exact Lw.hasB (p.ok.sI n p.hh)
theorem m8(e:Le S (Js g s (Up g l sz ps F)))(h0:loc[0]?=some (some (.ref (g.a 15))))(ha:∀h : Lo g,PE loc (Lw h (Up g l sz ps F)) a (.int n))(r:12<=n/\n < g.nb)(hi:Nat.blt k loc.length=true)
  (q:∀h : Lo g,Jh s n h->Wp E (Lw h (Up g l sz ps F)) (loc.set k (some (.ref (h.bn n).l))) T (dn (m+3) b).s):Wp E S loc T (dn (m+3) (.cons (.asg (.aa k) (.aO w7 "get" (.cons a .nil))) b)).s:=
 dQ e λh p=>de hi (bT (.am (.aa h0) (Lw.up .n) rfl rfl) (Lw.obj .c) rfl rfl (.cons (ha h) .nil) (B9 (Vs.at p) r q))
theorem ye(p:Jn s (some n) h)(Z:Zo g X s)(r:12<=n/\n < g.nb)(x:n∈12::14::17::X)(h0:loc[0]?=some (some (.ref (g.a 15))))(hk:loc[k]?=some (some (.ref (h.bn n).l)))
  (q:Jh (s.note n) n (h.ru n)->Wp E (Lw (h.ru n) (Up g l sz ps F)) loc T (dn (m+3) b).s):Wp E (Lw h (Up g l sz ps F)) loc T (dn (m+3) (.cons (.expr (.aO (.am (.aa 0) "journal") "write" (.cons (.aa k) .nil))) b)).s:=
 bY (bT (.am (.aa h0) (Lw.up .n) rfl rfl) (Lw.obj .j) rfl rfl (.cons (.aa hk) .nil) (Gl p Z r x q))
theorem o5(p:Jh s n h)(h0:loc[0]?=some (some (.ref (g.a 15))))(hk:loc[k]?=some (some (.ref (h.bn n).l)))
  (q:∀S',Le S' (Js g s (Up g l sz ps F))->Wp E S' loc T (dn (m+2) b).s):Wp E (Lw h (Up g l sz ps F)) loc T (dn (m+2) (.cons (.expr (.aO w7 "release" (.cons (.aa k) .nil))) b)).s:=
 bY (bT (.am (.aa h0) (Lw.up .n) rfl rfl) (Lw.obj .c) rfl rfl (.cons (.aa hk) .nil) (oJ p q))
theorem uK{d:List UInt8}(p:Jn (s.put n d) (some n) h)(Z:Zo g X s)(r:12<=n/\n < g.nb)(x:n∈12::14::17::X)(h0:loc[0]?=some (some (.ref (g.a 15))))(hk:loc[k]?=some (some (.ref (h.bn n).l)))
  (q:∀S',Le S' (Js g (s.set n d) (Up g l sz ps F))->Wp E S' loc T (dn (m+3) b).s) :
  Wp E (Lw h (Up g l sz ps F)) loc T (dn (m+3) (.cons (.expr (.aO (.am (.aa 0) "journal") "write" (.cons (.aa k) .nil))) (.cons (.expr (.aO w7 "release" (.cons (.aa k) .nil))) b))).s:=
 ye p Z.put r x h0 hk λp=>o5 p h0 hk q
theorem gy{y:String}{f:Addr}{vs:List MV}{es:IR}(h0:loc[0]?=some (some (.ref (g.a 15))))(h3:(AQ g.nb).lookup y=none)(h4:tab.aO eG y=some f)(hl:PL loc (Lw h (Up g l sz ps F)) es vs)(q:Ct E R (Lw h (Up g l sz ps F)) f m (.ref (g.a 13)::vs)) :
  We E (Lw h (Up g l sz ps F)) loc R (dn m (.aO (.am (.aa 0) "super") y es)).e:=bT (.am (.aa h0) (Lw.up .n) rfl rfl) (Lw.up .p) h3 h4 hl q
theorem fL{y:String}{f:Addr}{vs:List MV}{es:IR}(h0:loc[0]?=some (some (.ref (g.a 15))))(h3:(J6 g).lookup y=none)(h4:tab.aO jL y=some f)(hl:PL loc (Lw h (Up g l sz ps F)) es vs)(q:Ct E R (Lw h (Up g l sz ps F)) f m (.ref (g.a 15)::vs)) :
  We E (Lw h (Up g l sz ps F)) loc R (dn m (.aO (.aa 0) y es)).e:=bT (.aa h0) (Lw.up .n) h3 h4 hl q
theorem t3{c d f:Nat}{u w x:MV}(h1:Nat.blt c loc.length=true)(h2:Nat.blt d loc.length=true)(h3:Nat.blt f loc.length=true){T:Unit->Loc->As->Prop}(q:T () (((loc.set c (some u)).set d (some w)).set f (some x)) S) :
  Wp E S loc T ((dn m (.tup (.cons (.aa c) (.cons (.aa d) (.cons (.aa f) .nil))))).t (.tup [u,w,x])):=
 iW rfl (c6 (bQ h1 (c6 (bQ (by exact ae cL▸(by assumption)) (c6 (bQ (by rwa [cL,cL]) (iZ q)))))))
theorem t2{c d:Nat}{u w:MV}(h1:Nat.blt c loc.length=true)(h2:Nat.blt d loc.length=true){T:Unit->Loc->As->Prop}(q:T () ((loc.set c (some u)).set d (some w)) S) :
  Wp E S loc T ((dn m (.tup (.cons (.aa c) (.cons (.aa d) .nil)))).t (.tup [u,w])):=
 iW rfl (c6 (bQ h1 (c6 (bQ (by exact ae cL▸(by assumption)) (iZ q)))))
end
noncomputable def f6 : List UInt8->Nat->List Nat->List UInt8
 |b,_,[]=>b
 |b,a,v::vs=>f6 (vu b a v) (a+2) vs
noncomputable def hw(v:Nat):List Nat:=[v % 65536,v / 65536 % 65536]
theorem iJ : ∀ {b:List UInt8}{a:Nat}{vs:List Nat},(f6 b a vs).length=b.length
 |_,_,[]=>rfl
 |b,a,v::vs=>(iJ (b:=vu b a v) (a:=a+2) (vs:=vs)).trans (dX ..)
theorem qC : ∀ {b:List UInt8}{a:Nat}{vs ws:List Nat},f6 b a (vs++ws)=f6 (f6 b a vs) (a+2 * vs.length) ws
 |_,_,[],_=>rfl
 |b,a,v::vs,ws=>by refine (ah _ List.cons_append).trans ?_;rw[f6];refine (qC).trans ?_;rw[cy];exact ah (f6 _ · _) (Nat.add_right_comm a 2 (2 * vs.length))
theorem BO{ps:List Nat}:(ps.flatMap hw).length=2 * ps.length:=by
 induction ps with
 |nil=>rfl
 |cons p ps ih=>((refine (ah _ List.flatMap_cons).trans ?_);refine (aA).trans ?_;refine (ah _ ih).trans ?_;rw[cy]);exact Nat.add_comm 2 _
theorem H8{b:List UInt8}{a i p:Nat}{ps:List Nat}(e:ps[i]?=some p):GM (f6 b a ((ps.take i).flatMap hw)) (a+4 * i) p=f6 b a ((ps.take (i+1)).flatMap hw):=by
 rw[bV,e,List.flatMap_append,qC,BO,bK,Nat.min_eq_left (by exact Nat.le_of_succ_le ((be.mp e).1))]
 rw[show a+2 * (2 * i)=a+4 * i from ah (a+·) (Nat.mul_assoc 2 2 i).symm];rfl
noncomputable def jp(l sz:Nat)(ps:List Nat):List Nat:=[1,0,0,l]++hw sz++ps.flatMap hw
section
variable {m i:Nat}{g:En}{h:Lo g}{F:List Cell}{R:MV->As->Prop}{T:MF->Loc->As->Prop}{E:Addr->As->Prop}{n:Int}{loc:Loc}{s:Ck}{S:As}{b:List UInt8}{X:List Int}{l sz:Nat}{ps:List Nat}{x:LA}{C:Addr}{fs:List (String×MV)}
theorem tC(ob:Obj S x eG (AQ n))(q:R (.tup [.int 12, .int 24]) S):Ct E R S 194 (m+1) [.ref x, .int 1]:=
 df pu (cC (v:= .tup [.int 12, .int 24]) (.tup (.cons (v:= .int 12) (.bin (.am (.aa rfl) ob rfl rfl) (.bin (.aa rfl) (.am (.aa rfl) ob rfl rfl) (.fdiv (show (2:Int)≠0/\(1:Int).natAbs < 2^60/\(2:Int).natAbs < 2^60 by decide))) .add) (.cons (v:= .int 24) (.bin (.bin (.aa rfl) (.am (.aa rfl) ob rfl rfl) (.mod (show (2:Int)≠0 by decide))) (.am (.aa rfl) ob rfl rfl) (.mul (show (1:Int).natAbs < 2^32/\(24:Int).natAbs < 2^32 by decide))) .nil)) (aj rfl)) q)
theorem Dx(q:R (.tup [.int 12, .int 24]) (Lw h (Up g l sz ps F))):Ct E R (Lw h (Up g l sz ps F)) 194 (m+1) [.ref (g.a 13), .int 1]:=tC (Lw.up .p) q
theorem AP(nd:h.row.Nodup)(r:n∈h.row)(hb:b.length=64)(hp:ps.length=3)(q:R .none (Lw (h.cB n (f6 b 24 (jp l sz ps))) (Up g l sz ps F))) :
  Ct E R (Lw (h.cB n b) (Up g l sz ps F)) 241 (m+3) [.ref (g.a 18), .ref (h.bn n).r, .int 24]:=by
 have B:=MG (F:=Up g l sz ps F) nd r
 refine fH pH ?_
 refine bY (cr (.cons (.aa rfl) (.cons (.aa rfl) (.cons (.am (.aa rfl) (Lw.up .d) rfl rfl) .nil))) ?_)
 refine eX B 1 24 rfl rfl (Nat.lt_of_lt_of_eq (by decide) hb.symm) (ad (aw hb) (by decide)) ?_
 refine bY (cr (.cons (.aa rfl) (.cons (.bin (.aa rfl) .ag .add) (.cons (.am (.aa rfl) (Lw.up .d) rfl rfl) .nil))) ?_)
 refine eX B 0 26 rfl rfl (by rw[dX];exact Nat.lt_of_lt_of_eq (by decide) hb.symm) (by rw[dX];exact ad (aw hb) (by decide)) ?_
 refine bY (cr (.cons (.aa rfl) (.cons (.bin (.aa rfl) .ag .add) (.cons (.am (.aa rfl) (Lw.up .d) rfl rfl) .nil))) ?_)
 refine eX B 0 28 rfl rfl (by simp only[dX];exact Nat.lt_of_lt_of_eq (by decide) hb.symm) (by simp only[dX];exact ad (aw hb) (by decide)) ?_
 refine bY (cr (.cons (.aa rfl) (.cons (.bin (.aa rfl) .ag .add) (.cons (.am (.aa rfl) (Lw.up .d) rfl rfl) .nil))) ?_)
 refine eX B l 30 rfl rfl (by simp only[dX];exact Nat.lt_of_lt_of_eq (by decide) hb.symm) (by simp only[dX];exact ad (aw hb) (by decide)) ?_
 refine bY (cr (.cons (.aa rfl) (.cons (.bin (.aa rfl) .ag .add) (.cons (.am (.aa rfl) (Lw.up .d) rfl rfl) .nil))) ?_)
 refine jg B sz 32 rfl rfl (by simp only[dX];exact Nat.lt_of_lt_of_eq (by decide) hb.symm) (by simp only[dX];exact ad (aw hb) (by decide)) ?_
 refine ae (show GM (vu (vu (vu (vu b 24 1) 26 0) 28 0) 30 l) 32 sz=f6 b 24 ([1,0,0,l]++hw sz) from rfl)▸ ?_
 have l0 : (f6 b 24 ([1,0,0,l]++hw sz)).length=64:=iJ.trans hb
 unfold jp at q
 rw[qC] at q
 revert q l0
 generalize f6 b 24 ([1,0,0,l]++hw sz)=b
 intro q hb
 refine dj (it:=λi=> .nT (g.a 20) i) (L:=ps.length) (I:=λi loc S=>∃x y,loc=[some (.ref (g.a 18)),some (.ref (h.bn n).r),some (.int 24),x,y]/\S=Lw (h.cB n (f6 b 36 ((ps.take i).flatMap hw))) (Up g l sz ps F)) ?_ rfl ?_ ?_
 ·exact nK (.am (.aa rfl) (Lw.up .d) rfl rfl) Lw.K7 (by rw[aq,hp];exact id (aj rfl)) ⟨rfl,_,_,rfl,rfl⟩
 ·rintro i loc S hi ⟨x,y,rfl,rfl⟩
  have e:=ay hi
  refine .mk (qZ Lw.K7 (by refine (bc).trans ?_;exact ah _ e)) (iW rfl (c6 (bQ rfl (c6 (bQ rfl (iZ ?_))))))
  refine bY (cr (.cons (.aa rfl) (.cons (.bin (.bin (.aa rfl) .glob .add) (.bin .ag (.aa rfl) (.mul (And.comm.mp (id (And.symm (by exact⟨by decide,az (ad (aL hi) (aw hp)) (by decide)⟩)))))) .add) (.cons (.aa rfl) .nil))) ?_)
  refine jg B ps[i] (36+4 * i) (Int.mem_toNat?.mp rfl) rfl (by refine ae iJ▸ ?_;exact Nat.lt_of_lt_of_eq (az (bD (bF (aG _) (dq _ (ad (aL hi) (aw hp)))) _) (by decide)) hb.symm) (by rw[iJ];exact ad (aw hb) (by decide)) ?_
  refine ae (H8 e)▸ ?_
  refine bh ?_
  exact⟨_,_,rfl,rfl⟩
 ·rintro loc S ⟨x,y,rfl,rfl⟩
  refine⟨by have:=mV (S:=Lw (h.cB n (f6 b 36 ((ps.take ps.length).flatMap hw))) (Up g l sz ps F)) (Lw.K7 (ps:=ps));rwa [aq] at this,bh ?_⟩
  refine ae List.take_length▸ ?_;exact q
theorem wH(hp:ps.length=3)(Z:Zo g X s)(e:Le S (Js g s (Up g l sz ps F)))(q:(s.c 12).length=64->∀S',Le S' (Js g (s.set 12 (f6 (s.c 12) 24 (jp l sz ps))) (Up g l sz ps F))->R .none S') :
  Ct E R S 347 (m+4) [.ref (g.a 15), .ref (g.a 18)]:=by
 refine ff e λh p=>df pE ?_
 have r12 : (12:Int)<=12/\12 < g.nb:=⟨by decide,by have:=Z.ok.nb;exact aN (by decide) this.2⟩
 refine ct (gy rfl rfl rfl (.cons (.am (.aa rfl) (Lw.up .d) rfl rfl) .nil) (Dx (t2 rfl rfl (m8 (Vs.at p) rfl (λ_=> .aa rfl) r12 rfl λh p=> ?_))))
 have ec:=p.j.cv.c 12 (by decide)
 have el : (h.c 12).length=64:=(p.j.ok.len 12).2
 refine bY (bT (.aa rfl) (Lw.up .d) rfl rfl (.cons (eF rfl p.j) (.cons (.aa rfl) .nil)) (pP MD (AP p.j.ok.nd (p.j.ok.sI 12 p.j.hh) el hp ?_)))
 rw[show h.c 12=s.c 12 from ec] at *
 exact uK (p.j.put (iJ.trans el)) Z r12 (aV ..) rfl rfl λS' e=>bh (q el S' e)
end
noncomputable def bm(t:Nat):List UInt8:=(List.range 64).map λi=>((2^(15+t) - 1) / 2^(8 * i) % 256).toUInt8
noncomputable def De(j:Nat):Int:=((15+j) / 8 : Nat)
noncomputable def zU(j:Nat):Int:=(2^((15+j) % 8):Nat)
theorem kh{t:Nat}:(bm t).length=64:=by rfl
theorem Ig : ∀j : Fin 6,(Int.fdiv (Int.fdiv (15+j.val : Nat) (2^(3:Int).toNat)) 64=0/\Int.fmod (Int.fdiv (15+j.val : Nat) (2^(3:Int).toNat)) 64=De j.val)/\(1 * 2^(Builtin.bitAnd ((15+j.val : Nat):Int) 7).toNat : Int)=zU j.val/\0<=Builtin.bitAnd ((15+j.val : Nat):Int) 7/\Builtin.bitAnd ((15+j.val : Nat):Int) 7<=1000/\(Int.fdiv (15+j.val : Nat) (2^(3:Int).toNat)).natAbs < 2^60:=by decide +kernel
theorem xh : ∀t : Fin 7,∀j : Fin 6,(Builtin.bitAnd ((bm t.val).getD (De j.val).toNat 0).toNat (zU j.val)==0)=decide (t.val<=j.val)/\De j.val < 64/\0<=De j.val:=by decide +kernel
theorem H6 : ∀t : Fin 6,Builtin.bitOr ((bm t.val).getD (De t.val).toNat 0).toNat (zU t.val) < 256/\0<=Builtin.bitOr ((bm t.val).getD (De t.val).toNat 0).toNat (zU t.val)/\(bm t.val).set (De t.val).toNat (Builtin.bitOr ((bm t.val).getD (De t.val).toNat 0).toNat (zU t.val)).toNat.toUInt8=bm (t.val+1):=by decide +kernel
section
variable {m i t j:Nat}{g:En}{h:Lo g}{F:List Cell}{R:MV->As->Prop}{T:MF->Loc->As->Prop}{E:Addr->As->Prop}{n:Int}{loc:Loc}{s:Ck}{S:As}{X:List Int}{l sz:Nat}{ps:List Nat}{a b:IR}
theorem Dt(h:We E S loc (λv S1=>pZ (lL v) λp=>Br p (We E S1 loc R (dn m b).e) (R v S1)) (dn m a).e):We E S loc R (dn m (.and a b)).e:=by
 refine λσ s Q X k x=>h σ s _ X (λv σ1 S1 s1 ⟨t,g⟩=>t.ok ?_) x
 rename_i p
 cases p
 ·exact k _ _ S1 s1 (g.f rfl)
 ·exact g.t rfl σ1 s1 Q X k x
theorem Lz{v:MV}{vs:List MV}(h:Nat.ble vs.length 1000=true):AJ S (.tup (v::vs)) (.int 0) v:= .tup ⟨by decide,aX.mpr (Nat.zero_lt_succ _),ad (Nat.succ_le_succ (aj h)) (by decide)⟩ rfl
theorem EU(h:We E S loc (λv S1=>pZ (λvs=>v= .tup vs/\(Nat.ble 1 vs.length&&Nat.ble vs.length 100000)=true) λvs=>R (.tup (vs.drop 1)) S1) (dn m a).e):We E S loc R (dn m (.slice a (.ag (.int 1)) .nil)).e:=
 λσ s Q X k x=>h σ s _ X (λv σ1 S1 s1 zz=>by obtain⟨e,q⟩:=zz;obtain⟨rfl,e⟩:=e;have e:=an.mp e;exact⟨_,_, .int 1, .no, .tup rfl rfl ⟨aj e.1,aj e.2⟩ (k _ _ S1 s1 q)⟩) x
theorem ku(hj:j < 6)(q:R (.tup [.int 14, .int (De j), .int (zU j)]) (Lw h (Up g l sz ps F))):Ct E R (Lw h (Up g l sz ps F)) 201 (m+1) [.ref (g.a 13), .int (15+j : Nat)]:=by
 refine ip (Ig ⟨j,hj⟩) λzo0_ e3 e4=> ?_;have e2:=zo0_.2
 rw[<-e2,<-e3,show (14:Int)=14+Int.fdiv (Int.fdiv (15+j : Nat) (2^(3:Int).toNat)) 64 by refine ae zo0_.1▸ ?_;rfl] at q
 refine df pM ?_
 refine gA (.bin (.aa rfl) .ag (.shr (by exact Int.zero_le_ofNat 3))) rfl (cC (.tup (.cons (.bin (.am (.aa rfl) (Lw.up .p) rfl rfl) (.bin (.aa rfl) (.am (.aa rfl) (Lw.up .p) rfl rfl) (.fdiv (by exact And.symm ((λ{a b}=>And.comm.mp) (⟨by decide,e4.2.2,by decide⟩))))) .add) (.cons (.bin (.aa rfl) (.am (.aa rfl) (Lw.up .p) rfl rfl) (.mod (by unfold Nm;decide))) (.cons (.bin .ag (.bin (.aa rfl) .ag .band) (.shl (by exact And.symm ((λ{a b}=>And.comm.mp) (⟨e4.1,e4.2.1,by decide⟩))))) .nil))) (aj rfl)) ?_)
 exact q
theorem xU{r:LA}(e:dP (Lw h (Up g l sz ps F)) r (.bW (bm t)))(ht:t < 7)(nb:(15+t : Nat)<=g.nb/\g.nb<=21)(q:R (.int (15+t : Nat)) (Lw h (Up g l sz ps F))) :
  Ct E R (Lw h (Up g l sz ps F)) 382 (m+2) [.ref (g.a 15), .ref r, .int 14, .int 15]:=by
 refine kX nH (we (I:=λk loc S=>∃j,(j+k=t+1/\j<=t)/\Fr [some (.ref (g.a 15)),some (.ref r),some (.int 14),some (.int (15+j : Nat))] 3 loc/\S=Lw h (Up g l sz ps F)) (t+1) ⟨0,⟨bZ _,bC _⟩, .of rfl rfl,rfl⟩ (λ_ _ zz=>(by refine aT zz λ_ zo1_ _=> ?_;refine dA zo1_ λa b=> ?_;exact Nat.not_succ_le_self _ (ad (aw a.symm) b))) ?_)
 rintro k loc S ⟨j,⟨hk,hj⟩,⟨x⟩,rfl⟩
 refine eY (.cmp (.aa rfl) (dx rfl rfl rfl) .lt) ⟨λb=> ?_,λb=> ?_⟩
 ·have j6 : j < 6:=iV (n:=15) (aX.mp (aN (aF b) nb.2))
  refine dA (xh ⟨t,ht⟩ ⟨j,j6⟩) λe1 e2=> ?_
  refine ct (gy rfl rfl rfl (.cons (.aa rfl) .nil) (ku j6 (t3 rfl rfl rfl (iC (.or (.cmp (.aa rfl) (.aa rfl) .ne) (.cmp (.bin (.item (.aa rfl) (.aa rfl) (.ref e (.ba ⟨e2.2,kh▸e2.1,kh▸aj rfl⟩))) (.aa rfl) .band) .ag .lD)) (λb=> ?_) λb=> ?_))))
  ·obtain rfl : j=t:=Nat.le_antisymm hj (aF (e1.symm.trans b))
   exact cC (.aa rfl) q
  ·have b:=Nat.lt_of_not_le (br (e1.symm.trans b))
   exact gA (.bin (.aa rfl) .ag .add) rfl (bh ⟨j+1,⟨(Nat.succ_add_eq_add_succ ..).trans hk,b⟩, .of rfl rfl,rfl⟩)
 ·obtain rfl : j=t:=Nat.le_antisymm hj (Nat.le_of_add_le_add_left (a:=15) (aW.mp (bp nb.1 (cZ.mp (br b)))))
  exact cC (.aa rfl) q
theorem FF(Z:Zo g X s)(r:12<=n/\n < g.nb)(x:n∈12::14::17::X)(e:Le S (Js g s (Up g l sz ps F)))(q:∀S',Le S' (Js g (s.set n zeros) (Up g l sz ps F))->R .none S'):Ct E R S 389 (m+4) [.ref (g.a 15), .int n]:=by
 refine df kj (m8 e rfl (λ_=> .aa rfl) r rfl λh p=> ?_)
 exact bY (bT (.aa rfl) (Lw.gg (p.j.ok.sI n p.j.hh)) rfl rfl .nil (EI p.j.ok.nd (p.j.ok.sI n p.j.hh) (p.j.ok.len n).2 (uK (p.j.put rfl) Z r x rfl rfl λS' e=>bh (q S' e))))
theorem iY(Z:Zo g X s)(hc:s.c 14=bm t)(ht:t < 6)(nb:(15+t : Nat)<=g.nb)(x:((15+t : Nat):Int)∈12::14::17::X)(e:Le S (Js g s (Up g l sz ps F)))
  (q:(15+t : Nat) < g.nb->∀S',Le S' (Js g ((s.set 14 (bm (t+1))).set (15+t : Nat) zeros) (Up g l sz ps F))->R (.int (15+t : Nat)) S')(q':(15+t : Nat)=g.nb->∀S',Le S' (Js g s (Up g l sz ps F))->E qg S') :
  Ct E R S 375 (m+5) [.ref (g.a 15)]:=by
 have n21:=Z.ok.nb
 have r14 : (12:Int)<=14/\14 < g.nb:=by exact⟨by decide,aN (by decide) n21.2⟩
 have lt : ∀ {h:Lo g}{v:Nat}{L:Loc},L[0]?=some (some (.ref (g.a 15)))->L[1]?=some (some (.int v))->PE L (Lw h (Up g l sz ps F)) (.cmp .Lt (.aa 1) (wY "blocks")) (.bool (decide ((v:Int) < g.nb))):=λa b=> .cmp (.aa b) (dx a rfl rfl) .lt
 have ltb : ∀ {h:Lo g}{v:Nat}{L:Loc},L[0]?=some (some (.ref (g.a 15)))->L[1]?=some (some (.int v))->PB L (Lw h (Up g l sz ps F)) (.cmp .Lt (.aa 1) (wY "blocks")) (decide ((v:Int) < g.nb)):=λa b=> .cmp (.aa b) (dx a rfl rfl) .lt
 refine ff e λh p=>dh kP (gA (dx rfl rfl rfl) rfl (pX 2 (i4 (eY (ltb (v:=15) rfl rfl) ⟨λ_=> ?_,λb=>absurd (br b) (λh=>h (aN (by decide) n21.2))⟩))))
 refine de rfl (uz (gy rfl rfl rfl (.cons (.aa rfl) .nil) (ku (j:=0) (by decide) (bq .ag (.mk (Lz rfl) (m8 (Vs.at p) rfl (λ_=> .aa rfl) r14 rfl λh p=> ?_))))))
 have hb:=has_data (G:=Up g l sz ps F) p.j (by decide) hc
 refine de rfl (fL rfl rfl rfl (.cons (eF rfl p.j) (.cons (.aa rfl) (.cons (.aa rfl) .nil))) (xU hb (Nat.lt_succ_of_lt ht) ⟨nb,n21.1⟩ (de rfl (Dt (bq (lt rfl rfl) (.mk .bool ⟨λb=> ?_,λb=> ?_⟩))))))
 ·have b:=aF b
  refine oh (uz (gy rfl rfl rfl (.cons (.aa rfl) .nil) (ku ht (bq .ag (.mk (Lz rfl) (bq (.aa rfl) (.mk .lD ?_)))))))
  refine jo (.aa (.aa rfl) .bool) rfl (ct (EU (gy rfl rfl rfl (.cons (.aa rfl) .nil) (ku ht (.mk ⟨rfl,rfl⟩ (t2 rfl rfl ?_))))))
  refine dA (xh ⟨t,Nat.lt_succ_of_lt ht⟩ ⟨t,ht⟩) λe1 e2=> ?_
  refine ip (H6 ⟨t,ht⟩) λe3 e4 e5=> ?_
  have ix : 0<=De t/\De t < (bm t).length/\(bm t).length<=100000:=by rw[kh];exact⟨e2.2,e2.1,by decide⟩
  refine ct (bq (.bin (.item (eF rfl p.j) (.aa rfl) (.ref hb (.ba ix))) (.aa rfl) .bor) (dW (eF rfl p.j) (.aa rfl) hb (.ba rfl ⟨ix.1,ix.2.1,ix.2.2,e4,e3⟩) (Lw.GB p.j.ok.nd (p.j.ok.sI 14 p.j.hh)) ?_))
  refine ae e5▸ ?_
  refine ye (p.j.put kh) Z.put r14 (aB _ (aV ..)) rfl rfl λp=>bh (o5 p rfl rfl λS' e=>jo (.aa (.aa rfl) .bool) rfl (dQ e λh p=> ?_))
  exact bY (fL rfl rfl rfl (.cons (.aa rfl) .nil) (FF (Z.set r14 (aB _ (aV ..))) ⟨bp (by decide) (aW.mpr (a9 15 t)),b⟩ x (Vs.at p) λS' e=>cC (.aa rfl) (q b S' e)))
 ·have b':=br b
  exact cO (.aa (.aa rfl) .bool) b (o5 p rfl rfl λS' e=>cO (.aa (.aa rfl) .bool) b (bh (dQ e λh p=>i4 (T:=_) (eY (ltb rfl rfl) ⟨λb=>absurd (aF b) b',λ_=>tL (q' (Int.le_antisymm nb (cZ.mp b')) _ (Vs.at p))⟩))))
end
section
variable {m i t j N:Nat}{g:En}{h:Lo g}{F:List Cell}{R:MV->As->Prop}{T:MF->Loc->As->Prop}{E:Addr->As->Prop}{n:Int}{loc:Loc}{s:Ck}{S:As}{X:List Int}{l sz:Nat}{ps:List Nat}{a b:IR}
theorem sB(hc:s.c 14=bm t)(ht:t<=N)(nb:g.nb=(15+N : Nat)/\1<=N/\N<=6)(e:Le S (Js g s (Up g l sz ps F)))(q:∀S',Le S' (Js g s (Up g l sz ps F))->R (.int (N - t : Nat)) S') :
  Ct E R S 403 (m+4) [.ref (g.a 15)]:=by
 have n60 : (15:Int) < g.nb/\g.nb - 15=(N:Nat)/\g.nb < 2^60/\ -(2^60)<=g.nb:=by rw[nb.1];exact⟨aX.mpr (Nat.lt_add_of_pos_right nb.2.1),(ah (λz:Nat=>(z:Int) - 15) (Nat.add_comm 15 N)).trans (Int.add_sub_cancel N 15),cU (aW.mpr (bb nb.2.2 15)) (by decide),bp (by decide) (bA _)⟩
 refine ff e λh p=>dh kq (gA .ag rfl ?_)
 refine dj (it:=hB 15 1 N) (L:=N) (I:=λi loc S=>Fr [some (.ref (g.a 15)),some (.int (i - t : Nat))] 5 loc/\Le S (Js g s (Up g l sz ps F))) ?_ rfl ?_ ?_
 ·refine yc (.cons (dx rfl rfl rfl) (.cons (dx rfl rfl rfl) .nil)) ⟨by decide,by decide,n60.2.2.2,n60.2.2.1⟩ ⟨?_, .of (by refine ae (Nat.zero_sub ..)▸ ?_;rfl) rfl,Vs.at p⟩
  refine ae (if_pos n60.1)▸ae n60.2.1▸ ?_;rfl
 ·rintro i loc S hi ⟨⟨x⟩,e⟩
  refine dA (xh ⟨t,az (ad ht nb.2.2) (by decide)⟩ ⟨i,(aC hi nb.2.2)⟩) λe1 e2=> ?_
  refine .mk (uN hi) ((show (15:Int)+i * 1=(15+i : Nat) by exact ah _ (Int.mul_one ..))▸bQ rfl (dQ e λh p=> ?_))
  refine ct (gy rfl rfl rfl (.cons (.aa rfl) .nil) (ku (aC hi nb.2.2) (t3 rfl rfl rfl (m8 (Vs.at p) rfl (λ_=> .aa rfl) (⟨by decide,nb.1▸aX.mpr (aC (by decide) (a9 15 N))⟩) rfl λh p=> ?_))))
  refine iC (.cmp (.bin (.item (eF rfl p.j) (.aa rfl) (.ref (has_data p.j (by decide) hc) (.ba ⟨e2.2,kh▸e2.1,kh▸aj rfl⟩))) (.aa rfl) .band) .ag .lD) (λb=> ?_) λb=> ?_
  ·have b:=aF (e1.symm.trans b)
   exact gA (.bin (.aa rfl) .ag .add) rfl (bh (o5 p rfl rfl λS' e=>bh ⟨.of (by rw[Nat.succ_sub b];rfl) rfl,e⟩))
  ·have b:=br (e1.symm.trans b)
   exact o5 p rfl rfl λS' e=>bh ⟨.of (by rw[Nat.sub_eq_zero_of_le (Nat.lt_of_not_le b),<-Nat.sub_eq_zero_of_le (Nat.le_of_not_le b)];rfl) rfl,e⟩
 ·rintro loc S ⟨⟨x⟩,e⟩
  exact⟨gz,cC (.aa rfl) (q S e)⟩
end
noncomputable def pl(t:Nat):List Nat:=[if 0 < t then 15 else 0,if 1 < t then 16 else 0,if 2 < t then 17 else 0]
noncomputable def vW(t:Nat):List UInt8:=GM (GM zeros 0 (if 3 < t then 18 else 0)) 4 (if 4 < t then 19 else 0)
noncomputable def need(i:Nat):Nat:=if i < 2 then i+1 else i+2
noncomputable def lN(i:Nat):Nat:=if i < 2 then 15+i else 16+i
structure Wo(t:Nat)(D:Nat->List UInt8)(s:Ck):Prop where
 b : s.c 14=bm t
 n : 3<=t->s.c 17=vW t
 d : ∀i,i < 4->need i<=t->s.c (lN i)=D i
noncomputable abbrev Ck.tk(s:Ck)(t:Nat):Ck:=(s.set 14 (bm (t+1))).set (15+t : Nat) zeros
theorem Ht : ∀ {t:Nat}(i:Fin 3),(pl t)[i.val]?=some (if i.val < t then 15+i.val else 0):=by intro t i;rcases (by decide:∀i : Fin 3,i=0∨i=1∨i=2) i with rfl | rfl | rfl<;>rfl
theorem HT : ∀ (i:Fin 3),(pl i.val).set i.val (15+i.val)=pl (i.val+1):=by decide +kernel
theorem ED{t:Nat}(h:3<=t):pl (t+1)=pl t:=by unfold pl;simp only[show 0 < t+1/\0 < t/\1 < t+1/\1 < t/\2 < t+1/\2 < t by exact⟨Nat.lt_succ_of_le (ad (by decide) h),aC (by decide) h,Nat.lt_succ_of_le (ad (by decide) h),aC (by decide) h,Nat.lt_succ_of_le (ad (by decide) h),aC (by decide) h⟩,if_true]
theorem vy : ∀t < 7,∀i < 2,Kn (vW t) (4 * i)=(if 3+i < t then 18+i else 0)/\(vW t).length=64:=by decide +kernel
theorem Gd : ∀i : Nat,i < 2->((4:Int).natAbs < 2^32/\(i:Int).natAbs < 2^32)/\4 * i+3 < 64:=by decide +kernel
theorem DH : ∀i < 2,GM (vW (3+i)) (4 * i) (18+i)=vW (4+i):=by decide +kernel
theorem oI{α:Type}{f:Int->α}{n k:Int}{v:α}(h:k≠n):upd f n v k=f k:=if_neg h
theorem Bw{α:Type}{f:Int->α}{n:Int}{v:α}:upd f n v n=v:=if_pos rfl
section
variable {m i t j N:Nat}{g:En}{h:Lo g}{F:List Cell}{R:MV->As->Prop}{T:MF->Loc->As->Prop}{E:Addr->As->Prop}{n:Int}{loc:Loc}{s:Ck}{S:As}{X:List Int}{l sz:Nat}{ps:List Nat}{a b:IR}{D:Nat->List UInt8}{k:Bool}
theorem Hl{k:Int}:(s.tk t).c k=if k=(15+t : Nat) then zeros else if k=14 then bm (t+1) else s.c k:=rfl
theorem Wo.tk{s':Ck}(W:Wo t D s)(hz:∀i,i < 4->need i=t+1->D i=zeros)(hs:∀k,k=17∨s'.c k=(s.tk t).c k)(n:3<=t+1->s'.c 17=vW (t+1)):Wo (t+1) D s' where
 b:=by rw[(hs 14).resolve_left (by decide),Hl];exact (if_neg (Int.ne_of_lt (aN (by decide) (aW.mpr (a9 15 t)))))
 n:=n
 d i hi h:=by
  have : lN i≠17/\(lN i=15+t/\need i=t+1∨lN i≠15+t/\lN i≠14/\need i<=t):=by unfold lN need at *;split at h<;>simp only[*,if_true,if_false]<;>lia
  refine ((hs (lN i:Nat)).resolve_left λe=>this.1 (Int.ofNat.inj e)).trans ?_;refine (Hl).trans ?_
  rcases this.2 with ⟨e,e'⟩ | ⟨e,e2,e3⟩
  ·refine ae e▸ae (if_pos rfl)▸ ?_;exact (hz i hi e').symm
  ·refine ((if_neg (by exact Nat.ToInt.of_diseq rfl rfl e))).trans ?_;refine ((if_neg (by exact Nat.ToInt.of_diseq rfl rfl e2))).trans ?_;exact W.d i hi e3
theorem Zo.tk(Z:Zo g X s)(b:((15+t : Nat):Int) < g.nb)(x:((15+t : Nat):Int)∈12::14::17::X):Zo g X (s.tk t):=
 (Z.set ⟨by decide,by have:=Z.ok.nb;exact aN (by decide) this.2⟩ (aB _ (aV ..))).set ⟨bp (by decide) (aW.mpr (a9 15 t)),b⟩ x
theorem Lw.Jj{v:Nat}:Upd (Lw h (Up g l sz ps F)) (g.a 20) (.list ((ps.map er).set i (er v))) (Lw h (Up g l sz (ps.set i v) F)):=Lw.jJ (i:=7) rfl (by unfold Up;refine ae List.map_set▸ ?_;rfl)
theorem xE(nb:g.nb=(15+N : Nat)/\t<=N)(W:Wo t D s)(h3:3<=t/\t < 6)(hi:i < 2)(hk:3+i < t)(e:Le S (Js g s (Up g l sz (pl t) F)))(q:∀S',Le S' (Js g s (Up g l sz (pl t) F))->R (.int (18+i : Nat)) S'):Ct E R S 417 (m+6) [.ref (g.a 15), .int 17, .int i, .bool k]:=by
 refine dA (vy t (Nat.lt_succ_of_lt h3.2) i hi) λe1 e2=> ?_
 refine kX gb (m8 e rfl (λ_=> .aa rfl) (⟨by decide,nb.1▸aX.mpr ((aC (by decide) (bb (ad h3.1 nb.2) 15)))⟩) rfl λh p=> ?_)
 refine de rfl (cr (.cons (eF rfl p.j) (.cons (.bin .ag (.aa rfl) (.mul ((Gd i hi).1))) .nil)) (oO (.r (has_data p.j (by decide) (W.n h3.1))) (4 * i) rfl (e2▸((Gd i hi).2)) (e2▸by decide) ?_))
 refine ae e1▸ae (if_pos hk)▸ ?_
 exact o5 p rfl rfl λS' e=>cO (.and (.cmp (.aa rfl) .ag .lD) (.aa (.aa rfl) .bool)) (ah (·&&k) (beq_eq_false_iff_ne.mpr λz=>absurd (Int.ofNat.inj z) (Nat.ne_of_gt (aC (by decide) (a9 18 i))))) (cC (.aa rfl) (q S' e))
theorem Ez(Z:Zo g X s)(nb:g.nb=(15+N : Nat)/\3+i<=N)(W:Wo (3+i) D s)(hi:i < 2)(hx:((18+i : Nat):Int)∈X)(hz:D (i+2)=zeros)(e:Le S (Js g s (Up g l sz (pl (3+i)) F)))
  (q:∀s' S',4+i<=N->Zo g X s'->Wo (4+i) D s'->Le S' (Js g s' (Up g l sz (pl (4+i)) F))->R (.int (18+i : Nat)) S')
  (q':3+i=N->∀S',Le S' (Js g s (Up g l sz (pl (3+i)) F))->E qg S'):Ct E R S 417 (m+6) [.ref (g.a 15), .int 17, .int i, .bool true]:=by
 have h3 : 3<=3+i:=a9 3 i
 have h36 : 3+i < 6:=Nat.add_lt_add_left (Nat.lt_succ_of_lt hi) 3
 have r17 : (12:Int)<=17/\17 < g.nb:=⟨by decide,nb.1▸aX.mpr ((aC (by decide) (bb (ad h3 nb.2) 15)))⟩
 refine dA (vy (3+i) (Nat.lt_succ_of_lt h36) i hi) λe1 e2=> ?_
 have t1:=(Gd i hi).1;have t2:=(Gd i hi).2
 refine kX gb (m8 e rfl (λ_=> .aa rfl) r17 rfl λh p=> ?_)
 refine de rfl (cr (.cons (eF rfl p.j) (.cons (.bin .ag (.aa rfl) (.mul t1)) .nil)) (oO (.r (has_data p.j (by decide) (W.n h3))) (4 * i) rfl (e2▸t2) (e2▸by decide) ?_))
 refine ae e1▸ae (if_neg (Nat.lt_irrefl _))▸ ?_
 refine o5 p rfl rfl λS' e=> ?_
 have ex : ((15+(3+i):Nat):Int)=(18+i : Nat):=ah Nat.cast (Nat.add_assoc 15 3 i).symm
 have x1 : ((15+(3+i):Nat):Int)∈12::14::17::X:=ex▸aB _ (aB _ (aB _ hx))
 refine jo (.and (.cmp (.aa rfl) .ag .lD) (.aa (.aa rfl) .bool)) rfl (dQ e λh p=>de rfl (fL rfl rfl rfl .nil (iY Z W.b h36 (nb.1▸aW.mpr (bb nb.2 15)) x1 (Vs.at p) (λhb S' e=> ?_) λhb S' e=>q' (Nat.add_left_cancel (Int.ofNat.inj (hb.trans nb.1))) S' e)))
 refine m8 e rfl (λ_=> .aa rfl) r17 rfl λh p=> ?_
 have ec : h.c 17=vW (3+i):=(p.j.cv.c 17 (by decide)).trans (by refine (Hl).trans ?_;rw[if_neg (ex▸λe=>absurd (Int.ofNat.inj e) (bw (aC (by decide:17 < 18) (a9 18 i))))];exact W.n h3)
 refine bY (cr (.cons (eF rfl p.j) (.cons (.bin .ag (.aa rfl) (.mul t1)) (.cons (.aa rfl) .nil))) (pP (MD (n:=17)) ?_))
 refine ae ec▸ ?_
 refine jg (MG p.j.ok.nd (p.j.ok.sI 17 p.j.hh)) (18+i) (4 * i) rfl ex (e2▸t2) (e2▸by decide) ?_
 refine ae (DH i hi)▸ ?_
 have x17 : (17:Int)∈12::14::17::X:=aB _ (aB _ (aV ..))
 refine uK (p.j.put ((uh ..).trans (uh ..))) (Z.tk hb x1) r17 x17 rfl rfl λS' e=> ?_
 have qq:=q ((s.tk (3+i)).set 17 (vW (4+i))) S' (ad (aw (Nat.add_right_comm 3 1 i)) (iV (aX.mp (nb.1▸hb)))) ((Z.tk hb x1).set r17 x17) ?_ ?_
 ·rw[<-ex] at qq
  exact bh (cC (.aa rfl) qq)
 ·have e4 : 4+i=3+i+1:=Nat.add_right_comm 3 1 i
  refine ae e4▸ ?_
  refine W.tk (λj hj hn=> ?_) (λk=>(Decidable.em (k=17)).imp_right λq=>oI q) λ_=>by show upd (s.tk (3+i)).c 17 _ 17=_;exact Bw
  have:=(by decide +kernel : ∀i : Nat,i < 2->∀j : Nat,j < 4->need j=3+i+1->j=i+2) i hi j hj hn
  exact this▸hz
 ·have e4 : 4+i=3+i+1:=Nat.add_right_comm 3 1 i;refine e4.symm▸ae (ED h3)▸ ?_;exact e4▸e
end
noncomputable def IR.tl : IR->IR
 | .cons _ b=>b
 |_=> .fail
section
variable {m i j t N:Nat}{g:En}{h:Lo g}{F:List Cell}{R:MV->As->Prop}{T:MF->Loc->As->Prop}{E:Addr->As->Prop}{n:Int}{loc:Loc}{s:Ck}{S:As}{X:List Int}{l sz:Nat}{ps:List Nat}{a b:IR}{D:Nat->List UInt8}{k:Bool}
theorem PE.eq{v w:MV}(h:PE loc S a v)(e:v=w):PE loc S a w:=e▸h
theorem gM(hi:i < 3)(h1:loc[1]?=some (some (.ref (g.a 18))))(ha:PE loc (Lw h (Up g l sz (pl t) F)) a (.int i)):PE loc (Lw h (Up g l sz (pl t) F)) (.item (.am (.aa 1) "places") a) (er (if i < t then 15+i else 0)):=
 .item (.am (.aa h1) (Lw.up .d) rfl rfl) ha (.ref Lw.K7 (.list ⟨bA _,aX.mpr hi,aj rfl⟩ (by rw[bc];exact ah _ (Ht ⟨i,hi⟩))))
theorem vB(hi:i < 3)(h1:loc[1]?=some (some (.ref (g.a 18))))(ha:PE loc (Lw h (Up g l sz (pl i) F)) a (.int i)){T:Unit->Loc->As->Prop}(q:T () loc (Lw h (Up g l sz (pl (i+1)) F))) :
  Wp E (Lw h (Up g l sz (pl i) F)) loc T ((dn m (.item (.am (.aa 1) "places") a)).t (.int (15+i : Nat))):=
 dW (.am (.aa h1) (Lw.up .d) rfl rfl) ha Lw.K7 (.list ⟨bA _,aX.mpr hi,aj rfl⟩) (HT ⟨i,hi⟩▸Lw.Jj) q
theorem xS(q:R (.int 18) (Lw h (Up g l sz ps F))):Ct E R (Lw h (Up g l sz ps F)) 166 (m+1) [.ref (g.a 13)]:=
 dh ka (cC (.bin (.am (.aa rfl) (Lw.up .p) rfl rfl) (.am (.aa rfl) (Lw.up .p) rfl rfl) .add) ((q)))
theorem JI : ∀j : Nat,j < 2->need (j+2)=4+j/\lN (j+2)=18+j/\((j+2 : Nat):Int) - 2=j/\¬((j+2 : Nat):Int)≥18:=by decide +kernel
theorem rq(nb:g.nb=(15+N : Nat)/\t<=N)(h6:t < 6)(W:Wo t D s)(hi:i < 4)(hn:need i<=t)(e:Le S (Js g s (Up g l sz (pl t) F)))(q:∀S',Le S' (Js g s (Up g l sz (pl t) F))->R (.int (lN i:Nat)) S'):Ct E R S 410 (m+7) [.ref (g.a 15), .ref (g.a 18), .int i, .bool k]:=by
 refine ff e λh p=>kX hG (gA (dx rfl rfl rfl) rfl ?_)
 refine Or.elim (Nat.lt_or_ge i 2) (λi2=> ?_) λi2=> ?_
 ·have eb : lN i=15+i:=if_pos i2
  have en : need i=i+1:=if_pos i2
  have i3 : i < 3:=Nat.lt_succ_of_lt i2
  rw[eb] at q
  rw[en] at hn
  have it : i < t:=hn
  have pp : ∀ {L:Loc},L[1]?=some (some (.ref (g.a 18)))->L[2]?=some (some (.int i))->PE L (Lw h (Up g l sz (pl t) F)) (.item (.am (.aa 1) "places") (.aa 2)) (.int (15+i : Nat)):=λa b=>PE.eq (gM i3 a (.aa b)) (ah er (if_pos it))
  exact jo (.cmp (.aa rfl) (.aa rfl) .lt) (aZ (aX.mpr i2)) (cO (.and (.cmp (pp rfl rfl) .ag .lD) (.aa (.aa rfl) .bool)) (ah (·&&k) (beq_eq_false_iff_ne.mpr λz=>absurd (Int.ofNat.inj z) (Nat.ne_of_gt (aC (by decide) (a9 15 i))))) (cC (pp rfl rfl) (q _ (Vs.at p))))
 ·obtain⟨j,rfl⟩ : ∃j,i=j+2:=⟨i - 2,(Nat.sub_add_cancel i2).symm⟩
  have j2 : j < 2:=Nat.lt_of_add_lt_add_right hi
  refine ig (JI j j2) λen eb ej eg=> ?_
  rw[en] at hn
  rw[eb] at q
  have t3 : 3+j < t:=aC (az (aw (Nat.add_comm 3 j)) (Nat.add_comm 4 j▸Nat.lt_succ_self _)) hn
  have t2 : 2 < t:=az (ad (by decide) (a9 3 j)) t3
  have pp : ∀ {L:Loc},L[1]?=some (some (.ref (g.a 18)))->L[4]?=some (some (.int 2))->PE L (Lw h (Up g l sz (pl t) F)) (.item (.am (.aa 1) "places") (.aa 4)) (.int 17):=λa b=>PE.eq (gM (i:=2) (by decide) a (.aa b)) (ah er (if_pos t2))
  refine cO (.cmp (.aa rfl) (.aa rfl) .lt) (bz (cZ.mpr (aW.mpr i2))) (gG (ic (bq (.aa rfl) (gy rfl rfl rfl .nil (xS (.mk .ge ⟨λb=>absurd (aF b) eg,λ_=> ?_⟩))))))
  exact cO (.cmp (pp rfl rfl) .ag .lD) rfl (eT (fL rfl rfl rfl (.cons (pp rfl rfl) (.cons (PE.eq (.bin (.aa rfl) (.aa rfl) .sub) (ah MV.int ej)) (.cons (.aa rfl) .nil))) (xE nb W ⟨t2,h6⟩ j2 t3 (Vs.at p) q)))
theorem xH(Z:Zo g X s)(nb:g.nb=(15+N : Nat)/\t<=N)(h6:t < 6)(W:Wo t D s)(hi:i < 4)(hk:need i<=t∨k=true/\(t=i/\i < 3∨t=i+1/\2<=i)/\((lN i:Nat):Int)∈X/\D i=zeros)
  (e:Le S (Js g s (Up g l sz (pl t) F)))(q:∀s' t' S',(need i<=t/\t'=t∨(t < need i/\need i<=N)/\t'=need i)->Zo g X s'->Wo t' D s'->Le S' (Js g s' (Up g l sz (pl t') F))->R (.int (lN i:Nat)) S')
  (q':N < need i->∀s' S',Zo g X s'->Wo N D s'->Le S' (Js g s' (Up g l sz (pl N) F))->E qg S'):Ct E R S 410 (m+7) [.ref (g.a 15), .ref (g.a 18), .int i, .bool k]:=by
 refine Or.elim (Decidable.em (need i<=t)) (λhn=> ?_) λhn=> ?_
 ·exact rq nb h6 W hi hn e λS' e=>q s t S' (.inl ⟨hn,rfl⟩) Z W e
 obtain⟨rfl,ht,hx,hz⟩:=hk.resolve_left hn
 have n2:=Z.ok.nb
 refine ff e λh p=>kX hG (gA (dx rfl rfl rfl) rfl ?_)
 refine Or.elim (Nat.lt_or_ge i 2) (λi2=> ?_) λi2=> ?_
 ·have en : need i=i+1:=if_pos i2
  have eb : lN i=15+i:=if_pos i2
  have i3 : i < 3:=Nat.lt_succ_of_lt i2
  obtain rfl : t=i:=ht.elim And.left λh=>absurd i2 (iw.mpr h.2)
  rw[en] at q q';rw[eb] at q hx
  have hb : ((15+t : Nat):Int) < g.nb:=aN (aX.mpr (Nat.add_lt_add_left i2 15)) n2.2
  have x:=aB 12 (aB 14 (aB 17 hx))
  refine jo (.cmp (.aa rfl) (.aa rfl) .lt) (aZ (aX.mpr i2)) (jo (.and (.cmp (PE.eq (gM i3 rfl (.aa rfl)) (ah er (if_neg (Nat.lt_irrefl _)))) .ag .lD) (.aa (.aa rfl) .bool)) rfl ?_)
  refine ct (fL rfl rfl rfl .nil (iY Z W.b h6 (Int.le_of_lt hb) x (Vs.at p) (λ_ S' e=>dQ e λh p=>vB i3 rfl (.aa rfl) (bh (cC (PE.eq (gM i3 rfl (.aa rfl)) (ah er (if_pos (Nat.lt_succ_self t)))) ?_))) λhb'=>absurd hb (hb'▸Int.lt_irrefl _)))
  exact q _ (t+1) _ (.inr ⟨⟨Nat.lt_succ_self t,(iV (aX.mp (nb.1▸hb)))⟩,rfl⟩) (Z.tk hb x) (W.tk (λj hj hn=>((by decide +kernel : ∀t : Nat,t < 2->∀j : Nat,j < 4->need j=t+1->j=t) t i2 j hj hn)▸hz) (λ_=> .inr rfl) λh=>absurd i2 (iw.mpr (Nat.le_of_succ_le_succ h))) (Vs.at p)
 ·obtain⟨j,rfl⟩ : ∃j,i=j+2:=⟨i - 2,(Nat.sub_add_cancel i2).symm⟩
  have j2 : j < 2:=Nat.lt_of_add_lt_add_right hi
  refine ig (JI j j2) λen eb ej eg=> ?_
  rw[en] at q q' hn;rw[eb] at q hx
  refine cO (.cmp (.aa rfl) (.aa rfl) .lt) (bz (cZ.mpr (aW.mpr i2))) ?_
  refine gG (ic (bq (.aa rfl) (gy rfl rfl rfl .nil (xS (.mk .ge ⟨λb=>absurd (aF b) eg,λ_=> ?_⟩)))))
  have fin : ∀ {s' S' loc},t < 4+j->3+j<=N->Zo g X s'->Wo (3+j) D s'->Le S' (Js g s' (Up g l sz (pl (3+j)) F))->Fr [some (.ref (g.a 15)),some (.ref (g.a 18)),some (.int (j+2 : Nat)),some (.bool true),some (.int 2)] 0 loc->Wp E S' loc (λf _ S=>R (fZ f) S) (dn (m+6) fj.tl.tl.tl.tl).s:=by
   rintro s' S' _ h1 h5 Z' W' e ⟨_⟩
   exact dQ e λh p=>eT (fL rfl rfl rfl (.cons (PE.eq (gM (i:=2) (by decide) rfl (.aa rfl)) (ah er (if_pos (aC (by decide) (a9 3 j))))) (.cons (PE.eq (.bin (.aa rfl) (.aa rfl) .sub) (ah MV.int ej)) (.cons (.aa rfl) .nil)))
    (Ez Z' ⟨nb.1,h5⟩ W' j2 hx hz (Vs.at p) (λs'' S'' a=>q s'' (4+j) S'' (.inr ⟨⟨h1,a⟩,rfl⟩)) λb S'' e=>q' (az (aw b.symm) (Nat.add_lt_add_right (by decide) _)) s' S'' Z' (b▸W') (b▸e)))
  rcases Nat.lt_or_ge 2 t with t3 | t3
  ·obtain rfl : t=3+j:=ht.elim (λh=>absurd t3 (iw.mpr (h.1▸bH h.2))) λh=>h.1.trans (Nat.add_comm j 3)
   exact cO (.cmp (PE.eq (gM (i:=2) (by decide) rfl (.aa rfl)) (ah er (if_pos t3))) .ag .lD) rfl (fin (Nat.lt_of_not_le hn) nb.2 Z W (Vs.at p) (.of rfl rfl))
  ·obtain⟨rfl,rfl⟩ : t=2/\j=0:=ht.elim (λh=>have e : j=0:=Nat.le_zero.mp (Nat.le_of_add_le_add_right (bH h.2));⟨h.1.trans (ah (·+2) e),e⟩) λh=>absurd (ad (Nat.le_add_left 3 j) (h.1▸t3)) (by decide)
   refine jo (.cmp (gM (i:=2) (by decide) rfl (.aa rfl)) .ag .lD) rfl (cO (.not (.aa (.aa rfl) .bool)) rfl ?_)
   have x : ((15+2 : Nat):Int)∈12::14::17::X:=aB _ (aB _ (aV ..))
   refine ct (fL rfl rfl rfl .nil (iY (t:=2) Z W.b h6 n2.2 x (Vs.at p) (λhb S' e=>dQ e λh p=>vB (i:=2) (by decide) rfl (.aa rfl) (bh ?_)) λhb S' e=> ?_))
   ·exact fin (Nat.lt_of_not_le hn) (iV (aX.mp (nb.1▸hb))) (Z.tk hb x) (W.tk (λj hj hn=>absurd hn ((by decide +kernel : ∀j : Nat,j < 4->need j≠2+1) j hj)) (λ_=> .inr rfl) λ_=>rfl) (Vs.at p) (.of rfl rfl)
   ·obtain rfl : N=2:=Nat.add_left_cancel (Int.ofNat.inj (hb.trans nb.1)).symm
    exact q' (by decide) s S' Z W e
end
noncomputable def cat(D:Nat->List UInt8):List UInt8:=D 0++(D 1++(D 2++D 3))
theorem vL{D:Nat->List UInt8}(hD:∀i,(D i).length=64){i:Nat}(h:i < 4):∃r,(cat D).drop (64 * i)=D i++r:=by
 rcases (by decide:∀i < 4,i=0∨i=1∨i=2∨i=3) i h with rfl | rfl | rfl | rfl
 ·exact⟨_,rfl⟩
 ·exact⟨_,List.drop_left' (hD 0)⟩
 ·exact⟨D 3,by unfold cat;refine (aH ..)▸ ?_;exact List.drop_left' (by refine (aA).trans ?_;rw[hD,hD])⟩
 ·exact⟨[],by unfold cat;rw[<-aH,<-aH,cK];exact List.drop_left' (by refine (aA).trans ?_;rw[aA,hD,hD,hD])⟩
theorem BH{D:Nat->List UInt8}(hD:∀i,(D i).length=64){i p:Nat}(hi:i < 4)(hp:p<=64):(cat D).take (64 * i)++(D i).take p=(cat D).take (64 * i+p):=by
 refine cN (vL hD hi) λr e=> ?_
 rw[List.take_add,e,List.take_append_of_le_length (hD i▸hp)]
theorem JP : ∀p : Nat,p<=64->(clipAt 64 (0:Int)=0)/\clipAt 64 (p:Int)=p:=by decide +kernel
theorem FU{b:List UInt8}{p:Nat}(hb:b.length=64)(hp:p<=64):cut b (some 0) (some (p:Int))=b.take p:=by
 show (b.drop (clipAt b.length 0)).take (clipAt b.length p - clipAt b.length 0)=_
 refine ae hb▸ ?_;rw[(JP p hp).2];rfl
theorem JH : ∀i < 4,(((64 * i : Nat):Int).fmod 64=0/\((64 * i : Nat):Int).fdiv 64=i)/\((64:Int)≠0/\((64 * i : Nat):Int).natAbs < 2^60/\(64:Int).natAbs < 2^60)/\15<=lN i/\lN i < 15+need i:=by decide +kernel
noncomputable def Ho(sz i:Nat):Nat:=min 64 (sz - 64 * i)
theorem LM : ∀sz : Nat,sz<=256->∀i < 4,64 * i < sz->(if (sz:Int) - (64 * i : Nat) < 64 - 0 then (sz:Int) - (64 * i : Nat) else 64 - 0)=Ho sz i/\Ho sz i<=64/\(64 * i+Ho sz i=64 * (i+1)/\64 * i+Ho sz i<=sz∨64 * i+Ho sz i=sz):=by decide +kernel
theorem CK{i t N:Nat}{g:En}(nb:g.nb=(15+N : Nat)/\t<=N)(hi:i < 4)(h:need i<=t):12<=((lN i:Nat):Int)/\((lN i:Nat):Int) < g.nb:=by
 refine ig (JH i hi) λ_ _ a b=> ?_
 exact⟨aW.mpr (ad (by decide) a),nb.1▸aX.mpr (aC b (bb (ad h nb.2) 15))⟩
section
variable {m i j t N:Nat}{g:En}{h:Lo g}{F:List Cell}{R:MV->As->Prop}{T:MF->Loc->As->Prop}{E:Addr->As->Prop}{n:Int}{loc:Loc}{s:Ck}{S:As}{X:List Int}{l sz:Nat}{ps:List Nat}{a b lo hi:IR}{D:Nat->List UInt8}{k:Bool}{x:LA}{bs cs:List UInt8}
theorem Af{u z:MV}{i j:Option Int}{S':LA->As}(ho:PE loc S a (.ref x))(hl:PE loc S lo u)(hh:PE loc S hi z)(c:e9 u i)(d:e9 z j)(e:dP S x (.bW bs))(hb:bs.length<=100000)(nw:pW S (.bW (cut bs i j)) S')(q:∀r,R (.ref r) (S' r)):We E S loc R (dn m (.slice a lo hi)).e:=
 λσ s _ _ k _=>ho.ok s (hl.ok s (hh.ok s ((by refine aT (nw σ s) λr hr s'=> ?_;exact⟨_,_,c,d, .ba (e σ s) hb hr (k _ _ _ s' (q r))⟩))))
theorem Ep{S':As}{r:LA}(e:dP S r (.bW bs))(f:dP S x (.bW cs))(hl:bs.length<=100000/\cs.length<=100000)(u:Upd S r (.bW (bs++cs)) S')(q:R .none S'):We E S loc R (eK m (.builtin "bytearray.extend") [.ref r, .ref x]):=
 λσ s _ _ k _=>vC.ba (e σ s) (f σ s) hl (k _ _ S' (u σ s) q)
theorem H2(nb:g.nb=(15+N : Nat)/\t<=N)(h6:t < 6)(W:Wo t D s)(hD:∀i,(D i).length=64)(hs:sz<=256)(hz:∀i,64 * i < sz->need i<=t)(e:Le S (Js g s (Up g l sz (pl t) F)))(q:∀S',Le S' (Js g s (Up g l sz (pl t) F))->R (.bytes ((cat D).take sz)) S') :
  Ct E R S 424 (m+8) [.ref (g.a 15), .ref (g.a 18), .int 0, .int sz]:=by
 refine ff e λh pj=>kX rK (cO (.or (.cmp (.aa rfl) .ag .lt) (.cmp (.aa rfl) .ag .lt)) (bz (cZ.mpr (bA sz))) ?_)
 refine gA (PE.eq (.call (.cons (.am (.aa rfl) (Lw.up .d) rfl rfl) (.cons (.bin (.aa rfl) (.aa rfl) .add) .nil)) .min) (ah MV.int ((if_neg (Int.zero_add _▸Int.lt_irrefl _)).trans (Eq.refl (sz:Int))))) rfl ?_
 refine de rfl (cV (ci (wQ Lw.new λr=>pX 5 ?_)))
 have lt : ∀ {o},((cat D).take o).length<=100000:=λ{o}=>ad (List.length_take_le' ..) (by unfold cat;simp only[aA,hD];decide)
 have fin : ∀ {S loc o},o=sz->Fr [some (.ref (g.a 15)),some (.ref (g.a 18)),some (.int o),some (.int sz),some (.int sz),some (.ref r)] 4 loc->Le S (Js g s (Up g l sz (pl t) ((r, .bW ((cat D).take o))::F)))->Wp E S loc (λf _ S=>R (fZ f) S) (dn (m+7) (.cons (.ret (.call "bytes" (.type "bytes") (.cons (.aa 5) .nil))) .nil)).s:=by
  rintro S _ _ rfl ⟨_⟩ e
  exact dQ e λh p=>oN (.call (.cons (.aa rfl) .nil) (.oQ (Lw.cH (i:=10) rfl) lt)) (λ_ s=>Lw.sub (Lw.perm s (List.perm_middle (l₁:=Up g l _ (pl t) []) (l₂:=F))) (.cons _ (.refl _))) (q _ (Vs.at p))
 suffices all : ∀ (k i o:Nat)(loc:Loc)(S:As),i+k=4->(o=64 * i/\o<=sz∨o=sz)->Fr [some (.ref (g.a 15)),some (.ref (g.a 18)),some (.int o),some (.int sz),some (.int sz),some (.ref r)] 4 loc->Le S (Js g s (Up g l sz (pl t) ((r, .bW ((cat D).take o))::F)))->Wn loc S _ _ (k+1) E (m+7) _ from
  all 4 0 0 _ _ rfl (.inl ⟨rfl,bC _⟩) (.of rfl rfl) λσ s=>⟨h,pj,Lw.perm s (List.perm_middle (l₁:=Up g l sz (pl t) []) (l₂:=F)).symm⟩
 intro k
 induction k with
 |zero=>
  intro i o loc S hk ho hf e
  obtain rfl : i=4:=hk
  obtain rfl : o=sz:=ho.elim (λzz=>(by refine dA zz λa b=> ?_;exact Nat.le_antisymm b (a▸hs))) id
  have hf':=hf
  cases hf'
  exact i4 (eY (.cmp (.aa rfl) (.aa rfl) .lt) ⟨λb=>absurd (aF b) (Int.lt_irrefl _),λb=>fin rfl hf e⟩)
 |succ k ih=>
  intro i o loc S hk ho hf e
  have hf':=hf
  cases hf'
  refine i4 (eY (.cmp (.aa rfl) (.aa rfl) .lt) ⟨λb=>dQ e λh p'=> ?_,λb=>fin (ho.elim (λh=>Nat.le_antisymm h.2 (aW.mp (cZ.mp (br b)))) id) hf e⟩)
  have b:=aX.mp (aF b)
  refine dA (ho.resolve_right (bw b)) λzr0_ _=> ?_;subst zr0_
  have hi4 : i < 4:=Nat.lt_of_mul_lt_mul_left (aC b hs)
  have hn:=hz i b
  refine ip (JH i hi4) λzo0_ t1 _=> ?_;have e2:=zo0_.2
  refine ip (LM sz hs i hi4 b) λep hp hp2=> ?_
  have hb:=CK nb hi4 hn
  refine gA (PE.eq (.bin (.aa rfl) (dx rfl rfl rfl) (.mod t1.1)) (ah MV.int zo0_.1)) rfl ?_
  refine gA (PE.eq (.call (.cons (.bin (dx rfl rfl rfl) (.aa rfl) .sub) (.cons (.bin (.aa rfl) (.aa rfl) .sub) .nil)) .min) (ah MV.int ep)) rfl ?_
  refine de rfl (fL rfl rfl rfl (.cons (.aa rfl) (.cons (PE.eq (.bin (.aa rfl) (dx rfl rfl rfl) (.fdiv t1)) (ah MV.int e2)) (.cons .ag .nil))) ?_)
  refine rq nb h6 W hi4 hn (Vs.at p') λS' e'=> ?_
  refine s0 (eY (.cmp (.aa rfl) .ag .lD) ⟨λb=>absurd ((eq_of_beq b).symm▸hb.1) (by decide),λ_=>m8 e' rfl (λ_=> .aa rfl) hb rfl λh p1=> ?_⟩)
  refine bY (cM (.aa rfl) (gO (Lw.cH (i:=10) rfl) (.ba rfl)) (bj (Af (i:=some 0) (j:=some ((Ho sz i:Nat):Int)) (eF rfl p1.j) (.aa rfl) (PE.eq (.bin (.aa rfl) (.aa rfl) .add) (ah MV.int (Int.zero_add _))) (.int 0) (.int _) (has_data p1.j hb.1 (W.d i hi4 hn)) (hD i▸by decide) Lw.new λx=>ci ?_)))
  refine Ep (Lw.cH (i:=11) rfl) (Lw.cH (i:=0) rfl) ⟨lt,ad (yT ..) (hD i▸by decide)⟩ (Lw.jJ (i:=11) rfl rfl) ?_
  refine fN (S1:=Lw h (Up g l sz (pl _) ((r, .bW ((cat D).take (64 * i+Ho sz i)))::F))) (λ_ s=>Lw.sub ((FU (hD i) hp▸BH hD hi4 hp)▸s) (.cons _ (.refl _))) ?_
  exact o5 p1 rfl rfl λS' e=>bh (gA (.bin (.aa rfl) (.aa rfl) .add) rfl (bh (ih (i+1) _ _ _ ((Nat.succ_add_eq_add_succ ..).trans hk) hp2 (.of rfl rfl) e)))
end
inductive Hd(C:Addr)(q:MV->Prop):List (String×Addr×MV)->Prop
 |hit {x D v r} (e:tab.nU C D=some true)(h:q v):Hd C q ((x,D,v)::r)
 |next {x D v r} (e:tab.nU C D=some false)(h:Hd C q r):Hd C q ((x,D,v)::r)
noncomputable def Ca(D:Nat->List UInt8)(r:Nat)(b:List UInt8)(j:Nat):List UInt8:=if j=r / 4 then (D (r / 4)).take (16 * (r % 4))++b++(D (r / 4)).drop (16 * (r % 4)+16) else D j
theorem Kc : ∀r < 16,(((16 * r : Nat):Int).fmod 64=(16 * (r % 4):Nat)/\((16 * r : Nat):Int).fdiv 64=(r / 4 : Nat))/\((64:Int)≠0/\((16 * r : Nat):Int).natAbs < 2^60/\(64:Int).natAbs < 2^60)/\(if (16:Int) - 0 < 64 - (16 * (r % 4):Nat) then (16:Int) - 0 else 64 - (16 * (r % 4):Nat))=16/\r / 4 < 4:=by decide +kernel
theorem Ml : ∀k < 4,clipAt 64 ((16 * k : Nat):Int)=16 * k/\clipAt 64 (((16 * k : Nat):Int)+16)=16 * k+16/\max (16 * k) (16 * k+16)=16 * k+16:=by decide +kernel
theorem Ds : ∀i < 4,lN i≠14/\lN i≠17/\lN i≠12/\∀j < 4,lN j=lN i->j=i:=by decide +kernel
theorem xi{d b:List UInt8}(hd:d.length=64){k:Nat}(hk:k < 4):gf d (some ((16 * k : Nat):Int)) (some (((16 * k : Nat):Int)+16)) b=d.take (16 * k)++b++d.drop (16 * k+16):=by
 refine ip (Ml k hk) λe1 e2 e3=> ?_
 show d.take (clipAt d.length _)++b++d.drop (max (clipAt d.length _) (clipAt d.length _))=_
 exact ae hd▸ae e1▸ae e2▸ae e3▸rfl
theorem GG{b:List UInt8}(hb:b.length=16):cut b (some 0) (some (0+16))=b:=by
 show (b.drop (clipAt b.length 0)).take (clipAt b.length 16 - clipAt b.length 0)=_
 refine ae hb▸ ?_;exact cF (aw hb)
theorem F6{d b:List UInt8}(hd:d.length=64)(hb:b.length=16){k:Nat}(hk:k < 4):(d.take (16 * k)++b++d.drop (16 * k+16)).length=64:=by
 refine (aA).trans ?_;rw[aA,bK];refine (ah _ List.length_drop).trans ?_;refine ae hd▸ae hb▸ ?_;exact (by decide:∀k : Nat,k < 4->min (16 * k) 64+16+(64 - (16 * k+16))=64) k hk
section
variable {m i j t N r:Nat}{g:En}{h:Lo g}{F:List Cell}{R:MV->As->Prop}{T:MF->Loc->As->Prop}{E:Addr->As->Prop}{n:Int}{loc:Loc}{s:Ck}{S:As}{X:List Int}{l sz:Nat}{ps:List Nat}{a b c:IR}{D:Nat->List UInt8}{k:Bool}{x:LA}{bs cs d:List UInt8}
theorem Hd.ok{C:Addr}{q:MV->Prop}{hs:List (String×Addr×MV)}{loc:Loc}{σ:MH}{Q:MF->Loc->MH->Prop}(h:Hd C q hs)(k:∀v,q v->Q (.ret v) loc σ):vK tab.nU C loc σ Q (hs.map (·.2)):=by
 induction h with
 |hit e h=>exact .hit e (k _ h)
 |next e _ ih=>exact .next e ih
theorem GW{hs:List (String×Addr×MV)}(h:Wp (λC S1=>Hd C (λv=>∀l,T (.ret v) l S1) hs) S loc (xM m b T E) (dn m a).s):Wp E S loc T (dn m (.cons (.DZ hs a) b)).s:=
 λσ s _ _ k x=>h σ s _ _ (qX k x) λ_ l σ' S1 s1 hd=>hd.ok λv q=>k _ l σ' S1 s1 (q l)
theorem Wo.put(W:Wo t D s)(hi:i < 4):Wo t (λj=>if j=i then d else D j) (s.set (lN i) d):=by
 refine ig (Ds i hi) λh1 h2 _ h3=> ?_
 refine⟨(oI λe=>h1 (Int.ofNat.inj e).symm).trans W.b,λh=>(oI λe=>h2 (Int.ofNat.inj e).symm).trans (W.n h),λj hj hn=> ?_⟩
 by_cases q : j=i
 ·rw[q,if_pos rfl];exact Bw
 ·rw[if_neg q];exact (oI λe=>q (h3 j hj (Int.ofNat.inj e))).trans (W.d j hj hn)
theorem uV(Z:Zo g X s)(nb:g.nb=(15+N : Nat)/\t<=N)(h6:t < 6)(W:Wo t D s)(hD:∀i,(D i).length=64)(hr:r < 16)(hb:bs.length=16)(hx:((lN (r / 4):Nat):Int)∈X)
  (hk:need (r / 4)<=t∨(t=r / 4/\r / 4 < 3∨t=r / 4+1/\2<=r / 4)/\D (r / 4)=zeros)(e:Le S (Js g s (Up g l sz (pl t) F)))
  (q:∀s' t' S',(need (r / 4)<=t/\t'=t∨(t < need (r / 4)/\need (r / 4)<=N)/\t'=need (r / 4))->Zo g X s'->Wo t' (Ca D r bs) s'->Le S' (Js g s' (Up g l sz (pl t') F))->R (.int 16) S')
  (q':N < need (r / 4)->∀s' S',Zo g X s'->Wo N D s'->Le S' (Js g s' (Up g l sz (pl N) F))->R (.int 0) S'):Ct E R S 438 (m+8) [.ref (g.a 15), .ref (g.a 18), .int (16 * r : Nat), .bytes bs, .int 0]:=by
 refine ig (Kc r hr) λzo0_ t1 e3 hi=> ?_;have e2:=zo0_.2
 refine tU kQ rfl (dQ e λh p=>GW (de rfl (fL rfl rfl rfl (.cons (.aa rfl) (.cons (PE.eq (.bin (.aa rfl) (dx rfl rfl rfl) (.fdiv t1)) (ah MV.int e2)) (.cons .ag .nil))) ?_)))
 refine xH Z nb h6 W hi (hk.imp id λz=>⟨rfl,z.1,hx,z.2⟩) (Vs.at p) (λs' t' S' ht Z' W' e=> ?_) λhn s' S' Z' W' e=> .hit rfl λ_=>q' hn s' S' Z' W' e
 have hn : need (r / 4)<=t':=ht.elim (λz=>z.2▸z.1) λz=>aw z.2.symm
 have tN : t'<=N:=ht.elim (λz=>z.2▸nb.2) λz=>z.2▸z.1.2
 have hbk:=CK ⟨nb.1,tN⟩ hi hn
 refine bh (dQ e λh p=>gA (PE.eq (.bin (.aa rfl) (dx rfl rfl rfl) (.mod t1.1)) (ah MV.int zo0_.1)) rfl ?_)
 refine gA (PE.eq (w:= .int 16) (.call (.cons (.bin (dx rfl rfl rfl) (.aa rfl) .sub) (.cons (.bin (.call (.cons (.aa rfl) .nil) (.x4 (hb▸aj rfl))) (.aa rfl) .sub) .nil)) .min) (ah MV.int (by refine ae hb▸ ?_;exact e3))) rfl ?_
 refine m8 (Vs.at p) rfl (λ_=> .aa rfl) hbk rfl λh p1=> ?_
 have Jm:=hD (r / 4)
 refine ct (bq (PE.yb (.aa rfl) (.aa rfl) (.bin (.aa rfl) (.aa rfl) .add) (.int _) (.int _) (hb▸aj rfl)) (m7 (eF rfl p1.j) (.aa rfl) (.bin (.aa rfl) (.aa rfl) .add) (.int _) (.int _) (has_data p1.j hbk.1 (W'.d _ hi hn)) ⟨Jm▸aj rfl,by refine ae (GG hb)▸ ?_;refine ae hb▸ ?_;decide⟩ (Lw.GB p1.j.ok.nd (p1.j.ok.sI _ p1.j.hh)) ?_))
 refine ae (GG hb)▸ae (xi Jm (Nat.mod_lt _ (by decide)))▸ ?_
 exact uK (p1.j.put (F6 Jm hb (Nat.mod_lt _ (by decide)))) Z' hbk (aB _ (aB _ (aB _ hx))) rfl rfl λS' e=>cC (.aa rfl) (q _ t' S' ht (Z'.set hbk (aB _ (aB _ (aB _ hx)))) (W'.put hi) e)
end
noncomputable def Rw(l sz t:Nat)(s:Ck):Prop:=∃b,b.length=64/\s.c 12=f6 b 24 (jp l sz (pl t))
section
variable {m i j t N r:Nat}{g:En}{h:Lo g}{F:List Cell}{R:MV->As->Prop}{T:MF->Loc->As->Prop}{E:Addr->As->Prop}{n:Int}{loc:Loc}{s:Ck}{S:As}{X:List Int}{l sz:Nat}{ps:List Nat}{a b c:IR}{D:Nat->List UInt8}{k:Bool}{x:LA}{bs cs d:List UInt8}
theorem xC{k:Int}(h:k≠n):(s.set n d).c k=s.c k:=if_neg h
theorem IL : (s.set n d).c n=d:=if_pos rfl
theorem Wo.up(W:Wo t D s):Wo t D (s.set 12 d):=⟨(xC (by decide)).trans W.b,λh=>(xC (by decide)).trans (W.n h),λi hi hn=>(xC λe=>(Ds i hi).2.2.1 (Int.ofNat.inj e)).trans (W.d i hi hn)⟩
theorem Fc(Z:Zo g X s)(W:Wo t D s)(e:Le S (Js g s (Up g l sz (pl t) F)))(q:∀s' S',Zo g X s'->Wo t D s'->Rw l sz t s'->Le S' (Js g s' (Up g l sz (pl t) F))->R .none S'):Ct E R S 347 (m+4) [.ref (g.a 15), .ref (g.a 18)]:=
 wH rfl Z e λel S' e=>q _ S' (Z.set ⟨by decide,aN (by decide) Z.ok.nb.2⟩ (aV ..)) W.up ⟨s.c 12,el,IL⟩ e
theorem Lw.KW{v:Nat}:wd (Lw h (Up g l sz ps F)) (g.a 18) "size" (.int v) (Lw h (Up g l v ps F)):=Lw.kT (i:=5) (j:=6) rfl rfl rfl rfl
theorem FE(Z:Zo g X s)(nb:g.nb=(15+N : Nat)/\t<=N)(h6:t < 6)(W:Wo t D s)(hD:∀i,(D i).length=64)(hr:r < 16)(hb:bs.length=16)(hx:((lN (r / 4):Nat):Int)∈X)(hl:s.ns.length<=5)
  (hk:need (r / 4)<=t∨(t=r / 4/\r / 4 < 3∨t=r / 4+1/\2<=r / 4)/\D (r / 4)=zeros)(e:Le S (Js g s (Up g l sz (pl t) F)))
  (q:∀s' t' S',(need (r / 4)<=t/\t'=t∨(t < need (r / 4)/\need (r / 4)<=N)/\t'=need (r / 4))->Zo g X s'->Wo t' (Ca D r bs) s'->Rw l (max sz (16 * r+16)) t' s'->Le S' (Js g s' (Up g l (max sz (16 * r+16)) (pl t') F))->R (.int 16) S')
  (q':N < need (r / 4)->∀s' S',Zo g X s'->Wo N D s'->Rw l sz N s'->Le S' (Js g s' (Up g l sz (pl N) F))->R (.int 0) S'):Ct E R S 431 (m+9) [.ref (g.a 15), .ref (g.a 18), .int (16 * r : Nat), .bytes bs]:=by
 have pl16 : ∀ {L:Loc} {S},L[3]?=some (some (.bytes bs))->PE L S (.call "len" (.builtin "len") (.cons (.aa 3) .nil)) (.int 16):=λa=>PE.eq (.call (.cons (.aa a) .nil) (.x4 (hb▸aj rfl))) (ah MV.int (ah _ hb))
 have t1 : (64:Int).natAbs < 2^32/\(18:Int).natAbs < 2^32:=by decide
 refine ff e λh p=>kX qm (cO (.cmp (.aa rfl) .ag .lt) (bz (cZ.mpr (bA _))) ?_)
 refine gG (ic (bq (.bin (.aa rfl) (pl16 rfl) .add) (gy rfl rfl rfl .nil (dh lV (eT (l7 (bq (.am (.aa rfl) (Lw.up .p) rfl rfl) (bT (.aa rfl) (Lw.up .p) rfl rfl .nil (xS (.mk (.mul t1) (.mk .gt ⟨λb=>absurd (aF b) (cZ.mpr (aW.mpr ((ad (bD (dq _ (bH hr)) _) (by decide))))),λ_=> ?_⟩)))))))))))
 have ll : ((s.ns.length : Nat):Int)<=5:=aW.mpr hl
 have en : h.nums=s.ns:=p.cv.ns
 refine gA .ag rfl (pX 2 (i4 (xo (eY (p:=true) (.cmp (.aa rfl) (pl16 rfl) .lt) ⟨λ_=>ic (bT (.am (.aa rfl) (Lw.up .n) rfl rfl) (Lw.obj .j) rfl rfl .nil (H5 (en▸Z.ok.ln) (bq .glob (.mk .ge ⟨λ_=> ?_,λb=>absurd (br b) (by lia)⟩)))),nofun⟩))))
 refine de rfl (fL rfl rfl rfl (.cons (.aa rfl) (.cons (PE.eq (.bin (.aa rfl) (.aa rfl) .add) (ah MV.int (Int.add_zero _))) (.cons (.aa rfl) (.cons (.aa rfl) .nil)))) ?_)
 refine uV Z nb h6 W hD hr hb hx hk (Vs.at p) (λs' t' S' ht Z' W' e=> ?_) λhn s' S' Z' W' e=> ?_
 ·refine cO (.cmp (.aa rfl) .ag .lD) rfl (gA (.bin (.aa rfl) (.aa rfl) .add) rfl (bh (i4 (xo (eY (p:=false) (.cmp (.aa rfl) (pl16 rfl) .lt) ⟨nofun,λ_=>⟨nofun,λ_=>dQ e λh p=> ?_⟩⟩)))))
  refine iC (.and (.cmp (.aa rfl) .ag .gt) (.cmp (.bin (.aa rfl) (.aa rfl) .add) (.am (.aa rfl) (Lw.up .d) rfl rfl) .gt)) (λb=> ?_) λb=> ?_
  ·have b : sz < 16 * r+16:=aX.mp (aF b)
   refine DN (v:= .int (16 * r+16 : Nat)) (.bin (.aa rfl) (.aa rfl) .add) (.aa rfl) Lw.KW (bh (bY (fL rfl rfl rfl (.cons (.aa rfl) .nil) (Fc Z' W' (Vs.at p) λs' S' Z' W' rw e=>cC (.aa rfl) ?_))))
   rw[Nat.max_eq_right (aL b)] at q
   exact q s' t' S' ht Z' W' rw e
  ·have b : 16 * r+16<=sz:=Nat.le_of_not_lt λz=>br b (aX.mpr z)
   refine bY (fL rfl rfl rfl (.cons (.aa rfl) .nil) (Fc Z' W' (Vs.at p) λs' S' Z' W' rw e=>cC (.aa rfl) ?_))
   rw[Nat.max_eq_left b] at q
   exact q s' t' S' ht Z' W' rw e
 ·refine jo (.cmp (.aa rfl) .ag .lD) rfl (GC (dQ e λh p=>cO (.and (.cmp (.aa rfl) .ag .gt) (.cmp (.bin (.aa rfl) (.aa rfl) .add) (.am (.aa rfl) (Lw.up .d) rfl rfl) .gt)) rfl ?_))
  exact bY (fL rfl rfl rfl (.cons (.aa rfl) .nil) (Fc Z' W' (Vs.at p) λs' S' Z' W' rw e=>cC (.aa rfl) (q' hn s' S' Z' W' rw e)))
theorem BP{vs:List MV}(e:Le S (Vs (Jn (g:=g) s none) (Up g l sz ps F)))(hv:∃u v,vs=[u,v])(q:∀h : Lo g,Jn s none h->Ct E R (Lw h (Up g l sz ps F)) 431 m (.ref (g.a 15):: .ref (g.a 18)::vs)):Ct E R S 262 (m+1) (.ref (g.a 18)::vs):=by
 refine fu hv λu v zr2_=> ?_;subst zr2_
 exact ff e λh p=>fH sd (eT (bT (.am (.aa rfl) (Lw.up .d) rfl rfl) (Lw.up .n) rfl rfl (.cons (.aa rfl) (.cons (.aa rfl) (.cons (.aa rfl) .nil))) (q h p)))
end
noncomputable def KC(k:Nat):List UInt8:=(97+k).toUInt8::List.replicate (k * 5 % 14) 46
noncomputable def gV : Nat->List UInt8
 |0=>[46]
 |1=>[46,46]
 |k+2=>KC k
noncomputable def mR(k:Nat):Nat:=max 1 k
noncomputable abbrev Slot:=Option Nat
noncomputable def kO : Slot->List UInt8
 |none=>List.replicate 16 0
 |some k=>(mR k).toUInt8::0::(gV k++List.replicate (14 - (gV k).length) 0)
noncomputable def IM : Slot->Nat
 |none=>0
 |some k=>mR k
noncomputable def Iy : Slot->List UInt8
 |none=>[]
 |some k=>gV k
theorem AC : ∀k < 22,gf (vu (List.replicate 16 0) 0 (mR k)) (some 2) (some (2+(gV k).length)) (gV k)=kO (some k)/\(gV k).length<=14/\(gV k).length≠0/\cut (gV k) none (some 14)=gV k:=by decide +kernel
theorem Kt : ∀k < 22,(kO (some k)).length=16/\wO (kO (some k)) 0=mR k/\(cut (kO (some k)) (some 2) (some 16)).takeWhile (· != 0)=gV k/\(cut (kO (some k)) (some 2) (some 16)).length=14:=by decide +kernel
theorem wU : ∀j < 22,∀k < 22,gV j=gV k->j=k:=by decide +kernel
theorem B3{o:Slot}(h:∀k,o=some k->k < 22):(kO o).length=16/\wO (kO o) 0=IM o/\(cut (kO o) (some 2) (some 16)).takeWhile (· != 0)=Iy o/\(cut (kO o) (some 2) (some 16)).length=14:=by
 cases o with
 |none=>decide +kernel
 |some k=>exact Kt k (h k rfl)
section
variable {m i j t N r:Nat}{g:En}{h:Lo g}{F:List Cell}{R:MV->As->Prop}{T:MF->Loc->As->Prop}{E:Addr->As->Prop}{n:Int}{loc:Loc}{s:Ck}{S:As}{X:List Int}{l sz:Nat}{ps:List Nat}{a b c:IR}{D:Nat->List UInt8}{k:Nat}{x:LA}{bs cs d:List UInt8}
theorem BQ(hb:bs.length<=100000)(q:R (.bytes bs) S):Ct E R S 464 (m+1) [.bytes bs]:=dh ty (cC (.Mw (.aa rfl) (.call (.cons (.aa rfl) .nil) .x9)) q)
theorem An{u z:MV}{i j:Option Int}{lo hi:IR}(h:We E S loc (λv S1=>v= .bytes bs/\PE loc S1 lo u/\PE loc S1 hi z/\R (.bytes (cut bs i j)) S1) (dn m a).e)(c:e9 u i)(d:e9 z j)(hb:bs.length<=100000):We E S loc R (dn m (.slice a lo hi)).e:=
 λσ s Q X k x=>h σ s _ X (λ_ σ1 S1 s1 zz=>(by refine ig zz λe hl hh q=> ?_;exact e▸hl.ok s1 (hh.ok s1 ⟨_,_,c,d, .oct hb (k _ _ _ s1 q)⟩))) x
theorem GU(hk:k < 22)(q:R (.bytes (gV k)) S):Ct E R S 471 (m+2) [.bytes (gV k)]:=by
 refine ig (AC k hk) λ_ e2 _ e4=> ?_
 exact dh v4 (eT (An (cr (.cons (.aa rfl) .nil) (BQ (ad e2 (by decide)) ⟨rfl, .nil, .glob,e4.symm▸q⟩)) .no (.int 14) (ad e2 (by decide))))
theorem M3{S:List UInt8->List Cell->As}{r:LA}(hS:∀b F,S b F=Lw h ((r, .bW b)::F)):Ba (λb=>S b F) r:=⟨λb=>by rw[hS];exact Lw.cH (i:=0) rfl,λb b'=>by rw[hS,hS];exact Lw.jJ (i:=0) rfl rfl⟩
theorem zA(hk:k < 22)(q:R (.bytes (kO (some k))) (Lw h F)):Ct E R (Lw h F) 485 (m+2) [.int (mR k:Nat), .bytes (gV k)]:=by
 refine ip (AC k hk) λe1 e2 _=> ?_
 refine df xz (de rfl (cV (c8 (.cons .glob .nil) (Bc (show _/\_ by decide) Lw.new λr=> ?_))))
 have B : Ba (λb=>Lw h ((r, .bW b)::F)) r:=M3 λ_ _=>rfl
 refine bY (cr (.cons (.aa rfl) (.cons .ag (.cons (.aa rfl) .nil))) (eX B (b:=List.replicate 16 0) (mR k) 0 rfl rfl (by decide) (by decide) ?_))
 refine ct (bq (.aa rfl) (m7 (.aa rfl) .ag (.bin .ag (.call (.cons (.aa rfl) .nil) (.x4 (ad e2 (by decide)))) .add) (.int 2) (.int _) (Lw.cH (i:=0) rfl) ⟨(show (vu (List.replicate 16 0) 0 (mR k)).length=16 from dX ..)▸aj rfl,ad e2 (by decide)⟩ (Lw.jJ (i:=0) rfl rfl) ?_))
 refine ae e1▸ ?_
 exact oN (.call (.cons (.aa rfl) .nil) (.oQ (Lw.cH (i:=0) rfl) ((Kt k hk).1▸aj rfl))) (λ_ s=>Lw.sub s (.cons _ (.refl _))) q
theorem Hp{v:UInt8}(e:bs[i]?=some v):rV S (.rF bs i) (some (.int v.toNat, .rF bs (i+1))):=λσ s=> .rF e
theorem Fh : rV S (.rF bs bs.length) none:=λσ s=> .K2 (List.getElem?_eq_none (aG _))
theorem Cl{p:UInt8->Bool}:∀ {bs:List UInt8}{i:Nat}{v:UInt8},bs[i]?=some v->(∀y∈bs.take i,p y=true)->(p v=false->bs.takeWhile p=bs.take i)/\(p v=true->∀y∈bs.take (i+1),p y=true)
 |c::bs,0,v,e,_=>by cases e;exact⟨λq=>List.takeWhile_cons_of_neg (by refine ae q▸ ?_;decide),λq y m=>by cases av.mp (List.take_succ_cons▸m);exact q⟩
 |c::bs,i+1,v,e,h=>by
  have ⟨a,b⟩:=Cl (bs:=bs) (i:=i) e λy m=>h y (aB _ m)
  have hc:=h c (aV ..)
  exact⟨λq=>by rw[List.takeWhile_cons_of_pos hc];exact ah _ (a q),λq y m=>by refine Or.elim (aK.mp m) (λz=> ?_) λm=> ?_;exact z▸hc;exact b q y m⟩
theorem AL(hb:bs.length<=100000)(hc:(cut bs (some 2) (some 16)).length<=100)(q:R (.bytes ((cut bs (some 2) (some 16)).takeWhile (· != 0))) (Lw h F)):Ct E R (Lw h F) 492 (m+1) [.bytes bs]:=by
 refine dh xd (de rfl (cV (ci (wQ Lw.new λr=> ?_))))
 generalize hcs : cut bs (some 2) (some 16)=cs at q hc
 have fin : ∀ {i loc},cs.takeWhile (· != 0)=cs.take i->Fr [some (.bytes bs),some (.ref r)] 1 loc->Wp E (Lw h ((r, .bW (cs.take i))::F)) loc (λf _ S=>R (fZ f) S) (dn m (.cons (.ret (.call "bytes" (.type "bytes") (.cons (.aa 1) .nil))) .nil)).s:=by
  rintro i _ e ⟨x⟩
  exact oN (.call (.cons (.aa rfl) .nil) (.oQ (Lw.cH (i:=0) rfl) (ad (List.length_take_le' ..) (ad hc (by decide))))) (λ_ s=>Lw.sub s (.cons _ (.refl _))) (e▸q)
 refine dj (it:= .rF cs) (L:=cs.length) (I:=λi loc S=>(∀y∈cs.take i,(y != 0)=true)/\Fr [some (.bytes bs),some (.ref r)] 1 loc/\S=Lw h ((r, .bW (cs.take i))::F)) (H0 (hcs▸ .yb (.aa rfl) .ag .glob (.int 2) (.int 16) hb) ⟨rfl,nofun, .of rfl rfl,rfl⟩) rfl ?_ ?_
 ·rintro i loc S hi ⟨hy,hf,rfl⟩
  obtain⟨v,e⟩ : ∃v,cs[i]?=some v:=⟨_,ay hi⟩
  cases hf
  refine .mk (Hp e) (bQ rfl (iC (.cmp (.aa rfl) .ag .lD) (λb=>GC (fin ((Cl e hy).1 ?_) (.of rfl rfl))) λb=> ?_))
  ·have b:=eq_of_beq b;refine bne_eq_false_iff_eq.mpr ?_;exact UInt8.toNat_inj.mp (Int.ofNat.inj b)
  ·refine bY (cM (.aa rfl) (gO (Lw.cH (i:=0) rfl) (.ba rfl)) (c8 (.cons (.aa rfl) .nil) (FN (Lw.cH (i:=0) rfl) ⟨ad (List.length_take_le' ..) (ad hc (by decide)),bA _,aX.mpr v.toNat_lt⟩ (Lw.jJ (i:=0) rfl rfl) (bh ⟨(Cl e hy).2 ?_, .of rfl rfl, ?_⟩))))
   ·refine bne_iff_ne.mpr ?_;rintro rfl;exact absurd b (by decide)
   ·rw[bV,e];rw[Int.toNat_natCast,show v.toNat.toUInt8=v from UInt8.ofNat_toNat];rfl
 ·rintro loc S ⟨hy,hf,rfl⟩
  rw[List.take_length] at hy
  exact⟨Fh,fin (by rw[List.take_length];have:=List.takeWhile_append_of_pos (l₂:=[]) hy;rwa [cK,List.takeWhile_nil,cK] at this) hf⟩
end
noncomputable def rowsOf(sl:List Slot)(j:Nat):List UInt8:=kO (sl.getD j none)
noncomputable def nN(ro:Nat->List UInt8)(i:Nat):List UInt8:=ro (4 * i)++(ro (4 * i+1)++(ro (4 * i+2)++ro (4 * i+3)))
noncomputable abbrev DS(sl:List Slot):Nat->List UInt8:=nN (rowsOf sl)
noncomputable def gW(sl:List Slot)(r:Nat)(o:Slot):List Slot:=if r < sl.length then sl.set r o else sl++[o]
noncomputable def lp(L t:Nat):Bool:=(List.range 4).all λi=>decide (4 * i < L)==decide (need i<=t)
theorem Ci : ∀t < 6,∀L < 15,lp L t=true->∀i < 4,4 * i < L->need i<=t:=by decide +kernel
set_option synthInstance.maxSize 2000 in
set_option synthInstance.maxHeartbeats 400000 in
theorem BS : ∀t < 6,∀L < 15,∀r < 14,lp L t=true/\r<=L->(need (r / 4)<=t∨(t=r / 4/\r / 4 < 3∨t=r / 4+1/\2<=r / 4)/\L<=4 * (r / 4))/\(¬need (r / 4)<=t∨lp (max L (r+1)) t=true)/\(¬t < need (r / 4)∨lp (max L (r+1)) (need (r / 4))=true/\need (r / 4) < 6):=by decide +kernel
set_option synthInstance.maxSize 2000 in
set_option synthInstance.maxHeartbeats 400000 in
theorem CO : ∀t < 6,∀L < 15,∀r < 14,∀N < 7,lp L t=true/\r<=L/\t<=N/\N < need (r / 4)->lp L N=true/\N < 6:=by decide +kernel
theorem KF{a b c d x:List UInt8}(ha:a.length=16)(hb:b.length=16)(hc:c.length=16)(hd:d.length=16):∀ {k:Nat},k < 4->
  (a++(b++(c++d))).take (16 * k)++x++(a++(b++(c++d))).drop (16 * k+16)=(if 0=k then x else a)++((if 1=k then x else b)++((if 2=k then x else c)++(if 3=k then x else d)))
 |0,_=>ah (x++·) (List.drop_left' ha)
 |1,_=>by rw[show 16 * 1+16=a.length+16 by rw[ha],List.drop_length_add_append,List.drop_left' hb,List.take_left' ha];exact (aH ..)
 |2,_=>by rw[show 16 * 2+16=a.length+(b.length+16) by rw[ha,hb],List.drop_length_add_append,List.drop_length_add_append,List.drop_left' hc,show 16 * 2=a.length+16 by rw[ha],List.take_length_add_append,List.take_left' hb,aH];exact (aH ..)
 |3,_=>by rw[show 16 * 3+16=a.length+(b.length+(c.length+16)) by rw[ha,hb,hc],List.drop_length_add_append,List.drop_length_add_append,List.drop_length_add_append,List.drop_of_length_le (aw hd),show 16 * 3=a.length+(b.length+16) by rw[ha,hb],List.take_length_add_append,List.take_length_add_append,List.take_left' hc,cK,aH];exact ah _ (aH ..)
theorem Mj{a b c d r:List UInt8}(ha:a.length=16)(hb:b.length=16)(hc:c.length=16)(hd:d.length=16):∀ {k:Nat},k < 4->((a++(b++(c++d))++r).drop (16 * k)).take 16=if k=0 then a else if k=1 then b else if k=2 then c else d
 |0,_=>by refine (ah _ (aH ..)).trans ?_;exact List.take_left' ha
 |1,_=>by rw[aH];refine (ah _ (List.drop_left' ha)).trans ?_;refine (ah _ (aH ..)).trans ?_;exact List.take_left' hb
 |2,_=>by rw[aH,aH,show 16 * 2=a.length+16 by rw[ha],List.drop_length_add_append];refine (ah _ (List.drop_left' hb)).trans ?_;refine (ah _ (aH ..)).trans ?_;exact List.take_left' hc
 |3,_=>by rw[aH,aH,aH,show 16 * 3=a.length+(b.length+16) by rw[ha,hb],List.drop_length_add_append];refine (ah _ (List.drop_length_add_append ..)).trans ?_;refine (ah _ (List.drop_left' hc)).trans ?_;exact List.take_left' hd
set_option synthInstance.maxSize 2000 in
set_option synthInstance.maxHeartbeats 400000 in
theorem q4 : ∀r < 16,∀i < 4,(i=r / 4->r % 4 < 4/\(4 * i=r↔0=r % 4)/\(4 * i+1=r↔1=r % 4)/\(4 * i+2=r↔2=r % 4)/\(4 * i+3=r↔3=r % 4))/\(i≠r / 4->4 * i≠r/\4 * i+1≠r/\4 * i+2≠r/\4 * i+3≠r):=by decide +kernel
section
variable {sl:List Slot}{r i j L t:Nat}{o:Slot}{ro:Nat->List UInt8}{x:List UInt8}
theorem tE(h:∀j,(ro j).length=16):(nN ro i).length=64:=by unfold nN;refine (aA).trans ?_;refine (ah _ aA).trans ?_;rw[aA,h,h,h,h]
theorem BR(h:∀j,(ro j).length=16)(hr:r < 16)(hi:i < 4):Ca (nN ro) r x i=nN (λj=>if j=r then x else ro j) i:=by
 refine dA (q4 r hr i hi) λa b=> ?_
 unfold Ca
 by_cases q : i=r / 4
 ·refine Iu (a q) λc e0 e1 e2 e3=> ?_
  refine ((if_pos q)).trans ?_;refine q▸ ?_;unfold nN
  refine ((KF (h _) (h _) (h _) (h _) c)).trans ?_;simp only[e0,e1,e2,e3]
 ·refine ig (b q) λe0 e1 e2 e3=> ?_
  refine ((if_neg q)).trans ?_;unfold nN;simp only[if_neg e0,if_neg e1,if_neg e2,if_neg e3]
theorem rl(h:∀k,some k∈sl->k < 22):(rowsOf sl j).length=16:=
 (B3 λk e=>by
  replace e:=aQ▸e
  cases q : sl[j]? with
  |none=>(replace e:=q▸e);cases e
  |some y=>rw[q] at e;exact h k (e▸au q)).1
theorem Cf(hr:r<=sl.length):(gW sl r o).getD j none=if j=r then o else sl.getD j none:=by
 unfold gW;refine (aQ).trans ?_;rw[aQ]
 split
 ·rw[List.getElem?_set];by_cases q : j=r
  ·rw[if_pos q.symm,if_pos q,if_pos ‹r < sl.length›];rfl
  ·rw[if_neg (Ne.symm q),if_neg q]
 ·have e : sl.length=r:=Nat.le_antisymm (Nat.le_of_not_lt ‹_›) hr
  by_cases q : j=r
  ·refine ae (if_pos q)▸ae q▸e▸ae (List.getElem?_append_right (aG _))▸ ?_;refine ae (Nat.sub_self ..)▸ ?_;rfl
  ·rw[if_neg q]
   refine Or.elim (Nat.lt_or_gt_of_ne q) (λz=> ?_) λz=> ?_
   ·rw[cY (e▸z)]
   ·rw[List.getElem?_eq_none (by refine ae aA▸ae e▸ ?_;exact z),List.getElem?_eq_none (e▸aL z)]
theorem j5(hr:r<=sl.length):(gW sl r o).length=max sl.length (r+1):=by
 unfold gW;split
 ·refine (cL).trans ?_;rw[Nat.max_eq_left ‹_›]
 ·rw[Nat.le_antisymm hr (Nat.le_of_not_lt ‹_›)];refine (aA).trans ?_;rw[Nat.max_eq_right (cT _)];rfl
theorem qT{k:Nat}(h:some k∈gW sl r o):some k∈sl∨some k=o:=by
 unfold gW at h;split at h
 ·exact List.mem_or_eq_of_mem_set h
 ·exact (bI.mp h).imp_right av.mp
theorem Gc(h:∀k,some k∈sl->k < 22)(hr:r < 16)(hr':r<=sl.length)(hi:i < 4):Ca (DS sl) r (kO o) i=DS (gW sl r o) i:=by
 refine ((BR (λj=>rl h) hr hi)).trans ?_
 have : rowsOf (gW sl r o)=λj=>if j=r then kO o else rowsOf sl j:=funext λj=>by unfold rowsOf;refine (ah _ (Cf hr')).trans ?_;exact apply_ite kO ..
 unfold DS;rw[this]
theorem EE(h:sl.length<=4 * i):DS sl i=zeros:=by
 have e : ∀j,sl.length<=j->rowsOf sl j=List.replicate 16 0:=λj q=>by unfold rowsOf;refine (ah _ aQ).trans ?_;refine ae (List.getElem?_eq_none q)▸ ?_;rfl
 delta DS nN;refine ae (e _ h)▸ae (e _ (cE h))▸ae (e _ (cE (cE h)))▸ae (e _ (cE (cE (cE h))))▸ ?_;rfl
theorem LP : ∀L < 15,∀j < L,16 * L - 16 * j=16+(16 * L - 16 * j - 16)/\clipAt (16 * L) (0+(j:Int) * 16)=16 * j/\clipAt (16 * L) (0+(j:Int) * 16+16)=16 * j+16/\16 * j=64 * (j / 4)+16 * (j % 4)/\j / 4 < 4/\j % 4 < 4/\(if j % 4=0 then 4 * (j / 4) else if j % 4=1 then 4 * (j / 4)+1 else if j % 4=2 then 4 * (j / 4)+2 else 4 * (j / 4)+3)=j/\16 * L<=256:=by decide +kernel
theorem y8{D:Nat->List UInt8}(hD:∀i,(D i).length=64):(cat D).length=256:=by unfold cat;refine (aA).trans ?_;refine (ah _ aA).trans ?_;rw[aA,hD,hD,hD,hD]
theorem Fy(h:∀k,some k∈sl->k < 22)(hL:sl.length < 15)(hj:j < sl.length):cut ((cat (DS sl)).take (16 * sl.length)) (some (0+(j:Int) * 16)) (some (0+(j:Int) * 16+16))=kO (sl.getD j none):=by
 obtain⟨e0,e1,e2,e3,e4,e5,e6,e7⟩:=LP _ hL j hj
 have hl:=λ{j}=>rl (j:=j) h
 show (List.drop (clipAt _ _) _).take (clipAt _ _ - clipAt _ _)=_
 rw[(show ((cat (DS sl)).take (16 * sl.length)).length=16 * sl.length by refine (bK).trans ?_;refine (ah _ (y8 λi=>tE λj=>hl)).trans ?_;exact Nat.min_eq_left e7),e1,e2,Nat.add_sub_cancel_left];refine (ah _ List.drop_take).trans ?_;refine (List.take_take).trans ?_;rw[e0,Nat.min_eq_left (a9 ..),e3,<-List.drop_drop]
 refine cN (vL (D:=DS sl) (λi=>tE λj=>hl) e4) λr e=> ?_
 rw[e];delta DS nN
 refine ((Mj hl hl hl hl e5)).trans ?_
 show _=rowsOf sl j
 conv=>rhs;rw[<-e6]
 rw[apply_ite (rowsOf sl),apply_ite (rowsOf sl),apply_ite (rowsOf sl)]
end
structure Wd(g:En)(N:Nat)(sl:List Slot)(t:Nat)(s:Ck):Prop where
 nb : g.nb=(15+N : Nat)/\t<=N
 n7 : N < 7
 h6 : t < 6
 w : Wo t (DS sl) s
 rw : Rw 1 (16 * sl.length) t s
 tok : ∀k,some k∈sl->k < 22
 len : sl.length < 15
 pr : lp sl.length t=true
noncomputable abbrev gI(g:En)(sl:List Slot)(t:Nat)(F:List Cell):List Cell:=Up g 1 (16 * sl.length) (pl t) F
theorem IP : ∀L < 15,∀r < 14,max (16 * L) (16 * r+16)=16 * max L (r+1)/\max L (r+1) < 15:=by decide +kernel
noncomputable def CX(o:Slot)(i:Nat):MV:= .tup [.int (16 * i : Nat), .int (IM o:Nat), .bytes (Iy o)]
noncomputable def fJ(sl:List Slot):List MV:=sl.mapIdx λi o=>CX o i
theorem JR : ∀L < 15,(if (0:Int) < (16 * L : Nat) - 16+1 then ((16 * L : Nat) - 16+1 - 0 - 1) / 16+1 else 0 : Int)=(L - 0 : Nat)/\ -(2^60 : Int)<=(16 * L : Nat) - 16+1/\(16 * L : Nat) - 16+1 < (2^60 : Int)/\16 * L<=256:=by decide +kernel
section
variable {m i j t N r:Nat}{g:En}{h:Lo g}{F:List Cell}{R:MV->As->Prop}{T:MF->Loc->As->Prop}{E:Addr->As->Prop}{n:Int}{loc:Loc}{s:Ck}{S:As}{X:List Int}{l sz:Nat}{ps:List Nat}{a b c:IR}{D:Nat->List UInt8}{k:Nat}{x:LA}{bs cs d:List UInt8}{sl:List Slot}{o:Slot}
theorem Wd.x6(w:Wd g N sl t s):∀k,sl.getD j none=some k->k < 22:=λk e=>by
 replace e:=aQ▸e
 cases q : sl[j]? with
 |none=>(replace e:=q▸e);cases e
 |some y=>rw[q] at e;exact w.tok k (e▸au q)
theorem Wd.Jm(w:Wd g N sl t s)(i:Nat):(DS sl i).length=64:=tE λ_=>rl w.tok
theorem yi(w:Wd g N sl t s)(Z:Zo g X s)(hr:r < 14)(hr':r<=sl.length)(ho:∀k,o=some k->k < 22)(hx:((lN (r / 4):Nat):Int)∈X)(hl:s.ns.length<=5)(e:Le S (Js g s (gI g sl t F)))
  (q:∀s' t' S',(need (r / 4)<=t/\t'=t∨(t < need (r / 4)/\need (r / 4)<=N)/\t'=need (r / 4))->Zo g X s'->Wd g N (gW sl r o) t' s'->Le S' (Js g s' (gI g (gW sl r o) t' F))->R (.int 16) S')
  (q':N < need (r / 4)->∀s' S',Zo g X s'->Wd g N sl N s'->Le S' (Js g s' (gI g sl N F))->R (.int 0) S'):Ct E R S 262 (m+10) [.ref (g.a 18), .int (16 * r : Nat), .bytes (kO o)]:=by
 refine ip (BS t w.h6 _ w.len r hr ⟨w.pr,hr'⟩) λp1 p2 p3=> ?_
 have hk : need (r / 4)<=t∨(t=r / 4/\r / 4 < 3∨t=r / 4+1/\2<=r / 4)/\DS sl (r / 4)=zeros:=p1.imp id λz=>⟨z.1,EE z.2⟩
 refine BP e ⟨_,_,rfl⟩ λh p=>FE Z w.nb w.h6 w.w w.Jm (cG hr (by decide)) (B3 ho).1 hx hl hk (Vs.at p) (λs' t' S' ht Z' W' rw e=> ?_) λhn s' S' Z' W' rw e=> ?_
 ·have el:=j5 (o:=o) hr'
  rw[((IP _ w.len r hr).1),<-el] at rw e
  have pr : lp (gW sl r o).length t'=true/\t' < 6:=by
   rw[el]
   exact ht.elim (λz=>z.2▸⟨p2.resolve_left λy=>y z.1,w.h6⟩) λz=>z.2▸p3.resolve_left λy=>y z.1.1
  exact q s' t' S' ht Z' ⟨⟨w.nb.1,(ht.elim (λz=>z.2▸w.nb.2) λz=>z.2▸z.1.2)⟩,w.n7,pr.2,{ W' with d:=λi hi hn=>(W'.d i hi hn).trans (Gc w.tok (cG hr (by decide)) hr' hi) },rw,λk hk=>(qT hk).elim (w.tok k) λz=>ho k z.symm,el▸((IP _ w.len r hr).2),pr.1⟩ e
 ·have pr:=CO t w.h6 _ w.len r hr N w.n7 ⟨w.pr,hr',w.nb.2,hn⟩
  exact q' hn s' S' Z' ⟨⟨w.nb.1,aG N⟩,w.n7,pr.2,W',rw,w.tok,w.len,pr.1⟩ e
theorem nV(h:We E S loc (λvs S1=>Nat.ble vs.length 1000=true/\R (.tup vs) S1) (P.gU (dn m a).ms)):We E S loc R (dn m (.tup a)).e:=
 λσ s Q X k x=>h σ s _ X (λvs σ1 S1 s1 zz=>(by refine dA zz λe q=> ?_;exact⟨ad (aj e) (by decide),k _ _ S1 s1 q⟩)) x
theorem nz(hi:i < sl.length):(fJ sl)[i]?=some (CX (sl.getD i none) i):=by
 refine (List.getElem?_mapIdx).trans ?_;exact ae aQ▸ae (ay hi)▸rfl
theorem fQ : (fJ sl).length=sl.length:=List.length_mapIdx
theorem ID(w:Wd g N sl t s)(e:Le S (Js g s (gI g sl t F)))(q:∀S',Le S' (Js g s (gI g sl t F))->R (.bytes ((cat (DS sl)).take (16 * sl.length))) S'):Ct E R S 255 (m+9) [.ref (g.a 18), .int 0, .int (16 * sl.length : Nat)]:=
 ff e λh p=>fH tz (eT (bT (.am (.aa rfl) (Lw.up .d) rfl rfl) (Lw.up .n) rfl rfl (.cons (.aa rfl) (.cons (.aa rfl) (.cons (.aa rfl) .nil))) (H2 w.nb w.h6 w.w w.Jm (JR _ w.len).2.2.2 (λi hi=>Ci t w.h6 _ w.len w.pr i (Nat.lt_of_mul_lt_mul_left (a:=64) (cG hi (aC (Nat.mul_lt_mul_of_pos_left w.len (by decide)) (by decide:16 * 15<=64 * 4)))) (Nat.lt_of_mul_lt_mul_left (a:=16) (az (aw (Nat.mul_assoc 16 4 i).symm) hi))) (Vs.at p) q)))
theorem xW(w:Wd g N sl t s)(e:Le S (Js g s (gI g sl t F)))(q:∀S' r,Le S' (Js g s (gI g sl t ((r, .list (fJ sl))::F)))->R (.ref r) S'):Ct E R S 527 (m+10) [.ref (g.a 21), .ref (g.a 18)]:=by
 refine ig (JR _ w.len) λg1 g2 g3 g4=> ?_
 have lX : ((cat (DS sl)).take (16 * sl.length)).length=16 * sl.length:=by refine (bK).trans ?_;refine (ah _ (y8 w.Jm)).trans ?_;exact Nat.min_eq_left g4
 have lX5 : ((cat (DS sl)).take (16 * sl.length)).length<=100000:=by rw[lX];exact ad g4 (by decide)
 refine ff e λh p=>df mG (bY (bT (.aa rfl) (Lw.up .w) rfl rfl (.cons (.aa rfl) .nil) ?_))
 refine df iK (gG (uY (Gi (bT (.aa rfl) (Lw.up .d) rfl rfl .nil (dh jN (cC (.cmp (.am (.aa rfl) (Lw.up .d) rfl rfl) .glob .lD) (.mk .bool ⟨nofun,λ_=>bh ?_⟩)))))))
 refine de rfl (bT (.aa rfl) (Lw.up .d) rfl rfl (.cons .ag (.cons (.am (.aa rfl) (Lw.up .d) rfl rfl) .nil)) (ID w (Vs.at p) λS' e=>dQ e λh p=>de rfl (dz (ci ⟨bC _,Lw.new,λr=> ?_⟩))))
 refine fN (S1:=Lw h (gI g sl t ((r, .list ((fJ sl).take 0))::F))) (λσ s=>Lw.perm s (List.perm_middle (l₁:=gI g sl t []) (l₂:=F)).symm) ?_
 refine dj (it:=hB 0 16 sl.length) (L:=sl.length) (I:=λj loc S=>Fr [some (.ref (g.a 21)),some (.ref (g.a 18)),some (.bytes ((cat (DS sl)).take (16 * sl.length))),some (.ref r)] 2 loc/\S=Lw h (gI g sl t ((r, .list ((fJ sl).take j))::F))) ?_ rfl ?_ ?_
 ·refine Eo (.cons .ag (.cons (PE.eq (.bin (.bin (.call (.cons (.aa rfl) .nil) (.x4 lX5)) .glob .sub) .ag .add) (ah (λx:Nat=>MV.int (x - 16+1)) lX)) (.cons .glob .nil))) ⟨by decide,by decide,g2,g3,by decide,by decide⟩ ⟨ah (It.jK 0 · 16) g1, .of rfl rfl,rfl⟩
 ·rintro j loc S hj ⟨⟨y⟩,rfl⟩
  refine ig (B3 (w.x6 (j:=j))) λo1 o2 o3 o4=> ?_
  refine .mk (uN hj) (bQ rfl (gA (PE.eq (.yb (.aa rfl) (.aa rfl) (.bin (.aa rfl) .glob .add) (.int _) (.int _) lX5) (ah MV.bytes (Fy w.tok w.len hj))) rfl ?_))
  refine bY (cM (.aa rfl) (gO (Lw.cH (i:=10) rfl) (.list rfl)) (bj (nV (bj (bq (.aa rfl) (bj (cr (.cons (.aa rfl) (.cons .ag .nil)) (gD .b 0 rfl (o1▸by decide) (o1▸by decide) (bj (cr (.cons (.aa rfl) .nil) (AL (o1▸by decide) (o4▸by decide) (ci ⟨rfl,ci ?_⟩))))))))))))
  rw[o2,o3,(show (0:Int)+(j:Int) * 16=(16 * j : Nat) from (Int.zero_add _).trans (ah Nat.cast (Nat.mul_comm j 16)))]
  refine md (Lw.cH (i:=10) rfl) (ad (List.length_take_le' ..) (by refine ae fQ▸ ?_;exact ad (aL w.len) (by decide))) (Lw.jJ (i:=10) rfl rfl) (bh ⟨.of rfl rfl, ?_⟩)
  rw[bV,nz hj];rfl
 ·rintro loc S ⟨⟨y⟩,rfl⟩
  exact⟨gz,cC (.aa rfl) (q _ r λσ s=>⟨h,p,cF (aw fQ)▸s⟩)⟩
end
noncomputable def pJ(sl:List Slot):List MV:=sl.filterMap λo=>o.map λk=> .bytes (gV k)
noncomputable def ft : List Slot->Nat->Nat
 |some _::r,a=>ft r (a+1)
 |_,a=>a
inductive Co(n:Nat)(cmap:List (Option Nat))(tt:Bool)(tg ifs el:IR)(loc:Loc)(S:As)(R:MV->As->Prop)(it:It):Prop
 |mk (N:Nat)(hn:((!it.dT||tt)&&it.plain&&z7 cmap loc)=true)(g:Wp Eg S (eR cmap loc) (λacc _ S=>pZ (pW S (.list acc)) λS'=>∀r,R (.ref r) (S' r)) (P.lE (dn n tg).t (dn n ifs).c (dn n el).e N it []))
section
variable {m i j t N r:Nat}{g:En}{h:Lo g}{F:List Cell}{R:MV->As->Prop}{T:MF->Loc->As->Prop}{E:Addr->As->Prop}{n:Int}{loc:Loc}{s:Ck}{S:As}{X:List Int}{l sz:Nat}{ps:List Nat}{a b c:IR}{D:Nat->List UInt8}{k:Nat}{x:LA}{bs cs d:List UInt8}{sl:List Slot}{o:Slot}{mo mo':MO}{tt:Bool}
theorem qS{cn:List Str}{cmap:List (Option Nat)}{tg ifs el:IR}(h:We E S loc (λit S1=>Co m cmap tt tg ifs el loc S1 R it) (dn m a).it):We E S loc R (dn m (.comp cn cmap tt a tg ifs el)).e:=by
 refine λσ s Q X k x=>h σ s _ X (λit σ1 S1 s1 ⟨N,hn,g⟩=> ?_) x
 have hm:=an.mp (an.mp hn).1
 refine⟨λq=> ?_,hm.2,ze (an.mp hn).2,N,g σ1 s1 _ _ (λacc l σ' S' s' ⟨nw,q⟩=>(by refine aT (nw σ' s') λr hr s2=> ?_;exact⟨r,hr,k _ _ _ s2 (q r)⟩)) λ_ _ _ _ _ h=>h⟩
 have:=hm.1;replace this:=q▸this;exact this
theorem Vs.cH{P:Lo g->Prop}(e:Le S (Vs P (Up g l sz ps ((x,mo)::F)))):dP S x mo:=λσ z=>(by refine aT (e σ z) λ_ _ z=> ?_;exact Lw.cH (i:=10) rfl σ z)
theorem Vs.newD{P:Lo g->Prop}{q:Cell}(e:Le S (Vs P (Up g l sz ps (q::F)))):pW S mo λr=>Vs P (Up g l sz ps ((r,mo)::F)):=λσ z=>let ⟨h,p,z⟩:=e σ z;let ⟨r,hr,z⟩:=Lw.new (o:=mo) σ z
 ⟨r,hr,h,p,Lw.sub (Lw.perm z (List.perm_middle (l₁:=Up g l sz ps []) (l₂:=q::F)).symm) (.append_left (.cons_cons _ (.cons _ (.refl F))) (Up g l sz ps []))⟩
theorem Vs.less{P:Lo g->Prop}{q:Cell}(e:Le S (Vs P (Up g l sz ps (q::F)))):Le S (Vs P (Up g l sz ps F)):=λσ z=>let ⟨h,p,z⟩:=e σ z;⟨h,p,Lw.sub z (.append_left (.cons _ (.refl F)) (Up g l sz ps []))⟩
theorem Dc(w:Wd g N sl t s)(p:Jn s none h)(h0:loc[0]?=some (some (.ref (g.a 21))))(h1:loc[1]?=some (some (.ref (g.a 18)))){R:It->As->Prop}(q:∀S' r,Le S' (Js g s (gI g sl t ((r, .list (fJ sl))::F)))->dP S' r (.list (fJ sl))->R (.lst r 0) S') :
  We E (Lw h (gI g sl t F)) loc R (dn (m+10) (.iter (.aO (.aa 0) "all_rows" (.cons (.aa 1) .nil)))).it:=
 F2 (bT (.aa h0) (Lw.up .w) rfl rfl (.cons (.aa h1) .nil) (xW w (Vs.at p) λS' r e=> .mk rfl (.mk (Vs.cH e) (q S' r e (Vs.cH e)))))
theorem BB(he:dP S x (.list (fJ sl)))(hi:i < sl.length):rV S (.lst x i) (some (CX (sl.getD i none) i, .lst x (i+1))):=ie he (nz hi)
theorem za(he:dP S x (.list (fJ sl))):rV S (.lst x sl.length) none:=by have:=fB he;exact fQ▸this
theorem sR(hi:i < sl.length):pJ (sl.take (i+1))=pJ (sl.take i)++pJ [sl.getD i none]:=by
 rw[bV,aQ,ay hi];exact List.filterMap_append
theorem uW{o:Slot}:(((IM o:Nat):Int) != 0)=o.isSome:=by
 cases o with
 |none=>rfl
 |some k=>exact bne_iff_ne.mpr λe=>absurd (Int.ofNat.inj e) (Nat.ne_of_gt (aC Nat.zero_lt_one (Nat.le_max_left 1 k)))
theorem ym(w:Wd g N sl t s)(p:Jn s none h)(q:∀S' r,Le S' (Js g s (gI g sl t ((r, .list (pJ sl))::F)))->R (.ref r) S'):Ct E R (Lw h (gI g sl t F)) 532 (m+11) [.ref (g.a 21), .ref (g.a 18)]:=by
 refine df qu (eT (qS (Dc w p rfl rfl λS' r e he=> .mk (sl.length+1) rfl ?_)))
 refine λσ z Q X k x=>oE (it:=λi=> .lst r i) (L:=sl.length) (I:=λi acc loc S=>acc=pJ (sl.take i)/\Fr [] 3 loc/\S=S') (D:=λacc S=>acc=pJ sl/\S=S') ?_ ?_ _ 0 [] _ S' (bZ _) ⟨rfl, .of rfl rfl,rfl⟩ σ z Q X (λacc l σ' S1 z' zz=>(by refine dA zz λe1 e2=> ?_;exact k acc l σ' S1 z' (e1▸ .mk (Vs.newD (e2▸e)) λr=>q _ r λ_ z=>z))) x
 ·rintro i acc loc S hi ⟨rfl,⟨y⟩,rfl⟩
  refine⟨ad (List.length_filterMap_le ..) (ad (List.length_take_le' ..) (ad (aL w.len) (by decide))), .mk (BB he hi) (t3 rfl rfl rfl (ut (eY (.cmp (.aa rfl) .ag .ne) (by
   refine ae uW▸ae (sR hi)▸ ?_
   cases sl.getD i none with
   |none=>exact⟨nofun,λ_=>⟨(cK _).symm, .of rfl rfl,rfl⟩⟩
   |some k=>exact⟨λ_=>bq (.aa rfl) ⟨rfl, .of rfl rfl,rfl⟩,nofun⟩))))⟩
 ·rintro acc loc S ⟨rfl,_,rfl⟩
  exact⟨za he,by exact ah _ List.take_length,rfl⟩
end
theorem L6 : ∀L < 15,((16 * L : Nat):Int) - Int.fmod (16 * L : Nat) 16=(16 * L : Nat)/\(16:Int)≠0:=by decide +kernel
section
variable {m i j t N r:Nat}{g:En}{h:Lo g}{F:List Cell}{R:MV->As->Prop}{T:MF->Loc->As->Prop}{E:Addr->As->Prop}{n:Int}{loc:Loc}{s:Ck}{S:As}{X:List Int}{l sz:Nat}{ps:List Nat}{a b c:IR}{D:Nat->List UInt8}{k:Nat}{x:LA}{bs cs d:List UInt8}{sl:List Slot}{o:Slot}{mo mo':MO}{tt:Bool}
theorem qx(hk:k < 22)(ho:∀k,o=some k->k < 22):(Iy o==gV k)=decide (o=some k):=by
 cases o with
 |none=>exact eu.mpr ⟨λe=>absurd (ah List.length (eq_of_beq e)) λz=>(AC k hk).2.2.1 z.symm,λe=>absurd (aF e) nofun⟩
 |some j=>exact eu.mpr ⟨λe=>aZ (ah some (wU j (ho j rfl) k hk (eq_of_beq e))),λe=>eI.mpr (ah gV (aS (aF e)))⟩
theorem pf : ∀ {sl:List Slot}{a:Nat},ft sl a<=a+sl.length
 | [],_=>aG _
 |none::_,_=>a9 ..
 |some _::sl,a=>ad (pf (sl:=sl)) (aw (Nat.succ_add_eq_add_succ ..))
theorem s7(hj:j < sl.length)(e:sl.getD j none=o):sl[j]?=some o:=by rw[aQ,ay hj] at e;refine ((ay hj)).trans ?_;exact ah some e
theorem II(w:Wd g N sl t s)(p:Jn s none h)(hk:k < 22)(q:∀j,sl[j]?=some (some k)->(∀i < j,sl[i]?≠some (some k))->∀S',Le S' (Js g s (gI g sl t F))->R (.tup [.int (mR k:Nat), .int (16 * j : Nat)]) S')
  (q0:some k∉sl->∀S',Le S' (Js g s (gI g sl t F))->R .none S'):Ct E R (Lw h (gI g sl t F)) 539 (m+11) [.ref (g.a 21), .ref (g.a 18), .bytes (gV k)]:=by
 refine fH sg (de rfl (cr (.cons (.aa rfl) .nil) (GU hk (to (Dc w p rfl rfl λS' r e he=> .mk (sl.length+1) rfl ?_)))))
 refine lY (it:=λi=> .lst r i) (L:=sl.length) (I:=λi loc S=>(∀j < i,sl[j]?≠some (some k))/\Fr [some (.ref (g.a 21)),some (.ref (g.a 18)),some (.bytes (gV k)),some (.bytes (gV k))] 3 loc/\S=S') ?_ ?_ _ 0 _ S' (bZ _) ⟨nofun, .of rfl rfl,rfl⟩
 ·rintro i loc S hi ⟨hn,⟨y⟩,rfl⟩
  refine .mk (BB he hi) (t3 rfl rfl rfl (iC (.and (.cmp (.aa rfl) .ag .ne) (.cmp (.aa rfl) (.aa rfl) .eqB)) (λb=> ?_) λb=> ?_))
  ·have b:=an.mp b
   refine ae (aF ((qx hk w.x6).symm.trans b.2))▸ ?_
   exact cC (.tup (.cons (.aa rfl) (.cons (.aa rfl) .nil)) (aj rfl)) (q i (s7 hi (aF ((qx hk w.x6).symm.trans b.2))) hn S (Vs.less e))
  ·refine bh ⟨λj hj=>(Nat.lt_succ_iff_lt_or_eq.mp hj).elim (hn j) λz e=> ?_, .of rfl rfl,rfl⟩
   subst z
   rw[uW,qx hk w.x6,(show sl.getD j none=some k by refine (aQ).trans ?_;refine ae e▸ ?_;rfl),aZ rfl] at b
   exact nomatch b
 ·rintro loc S ⟨hn,⟨y⟩,rfl⟩
  exact⟨za he,cC .ag (q0 (λz=>(by obtain⟨j,hj,e⟩:=List.getElem_of_mem z;exact hn j hj ((ay hj).trans (ah some e)))) S (Vs.less e))⟩
theorem HG(he:dP S x (.list (fJ sl)))(hj:j < sl.length):rV S (.rev x (j+1)) (some (CX (sl.getD j none) j, .rev x j)):=λσ z=> .rev (he σ z) (nz hj)
theorem zX(hj:j < sl.length):sl.drop j=sl.getD j none::sl.drop (j+1):=by rw[List.drop_eq_getElem_cons hj,aQ,ay hj];rfl
theorem w5(w:Wd g N sl t s)(Z:Zo g X s)(p:Jn s none h)(hk:k < 22)(hr:ft sl 0 < 14)(hx:((lN (ft sl 0 / 4):Nat):Int)∈X)(hl:s.ns.length<=5)
  (q:some k∉sl->∀s' t' S',(need (ft sl 0 / 4)<=t/\t'=t∨(t < need (ft sl 0 / 4)/\need (ft sl 0 / 4)<=N)/\t'=need (ft sl 0 / 4))->Zo g X s'->Wd g N (gW sl (ft sl 0) (some k)) t' s'->Le S' (Js g s' (gI g (gW sl (ft sl 0) (some k)) t' F))->R .none S')
  (q1:some k∈sl->∀S',Le S' (Js g s (gI g sl t F))->E Cj S')
  (q2:some k∉sl->N < need (ft sl 0 / 4)->∀s' S',Zo g X s'->Wd g N sl N s'->Le S' (Js g s' (gI g sl N F))->E qg S'):Ct E R (Lw h (gI g sl t F)) 546 (m+12) [.ref (g.a 21), .ref (g.a 18), .bytes (gV k), .int (mR k:Nat)]:=by
 refine dA (L6 _ w.len) λt1 t2=> ?_
 refine ig (AC k hk) λ_ n2 n3 _=> ?_
 refine kX rL (de rfl (cr (.cons (.aa rfl) .nil) (GU hk (cO (.cmp (.call (.cons (.aa rfl) .nil) (.x4 (ad n2 (by decide)))) .ag .lD) (beq_eq_false_iff_ne.mpr λe=>n3 (Int.ofNat.inj e)) ?_))))
 refine gA (PE.eq (.bin (.am (.aa rfl) (Lw.up .d) rfl rfl) (.bin (.am (.aa rfl) (Lw.up .d) rfl rfl) .glob (.mod t2)) .sub) (ah MV.int t1)) rfl ?_
 refine to (IN (bT (.aa rfl) (Lw.up .w) rfl rfl (.cons (.aa rfl) .nil) (xW w (Vs.at p) λS' r e=> .mk rfl (.mk ⟨Vs.cH e,fQ▸ad (aL w.len) (by decide)⟩ (.mk (sl.length+1) rfl ?_)))))
 rw[fQ]
 refine lY (it:=λi=> .rev r (sl.length - i)) (L:=sl.length) (I:=λi loc S=>some k∉sl.drop (sl.length - i)/\Fr [some (.ref (g.a 21)),some (.ref (g.a 18)),some (.bytes (gV k)),some (.int (mR k:Nat)),some (.bytes (gV k)),some (.int (16 * ft (sl.drop (sl.length - i)) (sl.length - i):Nat))] 3 loc/\S=S') ?_ ?_ _ 0 _ S' (bZ _) ⟨by rw[Nat.sub_zero];refine ae List.drop_length▸ ?_;exact nofun, .of (by rw[Nat.sub_zero,List.drop_length];rfl) rfl,rfl⟩
 ·rintro i loc S hi ⟨hn,⟨y⟩,rfl⟩
  obtain⟨j,e1⟩ : ∃j,sl.length - i=j+1:=⟨_,(Nat.succ_pred_eq_of_pos (Nat.sub_pos_of_lt hi)).symm⟩
  have hj : j < sl.length:=aC (Nat.lt_succ_self j) (ad (aw e1.symm) (Nat.sub_le ..))
  have hd:=zX hj
  rw[e1] at hn
  refine ae e1▸ae (show sl.length - (i+1)=j by refine (Nat.sub_sub ..)▸ ?_;rw[e1];rfl)▸ ?_
  refine .mk (HG (Vs.cH e) hj) (t3 rfl rfl rfl (wS (.cmp (.aa rfl) .ag .lD) (λb=>gA (.aa rfl) rfl (bh (bh ?_))) λb=>iC (.cmp (.aa rfl) (.aa rfl) .eqB) (λb2=>tL (q1 ?_ S (Vs.less e))) λb2=>bh (bh ?_)))
  ·have o1 : sl.getD j none=none:=Option.isSome_eq_false_iff.mp (uW.symm.trans (by rw[bne];exact ah _ b)) |> Option.isNone_iff_eq_none.mp
   rw[o1] at hd
   exact⟨hd▸λz=>(aK.mp z).elim nofun hn, .of (by refine ae hd▸ ?_;rfl) rfl,rfl⟩
  ·exact au (s7 hj (aF ((qx hk w.x6).symm.trans b2)))
  ·have o2:=br ((qx hk w.x6).symm.trans b2)
   cases o1 : sl.getD j none with
   |none=>rw[o1] at b;exact nomatch b
   |some k'=>
    rw[o1] at hd o2
    exact⟨hd▸λz=>(aK.mp z).elim (λz=>o2 z.symm) hn, .of (by rw[hd];rfl) rfl,rfl⟩
 ·rintro loc S ⟨hn,⟨y⟩,rfl⟩
  rw[Nat.sub_self] at hn;replace hn:=List.drop_zero▸hn
  refine⟨?_, ?_⟩
  ·refine ae (Nat.sub_self ..)▸ ?_;exact λσ z=> .Li
  have ef : ft (sl.drop (sl.length - sl.length)) (sl.length - sl.length)=ft sl 0:=by refine ae (Nat.sub_self ..)▸ ?_;rfl
  refine dQ (Vs.less e) λh p=>gG (ic (cM (.aa rfl) (mP (Lw.up .d) rfl rfl) (bj (bq (.aa (v:= .int (16 * ft sl 0 : Nat)) (by exact ae ef▸rfl)) (bj (cr (.cons (.aa rfl) (.cons (.aa rfl) .nil)) (zA hk (ci (ed (yi w Z hr (ad pf (aw (bZ _))) (λ_ z=>by cases z;exact hk) hx hl (Vs.at p) (λs' t' S' ht Z' w' e=> ?_) λh2 s' S' Z' w' e=> ?_))))))))))
  ·exact bq .glob (.mk .lt ⟨nofun,λ_=>bh (q hn s' t' S' ht Z' w' e)⟩)
  ·exact bq .glob (.mk .lt ⟨λ_=>tL (q2 hn h2 s' S' Z' w' e),nofun⟩)
theorem DP(w:Wd g N sl t s)(Z:Zo g X s)(p:Jn s none h)(hr:r < sl.length/\r < 14)(hx:((lN (r / 4):Nat):Int)∈X)(hl:s.ns.length<=5)
  (q:∀s' S',Zo g X s'->Wd g N (sl.set r none) t s'->Le S' (Js g s' (gI g (sl.set r none) t F))->R .none S'):Ct E R (Lw h (gI g sl t F)) 553 (m+11) [.ref (g.a 21), .ref (g.a 18), .int (16 * r : Nat)]:=by
 have hn : need (r / 4)<=t:=Ci t w.h6 _ w.len w.pr (r / 4) ((Kc r (cG hr.2 (by decide))).2.2.2) (az (Nat.mul_div_le r 4) hr.1)
 refine fH pA (bY (bT (.aa rfl) (Lw.up .d) rfl rfl (.cons (.aa rfl) (.cons (.call (.cons .glob .nil) (.vp (show _/\_ by decide))) .nil)) (yi (o:=none) w Z hr.2 (aL hr.1) nofun hx hl (Vs.at p) (λs' t' S' ht Z' w' e=>bh ?_) λh2=>absurd (ad hn w.nb.2) (Nat.not_le.mpr h2))))
 refine dA (ht.resolve_right λz=>iw.mpr hn z.1.1) λ_ zr1_=> ?_;subst zr1_
 unfold gW at w' e;rw[if_pos hr.1] at w' e
 exact q s' S' Z' w' e
end
noncomputable def sV : Slot->MV
 |none=> .none
 |some k=> .bytes (gV k)
noncomputable def ji(sl:List Slot):List MV:=sl.map sV
noncomputable def kU : List (List UInt8×MV):=(List.range 20).map λk=>(gV (k+2), .int (2+k : Nat))
noncomputable def xg(g:En)(N t:Nat)(x:LA):List (String×MV):=[("slots", .ref x),("blocks", .ref (g.a 24)),("names", .bool (decide (3<=t))),("free", .int (N - t : Nat)),("numbers", .ref (g.a 25))]
noncomputable def sh(n:Nat):List MV:=(List.range n).map er
noncomputable def Ow(g:En)(N:Nat)(sl:List Slot)(nb t:Nat)(x:LA)(F:List Cell):List Cell:=(g.a 23, .dD (xg g N t x))::(g.a 24, .list (sh nb))::(g.a 25, .iS kU)::(x, .list (ji sl))::F
noncomputable def Gf : Nat->MV
 |0=> .str "bits"
 |1=> .str "names"
 |2=> .str "row"
 |i+3=> .int i
theorem LS : ∀k : Nat,k < 20->((0:Int)<=97+k/\(97:Int)+k < 256)/\((k:Int).natAbs < 2^32/\(5:Int).natAbs < 2^32)/\(0<=((k:Int) * 5).fmod 14/\((k:Int) * 5).fmod 14<=1000)/\[((97:Int)+k).toNat.toUInt8]++(List.replicate (((k:Int) * 5).fmod 14).toNat [(46:UInt8)]).flatten=gV (k+2):=by decide +kernel
section
variable {m i j t N r nb:Nat}{g:En}{h:Lo g}{F:List Cell}{R:MV->As->Prop}{T:MF->Loc->As->Prop}{E:Addr->As->Prop}{n:Int}{loc:Loc}{s:Ck}{S:As}{X:List Int}{l sz:Nat}{ps nt:List Nat}{a b c:IR}{D:Nat->List UInt8}{k:Nat}{x y:LA}{bs cs d:List UInt8}{sl:List Slot}{o:Slot}{mo mo':MO}{tt:Bool}{v:MV}{vs:List MV}
theorem qc(hk:k < 20)(q:R (.bytes (gV (k+2))) (Lw h F)):Ct E R (Lw h F) 1106 (m+1) [.int k]:=by
 refine ig (LS k hk) λe1 e2 e3 e4=> ?_
 refine dh wL (eT (l7 (cV (bj (dz (c8 (vs:=[.int (97+k)]) (.cons (.bin .ag (.aa rfl) .add) .nil) ⟨aj rfl,Lw.new,λr=>ci (on (ns:=[97+(k:Int)]) (Lw.cH (i:=0) rfl) (aj rfl) rfl (λn m=>av.mp m▸e1) ?_)⟩))))))
 refine tD (S1:=Lw h F) (λ_ s=>Lw.sub s (.cons _ (.refl _))) (bq (v:= .bytes (List.replicate (((k:Int) * 5).fmod 14).toNat [(46:UInt8)]).flatten) (.bin .ag (.bin (.bin (.aa rfl) .ag (.mul e2)) .ag (.mod (show (14:Int)≠0 by decide))) (.Gz ⟨e3.1,e3.2,by decide,nofun⟩)) (.mk (.Ea ?_) (e4.symm▸q)))
 exact aA▸e4.symm▸ad (AC (k+2) (Nat.add_lt_add_right hk 2)).2.1 (by decide)
theorem oq(h:We E S loc (λp S1=>Br p (We E S1 loc R (dn m b).e) (We E S1 loc R (dn m c).e)) (dn m a).b):We E S loc R (dn m (.ite a b c)).e:=by
 refine λσ s Q X k x=>h σ s _ X (λp σ1 S1 s1 g=> ?_) x
 cases p
 ·exact g.f rfl σ1 s1 Q X k x
 ·exact g.t rfl σ1 s1 Q X k x
theorem Up.own(hi:(Ow g N sl nb t x F)[i]?=some (y,mo)):dP (Lw h (Up g l sz ps (Ow g N sl nb t x F))) y mo:=Lw.cH (i:=i+10) hi
theorem dR{w:MV}{K:String}(h0:loc[j]?=some (some (.ref (g.a 23))))(e:(xg g N t x).lookup K=some w):PE loc (Lw h (Up g l sz ps (Ow g N sl nb t x F))) (.item (.aa j) (.ag (.str K))) w:=
 .item (.aa h0) .ag (.ref (Up.own (i:=0) rfl) (.dS e))
end
noncomputable abbrev Bk(g:En)(l sz:Nat)(ps:List Nat)(N:Nat)(sl:List Slot)(nb t:Nat)(x y:LA)(nt:List Nat)(F:List Cell):List Cell:=Up g l sz ps (Ow g N sl nb t x ((y, .list (nt.map Gf))::F))
theorem Kf : ∀nb < 5,∀i : Nat,i < 4->(sh nb).all (λv=>(v.fe (.int i)).isSome)=true/\(sh nb).any (λv=>(v.fe (.int i)).getD false)=decide (i < nb):=by decide +kernel
section
variable {m i j t N r nb:Nat}{g:En}{h:Lo g}{F:List Cell}{R:MV->As->Prop}{T:MF->Loc->As->Prop}{E:Addr->As->Prop}{n:Int}{loc:Loc}{s:Ck}{S:As}{X:List Int}{l sz:Nat}{ps nt:List Nat}{a b c:IR}{D:Nat->List UInt8}{k:Nat}{x y:LA}{bs cs d:List UInt8}{sl:List Slot}{o:Slot}{mo mo':MO}{tt:Bool}{v:MV}{vs:List MV}
theorem qA{tok:Nat}(h2:loc[j]?=some (some (.ref y)))(ha:PE loc (Lw h (Bk g l sz ps N sl nb t x y nt F)) a (Gf tok))(hl:nt.length<=1000)(q:Wp E (Lw h (Bk g l sz ps N sl nb t x y (nt++[tok]) F)) loc T (dn m b).s) :
  Wp E (Lw h (Bk g l sz ps N sl nb t x y nt F)) loc T (dn m (.cons (.expr (.aO (.aa j) "append" (.cons a .nil))) b)).s:=by
 exact bY (cM (.aa h2) (gO (Lw.cH (i:=14) rfl) (.list rfl)) (c8 (.cons ha .nil) (md (Lw.cH (i:=14) rfl) (by refine ae (aq ..)▸ ?_;exact ad hl (by decide)) (Lw.jJ (F':=Bk g l sz ps N sl nb t x y (nt++[tok]) F) (i:=14) rfl (by refine ae ((aY (f:=Gf) (l₂:=[tok])).symm)▸ ?_;rfl)) q)))
theorem free_eq(hN:t < N):((N - t : Nat):Int) - 1=(N - (t+1):Nat):=Ip hN
theorem BC(hN:t < N)(h3:decide (3<=t)=decide (3<=t+1)):Upd (Lw h (Up g l sz ps (Ow g N sl nb t x F))) (g.a 23) (.dD (gX (xg g N t x) "free" (.int ((N - t : Nat) - 1)))) (Lw h (Up g l sz ps (Ow g N sl nb (t+1) x F))):=
 Lw.jJ (i:=10) rfl (by rw[free_eq hN];delta Ow xg;refine h3▸ ?_;rfl)
theorem uM : (((N - t : Nat):Int)==0)=decide (N<=t):=decide_eq_decide.mpr (Int.natCast_eq_zero.trans Nat.sub_eq_zero_iff_le)
theorem EZ(hb:nb < 5/\i < 4)(hi:i < nb↔need i<=t)(hx:nb<=i->nb=i/\(t=i/\i < 3∨t=i+1/\2<=i))(ht:t<=N/\2<=N)(hl:nt.length<=100)
  (q1:need i<=N->∀e,(∀z∈e,z < 2)->e.length<=4->R (.bool true) (Lw h (Bk g l sz ps N sl (max nb (i+1)) (max t (need i)) x y (nt++e) F)))
  (q2:N < need i->∀e,(∀z∈e,z < 2)->e.length<=4->R (.bool false) (Lw h (Bk g l sz ps N sl nb N x y (nt++e) F))) :
  Ct E R (Lw h (Bk g l sz ps N sl nb t x y nt F)) 1113 (m+1) [.ref (g.a 23), .int i, .ref y]:=by
 refine dA (Kf nb hb.1 i hb.2) λb1 b2=> ?_
 refine fH uU (iC (.cmp (.aa rfl) (dR rfl rfl) (.inR (Up.own (i:=1) rfl) (.list b1))) (λb=> ?_) λb=> ?_)
 ·have b:=aF (b2.symm.trans b)
  have hn:=hi.mp b
  have:=q1 (ad hn ht.1) [] nofun (bC _)
  rw[Nat.max_eq_left b,Nat.max_eq_left hn,cK] at this
  exact cC .ag this
 have b:=Nat.le_of_not_lt (br (b2.symm.trans b))
 obtain⟨rfl,hx⟩:=hx b
 replace q1:=(Nat.max_eq_right (cT nb))▸q1;replace q1:=(Nat.max_eq_right (aL (Nat.lt_of_not_le λz=>Nat.lt_irrefl _ (hi.mpr z))))▸q1
 have fin : ∀ {t e loc},t<=N->need nb=t+1->decide (3<=t)=decide (3<=t+1)->(∀z∈e,z < 2)->e.length<=2->Fr [some (.ref (g.a 23)),some (.int nb),some (.ref y)] 0 loc->Wp E (Lw h (Bk g l sz ps N sl nb t x y (nt++e) F)) loc (λf _ S=>R (fZ f) S) (dn m i5.tl.tl).s:=by
  rintro t e _ tN hn h3 he hle ⟨_⟩
  refine iC (.cmp (dR rfl rfl) .ag .lD) (λb=>cC .ag ?_) λb=> ?_
  ·have b:=aF (uM.symm.trans b)
   obtain rfl:=Nat.le_antisymm tN b
   exact q2 (hn▸Nat.lt_succ_self t) e he (ad hle (by decide))
  have b:=Nat.lt_of_not_le (br (uM.symm.trans b))
  refine ct (bq (.bin (dR rfl rfl) .ag .sub) (dW (.aa rfl) .ag (Up.own (i:=0) rfl) (.dS (aj rfl)) (BC b h3) ?_))
  refine bY (cM (dR rfl rfl) (gO (Up.own (i:=1) rfl) (.list rfl)) (c8 (.cons (.aa rfl) .nil) (md (Up.own (i:=1) rfl) (by unfold sh;rw[aq,d8];exact ad (aL hb.1) (by decide)) (Lw.jJ (F':=Bk g l sz ps N sl (nb+1) (t+1) x y (nt++e) F) (i:=11) rfl (by refine ae (show sh nb++[.int nb]=sh (nb+1) by unfold sh;rw[List.range_succ,aY];rfl)▸ ?_;rfl)) ?_)))
  have hl' : (nt++e).length<=999:=by rw[aA];exact ad (bF hl hle) (by decide)
  have e01 : ∀ {z:Nat}{e:List Nat},(∀z∈e,z < 2)->z < 2->∀w∈e++[z],w < 2:=λhe hz w m=>(bI.mp m).elim (he w) λm=>av.mp m▸hz
  have q1:=q1 (hn▸b)
  replace q1:=hn▸q1
  refine qA (tok:=0) rfl .ag (cE hl') (iC (.cmp (.aa rfl) .ag .gt) (λ_=> ?_) λ_=>cC .ag ?_)
  ·refine qA (tok:=1) rfl .ag (by rw[aA];exact Nat.succ_le_succ hl') (bh (cC .ag ?_))
   have:=q1 (e++[0]++[1]) (e01 (e01 he (by decide)) (by decide)) (by rw[aA];refine ae aA▸ ?_;exact bD hle 2)
   rwa [<-aH,<-aH] at this
  ·have:=q1 (e++[0]) (e01 he (by decide)) (by rw[aA];exact ad (bD hle 1) (by decide))
   rwa [<-aH] at this
 have e0 : nt=nt++[]:=(cK _).symm
 refine iC (.and (.cmp (.aa rfl) .ag .gt) (.not (.item (dR rfl rfl) .bool))) (λb=> ?_) λb=> ?_
 ·have b2:=(an.mp b).2
  obtain⟨rfl,rfl⟩ : nb=2/\t=2:=hx.elim (λh=>have e : nb=2:=Nat.le_antisymm (bH h.2) (aX.mp (aF ((an.mp b).1)));⟨e,h.1.trans e⟩) λh=>absurd (ad (Nat.succ_le_succ h.2) (aw h.1.symm)) (br ((Bool.not_eq_true' _).mp b2))
  refine iC (.cmp (dR rfl rfl) .ag .lD) (λb=>cC .ag ?_) λb=> ?_
  ·have b:=aF (uM.symm.trans b)
   obtain rfl : N=2:=Nat.le_antisymm b ht.2
   have:=q2 (by decide) [] nofun (by decide)
   rwa [<-e0] at this
  have b:=Nat.lt_of_not_le (br (uM.symm.trans b))
  refine ct (bq (.tup (.cons (.bin (dR rfl rfl) .ag .sub) (.cons .ag .nil)) (aj rfl)) (iW rfl (c6 (dW (.aa rfl) .ag (Up.own (i:=0) rfl) (.dS (aj rfl)) (Lw.jJ (i:=10) rfl rfl) (c6 (dW (.aa rfl) .ag (Lw.cH (i:=10) rfl) (.dS (aj rfl)) (Lw.jJ (F':=Bk g l sz ps N sl 2 3 x y nt F) (i:=10) rfl ?_) (iZ ?_)))))))
  ·refine ae (free_eq b)▸ ?_;rfl
  refine qA (tok:=0) rfl .ag (ad hl (by decide)) (qA (tok:=1) rfl .ag (by rw[aA];exact ad (Nat.succ_le_succ hl) (by decide)) (bh ?_))
  refine ae (aH ..)▸ ?_
  exact fin (t:=3) b rfl rfl (by decide) (by decide) (.of rfl rfl)
 ·have b : ¬(1 < nb/\¬3<=t):=λz=>by rw[aZ (show (nb:Int) > 1 from aX.mpr z.1)] at b;replace b:=(bz z.2)▸b;exact nomatch b
  have h4 : need nb=t+1/\(3<=t↔3<=t+1):=hx.elim (λh=>have n2 : nb < 2:=Nat.lt_of_not_le λz=>b ⟨z,Nat.not_le.mpr (h.1▸h.2)⟩;⟨(if_pos n2).trans (ah (·+1) h.1.symm),λz=>absurd z (Nat.not_le.mpr (h.1▸h.2)),λz=>absurd (h.1▸n2 : t < 2) (iw.mpr (Nat.le_of_succ_le_succ z))⟩) λh=>⟨(if_neg (iw.mpr h.2)).trans (ah (·+1) h.1.symm),cE,λ_=>h.1▸Nat.succ_le_succ h.2⟩
  have:=fin (t:=t) (e:=[]) (loc:=[some (.ref (g.a 23)),some (.int nb),some (.ref y)]) ht.1 h4.1 (decide_eq_decide.mpr h4.2) nofun (by decide) (.of rfl rfl)
  exact e0▸this
end
noncomputable def Jv : Nat->Int ⊕ Str
 |0=> .inr (Str.ofString "bits")
 |1=> .inr (Str.ofString "names")
 |2=> .inr (Str.ofString "row")
 |i+3=> .inl i
structure sq(nt:List Nat)(j:Nat):Prop where
 len : nt.length<=6 * j
 sub : ∃Y : List Nat,Y.length<=j/\∀z∈nt,z∈0::1::2::Y
structure Bo(N:Nat)(sl:List Slot)(t:Nat):Prop where
 tok : ∀k,some k∈sl->k < 22
 len : sl.length < 15
 pr : lp sl.length t=true
 tN : t<=N/\2<=N
 h6 : t < 6
noncomputable abbrev mB(L:Nat):Nat:=(L+3) / 4
set_option synthInstance.maxSize 2000 in
set_option synthInstance.maxHeartbeats 400000 in
theorem Ly : ∀t < 6,∀L < 15,∀r < 14,lp L t=true/\r<=L->(mB L < 5/\r / 4 < 4)/\(r / 4 < mB L↔need (r / 4)<=t)/\(¬mB L<=r / 4∨mB L=r / 4/\(t=r / 4/\r / 4 < 3∨t=r / 4+1/\2<=r / 4))/\max (mB L) (r / 4+1)=mB (max L (r+1)):=by decide +kernel
theorem KG : ∀r : Nat,r < 14->(r:Int).fdiv 4=(r / 4 : Nat)/\((4:Int)≠0/\(r:Int).natAbs < 2^60/\(4:Int).natAbs < 2^60):=by decide +kernel
theorem KK : ∀L < 15,∀r : Nat,r < 14->r<=L->clipAt L (r:Int)=r/\clipAt L ((r:Int)+1)=min (r+1) L:=by decide +kernel
theorem nc{κ:Type} [DecidableEq κ]:∀ (ks acc:List κ),acc.Nodup->(ks.foldl (λacc k=>if k∈acc then acc else acc++[k]) acc).Nodup/\∀x∈ks.foldl (λacc k=>if k∈acc then acc else acc++[k]) acc,x∈acc∨x∈ks
 | [],acc,h=>⟨h,λ_ hx=> .inl hx⟩
 |k::ks,acc,h=>by
  refine ae List.foldl_cons▸ ?_
  by_cases q : k∈acc
  ·rw[if_pos q]
   have:=nc ks acc h
   exact⟨this.1,λx hx=>(this.2 x hx).imp_right (aB _)⟩
  ·rw[if_neg q]
   have:=nc ks (acc++[k]) (List.nodup_append.mpr ⟨h,List.nodup_cons.mpr ⟨List.not_mem_nil,List.nodup_nil⟩,λa ha b hb e=>q (by cases av.mp hb;exact e▸ha)⟩)
   exact⟨this.1,λx hx=>(this.2 x hx).elim (λy=>(bI.mp y).imp_right λz=>by refine ae (av.mp z)▸ ?_;exact aV ..) λy=> .inr (aB _ y)⟩
section
variable {m i j t N r nb:Nat}{g:En}{h:Lo g}{F:List Cell}{R:MV->As->Prop}{T:MF->Loc->As->Prop}{E:Addr->As->Prop}{n:Int}{loc:Loc}{s:Ck}{S:As}{X:List Int}{l sz:Nat}{ps nt:List Nat}{a b c lo hi:IR}{D:Nat->List UInt8}{k:Nat}{x y:LA}{bs cs d:List UInt8}{sl:List Slot}{o:Slot}{mo mo':MO}{tt:Bool}{v:MV}{vs:List MV}
theorem B7 : ∀ {nt:List Nat},lu (nt.map Gf)=some (nt.map Jv)
 | []=>rfl
 |z::nt=>by
  have:=B7 (nt:=nt)
  match z with
  |0=>show (lu (nt.map Gf)).map _=_;refine (ah _ this).trans ?_;rfl
  |1=>show (lu (nt.map Gf)).map _=_;refine (ah _ this).trans ?_;rfl
  |2=>show (lu (nt.map Gf)).map _=_;refine (ah _ this).trans ?_;rfl
  |i+3=>show (lu (nt.map Gf)).map _=_;refine (ah _ this).trans ?_;rfl
theorem sq.met(h:sq nt j):(Internal.met (nt.map Jv)).length<=3+j:=by
 refine aT h.sub λY hY hs=> ?_
 refine ad ((nc (nt.map Jv) [] List.nodup_nil).1.length_le_of_subset (l₂:=(0::1::2::Y).map Jv) λx hx=> ?_) (by refine ae (aq ..)▸ ?_;exact Nat.add_comm 3 j▸bD hY 3)
 refine aT (cq.mp (((nc (nt.map Jv) [] List.nodup_nil).2 x hx).resolve_left nofun)) λz hz e=> ?_
 exact cq.mpr ⟨z,hs z hz,e⟩
theorem sq.more(h:sq nt j){e:List Nat}(he:∀z∈e,z < 3∨z=i)(hl:e.length<=6):sq (nt++e) (j+1):=by
 refine aT h.sub λY hY hs=> ?_
 refine⟨by refine ae aA▸ ?_;exact bF h.len hl,i::Y,Nat.succ_le_succ hY,λz hz=> ?_⟩
 refine Or.elim (bI.mp hz) (λhz=> ?_) λhz=> ?_
 ·have:=hs z hz
  simp only[aK] at this ⊢
  rcases this with z | z | z | z
  ·exact .inl z
  ·exact .inr (.inl z)
  ·exact .inr (.inr (.inl z))
  ·exact .inr (.inr (.inr (.inr z)))
 ·rcases he z hz with q | q
  ·match z,q with
   |0,_=>exact .head _
   |1,_=>exact .tail _ (.head _)
   |2,_=>exact .tail _ (.tail _ (.head _))
  ·exact q▸ .tail _ (.tail _ (.tail _ (.head _)))
theorem w8(hk:k < 22):∀ {sl:List Slot},(∀k,some k∈sl->k < 22)->(ji sl).all (λv=>(v.fe (.bytes (gV k))).isSome)=true/\(ji sl).any (λv=>(v.fe (.bytes (gV k))).getD false)=decide (some k∈sl)
 | [],_=>⟨rfl,rfl⟩
 |o::sl,h=>by
  have ⟨a,b⟩:=w8 hk (sl:=sl) λk m=>h k (aB _ m)
  refine⟨(List.all_cons ..).trans (an.mpr ⟨?_,a⟩),(List.any_cons ..).trans ?_⟩
  ·cases o<;>rfl
  ·refine (ah _ (show (List.map _ sl).any _=_ from b)).trans ?_;refine eu.mpr ?_;rw[decide_eq_true_iff,aK,Bool.or_eq_true,decide_eq_true_iff]
   refine or_congr ?_ .rfl
   cases o with
   |none=>exact⟨nofun,nofun⟩
   |some j=>exact⟨λe=>ah some (wU j (h j (.head _)) k hk (eq_of_beq e)).symm,λe=>eI.mpr (ah gV (aS e).symm)⟩
theorem nD : ∀ {sl:List Slot}{a:Nat},(ji sl).all (λv=>(v.fe .none).isSome)=true/\((ji sl).any (λv=>(v.fe .none).getD false)=true->(ji sl).findIdx? (λv=>(v.fe .none).getD false)=some (ft sl a - a))/\((ji sl).any (λv=>(v.fe .none).getD false)=false->ft sl a=a+sl.length)
 | [],_=>⟨rfl,nofun,λ_=>rfl⟩
 |none::sl,a=>⟨(List.all_cons ..).trans (nD (sl:=sl) (a:=0)).1,λ_=>by refine ae (show ft (none::sl) a - a=0 from Nat.sub_self a)▸ ?_;rfl,nofun⟩
 |some k::sl,a=>by
  have ⟨p,q,r⟩:=nD (sl:=sl) (a:=a+1)
  refine⟨(List.all_cons ..).trans p,λh=> ?_,λh=>(r h).trans (Nat.succ_add_eq_add_succ ..)⟩
  have:=q h
  refine (List.findIdx?_cons).trans ?_;rw[show List.map _ sl=ji sl from rfl,this]
  have hle : a+1<=ft sl (a+1):=by
   clear this q r p h
   generalize a+1=b
   induction sl generalizing b with
   |nil=>exact aG _
   |cons o sl ih=>cases o with
    |none=>exact aG _
    |some k=>exact ad (cT b) (ih (b+1))
  show some (ft sl (a+1) - (a+1)+1)=some (ft sl (a+1) - a)
  exact ah _ (Nat.sub_add_cancel (Nat.sub_pos_of_lt hle))
theorem qJ{q:Nat}(e:dP S x (.list vs))(ha:vs.length<=100000/\vs.all (λw=>(w.fe v).isSome)=true)(f:vs.findIdx? (λw=>(w.fe v).getD false)=some q)(k:R (.int q) S):We E S loc R (eK m (.builtin "list.index") [.ref x,v]):=λσ s _ _ kk _=>tY.mk (e σ s) ha f (kk _ _ S s k)
theorem Ab(ha:PE loc S a (.ref x))(e:dP S x (.list (nt.map Gf)))(hl:nt.length<=1000)(q:R (.int (met (nt.map Jv)).length) S):We E S loc R (dn m (.mx a)).e:=λσ s _ _ k _=>ha.ok s (.mk (e σ s) B7 (by refine ae (aq ..)▸ ?_;exact hl) (k _ _ S s q))
theorem sT{u z:MV}{i j:Option Int}{S':LA->As}(ho:PE loc S a (.ref x))(hl:PE loc S lo u)(hh:PE loc S hi z)(c:e9 u i)(d:e9 z j)(e:dP S x (.list vs))(hb:vs.length<=100000)(nw:pW S (.list (cut vs i j)) S')(q:∀r,R (.ref r) (S' r)):We E S loc R (dn m (.slice a lo hi)).e:=
 λσ s _ _ k _=>ho.ok s (hl.ok s (hh.ok s ((by refine aT (nw σ s) λr hr s'=> ?_;exact⟨_,_,c,d, .list (e σ s) hb hr (k _ _ _ s' (q r))⟩))))
theorem Ex(hr:r<=sl.length):(ji sl).take r++[.bytes (gV k)]++(ji sl).drop (r+1)=ji (gW sl r (some k)):=by
 delta gW ji
 split
 ·rw[List.map_set,List.set_eq_take_append_cons_drop,aq,if_pos ‹_›];refine (aH ..).trans ?_;rfl
 ·have e:=Nat.le_antisymm hr (Nat.le_of_not_lt ‹_›)
  rw[aY,cF (by rw[aq,e];exact aG _)];refine (ah _ (List.drop_of_length_le (by rw[aq,e];exact cT _))).trans ?_;refine (cK ..).trans ?_;rfl
end
section
variable {m i j t N r nb:Nat}{g:En}{h:Lo g}{F:List Cell}{R:MV->As->Prop}{T:MF->Loc->As->Prop}{E:Addr->As->Prop}{n:Int}{loc:Loc}{s:Ck}{S:As}{X:List Int}{l sz:Nat}{ps nt:List Nat}{a b c lo hi:IR}{D:Nat->List UInt8}{k:Nat}{x y:LA}{bs cs d:List UInt8}{sl:List Slot}{o:Slot}{mo mo':MO}{tt:Bool}{v:MV}{vs:List MV}
theorem dY : (ji sl).length=sl.length:=aq ..
theorem Hn(hL:sl.length < 15)(hr:r < 14)(h:r<=sl.length):cut (ji sl) none (some (r:Int))=(ji sl).take r:=by
 show ((ji sl).drop 0).take (clipAt (ji sl).length r - 0)=_
 exact ae dY▸ae ((KK _ hL r hr h).1)▸rfl
theorem HC(hL:sl.length < 15)(hr:r < 14)(h:r<=sl.length):cut (ji sl) (some ((r:Int)+1)) none=(ji sl).drop (r+1):=by
 show ((ji sl).drop (clipAt (ji sl).length ((r:Int)+1))).take ((ji sl).length - clipAt (ji sl).length ((r:Int)+1))=_
 refine ae dY▸ae ((KK _ hL r hr h).2)▸ ?_
 rcases Nat.lt_or_ge r sl.length with q | q
 ·rw[Nat.min_eq_left q];exact cF (by rw[List.length_drop,dY];exact aG _)
 ·rw[Nat.min_eq_right (cE q),Nat.sub_self];exact (List.drop_of_length_le (by rw[dY];exact cE q)).symm
theorem AH{z:LA}{mo:MO}{sl':List Slot}{F:List Cell}{σ:MH}(h1:Lw h ((z, .list (ji sl'))::Up g l sz ps ((g.a 23, .dD (xg g N t z))::(g.a 24, .list (sh nb))::(g.a 25, .iS kU)::(x,mo)::F)) σ):Lw h (Up g l sz ps (Ow g N sl' nb t z F)) σ:=
 Lw.sub (Lw.perm h1 (List.perm_middle (l₁:=Up g l sz ps [(g.a 23, .dD (xg g N t z)),(g.a 24, .list (sh nb)),(g.a 25, .iS kU)]) (l₂:=(x,mo)::F)).symm) (.append_left (.cons_cons _ (.cons _ (.refl F))) (Up g l sz ps [(g.a 23, .dD (xg g N t z)),(g.a 24, .list (sh nb)),(g.a 25, .iS kU)]))
theorem FI(B:Bo N sl t)(hk:k < 22)(hr:ft sl 0 < 14)(O:sq nt j)(hj:j<=2)
  (q0:some k∈sl->R (.str "there") (Lw h (Bk g l sz ps N sl (mB sl.length) t x y nt F)))
  (q1:some k∉sl->need (ft sl 0 / 4)<=N->∀nt' x',sq nt' (j+1)->∀S,Le S (Lw h (Bk g l sz ps N (gW sl (ft sl 0) (some k)) (mB (gW sl (ft sl 0) (some k)).length) (max t (need (ft sl 0 / 4))) x' y nt' F))->R (.str "done") S)
  (q2:some k∉sl->N < need (ft sl 0 / 4)->∀nt',sq nt' (j+1)->R (.str "room") (Lw h (Bk g l sz ps N sl (mB sl.length) N x y nt' F))) :
  Ct E R (Lw h (Bk g l sz ps N sl (mB sl.length) t x y nt F)) 1120 (m+2) [.ref (g.a 23), .bytes (gV k), .ref y]:=by
 refine dA (w8 hk B.tok) λs1 s2=> ?_
 refine ip (nD (sl:=sl) (a:=0)) λz1 z2 z3=> ?_
 have l5 : (ji sl).length<=100000:=by refine ae dY▸ ?_;exact ad (aL B.len) (by decide)
 have hle : ft sl 0<=sl.length:=ad pf (aw (bZ _))
 refine ig (Ly t B.h6 _ B.len _ hr ⟨B.pr,hle⟩) λhb b1 b2 b3=> ?_
 have f1:=(KG _ hr).1;have f2:=(KG _ hr).2
 have nl : nt.length<=12:=ad O.len (dq 6 hj)
 refine fH uy (iC (.cmp (.aa rfl) (dR rfl rfl) (.inR (Up.own (i:=3) rfl) (.list s1))) (λb=>cC .ag (q0 (aF (s2.symm.trans b)))) λb=> ?_)
 refine de rfl (oq (eY (.cmp .ag (dR rfl rfl) (.inR (Up.own (i:=3) rfl) (.list z1))) (p:=(ji sl).any (λv=>(v.fe .none).getD false)) ?_))
 suffices tgt : Wp E (Lw h (Bk g l sz ps N sl (mB sl.length) t x y nt F)) [some (.ref (g.a 23)),some (.bytes (gV k)),some (.ref y),some (.int (ft sl 0:Nat)),none] (λf _ S=>R (fZ f) S) (dn (m+1) ja.tl.tl).s from
  ⟨λq=>cM (dR rfl rfl) (gO (Up.own (i:=3) rfl) (.list rfl)) (c8 (.cons .ag .nil) (qJ (Up.own (i:=3) rfl) ⟨l5,z1⟩ (z2 q) tgt)),
  λq=>bq (PE.eq (.call (.cons (dR rfl rfl) .nil) (.len (Up.own (i:=3) rfl) .list l5)) (ah (λn:Nat=>MV.int n) (dY.trans ((z3 q).trans (bZ _)).symm))) tgt⟩
 revert hr hle b1 b2 b3 hb f1 f2 q1 q2
 generalize ft sl 0=r
 intro hr q1 q2 hle hb b1 b2 b3 f1 f2
 have pd : ∀ {L:Loc} {S},L[3]?=some (some (.int (r:Nat)))->PE L S (.bin .FloorDiv (.aa 3) (.ag (.int 4))) (.int (r / 4 : Nat)):=λa=>PE.eq (.bin (.aa a) .ag (.fdiv f2)) (ah MV.int f1)
 refine de rfl (Dt (oh (Ab (.aa rfl) (Lw.cH (i:=14) rfl) (ad nl (by decide)) (bq .ag (.mk .le (.mk .bool ⟨λ_=> ?_,λq=>absurd ((aZ (aW.mpr (ad O.met (bb hj 3)))).symm.trans q) nofun⟩))))))
 refine cr (.cons (.aa rfl) (.cons (pd rfl) (.cons (.aa rfl) .nil))) (EZ hb b1 (λz=>b2.resolve_left λy=>y z) B.tN (ad nl (by decide)) (λhN e he hl=> ?_) λhN e he hl=> ?_)
 ·have nl2 : (nt++e).length<=16:=by rw[aA];exact bF nl hl
  refine qA (tok:=2) rfl .ag (ad nl2 (by decide)) (cO (.not (.aa (.aa rfl) .bool)) rfl (qA (tok:=r / 4+3) rfl (pd rfl) (by rw[aA];exact ad (Nat.succ_le_succ nl2) (by decide)) ?_))
  have O' : sq (nt++e++[2]++[r / 4+3]) (j+1):=by
   rw[aH,aH]
   refine O.more (i:=r / 4+3) (λz hz=> ?_) (by rw[aA];exact bD hl 2)
   rcases bI.mp hz with q | q
   ·exact .inl (Nat.lt_succ_of_lt (he z q))
   ·refine Or.elim (aK.mp q) (λq=> ?_) λq=> ?_
    ·exact .inl (q▸by decide)
    ·exact .inr (av.mp q)
  refine ae b3▸(j5 (o:=some k) hle)▸ ?_
  have l6 : (ji sl).length<=1000:=by rw[dY];exact ad (aL B.len) (by decide)
  refine ct (uD (uD (sT (i:=none) (j:=some (r:Int)) (dR rfl rfl) .nil (.aa rfl) .no (.int _) (Up.own (i:=3) rfl) l5 Lw.new λr1=>dz (c8 (.cons (.aa rfl) .nil) ⟨aj rfl,Lw.new,λr2=> ?_⟩))))
  refine ae (Hn B.len hr hle)▸ ?_
  refine .mk (Lw.cH (i:=1) rfl) (Lw.cH (i:=0) rfl) ((show ∀ {q:List MV},q.length<=50000->∀ {p:List MV},p.length<=50000->p.length+q.length<=100000 from λa _ b=>bF b a) (aj rfl) (ad (ad (List.length_take_le' ..) l6) (by decide))) Lw.new λr3=>sT (i:=some ((r:Int)+1)) (j:=none) (.item (.aa rfl) .ag (.ref (Lw.cH (i:=13) rfl) (.dS rfl))) (.bin (.aa rfl) .ag .add) .nil (.int _) .no (Lw.cH (i:=16) rfl) l5 Lw.new λr4=> ?_
  refine ae (HC B.len hr hle)▸ ?_
  refine .mk (Lw.cH (i:=1) rfl) (Lw.cH (i:=0) rfl) ((show ∀ {q:List MV},q.length<=50000->∀ {p:List MV},p.length<=50000->p.length+q.length<=100000 from λa _ b=>bF b a) (by rw[List.length_drop];exact ad (Nat.sub_le ..) (ad l6 (by decide))) (by rw[aA];exact ad (bD (ad (List.length_take_le' ..) l6) 1) (by decide))) Lw.new λr5=> ?_
  refine ae (Ex hle)▸ ?_
  refine dW (.aa rfl) .ag (Lw.cH (i:=15) rfl) (.dS (aj rfl)) (Lw.jJ (i:=15) rfl rfl) (cC .ag (q1 (br (s2.symm.trans b)) hN _ r5 O' _ λσ z=>AH (Lw.sub z (.cons_cons _ (.cons _ (.cons _ (.cons _ (.cons _ (.refl _)))))))))
 ·refine qA (tok:=2) rfl .ag (by rw[aA];exact ad (bF nl hl) (by decide)) (jo (.not (.aa (.aa rfl) .bool)) rfl (cC .ag (q2 (br (s2.symm.trans b)) hN _ ?_)))
  refine ae (aH ..)▸ ?_
  exact O.more (i:=0) (λz hz=> .inl ((bI.mp hz).elim (λq=>Nat.lt_succ_of_lt (he z q)) λq=>av.mp q▸by decide)) (by rw[aA];exact ad (bD hl 1) (by decide))
end
noncomputable def i1(N:Nat)(p:List Slot×Nat)(k:Nat):List Slot×Nat:=if some k∈p.1 then p else if need (ft p.1 0 / 4)<=N then (gW p.1 (ft p.1 0) (some k),max p.2 (need (ft p.1 0 / 4))) else (p.1,N)
noncomputable def EQ(N:Nat)(p:List Slot×Nat)(k:Nat):MV:=if some k∈p.1 then .str "there" else if need (ft p.1 0 / 4)<=N then .str "done" else .str "room"
noncomputable def vt(N:Nat):List Slot×Nat->List Nat->List MV
 |_,[]=>[]
 |p,k::ks=>EQ N p k::vt N (i1 N p k) ks
section
variable {m i j t N r nb:Nat}{g:En}{h:Lo g}{F:List Cell}{R:MV->As->Prop}{T:MF->Loc->As->Prop}{E:Addr->As->Prop}{n:Int}{loc:Loc}{s:Ck}{S:As}{X:List Int}{l sz:Nat}{ps nt ks:List Nat}{a b c lo hi:IR}{D:Nat->List UInt8}{k:Nat}{x y:LA}{bs cs d:List UInt8}{sl:List Slot}{o:Slot}{mo mo':MO}{tt:Bool}{v:MV}{vs:List MV}{p:List Slot×Nat}{op:CmpOp}
theorem Zo.more{z:Int}(Z:Zo g X s)(h:X.length < 6):Zo g (z::X) s:=⟨Z.ok,λn m=>by
 have:=Z.sub n m
 simp only[aK] at this ⊢
 rcases this with q | q | q | q
 ·exact .inl q
 ·exact .inr (.inl q)
 ·exact .inr (.inr (.inl q))
 ·exact .inr (.inr (.inr (.inr q))),h,Z.k⟩
theorem Zo.len(Z:Zo g X s):s.ns.length<=3+X.length:=ad (Z.ok.nd.length_le_of_subset Z.sub) (aw (Nat.add_comm X.length 3))
theorem Wd.bo(w:Wd g N sl t s)(h2:2<=N):Bo N sl t:=⟨w.tok,w.len,w.pr,⟨w.nb.2,h2⟩,w.h6⟩
theorem IH(w:Wd g N sl t s)(Z:Zo g X s)(hX:X.length<=2)(hk:k < 22)(hL:sl.length < 14)(e:Le S (Js g s (gI g sl t F)))
  (q:∀s' X' S',X'.length=X.length+1->Zo g X' s'->Wd g N (i1 N (sl,t) k).1 (i1 N (sl,t) k).2 s'->Le S' (Js g s' (gI g (i1 N (sl,t) k).1 (i1 N (sl,t) k).2 F))->R (EQ N (sl,t) k) S') :
  Ct E R S 1127 (m+13) [.ref (g.a 21), .ref (g.a 18), .bytes (gV k), .int (mR k:Nat)]:=by
 have Z1:=Z.more (z:=((lN (ft sl 0 / 4):Nat):Int)) (az hX (by decide))
 unfold i1 EQ at q
 refine tU vX rfl (dQ e λh p=>GW (bY (bT (.aa rfl) (Lw.up .w) rfl rfl (.cons (.aa rfl) (.cons (.aa rfl) (.cons (.aa rfl) .nil))) (w5 w Z1 p hk (az pf (az (aw (bZ _)) hL)) (.head _) (ad Z.len (bb hX 3)) (λhn s' t' S' ht Z' w' e=> ?_) (λhn S' e=> ?_) λhn h2 s' S' Z' w' e=> ?_))))
 ·have hN : need (ft sl 0 / 4)<=N:=ht.elim (λz=>ad z.1 w.nb.2) λz=>z.1.2
  have et : t'=max t (need (ft sl 0 / 4)):=ht.elim (λz=>z.2.trans (Nat.max_eq_left z.1).symm) λz=>z.2.trans (Nat.max_eq_right (aL z.1.1)).symm
  subst et
  rw[if_neg hn,if_neg hn,if_pos hN] at q;replace q:=(if_pos hN)▸q
  exact bh (cC .ag (q s' _ S' rfl Z' w' e))
 ·rw[if_pos hn] at q;replace q:=(if_pos hn)▸q
  exact .hit rfl λ_=>q s _ S' rfl Z1 w e
 ·rw[if_neg hn,if_neg hn,if_neg (Nat.not_le.mpr h2),if_neg (Nat.not_le.mpr h2)] at q
  exact .next rfl (.hit rfl λ_=>q s' _ S' rfl Z' w' e)
theorem zi : (i1 N p k).1.length<=p.1.length+1:=by
 unfold i1;split
 ·exact cT _
 ·split
  ·skip
   rw[j5 (ad pf (aw (bZ _)))];exact Nat.max_le.mpr ⟨cT _,Nat.succ_le_succ (ad pf (aw (bZ _)))⟩
  ·exact cT _
theorem nB : ∀ {ks:List Nat}{p:List Slot×Nat},(ks.foldl (i1 N) p).1.length<=p.1.length+ks.length
 | [],_=>aG _
 |k::ks,p=>ad (nB (ks:=ks)) (ad (bD (zi (N:=N) (k:=k) (p:=p)) ks.length) (aw (Nat.succ_add_eq_add_succ p.1.length ks.length)))
theorem uq : ∀ {ks:List Nat}{p:List Slot×Nat},(vt N p ks).length=ks.length
 | [],_=>rfl
 |_::_,_=>ah Nat.succ uq
theorem yZ : ∀ {ks js:List Nat}{p:List Slot×Nat},vt N p (ks++js)=vt N p ks++vt N (ks.foldl (i1 N) p) js
 | [],_,_=>rfl
 |_::_,_,_=>ah (_::·) yZ
theorem KH : ∃u,EQ N p k= .str u:=by unfold EQ;split;exact⟨_,rfl⟩;split<;>exact⟨_,rfl⟩
theorem xX : ∀ {ks:List Nat}{p:List Slot×Nat},f0 MV.ia (vt N p ks) (vt N p ks)=true/\o8 MV.ia (vt N p ks) (vt N p ks)=true
 | [],_=>⟨rfl,rfl⟩
 |k::ks,p=>by
  refine cN (KH (N:=N) (p:=p) (k:=k)) λu e=> ?_
  have ⟨a,b⟩:=xX (ks:=ks) (p:=i1 N p k)
  have : MV.ia (.str u) (.str u)=some true:=ah some (beq_self_eq_true (Str.ofString u))
  dsimp only[vt,f0,o8];refine ae e▸ae this▸ ?_;exact⟨a,b⟩
theorem y9(h:We E S loc (λv S1=>We E S1 loc (λw S2=>pZ (λk=>v.ia w=some k) λk=>R (.bool k) S2) (dn m b).e) (dn m a).e):We E S loc R (dn m (.cmp .Eq a b)).e:=
 λσ s Q X k x=>h σ s _ X (λ_ σ1 _ s1 g=>g σ1 s1 _ X (λ_ σ2 S2 s2 zz=>(by obtain⟨h,g⟩:=zz;exact .eq h (k _ σ2 S2 s2 g))) x) x
end
noncomputable def Kp(sl:List Slot):Prop:=∃r,sl=some 0::some 1::r/\∀k,some k∈r->2<=k
section
variable {m i j t N r nb:Nat}{g:En}{h:Lo g}{F:List Cell}{R:MV->As->Prop}{T:MF->Loc->As->Prop}{E:Addr->As->Prop}{n:Int}{loc:Loc}{s:Ck}{S:As}{X:List Int}{l sz:Nat}{ps nt ks:List Nat}{a b c lo hi:IR}{D:Nat->List UInt8}{k:Nat}{x y:LA}{bs cs d:List UInt8}{sl:List Slot}{o:Slot}{mo mo':MO}{tt:Bool}{v:MV}{vs:List MV}{p:List Slot×Nat}{op:CmpOp}{K:List Nat}
theorem Wd.of{s':Ck}(w:Wd g N sl t s)(e:s'.c=s.c):Wd g N sl t s':={ w with w:=⟨e▸w.w.b,e▸w.w.n,e▸w.w.d⟩,rw:=(by refine aT w.rw λb h1 h2=> ?_;exact⟨b,h1,e▸h2⟩ )}
theorem tI{α:Type}{l:List α}{z:α}(e:l[i]?=some z):l.take (i+1)=l.take i++[z]:=by refine (bV).trans ?_;refine ae e▸ ?_;rfl
theorem tO(e:ks[i]?=some k):vt N p (ks.take (i+1))=vt N p (ks.take i)++[EQ N ((ks.take i).foldl (i1 N) p) k]/\(ks.take (i+1)).foldl (i1 N) p=i1 N ((ks.take i).foldl (i1 N) p) k:=by
 rw[tI e,yZ,List.foldl_append];exact⟨rfl,rfl⟩
theorem Lw.mid{A B:List Cell}{q:Cell}{σ:MH}(z:Lw h (q::(A++B)) σ):Lw h (A++q::B) σ:=Lw.perm z List.perm_middle.symm
noncomputable abbrev FQ : IR:= .comp ["k", "paths", "root"] [none,some 0,some 1] false (.iter (.aa 9)) (.aa 0) .nil (.call "_law_link" (.ref 1127) (.cons (.aa 1) (.cons (.aa 2) (.cons (.call "_law_name" (.ref 1106) (.cons (.aa 0) .nil)) (.cons (.bin .Add (.ag (.int 2)) (.aa 0)) .nil)))))
noncomputable abbrev FO : IR:= .comp ["k", "own", "noted"] [none,some 2,some 5] false (.iter (.aa 9)) (.aa 0) .nil (.call "_law_given" (.ref 1120) (.cons (.aa 1) (.cons (.call "_law_name" (.ref 1106) (.cons (.aa 0) .nil)) (.cons (.aa 2) .nil))))
noncomputable abbrev tok(K:List Nat):List Nat:=K.map (·+2)
theorem zb(hk:k < 20):(2:Int)+k=(mR (k+2):Nat):=by unfold mR;exact Int.add_comm 2 k
theorem Hu(w:Wd g N sl t s)(Z:Zo g [] s)(hK:∀k∈K,k < 20)(hc:K.length<=3)(hL:sl.length<=11)(h0:loc[0]?=some (some (.ref (g.a 21))))(h1:loc[1]?=some (some (.ref (g.a 18))))(h9:loc[9]?=some (some (.ref x)))(e:Le S (Js g s (gI g sl t ((x, .list (K.map er))::F))))
  (q:∀s' S' X' r,Zo g X' s'->Wd g N ((tok K).foldl (i1 N) (sl,t)).1 ((tok K).foldl (i1 N) (sl,t)).2 s'->Le S' (Js g s' (gI g ((tok K).foldl (i1 N) (sl,t)).1 ((tok K).foldl (i1 N) (sl,t)).2 ((r, .list (vt N (sl,t) (tok K)))::(x, .list (K.map er))::F)))->R (.ref r) S') :
  We E S loc R (dn (m+14) FQ).e:=by
 have hd : ∀ {S s sl t},Le S (Js g s (gI g sl t ((x, .list (K.map er))::F)))->dP S x (.list (K.map er)):=λe=>Vs.cH e
 refine fT (it:=λi=> .lst x i) (L:=K.length) (I:=λi acc loc S=>acc=vt N (sl,t) ((tok K).take i)/\(∃y,loc=[y,some (.ref (g.a 21)),some (.ref (g.a 18))])/\∃s' X',X'.length=i/\Zo g X' s'/\Wd g N (((tok K).take i).foldl (i1 N) (sl,t)).1 (((tok K).take i).foldl (i1 N) (sl,t)).2 s'/\Le S (Js g s' (gI g (((tok K).take i).foldl (i1 N) (sl,t)).1 (((tok K).take i).foldl (i1 N) (sl,t)).2 ((x, .list (K.map er))::F)))) (jf (.aa h9) (hd e) ⟨rfl,rfl,⟨_,by unfold eR;show [_,(loc[0]?).join,(loc[1]?).join]=_;rw[h0,h1];rfl⟩,s,[],rfl,Z,w,e⟩) ?_ ?_ ?_
 ·exact an.mpr ⟨rfl,by simp only[z7,List.all_cons,List.all_nil,h0,h1];rfl⟩
 ·rintro i acc loc S hi ⟨rfl,⟨y,rfl⟩,s',X',hX,Z',w',e⟩
  obtain⟨k,ek⟩ : ∃k,K[i]?=some k:=⟨_,ay hi⟩
  have hk:=hK k (au ek)
  have ek2 : (tok K)[i]?=some (k+2):=by refine (bc).trans ?_;refine (ah _ ek).trans ?_;rfl
  have e2:=(tO (N:=N) (p:=(sl,t)) ek2).2
  refine ae ((tO (N:=N) (p:=(sl,t)) ek2).1)▸ae e2▸ ?_
  have hi3 : i < 3:=aC hi hc
  have hlen : (((tok K).take i).foldl (i1 N) (sl,t)).1.length < 14:=az nB (az (bF hL (List.length_take_le ..)) (Nat.add_lt_add_left hi3 11))
  refine⟨by refine ae uq▸ ?_;exact ad (List.length_take_le ..) (ad (aL hi3) (by decide)), .mk (ie (hd e) (by refine (bc).trans ?_;exact ah _ ek)) (bQ rfl (fS ⟨λ_=> ?_,nofun⟩))⟩
  refine λσ z=>let ⟨h,p,z⟩:=e σ z;?_
  refine cV (bj (bq (.aa rfl) (bj (bq (.aa rfl) (bj (cr (.cons (.aa rfl) .nil) (qc hk (c8 (.cons (PE.eq (.bin .ag (.aa rfl) .add) (ah MV.int (zb hk))) .nil) (ed (IH w' Z' (hX▸bH hi3) (Nat.add_lt_add_right hk 2) hlen (Vs.at p) λs'' X'' S'' hX2 Z'' w'' e''=>⟨rfl,⟨_,rfl⟩,s'',X'',hX2.trans (ah Nat.succ hX),Z'',w'',e''⟩)))))))))) σ z
 ·rintro acc loc S ⟨rfl,_,s',X',_,Z',w',e⟩
  refine⟨by have:=fB (hd e);exact (aq ..)▸this, ?_⟩
  have : (tok K).take K.length=tok K:=cF (aw (aq ..))
  rw[this] at w' e ⊢
  exact .mk (λσ z=>let ⟨h,p,z⟩:=e σ z;(by obtain⟨r,hr,z⟩:=Lw.new σ z;exact⟨r,hr,(⟨h,p,Lw.mid (A:=gI g _ _ []) z⟩ : Js g s' (gI g _ _ ((r,_)::(x, .list (K.map er))::F)) _)⟩)) λr=>q s' _ X' r Z' w' λ_ z=>z
theorem Ia(B:∀i≤K.length,Bo N (((tok K).take i).foldl (i1 N) (sl,t)).1 (((tok K).take i).foldl (i1 N) (sl,t)).2)(hK:∀k∈K,k < 20)(hc:K.length<=3)(hL:sl.length<=11)(h2:loc[2]?=some (some (.ref (g.a 23))))(h5:loc[5]?=some (some (.ref y)))(h9:loc[9]?=some (some (.ref x)))
  (hx:∀ {nt sl nb t x'},dP (Lw h (Bk g l sz ps N sl nb t x' y nt F)) x (.list (K.map er))){x0:LA}
  (q:∀nt x' r S,Le S (Lw h ((r, .list (vt N (sl,t) (tok K)))::Bk g l sz ps N ((tok K).foldl (i1 N) (sl,t)).1 (mB ((tok K).foldl (i1 N) (sl,t)).1.length) ((tok K).foldl (i1 N) (sl,t)).2 x' y nt F))->R (.ref r) S) :
  We E (Lw h (Bk g l sz ps N sl (mB sl.length) t x0 y [] F)) loc R (dn (m+3) FO).e:=by
 refine fT (it:=λi=> .lst x i) (L:=K.length) (I:=λi acc loc S=>acc=vt N (sl,t) ((tok K).take i)/\(∃z,loc=[z,some (.ref (g.a 23)),some (.ref y)])/\∃nt x',sq nt i/\Le S (Lw h (Bk g l sz ps N (((tok K).take i).foldl (i1 N) (sl,t)).1 (mB (((tok K).take i).foldl (i1 N) (sl,t)).1.length) (((tok K).take i).foldl (i1 N) (sl,t)).2 x' y nt F))) (jf (.aa h9) hx ⟨rfl,rfl,⟨_,by unfold eR;show [_,(loc[2]?).join,(loc[5]?).join]=_;rw[h2,h5];rfl⟩,[],x0,⟨aG _,[],aG _,nofun⟩,λ_ z=>z⟩) ?_ ?_ ?_
 ·exact an.mpr ⟨rfl,by simp only[z7,List.all_cons,List.all_nil,h2,h5];rfl⟩
 ·rintro i acc loc S hi ⟨rfl,⟨z,rfl⟩,nt,x',O,e⟩
  obtain⟨k,ek⟩ : ∃k,K[i]?=some k:=⟨_,ay hi⟩
  have ek2 : (tok K)[i]?=some (k+2):=by refine (bc).trans ?_;refine (ah _ ek).trans ?_;rfl
  have hi3 : i < 3:=aC hi hc
  have hlen : (((tok K).take i).foldl (i1 N) (sl,t)).1.length < 14:=az nB (az (bF hL (List.length_take_le ..)) (Nat.add_lt_add_left hi3 11))
  have Bi:=B i (aL hi)
  refine ae ((tO (N:=N) (p:=(sl,t)) ek2).1)▸ae ((tO (N:=N) (p:=(sl,t)) ek2).2)▸ ?_
  generalize ((tok K).take i).foldl (i1 N) (sl,t)=p at *
  refine⟨(by rw[uq];exact ad (List.length_take_le ..) (ad (aL hi3) (by decide))), .mk (λσ z=>ie hx (by refine (bc).trans ?_;exact ah _ ek) σ (e σ z)) (bQ rfl (fS ⟨λ_=> ?_,nofun⟩))⟩
  refine tD e (cV (bj (bq (.aa rfl) (bj (cr (.cons (.aa rfl) .nil) (qc (hK k (au ek)) (c8 (.cons (.aa rfl) .nil) (ed (FI Bi (Nat.add_lt_add_right (hK k (au ek)) 2) (az pf (az (aw (bZ _)) hlen)) O (bH hi3) (λa=> ?_) (λa b nt' x'' O' S e'=> ?_) λa b nt' O'=> ?_)))))))))
  ·delta i1 EQ;rw[if_pos a,if_pos a];exact⟨rfl,⟨_,rfl⟩,nt,x',⟨ad O.len (dq 6 (cT i)),(by refine aT O.sub λY h1 h2=> ?_;exact⟨Y,cE h1,h2⟩)⟩,λ_ z=>z⟩
  ·delta i1 EQ;refine ae (if_neg a)▸ae (if_neg a)▸ae (if_pos b)▸ae (if_pos b)▸ ?_;exact⟨rfl,⟨_,rfl⟩,nt',x'',O',e'⟩
  ·delta i1 EQ;refine ae (if_neg a)▸ae (if_neg a)▸ae (if_neg (Nat.not_le.mpr b))▸ae (if_neg (Nat.not_le.mpr b))▸ ?_;exact⟨rfl,⟨_,rfl⟩,nt',x',O',λ_ z=>z⟩
 ·rintro acc loc S ⟨rfl,_,nt,x',O,e⟩
  refine⟨by have:=fB (λσ z=>hx σ (e σ z));exact (aq ..)▸this, ?_⟩
  have : (tok K).take K.length=tok K:=cF (aw (aq ..))
  rw[this] at e ⊢
  exact .mk (λσ z=>Lw.new σ (e σ z)) λr=>q nt x' r _ λ_ z=>z
end
theorem LC{n:Nat}:((n:Int).fdiv 3).fmod 20=(n / 3 % 20 : Nat)/\(n:Int).fmod 3=(n % 3 : Nat)/\((n:Int).fdiv 60).fmod 3=(n / 60 % 3 : Nat):=by
 simp only[Int.fdiv_eq_ediv_of_nonneg _ (show (0:Int)<=3 by decide),Int.fdiv_eq_ediv_of_nonneg _ (show (0:Int)<=60 by decide),Int.fmod_eq_emod_of_nonneg _ (show (0:Int)<=3 by decide),Int.fmod_eq_emod_of_nonneg _ (show (0:Int)<=20 by decide)]
 exact⟨rfl,rfl,rfl⟩
theorem LE{a b:Int}:(MV.tup [.int a, .int b]).ia (.tup [.int a, .int b])=some true:=by
 show some ((a==a)&&((b==b)&&true))=_
 rw[beq_self_eq_true,beq_self_eq_true];rfl
section
variable {m i j t N r nb n:Nat}{g:En}{h:Lo g}{F:List Cell}{R:MV->As->Prop}{T:MF->Loc->As->Prop}{E:Addr->As->Prop}{loc:Loc}{s:Ck}{S:As}{X:List Int}{l sz:Nat}{ps nt ks:List Nat}{a b c lo hi:IR}{D:Nat->List UInt8}{k:Nat}{x y:LA}{bs cs d:List UInt8}{sl:List Slot}{o:Slot}{mo mo':MO}{tt:Bool}{v:MV}{vs:List MV}{p:List Slot×Nat}{op:CmpOp}{K:List Nat}
theorem Bo.stp(B:Bo N p.1 p.2)(hN:N < 7)(hk:k < 22)(hL:p.1.length < 14):Bo N (Internal.i1 N p k).1 (Internal.i1 N p k).2:=by
 have hf : ft p.1 0<=p.1.length:=ad pf (aw (bZ _))
 have hr : ft p.1 0 < 14:=az hf hL
 refine ip (BS _ B.h6 _ B.len _ hr ⟨B.pr,hf⟩) λ_ p2 p3=> ?_
 unfold Internal.i1
 split
 ·exact B
 ·split
  ·rename_i h
   refine⟨λj hj=>(qT hj).elim (B.tok j) λz=>aS z▸hk,(j5 (o:=some k) hf)▸(IP _ B.len _ hr).2,(j5 (o:=some k) hf)▸ ?_,⟨Nat.max_le.mpr ⟨B.tN.1,h⟩,B.tN.2⟩, ?_⟩
   ·rcases Nat.lt_or_ge p.2 (need (ft p.1 0 / 4)) with z | z
    ·rw[Nat.max_eq_right (aL z)];exact (p3.resolve_left λy=>y z).1
    ·rw[Nat.max_eq_left z];exact p2.resolve_left λy=>y z
   ·rcases Nat.lt_or_ge p.2 (need (ft p.1 0 / 4)) with z | z
    ·rw[Nat.max_eq_right (aL z)];exact (p3.resolve_left λy=>y z).2
    ·rw[Nat.max_eq_left z];exact B.h6
  ·have:=CO _ B.h6 _ B.len _ hr N hN ⟨B.pr,hf,B.tN.1,Nat.lt_of_not_le ‹_›⟩
   exact⟨B.tok,B.len,this.1,⟨aG _,B.tN.2⟩,this.2⟩
theorem Bo.fold(hN:N < 7):∀ {ks:List Nat}{p:List Slot×Nat},Bo N p.1 p.2->(∀k∈ks,k < 22)->p.1.length+ks.length<=14->Bo N (ks.foldl (Internal.i1 N) p).1 (ks.foldl (Internal.i1 N) p).2
 | [],_,B,_,_=>B
 |k::ks,p,B,hk,hL=>Bo.fold hN (ks:=ks) (p:=Internal.i1 N p k) (B.stp hN (hk k (.head _)) (aC (Nat.lt_add_of_pos_right (Nat.succ_pos ks.length)) hL)) (λj m=>hk j (.tail _ m)) (ad (bD (zi (N:=N) (k:=k) (p:=p)) ks.length) (ad (aw (Nat.succ_add_eq_add_succ p.1.length ks.length)) hL))
theorem Bg : ∀ {sl:List Slot}{a b:Nat},ft sl (a+b)=ft sl a+b
 | [],_,_=>rfl
 |none::_,_,_=>rfl
 |some _::sl,a,b=>by show ft sl (a+b+1)=ft sl (a+1)+b;refine (Bg (sl:=sl))▸ ?_;exact ah _ (Nat.add_right_comm ..)
theorem Kp.stp(h:Kp p.1):Kp (Internal.i1 N p (k+2)).1:=by
 refine aT h λr e hr=> ?_
 unfold Internal.i1
 split
 ·exact⟨r,e,hr⟩
 ·split
  ·rw[e]
   show Kp (gW (some 0::some 1::r) (ft r (0+2)) _)
   refine ae Bg▸ ?_
   refine⟨gW r (ft r 0) (some (k+2)), ?_,λj hj=>(qT hj).elim (hr j) λz=>aS z▸Nat.le_add_left 2 k⟩
   unfold gW
   by_cases q : ft r 0 < r.length
   ·refine (if_pos (Nat.add_lt_add_right q 2 : ft r 0+2 < (some 0::some 1::r).length)).trans ?_;rw[if_pos q];rfl
   ·refine (if_neg λz:ft r 0+2 < r.length+2=>q (Nat.lt_of_add_lt_add_right z)).trans ?_;rw[if_neg q];rfl
  ·exact⟨r,e,hr⟩
theorem Kp.fold : ∀ {K:List Nat}{p:List Slot×Nat},Kp p.1->Kp ((tok K).foldl (Internal.i1 N) p).1
 | [],_,h=>h
 |k::K,p,h=>Kp.fold (K:=K) (Kp.stp h)
theorem Kp.del(h:Kp sl)(e:sl[j]?=some (some (k+2))):Kp (sl.set j none):=by
 refine aT h λr zr1_ hr=> ?_;subst zr1_
 match j,e with
 |j+2,e=>exact⟨r.set j none,rfl,λq hq=>(List.mem_or_eq_of_mem_set hq).elim (hr q) nofun⟩
theorem Eu(hk:k < 22)(ht:∀k,some k∈sl->k < 22)(e:sl[j]?=some (some k))(hm:∀i < j,sl[i]?≠some (some k)):(ji sl).findIdx? (λv=>(v.fe (.bytes (gV k))).getD false)=some j:=by
 refine List.findIdx?_eq_some_iff_getElem.mpr ?_
 have hg : ∀i (hi:i < (ji sl).length),((ji sl)[i].fe (.bytes (gV k))).getD false=decide (sl[i]?=some (some k)):=λi hi=>by
  have hi' : i < sl.length:=dY▸hi
  refine ae (ay hi')▸ae (show (ji sl)[i]=_ from List.getElem_map ..)▸ ?_
  cases q : sl[i] with
  |none=>exact (bz (p:=some (none:Slot)=some (some k)) λz=>nomatch aS z).symm
  |some a=>exact eu.mpr ⟨λz=>aZ (ah (some∘some) (wU a (ht a (q▸List.getElem_mem hi')) k hk (eq_of_beq z))),λz=>eI.mpr (ah gV (aS (aS (aF z))))⟩
 exact⟨dY.symm▸((be.mp e).1),by rw[hg];exact aZ e,λi hi=>by rw[hg];exact λz=>hm i hi (aF z)⟩
theorem Bv{T:Unit->Loc->As->Prop}(h:We E S loc (λu S1=>We E S1 loc (λw S2=>∃l m m' S3,(u= .ref l/\dP S2 l m/\uG v m w m'/\Upd S2 l m' S3)/\T () loc S3) (dn m b).e) (dn m a).e):Wp E S loc T ((dn m (.item a b)).t v):=
 λσ s Q X k x=>h σ s _ X (λ_ σ1 _ s1 g=>g σ1 s1 _ X (λ_ σ2 S2 s2 z=>by refine xt z λ_ _ _ S3 zo4_ q=> ?_;refine ig zo4_ λe f so u=> ?_;subst e;exact GT f so u s2 λσ' s'=>k () _ _ S3 s' q) x) x
theorem CE{f c:Nat}(hf:f < 20)(hc:c<=3)(h4:loc[4]?=some (some (.int f)))(hr:PL loc S a [.int c]){S':LA->As}(nw:pW S (.list (((List.range c).map λj=>(f+j) % 20).map er)) S')(q:∀r,R (.ref r) (S' r)) :
  We E S loc R (dn m (.comp ["k", "first"] [none,some 4] false (.range a) (.aa 0) .nil (.bin .Mod (.bin .Add (.aa 1) (.aa 0)) (.ag (.int 20))))).e:=by
 refine fT (it:=hB 0 1 c) (L:=c) (I:=λi acc loc S'=>acc=((List.range i).map λj=>(f+j) % 20).map er/\(∃z,loc=[z,some (.int f)])/\S'=S) (i8 hr ⟨by exact Int.neg_ofNat_le_natCast (2^60) c,by exact cU (aW.mpr hc) (by decide)⟩ ⟨?_,rfl,⟨_,by unfold eR;show [_,(loc[4]?).join]=_;rw[h4];rfl⟩,rfl⟩) ?_ ?_ ?_
 ·exact ah (It.jK 0 · 1) (by split<;>lia)
 ·exact an.mpr ⟨rfl,by simp only[z7,List.all_cons,List.all_nil,h4];rfl⟩
 ·rintro i acc loc S' hi ⟨rfl,⟨z,rfl⟩,rfl⟩
  refine⟨by rw[aq,aq,d8];exact ad (ad (aL hi) hc) (by decide), .mk (uN hi) (bQ rfl (fS ⟨λ_=>bq (PE.eq (w:=er ((f+i) % 20)) (.bin (.bin (.aa rfl) (.aa rfl) .add) .ag (.mod (show (20:Int)≠0 by decide))) ?_) ⟨?_,⟨_,rfl⟩,rfl⟩,nofun⟩))⟩
  ·refine (ah _ (Int.fmod_eq_emod_of_nonneg _ (by decide))).trans ?_;exact ah MV.int (by rw[Int.zero_add,Int.mul_one];rfl)
  ·rw[List.range_succ,aY,aY];rfl
 ·rintro acc loc S' ⟨rfl,_,rfl⟩
  exact⟨gz, .mk nw q⟩
end
section
variable {m i j t N r nb n:Nat}{g:En}{h:Lo g}{F:List Cell}{R:MV->As->Prop}{T:MF->Loc->As->Prop}{E:Addr->As->Prop}{loc:Loc}{s:Ck}{S:As}{X:List Int}{l sz:Nat}{ps nt ks:List Nat}{a b c lo hi:IR}{D:Nat->List UInt8}{k:Nat}{x y:LA}{bs cs d:List UInt8}{sl:List Slot}{o:Slot}{mo mo':MO}{tt:Bool}{v:MV}{vs:List MV}{p:List Slot×Nat}{op:CmpOp}{K:List Nat}
structure Rest(g:En)(N:Nat)(sl:List Slot)(t:Nat)(s:Ck):Prop where
 w : Wd g N sl t s
 ok : s.Ok g
 ns : s.ns=[]
 k : s.k=0
 kp : Kp sl
noncomputable abbrev oW(g:En)(N:Nat)(sl:List Slot)(t:Nat)(x:LA)(s:Ck)(F:List Cell):As:=Js g s (gI g sl t (Ow g N sl (mB sl.length) t x F))
theorem M2{u v:MV}:AJ S (.tup [u,v]) (.int 1) v:= .tup ⟨by decide,aX.mpr (aG 2),aj rfl⟩ rfl
theorem Dh(h0:loc[0]?=some (some (.ref (g.a 21)))):PE loc (Lw h (Up g l sz ps F)) (.am (.am (.aa 0) "nodes") "journal") (.ref (g.a 9)):= .am (.am (.aa h0) (Lw.up .w) rfl rfl) (Lw.up .n) rfl rfl
theorem I5(rs:Rest g N sl t s)(h2:2<=N)(hn:n < 10^12)(hL:sl.length<=11)(e:Le S (oW g N sl t x s F))
  (q:∀s' sl' t' x' S',Rest g N sl' t' s'->sl'.length<=sl.length+3->Le S' (oW g N sl' t' x' s' F)->R (.bool true) S'):Ct E R S 1132 (m+15) [.ref (g.a 21), .ref (g.a 18), .ref (g.a 23), .int n]:=by
 refine ip (LC (n:=n)) λe1 e2 e3=> ?_
 have t1 : (3:Int)≠0/\(n:Int).natAbs < 2^60/\(3:Int).natAbs < 2^60:=by exact⟨by decide,aC hn (by decide),by decide⟩
 have hf : n / 3 % 20 < 20:=Nat.mod_lt _ (by decide)
 have hc : 1+n / 60 % 3<=3:=Nat.add_comm 1 _▸Nat.mod_lt _ (by decide)
 refine ff e λh p=>kX nA ?_
 refine ct (nV (bj (bq (PE.eq (.bin (.bin (.aa rfl) .ag (.fdiv t1)) .ag (.mod (show (20:Int)≠0 by decide))) (ah MV.int e1)) (bj (dz (ci ⟨bC _,Lw.new,λy=>ci ⟨rfl,t2 rfl rfl ?_⟩⟩))))))
 refine fN (S1:=Lw h (Bk g 1 (16 * sl.length) (pl t) N sl (mB sl.length) t x y [] F)) (λσ z=>Lw.mid (A:=gI g sl t (Ow g N sl (mB sl.length) t x [])) z) ?_
 refine bY (bT (Dh rfl) (Lw.obj .j) rfl rfl .nil (yS (p.cv.ns.trans rs.ns) (p.cv.k.trans rs.k) ?_))
 have p1 : Jn { s with k:=1 } none (h.kx 1):=⟨{ p.ok with },p.hh,{ p.cv with k:=rfl }⟩
 have Z : Zo g [] { s with k:=1 }:=⟨⟨rs.ok.nb,rs.ok.nd,rs.ok.rg,rs.ok.ln⟩,λn m=>(by replace m:=(show s.ns=[] from rs.ns)▸m;exact nomatch m),by decide,rfl⟩
 have w1 : Wd g N sl t { s with k:=1 }:=rs.w.of rfl
 revert p1
 generalize h.kx 1=h
 generalize ({ s with k:=1 }:Ck)=s at Z w1
 intro p1
 have fin : ∀ {s' sl' t' x' S loc X},Zo g X s'->Wd g N sl' t' s'->Kp sl'->sl'.length<=sl.length+3->Le S (oW g N sl' t' x' s' F)->loc[0]?=some (some (.ref (g.a 21)))->loc[8]?=some (some (.bool true))->Wp E S loc (λf _ S=>R (fZ f) S) (dn (m+14) fv.tl.tl.tl).s:=
  λ{s' _ _ _ _ _ _} Z w kp hl e a8 a0=>dQ e λh p=>bY (bT (Dh a8) (Lw.obj .j) rfl rfl .nil (GH Z.ok Z.k (Vs.at p) λS' e=>cC (.aa a0) (q { s' with ns:=[],k:=0 } _ _ _ S' ⟨w.of rfl,⟨Z.ok.nb,List.nodup_nil,nofun,bC _⟩,rfl,rfl,kp⟩ hl e)))
 have drop : ∀ {σ} {h:Lo g} {sl' sz ps nb t' x' nt F1},F.Sublist F1->Lw h (Bk g 1 sz ps N sl' nb t' x' y nt F1) σ->Lw h (Up g 1 sz ps (Ow g N sl' nb t' x' F)) σ:=λ{σ h sl' sz ps nb t' x' nt F1} sb z=>Lw.sub z (.append_left (.cons _ sb) (Up g 1 sz ps (Ow g N sl' nb t' x' [])))
 refine wS (.cmp (PE.eq (.bin (.aa rfl) .ag (.mod (show (3:Int)≠0 by decide))) (ah MV.int e2)) .ag .lD) (λ_=> ?_) λ_=> ?_
 ·have hk : n / 3 % 20+2 < 22:=Nat.add_lt_add_right hf 2
  generalize n / 3 % 20=f at *
  refine dA (w8 hk w1.tok) λs1 s2=> ?_
  have l5 : (ji sl).length<=100000:=by refine ae dY▸ ?_;exact ad (aL w1.len) (by decide)
  refine de rfl (cr (.cons (.aa rfl) .nil) (qc hf (de rfl (bT (.aa rfl) (Lw.up .w) rfl rfl (.cons (.aa rfl) (.cons (.aa rfl) .nil)) (II w1 p1 hk (λj hj hm S' e=> ?_) λhn S' e=> ?_)))))
  ·have hx:=Eu hk w1.tok hj hm
   have hjl:=(be.mp hj).1
   refine dQ e λh p=>de rfl (y9 (bq (.aa rfl) (oq (eY (.cmp (.aa rfl) (dR rfl rfl) (.inR (Up.own (i:=3) rfl) (.list s1))) ⟨λ_=> ?_,λb=>absurd ((s2.trans (aZ (au hj))).symm.trans b) nofun⟩))))
   refine nV (bj (bq (PE.eq (.bin .ag (.aa rfl) .add) (ah MV.int (zb hf))) (bj (l7 (bq .ag (cM (dR rfl rfl) (gO (Up.own (i:=3) rfl) (.list rfl)) (c8 (.cons (.aa rfl) .nil) (qJ (Up.own (i:=3) rfl) ⟨l5,s1⟩ hx (.mk (.mul (by exact⟨by decide,az (ad (aL hjl) hL) (by decide)⟩)) (ci ⟨rfl, .mk LE ?_⟩))))))))))
   refine jo (.and (.cmp (.aa rfl) .ag .vm) (.aa (.aa rfl) .bool)) rfl ?_
   refine bY (bT (.aa rfl) (Lw.up .w) rfl rfl (.cons (.aa rfl) (.cons (.item (.aa rfl) .ag M2) .nil)) (DP w1 (Z.more (z:=((lN (j / 4):Nat):Int)) (by decide)) p ⟨hjl,aC hjl (ad hL (by decide))⟩ (.head _) (ad Z.len (by decide)) λs' S' Z' w' e=>dQ e λh p=> ?_))
   refine ct (bq .ag (Bv (bq (dR rfl rfl) (cM (dR rfl rfl) (gO (Up.own (i:=3) rfl) (.list rfl)) (c8 (.cons (.aa rfl) .nil) (qJ (Up.own (i:=3) rfl) ⟨l5,s1⟩ hx ⟨_,_,_,Lw h (Bk g 1 (16 * (sl.set j none).length) (pl t) N (sl.set j none) (mB sl.length) t x y [] F),⟨rfl,Up.own (i:=3) rfl, .list ⟨bA _,aX.mpr (dY.symm▸hjl),l5⟩,Lw.jJ (i:=13) rfl ?_⟩,bh (bh (fin Z' w' (rs.kp.del hj) (by refine ae cL▸ ?_;exact a9 ..) (λσ z=>⟨h,p,drop (.refl _) (((ah mB (cL ..)))▸z)⟩) rfl rfl))⟩))))))
   delta Bk Ow ji;refine ae List.map_set▸ ?_;rfl
  ·have b0 : (ji sl).any (λv=>(v.fe (.bytes (gV (f+2)))).getD false)=false:=s2.trans (bz hn)
   refine dQ e λh p=>de rfl (y9 (bq (.aa rfl) (oq (eY (.cmp (.aa rfl) (dR rfl rfl) (.inR (Up.own (i:=3) rfl) (.list s1))) ⟨λb=>absurd (b0.symm.trans b) nofun,λ_=>bq .ag (.mk (a:=true) rfl ?_)⟩))))
   exact cO (.and (.cmp (.aa rfl) .ag .vm) (.aa (.aa rfl) .bool)) rfl (bh (fin Z w1 rs.kp (a9 ..) (λσ z=>⟨h,p,drop (.refl _) z⟩) rfl rfl))
 ·have hn : PL [some (.ref (g.a 21)),some (.ref (g.a 18)),some (.ref (g.a 23)),some (.int n),some (.int (n / 3 % 20 : Nat)),some (.ref y),none,none,none,none,none] (Lw h (Bk g 1 (16 * sl.length) (pl t) N sl (mB sl.length) t x y [] F)) (.cons (.bin .Add (.ag (.int 1)) (.bin .Mod (.bin .FloorDiv (.aa 3) (.ag (.int 60))) (.ag (.int 3)))) .nil) [.int (1+n / 60 % 3 : Nat)]:=
   .cons (PE.eq (.bin .ag (.bin (.bin (.aa rfl) .ag (.fdiv (by exact⟨by decide,t1.2.1,by decide⟩))) .ag (.mod (show (3:Int)≠0 by decide))) .add) (ah (λz=>MV.int (1+z)) e3)) .nil
  generalize n / 3 % 20=f at *
  generalize 1+n / 60 % 3=c at *
  refine de rfl (CE hf hc rfl hn Lw.new λcl=> ?_)
  have hK : ∀k∈(List.range c).map λj=>(f+j) % 20,k < 20:=λk hk=>(by refine aT (cq.mp hk) λj _ e=> ?_;exact e▸Nat.mod_lt _ (by decide))
  have hKl : ((List.range c).map λj=>(f+j) % 20).length<=3:=by rw[aq,d8];exact hc
  generalize (List.range c).map (λj=>(f+j) % 20)=K at *
  have hT : ∀ {i},((tok K).take i).length<=3:=ad (List.length_take_le' ..) (by refine ae (aq ..)▸ ?_;exact hKl)
  refine de rfl (Hu w1 Z hK hKl hL rfl rfl rfl (λσ z=>⟨h,p1,Lw.mid (A:=gI g sl t []) z⟩) λs' S' X' r Z' w' e=>dQ e λh p=> ?_)
  refine fN (S1:=Lw h (Bk g 1 (16 * ((tok K).foldl (i1 N) (sl,t)).1.length) (pl ((tok K).foldl (i1 N) (sl,t)).2) N sl (mB sl.length) t x y [] ((r, .list (vt N (sl,t) (tok K)))::(cl, .list (K.map er))::F))) (λσ z=>Lw.perm z (.append_left (gI g _ _ []) (List.perm_append_comm_assoc [(r,MO.list (vt N (sl,t) (tok K))),(cl,MO.list (K.map er))] (Ow g N sl (mB sl.length) t x [(y,MO.list [])]) F))) ?_
  refine de rfl (oh (bq (.aa rfl) (Ia (λi _=>Bo.fold rs.w.n7 (rs.w.bo h2) (λk hk=> ?_) (bF hL hT)) hK hKl hL rfl rfl rfl (Lw.cH (i:=16) rfl) λnt x' r2 S e=> .mk (.Lg (λσ z=>Lw.cH (i:=16) rfl σ (e σ z)) (λσ z=>Lw.cH (i:=0) rfl σ (e σ z)) xX.1) ?_)))
  ·refine aT (cq.mp (List.mem_of_mem_take hk)) λj hj e=> ?_
   exact e▸Nat.add_lt_add_right (hK j hj) 2
  ·exact bh (fin Z' w' (Kp.fold rs.kp) (ad nB (bb (by rw[aq];exact hKl) _)) (λσ z=>⟨h,p,drop (.cons _ (.cons _ (.refl _))) (Lw.sub (e σ z) (.cons _ (.refl _)))⟩) rfl (ah (λb=>some (some (MV.bool b))) xX.2))
end
noncomputable def ML(v:MV)(n:Int):Bool:=match v with
 | .int i=>i==n
 |_=>false
theorem Iq{v:MV}{n:Int}(h:ML v n=true):v= .int n:=by
 cases v with
 |int i=>exact ah MV.int (eq_of_beq h)
 |_=>cases h
theorem IO : ∀k < 22,ML ((kU.lookup (gV k)).getD (.int 1)) (mR k)=true:=by decide +kernel
noncomputable def bg(k:Nat):Bool:=Nat.ble 2 k
theorem Cd : ∀k < 22,([MV.bytes [46], .bytes [46,46]].all λv=>(v.fe (.bytes (gV k))).isSome)=true/\(!([MV.bytes [46], .bytes [46,46]].any λv=>(v.fe (.bytes (gV k))).getD false))=bg k:=by decide +kernel
theorem uS : ∀ {vs:List MV},(∀v∈vs,v.ia v=some true)->f0 MV.ia vs vs=true/\o8 MV.ia vs vs=true
 | [],_=>⟨rfl,rfl⟩
 |v::vs,h=>by
  have ⟨a,b⟩:=uS (vs:=vs) λw m=>h w (.tail _ m)
  show ((v.ia v).isSome&&f0 MV.ia vs vs)=true/\((v.ia v).getD false&&o8 MV.ia vs vs)=true
  refine ae (h v (.head _))▸ ?_;exact⟨a,b⟩
theorem Me{a b:Int}{c:List UInt8}:(MV.tup [.int a, .int b, .bytes c]).ia (.tup [.int a, .int b, .bytes c])=some true:=by
 show some ((a==a)&&((b==b)&&((c==c)&&true)))=_
 rw[beq_self_eq_true,beq_self_eq_true,beq_self_eq_true];rfl
section
variable {m i j t N r nb n:Nat}{g:En}{h:Lo g}{F:List Cell}{R:MV->As->Prop}{T:MF->Loc->As->Prop}{E:Addr->As->Prop}{loc:Loc}{s:Ck}{S:As}{X:List Int}{l sz:Nat}{ps nt ks:List Nat}{a b c lo hi:IR}{D:Nat->List UInt8}{k:Nat}{x y:LA}{bs cs d:List UInt8}{sl:List Slot}{o:Slot}{mo mo':MO}{tt:Bool}{v:MV}{vs:List MV}{p:List Slot×Nat}{op:CmpOp}{K:List Nat}
theorem Vs.Hi{P:Lo g->Prop}(e:Le S (Vs P (Up g l sz ps F))):pW S mo λr=>Vs P (Up g l sz ps ((r,mo)::F)):=λσ z=>let ⟨h,p,z⟩:=e σ z;(by refine aT (Lw.new (o:=mo) σ z) λr hr z=> ?_;exact⟨r,hr,h,p,Lw.mid (A:=Up g l sz ps []) z⟩)
theorem Vs.G9{P:Lo g->Prop}{c:Cell}(e:Le S (Vs P (Up g l sz ps (c::(x,mo)::F)))):dP S x mo:=λσ z=>(by refine aT (e σ z) λ_ _ z=> ?_;exact Lw.cH (i:=11) rfl σ z)
theorem sN : f0 MV.ia (fJ sl) (fJ sl)=true/\o8 MV.ia (fJ sl) (fJ sl)=true:=uS λv m=>by
 obtain⟨i,hi,e⟩:=List.mem_mapIdx.mp m
 exact e▸Me
theorem wI : f0 MV.ia (pJ sl) (pJ sl)=true/\o8 MV.ia (pJ sl) (pJ sl)=true:=uS λv m=>by
 refine aT (cS.mp m) λo _ e=> ?_
 refine aT (bl.mp e) λk _ zr2_=> ?_;subst zr2_
 exact ah some (beq_self_eq_true (gV k))
theorem BM{R:Bool->As->Prop}(h:We E S loc (λp S1=>Br p (R true S1) (We E S1 loc R (dn m b).b)) (dn m a).b):We E S loc R (dn m (.or a b)).b:=by
 refine λσ s _ X k x=>h σ s _ X (λp σ1 S1 s1 g=> ?_) x
 cases p
 ·exact g.f rfl σ1 s1 _ X k x
 ·exact k _ σ1 S1 s1 (g.t rfl)
theorem Bl(hi:i < sl.length):(ji sl)[i]?=some (sV (sl.getD i none)):=by
 refine (bc).trans ?_;exact ae aQ▸ae (ay hi)▸rfl
theorem FT{o a b:IR}{es:List (List UInt8×MV)}{u v:MV}(h1:PE loc S o (.ref x))(h2:dP S x (.iS es))(h3:PE loc S a (.bytes bs))(h4:PE loc S b u)(e:(es.lookup bs).getD u=v)(q:R v S):We E S loc R (dn m (.aO o "get" (.cons a (.cons b .nil)))).e:=
 λσ s _ _ k _=>h1.ok s (.dB (h2 σ s) rfl (h3.ok s (h4.ok s (.oct (h2 σ s) (e▸k _ _ S s q)))))
noncomputable def tk(sl:List Slot):List Nat:=sl.filterMap id
noncomputable def L0(k:Nat):MV:= .bytes (gV k)
theorem y7 : pJ sl=(tk sl).map L0:=by skip;refine ae List.map_filterMap▸ ?_;rfl
theorem GX(ht:∀k,some k∈sl->k < 22){k:Nat}(h:k∈tk sl):k < 22:=(by refine aT (cS.mp h) λ_ m e=> ?_;exact ht k (((e))▸m))
theorem yk{L:List MV}:o8 MV.ia L []=L.isEmpty/\f0 MV.ia L []=true:=by cases L<;>exact⟨rfl,rfl⟩
theorem E4(w:Wd g N sl t s)(p:Jn s none h)(q:∀S',Le S' (Js g s (gI g sl t F))->R (.bool ((tk sl).filter bg).isEmpty) S'):Ct E R (Lw h (gI g sl t F)) 558 (m+12) [.ref (g.a 21), .ref (g.a 18)]:=by
 refine df mD (eT (oh (qS (F2 (bT (.aa rfl) (Lw.up .w) rfl rfl (.cons (.aa rfl) .nil) (ym w p λS' r e=> .mk rfl (.mk (Vs.cH e) (.mk ((tk sl).length+1) rfl ?_))))))))
 refine λσ z Q X k x=>oE (it:=λi=> .lst r i) (L:=(tk sl).length) (I:=λi acc loc S=>acc=(((tk sl).take i).filter bg).map L0/\Fr [] 1 loc/\S=S') (D:=λacc S=>acc=((tk sl).filter bg).map L0/\S=S') ?_ ?_ _ 0 [] _ S' (bZ _) ⟨rfl, .of rfl rfl,rfl⟩ σ z Q X (λacc l σ' S1 z' ⟨e1,e2⟩=>k acc l σ' S1 z' (e1▸ .mk (Vs.newD (e2▸e)) λr=> ?_)) x
 ·rintro i acc loc S hi ⟨rfl,⟨y⟩,rfl⟩
  obtain⟨k,ek⟩ : ∃k,(tk sl)[i]?=some k:=⟨_,ay hi⟩
  refine⟨by rw[aq];exact ad (List.length_filter_le ..) (ad (List.length_take_le' ..) (ad (List.length_filterMap_le ..) (ad (aL w.len) (by decide)))), .mk (ie (y7 (sl:=sl)▸Vs.cH e) (by refine (bc).trans ?_;exact ah _ ek)) (bQ rfl (ut (eY (.cmp (.aa rfl) (.tup (.cons .glob (.cons .glob .nil)) (aj rfl)) (.Lh ((Cd k (GX w.tok (au ek))).1))) ?_)))⟩
  refine ae ((Cd k (GX w.tok (au ek))).2)▸ ?_;rw[tI ek,List.filter_append,aY];refine ae List.filter_cons▸ ?_
  cases bg k with
  |true=>exact⟨λ_=>bq (.aa rfl) ⟨rfl, .of rfl rfl,rfl⟩,nofun⟩
  |false=>exact⟨nofun,λ_=>⟨(cK _).symm, .of rfl rfl,rfl⟩⟩
 ·rintro acc loc S ⟨rfl,_,rfl⟩
  exact⟨by have:=fB (y7 (sl:=sl)▸Vs.cH e);rwa [aq] at this,by rw[List.take_length],rfl⟩
 ·refine dz (ci ⟨bC _,Vs.Hi (λ_ z=>z),λr2=> .mk (.Lg (Vs.G9 λ_ z=>z) (Vs.cH λ_ z=>z) yk.2) ?_⟩)
  refine ae yk.1▸ae List.isEmpty_map▸ ?_
  exact q _ λσ z=>Vs.less (Vs.less λ_ z=>z) σ z
end
theorem JM : ∀L : Nat,L < 15->(((L:Int)).natAbs < 2^60/\ -(2^60)<=(L:Int)/\(L:Int) < 2^60)/\(if (0:Int) < L then (L:Int) - 0 else 0)=(L - 0 : Nat)/\((16:Int).natAbs < 2^32/\(L:Int).natAbs < 2^32):=by decide +kernel
section
variable {m i j t N r nb n:Nat}{g:En}{h:Lo g}{F:List Cell}{R:MV->As->Prop}{T:MF->Loc->As->Prop}{E:Addr->As->Prop}{loc:Loc}{s:Ck}{S:As}{X:List Int}{l sz:Nat}{ps nt ks:List Nat}{a b c lo hi:IR}{D:Nat->List UInt8}{k:Nat}{x y:LA}{bs cs d:List UInt8}{sl:List Slot}{o:Slot}{mo mo':MO}{tt:Bool}{v:MV}{vs:List MV}{p:List Slot×Nat}{op:CmpOp}{K:List Nat}
theorem GQ(h:We E S loc (λv S1=>pZ (lL v) λp=>Br p (R v S1) (We E S1 loc R (dn m b).e)) (dn m a).e):We E S loc R (dn m (.or a b)).e:=by
 refine λσ s Q X k x=>h σ s _ X (λv σ1 S1 s1 ⟨t,g⟩=>t.ok ?_) x
 rename_i p
 cases p
 ·exact g.f rfl σ1 s1 Q X k x
 ·exact k _ _ S1 s1 (g.t rfl)
theorem wx{α:Type}{P:Lo g->Prop}{q:_root_.Internal.P α}{R:α->As->Prop}(e:Le S (Vs P F))(k:∀h,P h->We E (Lw h F) loc R q):We E S loc R q:=λσ s=>(by refine aT (e σ s) λh p s=> ?_;exact k h p σ s)
theorem Vs.Gy{P:Lo g->Prop}{F:List Cell}(i:Nat)(hi:F[i]?=some (x,mo))(e:Le S (Vs P F)):dP S x mo:=λσ z=>(by refine aT (e σ z) λ_ _ z=> ?_;exact Lw.cH hi σ z)
theorem DO(e:dP S x (.list vs))(ha:vs.length<=100000/\vs.all (λw=>(w.fe v).isSome)=true)(k:R (.int (vs.countP (λw=>(w.fe v).getD false):Nat)) S):We E S loc R (eK m (.builtin "list.count") [.ref x,v]):=λσ s _ _ kk _=>uF.mk (e σ s) ha (kk _ _ S s k)
theorem uI : ∀ {sl:List Slot},(ji sl).countP (λv=>(v.fe .none).getD false)=sl.countP Option.isNone
 | []=>rfl
 |none::sl=>by show (MV.none::ji sl).countP _=_;refine ((List.countP_cons_of_pos rfl)).trans ?_;rw[List.countP_cons_of_pos rfl];exact ah _ uI
 |some k::sl=>by show (MV.bytes (gV k)::ji sl).countP _=_;exact uI
theorem yp : ∀ {r:List Slot},(tk r).isEmpty=decide (r.countP Option.isNone=r.length)
 | []=>rfl
 |none::r=>by rw[List.countP_cons_of_pos rfl];exact (yp (r:=r)).trans (decide_eq_decide.mpr (Nat.succ_inj (a:=r.countP _) (b:=r.length)).symm)
 |some k::r=>by exact (bz λe=>absurd (e▸List.countP_le_length (p:=Option.isNone) (l:=r)) (Nat.not_succ_le_self _)).symm
theorem Kp.emp(h:Kp sl):((tk sl).filter bg).isEmpty=((sl.countP Option.isNone : Nat)==(sl.length : Int) - 2):=by
 refine aT h λr zr1_ hr=> ?_;subst zr1_
 have e1 : (tk (some 0::some 1::r)).filter bg=tk r:=(List.filter_cons_of_neg aE).trans ((List.filter_cons_of_neg aE).trans (List.filter_eq_self.mpr λk hk=>Nat.ble_eq_true_of_le ((by refine aT (cS.mp hk) λ_ m e=> ?_;exact hr k (((e))▸m)))))
 refine (ah _ e1).trans ?_;rw[yp,List.countP_cons_of_neg aE,List.countP_cons_of_neg aE,eu,decide_eq_true_iff];refine ae cy▸ae cy▸ ?_
 lia
theorem Bt(w:Wd g N sl t s)(kp:Kp sl)(hN:1<=N)(p:Jn s none h)(q:∀S',Le S' (oW g N sl t x s F)->R (.bool true) S') :
  Ct E R (Lw h (gI g sl t (Ow g N sl (mB sl.length) t x F))) 1137 (m+15) [.ref (g.a 21), .ref (g.a 18), .ref (g.a 23)]:=by
 refine ip (JM _ w.len) λa1 a2 a3=> ?_
 have l5 : (ji sl).length<=100000:=by rw[dY];exact ad (aL w.len) (by decide)
 have pl : ∀ {h L} {F},L[3]?=some (some (.ref x))->PE L (Lw h (gI g sl t (Ow g N sl (mB sl.length) t x F))) (.call "len" (.builtin "len") (.cons (.aa 3) .nil)) (.int sl.length):=λa=>PE.eq (.call (.cons (.aa a) .nil) (.len (Up.own (i:=3) rfl) .list l5)) (ah (λn:Nat=>MV.int n) dY)
 refine fH vQ (gA (dR rfl rfl) rfl (de rfl (fT (it:=hB 0 1 sl.length) (L:=sl.length) (I:=λi acc loc S'=>acc=(fJ sl).take i/\(∃z,loc=[z,some (.ref x),some (.ref (g.a 23))])/\S'=Lw h (gI g sl t (Ow g N sl (mB sl.length) t x F))) (i8 (.cons (pl rfl) .nil) a1.2 ⟨ah (It.jK 0 · 1) a2,rfl,⟨_,rfl⟩,rfl⟩) rfl ?_ ?_)))
 ·rintro i acc loc S' hi ⟨rfl,⟨z,rfl⟩,rfl⟩
  have hit : ∀ {u:Option MV},PE [some (.int i),some (.ref x),some (.ref (g.a 23))] (Lw h (gI g sl t (Ow g N sl (mB sl.length) t x F))) (.item (.aa 1) (.aa 0)) (sV (sl.getD i none)):=λ{u}=> .item (.aa rfl) (.aa rfl) (.ref (Up.own (i:=3) rfl) (.list ⟨bA _,aX.mpr (dY.symm▸hi),l5⟩ (Bl hi)))
  refine⟨ad (List.length_take_le' ..) (by refine ae fQ▸ ?_;exact ad (aL w.len) (by decide)), .mk (kE hi) (bQ rfl (fS ⟨λ_=>nV (bj (bq (.bin .ag (.aa rfl) (.mul ((JM i (cG hi w.len)).2.2))) (bj (oq ?_)))),nofun⟩))⟩
  have step : (fJ sl).take i++[CX (sl.getD i none) i]=(fJ sl).take (i+1):=(tI (nz hi)).symm
  revert hit step
  have ok:=w.x6 (j:=i)
  revert ok
  generalize sl.getD i none=o
  intro ok hit step
  cases o with
  |none=>exact eY (.cmp (hit (u:=none)) .ag .is) ⟨λ_=>bq .ag (bj (GQ (bq (hit (u:=none)) (.mk .none ⟨nofun,λ_=>bq .ag (ci ⟨rfl,step,⟨_,rfl⟩,rfl⟩)⟩)))),nofun⟩
  |some k=>
   refine ig (AC k (ok k rfl)) λn1 n2 n3 _=> ?_
   refine eY (.cmp (hit (u:=none)) .ag .is) ⟨nofun,λ_=>FT (dR rfl rfl) (Up.own (i:=2) rfl) (hit (u:=none)) .ag (Iq (IO k (ok k rfl))) (bj (GQ (bq (hit (u:=none)) (.mk (.oct (ad n2 (by decide))) ⟨λ_=>ci ⟨rfl,step,⟨_,rfl⟩,rfl⟩,λb=>absurd b ?_⟩))))⟩
   rw[Bool.not_eq_false',List.isEmpty_iff_length_eq_zero];exact n3
 ·rintro acc loc S' ⟨rfl,_,rfl⟩
  refine⟨gz, .mk Lw.new λr=> ?_⟩
  refine ae (cF (aw fQ))▸ ?_
  refine fN (S1:=Lw h (gI g sl t (Ow g N sl (mB sl.length) t x ((r, .list (fJ sl))::F)))) (λσ z=>Lw.mid (A:=gI g sl t (Ow g N sl (mB sl.length) t x [])) z) ?_
  refine gG (BM (ic (bT (.aa rfl) (Lw.up .w) rfl rfl (.cons (.aa rfl) .nil) (xW w (Vs.at p) λS' r2 e=>bq (.aa rfl) (.mk (.Jz (Vs.cH e) (Vs.Gy 15 rfl e) sN.1) ⟨λb=>absurd b (by rw[sN.2];exact aE),λ_=>wx (Vs.less e) λh p=>eY (.cmp (.am (.aa rfl) (Lw.up .d) rfl rfl) (.bin .ag (pl rfl) (.mul a3)) .ne) ⟨λb=>absurd b (by rw[show ((16 * sl.length : Nat):Int)=16 * (sl.length : Int) from rfl,bne,beq_self_eq_true];exact aE),λ_=> ?_⟩⟩)))))
  refine gG (BM (ic (bT (.aa rfl) (Lw.up .w) rfl rfl (.cons (.aa rfl) .nil) (ym w p λS' r2 e=> ?_))))
  refine fT (it:=λi=> .lst x i) (L:=sl.length) (I:=λi acc loc S=>acc=pJ (sl.take i)/\Fr [] 1 loc/\S=S') (jf (.aa rfl) (Vs.Gy 14 rfl e) ⟨rfl,rfl, .of rfl rfl,rfl⟩) rfl ?_ ?_
  ·rintro i acc loc S hi ⟨rfl,⟨y⟩,rfl⟩
   refine⟨ad (List.length_filterMap_le ..) (ad (List.length_take_le' ..) (ad (aL w.len) (by decide))), .mk (ie (Vs.Gy 14 rfl e) (Bl hi)) (bQ rfl (ut (eY (.cmp (.aa rfl) .ag .vm) ?_)))⟩
   refine ae (sR hi)▸ ?_
   cases sl.getD i none with
   |none=>exact⟨nofun,λ_=>⟨(cK _).symm, .of rfl rfl,rfl⟩⟩
   |some k=>exact⟨λ_=>bq (.aa rfl) ⟨rfl, .of rfl rfl,rfl⟩,nofun⟩
  ·rintro acc loc S ⟨rfl,_,rfl⟩
   refine⟨by have:=fB (Vs.Gy 14 rfl e);rwa [dY] at this, .mk (Vs.Hi e) λr3=> ?_⟩
   refine ae List.take_length▸ ?_
   refine .mk (.Jz (Vs.G9 λ_ z=>z) (Vs.cH λ_ z=>z) wI.1) ⟨λb=>absurd b (by rw[wI.2];exact aE),λ_=> ?_⟩
   refine wx (Vs.less (Vs.less λ_ z=>z)) λh p=>ic (bT (.aa rfl) (Lw.up .w) rfl rfl (.cons (.aa rfl) .nil) (E4 w p λS' e=>wx e λh p=> ?_))
   refine oh (cM (.aa rfl) (gO (Up.own (i:=3) rfl) (.list rfl)) (c8 (.cons .ag .nil) (DO (Up.own (i:=3) rfl) ⟨l5,((nD (sl:=sl) (a:=0)).1)⟩ (bq (.bin (pl rfl) .ag .sub) (.mk .lD (.mk .Lu ⟨λb=>absurd b ?_,λ_=> ?_⟩))))))
   ·refine ae uI▸ ?_;refine kp.emp▸ ?_;rw[beq_self_eq_true];exact aE
   ·refine eT (oh (bT (.am (.aa rfl) (Lw.up .w) rfl rfl) (Lw.up .n) rfl rfl .nil (sB w.w.b w.nb.2 ⟨w.nb.1,hN,bH w.n7⟩ (Vs.at p) λS' e=>wx e λh p=>bq (dR rfl rfl) (.mk .lD ?_))))
    rw[beq_self_eq_true]
    exact q _ λσ z=>⟨h,p,Lw.sub z (.append_left (.cons _ (.refl F)) (gI g sl t (Ow g N sl (mB sl.length) t x [])))⟩
end
section
variable {m i j:Nat}{R:MV->As->Prop}{T:MF->Loc->As->Prop}{E:Addr->As->Prop}{loc:Loc}{S:As}{Z P Y:List Cell}{l d D:LA}{C:Addr}{fs:List (String×MV)}{x:String}{v:MV}{o o':MO}{n nb:Int}{g:En}{σ:MH}
theorem zh(e:Z[i]?=some (l,o)):dP (Zs Z) l o:=Zs.has (au e)
theorem zo(e:Z[i]?=some (l, .inst C D))(e':Z[j]?=some (D, .ns fs)):Obj (Zs Z) l C fs:=Zs.obj (au e) (au e')
theorem zt(e:Z[i]?=some (l, .inst C D))(e':Z[j]?=some (D, .ns fs))(e2:(tab.am C x&&Nat.ble fs.length 100)=true):wd (Zs Z) l x v (Zs (Z.set j (D, .ns (gK x v fs)))):=λσ s=>
 ⟨C,D,fs,⟨(s.get _ (au e)).1,(s.get _ (au e')).1,(an.mp e2).1,aj (an.mp e2).2⟩,Zs.set e' σ s⟩
theorem Db{S':LA->As}(nw:pW S (.bS []) S')(q:∀r,R (.ref r) (S' r)):We E S loc R (dn m .iT).e:=λσ s Q X k x=>(by refine aT (nw σ s) λr hr z=> ?_;exact⟨r,_,⟨hr, .inl rfl⟩,k _ _ _ z (q r)⟩)
theorem m9{b:IR}{y:String}{o:MO}{a:IR}(h:∀ {R:MV->As->Prop},(∀r,R (.ref r) (Zs ((r,o)::Z)))->We E (Zs Z) loc R (dn m a).e)(h0:loc[i]?=some (some (.ref l)))(e:∀r,((r,o)::Z)[j]?=some (l, .inst C D))(e':∀r,((r,o)::Z)[j+1]?=some (D, .ns fs))(e2:(tab.am C y&&Nat.ble fs.length 100)=true)
  (q:∀r,Wp E (Zs (((r,o)::Z).set (j+1) (D, .ns (gK y (.ref r) fs)))) loc T (dn m b).s):Wp E (Zs Z) loc T (dn m (.cons (.asg (.am (.aa i) y) a) b)).s:=
 ct (h λr=>cX (.aa h0) (zt (e r) (e' r) e2) (q r))
theorem zl{R:MV->As->Prop}(q:∀r,R (.ref r) (Zs ((r, .list [])::Z))):We E (Zs Z) loc R (dn m (.list .nil)).e:=dz (ci ⟨bC _,Zs.new,q⟩)
theorem zd{R:MV->As->Prop}(q:∀r,R (.ref r) (Zs ((r, .bS [])::Z))):We E (Zs Z) loc R (dn m .iT).e:=Db Zs.new q
theorem zs{b:IR}{y:String}{a:IR}(ha:PE loc (Zs Z) a v)(h0:loc[i]?=some (some (.ref l)))(e:Z[j]?=some (l, .inst C D))(e':Z[j+1]?=some (D, .ns fs))(e2:(tab.am C y&&Nat.ble fs.length 100)=true)(q:Wp E (Zs (Z.set (j+1) (D, .ns (gK y v fs)))) loc T (dn m b).s) :
  Wp E (Zs Z) loc T (dn m (.cons (.asg (.am (.aa i) y) a) b)).s:=DN ha (.aa h0) (zt e e' e2) q
noncomputable def z6(a d ak al:LA)(nb:Int)(v:Dd)(Z:List Cell):List Cell:=(v.un, .list (v.ch.map mw))::(al, .bS (dk v.d .bytes v.lk))::(ak, .bS (dk v.e .bytes v.kk))::(a, .inst jq d)::(d, .ns (v.ns nb ak al))::Z
noncomputable abbrev Dd.v0(u:LA):Dd:=⟨[],λ_=>zeros,[],λ_=>zeros,u,[],0,0⟩
theorem BA(hb:1<=nb)(q:∀u k2 k1,R .none (Zs (z6 l d k1 k2 nb (Dd.v0 u) Z))):Ct E R (Zs ((l, .inst jq d)::(d, .ns [])::Z)) 892 (m+1) [.ref l, .int nb, .int 64]:=by
 refine fH tH (cO (.or (.cmp (.aa rfl) .ag .lt) (.cmp (.aa rfl) .ag .lt)) (Bool.or_eq_false_iff.mpr ⟨bz (cZ.mpr hb),rfl⟩) ?_)
 refine zs (j:=0) (.aa rfl) rfl rfl rfl rfl (zs (j:=0) (.aa rfl) rfl rfl rfl rfl (m9 (j:=1) zd rfl (λ_=>rfl) (λ_=>rfl) rfl λk1=>m9 (j:=2) zd rfl (λ_=>rfl) (λ_=>rfl) rfl λk2=>m9 (j:=3) zl rfl (λ_=>rfl) (λ_=>rfl) rfl λu=> ?_))
 exact zs (j:=3) .ag rfl rfl rfl rfl (zs (j:=3) .ag rfl rfl rfl rfl (zs (j:=3) .ag rfl rfl rfl rfl (zs (j:=3) .ag rfl rfl rfl rfl (zs (j:=3) .ag rfl rfl rfl rfl (bh (q u k2 k1))))))
theorem Es{a:LA}(ob:∀Z',Obj (Zs ((l, .inst mq d)::(d, .ns Z')::Z)) a jq fs)(hs:fs.lookup "size" = some (.int 64))
  (q:∀by_ row,R .none (Zs ((by_, .bS [])::(row, .list [])::(l, .inst mq d)::(d, .ns [("disk", .ref a),("most", .int 14),("size", .int 64),("row", .ref row),("by_number", .ref by_),("hits", .int 0),("reads", .int 0),("writes", .int 0)])::Z))):Ct E R (Zs ((l, .inst mq d)::(d, .ns [])::Z)) 775 (m+1) [.ref l, .ref a, .int 14]:=by
 refine fH sA (cO (.cmp (.aa rfl) .ag .lt) rfl (zs (j:=0) (.aa rfl) rfl rfl rfl rfl (zs (j:=0) (.aa rfl) rfl rfl rfl rfl (zs (j:=0) (.am (.aa rfl) (ob _) rfl hs) rfl rfl rfl rfl ?_))))
 refine m9 (j:=1) zl rfl (λ_=>rfl) (λ_=>rfl) rfl λrow=>m9 (j:=2) zd rfl (λ_=>rfl) (λ_=>rfl) rfl λby_=> ?_
 exact zs (j:=2) .ag rfl rfl rfl rfl (zs (j:=2) .ag rfl rfl rfl rfl (zs (j:=2) .ag rfl rfl rfl rfl (bh (q by_ row))))
theorem Gp{a p:LA}{c:MV}(ob:∀Z',Obj (Zs ((l, .inst jL d)::(d, .ns Z')::Z)) a eJ fs)(hs:fs.lookup "cache" = some c)
  (q:∀t,R .none (Zs ((t, .bS [])::(l, .inst jL d)::(d, .ns [("journal", .ref a),("cache",c),("super", .ref p),("table", .ref t)])::Z))):Ct E R (Zs ((l, .inst jL d)::(d, .ns [])::Z)) 311 (m+1) [.ref l, .ref a, .ref p]:=
 fH sC (zs (j:=0) (.aa rfl) rfl rfl rfl rfl (zs (j:=0) (.am (.aa rfl) (ob _) rfl hs) rfl rfl rfl rfl (zs (j:=0) (.aa rfl) rfl rfl rfl rfl (m9 (j:=1) zd rfl (λ_=>rfl) (λ_=>rfl) rfl λt=>bh (q t)))))
theorem FK{a:LA}(q:R .none (Zs ((l, .inst n9 d)::(d, .ns [("nodes", .ref a)])::Z))):Ct E R (Zs ((l, .inst n9 d)::(d, .ns [])::Z)) 506 (m+1) [.ref l, .ref a]:=df r7 (zs (j:=0) (.aa rfl) rfl rfl rfl rfl (bh q))
theorem AU{c a:LA}{fc fd:List (String×MV)}(ob:∀Z',Obj (Zs ((l, .inst eJ d)::(d, .ns Z')::Z)) c mq fc)(od:∀Z',Obj (Zs ((l, .inst eJ d)::(d, .ns Z')::Z)) a jq fd)(hd:fc.lookup "disk" = some (.ref a)) (hs:fc.lookup "size" = some (.int 64)) (hm:fc.lookup "most" = some (.int 14)) (hb:fd.lookup "blocks" = some (.int nb)) (h12:12<=nb)
  (q:∀nt nm,R .none (Zs ((nt, .bS [])::(nm, .list [])::(l, .inst eJ d)::(d, .ns [("cache", .ref c),("start", .int 2),("size", .int 10),("places", .int 9),("most", .int 9),("each", .int 9),("numbers", .ref nm),("noted", .ref nt),("calls", .int 0),("commits", .int 0)])::Z))) :
  Ct E R (Zs ((l, .inst eJ d)::(d, .ns [])::Z)) 996 (m+1) [.ref l, .ref c, .int 2, .int 10]:=by
 have sf : ∀ {Z' f x v},f.lookup x=some v->Z'=f->tab.am eJ x=true->∀ {L:Loc},L[0]?=some (some (.ref l))->PE L (Zs ((l, .inst eJ d)::(d, .ns Z')::Z)) (.am (.aa 0) x) v:=λe ez ea _ a=> .am (.aa a) (zo (i:=0) (j:=1) rfl (ez▸rfl)) ea e
 refine tU pL rfl (cO (.or (.cmp (.aa rfl) .ag .lt) (.or (.cmp (.aa rfl) .ag .lt) (.cmp (.bin (.aa rfl) (.aa rfl) .add) (.am (.am (.aa rfl) (ob _) rfl hd) (od _) rfl hb) .gt))) (bz (cZ.mpr h12)) ?_)
 refine zs (j:=0) (.aa rfl) rfl rfl rfl rfl (zs (j:=0) (.aa rfl) rfl rfl rfl rfl (zs (j:=0) (.aa rfl) rfl rfl rfl rfl (zs (j:=0) (v:= .int 9) (.call (.cons (.bin (.aa rfl) .ag .sub) (.cons (.bin (.bin (.am (.aa rfl) (ob _) rfl hs) .glob (.fdiv (show (4:Int)≠0/\(64:Int).natAbs < 2^60/\(4:Int).natAbs < 2^60 by decide))) .ag .sub) .nil)) .min) rfl rfl rfl rfl ?_)))
 refine zs (j:=0) (v:= .int 9) (.call (.cons (sf rfl rfl rfl rfl) (.cons (.bin (.am (.aa rfl) (ob _) rfl hm) .glob .sub) .nil)) .min) rfl rfl rfl rfl (cO (.cmp (sf rfl rfl rfl rfl) .ag .lt) rfl ?_)
 refine ct (oq (eY (.cmp (.aa rfl) .ag .is) ⟨λ_=>bq (v:= .int 9) (.call (.cons .glob (.cons (sf rfl rfl rfl rfl) .nil)) .min) (cX (.aa rfl) (zt (i:=0) (j:=1) rfl rfl rfl) ?_),nofun⟩))
 refine cO (.not (.ky .ag (sf rfl rfl rfl rfl) (sf rfl rfl rfl rfl) .le .le)) rfl (m9 (j:=1) zl rfl (λ_=>rfl) (λ_=>rfl) rfl λnm=>m9 (j:=2) zd rfl (λ_=>rfl) (λ_=>rfl) rfl λnt=> ?_)
 exact zs (j:=2) .ag rfl rfl rfl rfl (zs (j:=2) .ag rfl rfl rfl rfl (bh (q nt nm)))
end
theorem KQ : ∀N : Nat,N < 7->2<=N->(Int.fdiv (((15+N : Nat):Int)+512 - 1) 512=1/\(((15+N : Nat):Int)+512 - 1).natAbs < 2^60)/\((15+N : Nat):Int) - 15=N/\¬((15+N : Nat):Int) < 1/\¬(15:Int)≥(15+N : Nat):=by decide +kernel
noncomputable def Ew(n:Nat):List Int:=(List.range n).map λi : Nat=>1 * 2^(i:Int).toNat
noncomputable def CZ(n:Nat):List Int:=(List.range n).map λi : Nat=>Builtin.bitAnd (Int.fdiv 32767 (2^(8 * (i:Int)).toNat)) 255
theorem Ls : (Ew 15).sum=32767:=by decide +kernel
theorem CD : (CZ 64).map (λn:Int=>n.toNat.toUInt8)=bm 0/\(CZ 64).all (λn=>decide (0<=n/\n < 256))=true:=by decide +kernel
theorem DU : ∀i : Nat,i < 64->(0<=(i:Int)/\(i:Int)<=1000/\(1:Int).natAbs < 2^64)/\(8:Int).natAbs < 2^32/\(i:Int).natAbs < 2^32/\0<=8 * (i:Int):=by decide +kernel
section
variable {m i j N:Nat}{R:MV->As->Prop}{T:MF->Loc->As->Prop}{E:Addr->As->Prop}{loc:Loc}{S S':As}{Z P Y:List Cell}{l d D p:LA}{C:Addr}{fs:List (String×MV)}{x:String}{v:MV}{o o':MO}{n nb:Int}{g:En}{σ:MH}
theorem yX{c s:Int}(h:s≠0/\(c+s - 1).natAbs < 2^60/\s.natAbs < 2^60)(q:R (.int ((c+s - 1).fdiv s)) S):Ct E R S 144 (m+1) [.int c, .int s]:=
 df rM (cC (.bin (.bin (.bin (.aa rfl) (.aa rfl) .add) .ag .sub) (.aa rfl) (.fdiv ⟨h.1,h.2.1,h.2.2⟩)) q)
theorem Er(hN:N < 7/\2<=N)(q:R .none (Zs ((l, .inst eG d)::(d, .ns (AQ (15+N : Nat)))::Z))):Ct E R (Zs ((l, .inst eG d)::(d, .ns [])::Z)) 159 (m+2) [.ref l, .int 64, .int (15+N : Nat), .int 4, .int 10, .int 2]:=by
 refine ig (KQ N hN.1 hN.2) λzo0_ a3 a4 a5=> ?_;have a2:=zo0_.2
 have t2 : ∀a b : Nat,a < 1000->b < 1000->(a:Int).natAbs < 2^32/\(b:Int).natAbs < 2^32:=λa b ha hb=>⟨cG ha (by decide),cG hb (by decide)⟩
 have sf : ∀ {Z' f x v},f.lookup x=some v->Z'=f->tab.am eG x=true->∀ {L:Loc},L[0]?=some (some (.ref l))->PE L (Zs ((l, .inst eG d)::(d, .ns Z')::Z)) (.am (.aa 0) x) v:=λe ez ea _ a=> .am (.aa a) (zo (i:=0) (j:=1) rfl (ez▸rfl)) ea e
 refine tU rY rfl (cO (.or (.cmp (.aa rfl) .ag .lt) (.or (.cmp (.aa rfl) (.bin .glob (.bin .ag (.bin (.aa rfl) .ag .add) (.mul (t2 4 3 (by decide) (by decide)))) .add) .lt) (.cmp (.aa rfl) (.bin .ag .glob (.mul (t2 4 9 (by decide) (by decide)))) .lt))) rfl ?_)
 refine cO (.cmp (.bin (.aa rfl) .glob (.mod (show (16:Int)≠0 by decide))) .ag .ne) rfl (cO (.or (.cmp (.aa rfl) .ag .lt) (.or (.cmp (.aa rfl) .ag .lt) (.cmp (.aa rfl) .ag .lt))) (bz a4) ?_)
 refine zs (j:=0) (.aa rfl) rfl rfl rfl rfl (zs (j:=0) (.aa rfl) rfl rfl rfl rfl (zs (j:=0) (.aa rfl) rfl rfl rfl rfl (zs (j:=0) (.aa rfl) rfl rfl rfl rfl (zs (j:=0) (.aa rfl) rfl rfl rfl rfl ?_))))
 refine zs (j:=0) (v:= .int 24) (.bin .glob (.bin .ag (.bin (.aa rfl) .ag .add) (.mul (t2 4 3 (by decide) (by decide)))) .add) rfl rfl rfl rfl ?_
 refine zs (j:=0) (v:= .int 2) (.bin (.aa rfl) (sf rfl rfl rfl rfl) (.fdiv (show (24:Int)≠0/\(64:Int).natAbs < 2^60/\(24:Int).natAbs < 2^60 by decide))) rfl rfl rfl rfl ?_
 refine zs (j:=0) (v:= .int 16) (.bin (.aa rfl) .ag (.fdiv (show (4:Int)≠0/\(64:Int).natAbs < 2^60/\(4:Int).natAbs < 2^60 by decide))) rfl rfl rfl rfl (zs (j:=0) .glob rfl rfl rfl rfl (zs (j:=0) (v:= .int 12) (.bin .glob (.aa rfl) .add) rfl rfl rfl rfl ?_))
 refine ct (l7 (bq (sf rfl rfl rfl rfl) (cr (.cons (.aa rfl) (.cons (sf rfl rfl rfl rfl) .nil)) (yX (by decide) (.mk .add (cX (v:= .int 14) (.aa rfl) (zt (i:=0) (j:=1) rfl rfl rfl) ?_))))))
 refine ct (l7 (bq (sf rfl rfl rfl rfl) (cr (.cons (.aa rfl) (.cons (v:= .int 512) (.bin .ag (.aa rfl) (.mul (t2 8 64 (by decide) (by decide)))) .nil)) (yX ⟨by decide,a2,by decide⟩ (zo0_.1.symm▸ .mk .add (cX (v:= .int 15) (.aa rfl) (zt (i:=0) (j:=1) rfl rfl rfl) ?_))))))
 exact cO (.cmp (sf rfl rfl rfl rfl) (.aa rfl) .ge) (bz a5) (bh q)
noncomputable def Kz(N:Nat):List Nat:=[270544960,15+N,N,4,10,2,12,14,2]
theorem m_words(hN:N < 7/\2<=N)(ob:Obj (Zs Z) p eG (AQ (15+N : Nat)))(q:∀r,R (.ref r) (Zs ((r, .list ((Kz N).map er))::Z))):Ct E R (Zs Z) 180 (m+1) [.ref p]:=by
 have at_ : ∀ {y v} {L:Loc},L[0]?=some (some (.ref p))->(AQ (15+N : Nat)).lookup y=some v->tab.am eG y=true->PE L (Zs Z) (.am (.aa 0) y) v:=λa e e2=> .am (.aa a) ob e2 e
 refine dh qt (gA (PE.eq (.bin (at_ rfl rfl rfl) (at_ rfl rfl rfl) .sub) (ah MV.int (KQ N hN.1 hN.2).2.1)) rfl (eT (dz (c8 ?_ ⟨aj rfl,Zs.new,q⟩))))
 exact .cons .glob (.cons (at_ rfl rfl rfl) (.cons (.aa rfl) (.cons (at_ rfl rfl rfl) (.cons (at_ rfl rfl rfl) (.cons (at_ rfl rfl rfl) (.cons (at_ rfl rfl rfl) (.cons (at_ rfl rfl rfl) (.cons (at_ rfl rfl rfl) .nil))))))))
theorem HQ{a:IR}{R:It->As->Prop}(h:We E S loc (λv S1=>pZ (λl=>v= .ref l) λl=>pZ (λvs=>dP S1 l (.list vs)/\vs.length<=100000) λvs=>R (.nT l 0) S1) (dn m a).e):We E S loc R (dn m (.enum a)).it:=
 λσ s _ X k x=>h σ s _ X (λv σ1 S1 s1 zz=>by obtain⟨e,e1,q⟩:=zz;subst e;exact .mk (e1.1 σ1 s1) e1.2 (k _ σ1 S1 s1 q)) x
structure Pin(p:LA)(nb:Int)(Z:List Cell):Prop where
 e : ∃d,(p, .inst eG d)∈Z/\(d, .ns (AQ nb))∈Z
theorem Pin.ob(h:Pin p nb Z):Obj (Zs Z) p eG (AQ nb):=let ⟨_,a,b⟩:=h.e;Zs.obj a b
theorem Pin.cons{q:Cell}(h:Pin p nb Z):Pin p nb (q::Z):=let ⟨_,a,b⟩:=h.e;⟨_, .tail _ a, .tail _ b⟩
theorem Du(hN:N < 7/\2<=N)(hp:Pin p (15+N : Nat) Z)(q:∀o : List UInt8,o.length=64->R (.bytes o) (Zs Z)):Ct E R (Zs Z) 187 (m+3) [.ref p]:=by
 refine dh pF (de rfl (cV (c8 (.cons (.am (.aa rfl) hp.ob rfl rfl) .nil) (Bc (show _/\_ by decide) Zs.new λr=> ?_))))
 refine to (HQ (bT (.aa rfl) hp.cons.ob rfl rfl .nil (m_words hN hp.cons.ob λw=> .mk rfl (.mk ⟨zh (i:=0) rfl,aj rfl⟩ (.mk 10 rfl ?_)))))
 refine lY (it:=λi=> .nT w i) (L:=9) (I:=λi loc S=>Fr [some (.ref p),some (.ref r)] 2 loc/\∃b : List UInt8,b.length=64/\S=Zs ((w, .list ((Kz N).map er))::(r, .bW b)::Z)) ?_ ?_ _ 0 _ _ (bZ _) ⟨.of rfl rfl,_,rfl,rfl⟩
 ·rintro i loc S hi ⟨⟨x⟩,b,hb,rfl⟩
  obtain⟨z,ez⟩ : ∃z,(Kz N)[i]?=some z:=⟨_,ay ((hi))⟩
  have t1 : (4:Int).natAbs < 2^32/\(i:Int).natAbs < 2^32:=⟨by decide,(DU i (cG hi (by decide))).2.2.1⟩
  refine .mk (qZ (zh (i:=0) rfl) (by refine (bc).trans ?_;exact ah _ ez)) (t2 rfl rfl (bY (cr (.cons (.aa rfl) (.cons (.bin .ag (.aa rfl) (.mul t1)) (.cons (.aa rfl) .nil))) (jg (show Ba (λb=>Zs ((w, .list ((Kz N).map er))::(r, .bW b)::Z)) r from ⟨λb=>zh (i:=1) rfl,λb b'=>Zs.set (i:=1) rfl⟩) z (4 * i) rfl rfl (by exact Nat.lt_of_lt_of_eq (az (bD (dq _ (bH hi)) _) (by decide)) hb.symm) (hb▸by decide) (bh ⟨.of rfl rfl,_,(uh ..).trans hb,rfl⟩)))))
 ·rintro loc S ⟨⟨x⟩,b,hb,rfl⟩
  exact⟨mV (vs:=(Kz N).map er) (zh (i:=0) rfl),oN (.call (.cons (.aa rfl) .nil) (.oQ (zh (i:=1) rfl) (hb▸aj rfl))) (λ_ s=>Zs.sub s (.cons _ (.cons _ (.refl _)))) (q b hb)⟩
theorem Ei.zs{a ak al:LA}:Ei nb a ak al λv=>Zs (z6 a d ak al nb v Z) where
 ob v:=zo (i:=3) (j:=4) rfl rfl
 kept v:=zh (i:=2) rfl
 Jr v:=zh (i:=1) rfl
 un v:=zh (i:=0) rfl
 MA v i:=zt (C:=jq) (D:=d) (fs:=v.ns nb ak al) (i:=3) (j:=4) rfl rfl rfl
 Mq v i:=zt (C:=jq) (D:=d) (fs:=v.ns nb ak al) (i:=3) (j:=4) rfl rfl rfl
 Jd v n o:=by have:=Zs.set (Z:=z6 a d ak al nb v Z) (i:=1) (o':= .bS (gX (dk v.d .bytes v.lk) n (.bytes o))) rfl;rw[qb] at this ⊢;exact this
 D0 v n o:=by have:=Zs.set (Z:=z6 a d ak al nb v Z) (i:=2) (o':= .bS (gX (dk v.e .bytes v.kk) n (.bytes o))) rfl;rw[qb] at this ⊢;exact this
 Mm v n o:=by have:=Zs.set (Z:=z6 a d ak al nb v Z) (i:=0) (o':= .list (v.ch.map mw++[.tup [.int n, .bytes o]])) rfl;rw[show v.ch.map mw++[.tup [.int n, .bytes o]]=(v.ch++[(n,o)]).map mw from (aY (f:=mw) (l₂:=[(n,o)])).symm] at this ⊢;exact this
 Hb v:=⟨_,Zs.new,λr σ z=>by refine iE (zt (x := "unflushed") (v:= .ref r) (i:=4) (j:=5) rfl rfl rfl σ z) λC D fs h z=> ?_;exact⟨C,D,fs,h,Zs.sub z (.cons_cons _ (.cons _ (.refl _)))⟩⟩
end
section
variable {m i j N:Nat}{R:MV->As->Prop}{T:MF->Loc->As->Prop}{E:Addr->As->Prop}{loc:Loc}{S S':As}{Z P Y:List Cell}{l d D p:LA}{C:Addr}{fs:List (String×MV)}{x:String}{v:MV}{o o':MO}{n nb:Int}{g:En}{σ:MH}
theorem te{α:Type}{f:Nat->α}:(List.range (i+1)).map f=(List.range i).map f++[f i]:=by rw[List.range_succ,aY];rfl
theorem FZ(hN:N < 7/\2<=N)(hp:Pin p (15+N : Nat) Z)(q:∀a d ak al u o r,o.length=64->R (.ref a) (Zs (z6 a d ak al (15+N : Nat) ((((Dd.v0 u).put 1 o).put 14 (bm 0)).fld r) Z))):Ct E R (Zs Z) 1092 (m+4) [.ref p]:=by
 have b15 : (15:Int)<=(15+N : Nat):=aW.mpr (a9 15 N)
 refine dh vz (de rfl (cr (.cons (.am (.aa rfl) hp.ob rfl rfl) (.cons .ag .nil)) (io rfl rfl Zs.pN λa d=>BA (bp (by decide) b15) λu al ak=>⟨rfl, ?_⟩)))
 have D : Ei (15+N : Nat) a ak al λv=>Zs (z6 a d ak al (15+N : Nat) v Z):=Ei.zs
 have pl : ∀ {v},Pin p (15+N : Nat) (z6 a d ak al (15+N : Nat) v Z):=hp.cons.cons.cons.cons.cons
 refine bY (cM (.aa rfl) (mP (D.ob (.v0 u)) rfl rfl) (bj (bq .ag (bj (bT (.aa rfl) (pl (v:= .v0 u)).ob rfl rfl .nil (Du hN pl λo ho=>ci (ed (uj D (⟨by decide,aN (by decide) b15⟩) ho ⟨bC _,bC _⟩ ?_))))))))
 have hv : ((Dd.v0 u).put 1 o).lk.length<=1000/\((Dd.v0 u).put 1 o).ch.length<=1000/\(((Dd.v0 u).put 1 o).put 14 (bm 0)).ch.length<=1000/\(((Dd.v0 u).put 1 o).put 14 (bm 0)).kk.length<=1000:=⟨aj rfl,aj rfl,aj rfl,aj rfl⟩
 generalize hq : (Dd.v0 u).put 1 o=v1 at *
 have drop : ∀ {q:Cell} {v},Le (Zs (q::z6 a d ak al (15+N : Nat) v Z)) (Zs (z6 a d ak al (15+N : Nat) v Z)):=λ_ z=>Zs.sub z (.cons _ (.refl _))
 refine de rfl (cV (bj (fT (it:=hB 0 1 15) (L:=15) (I:=λi acc loc S=>acc=(Ew i).map .int/\Fr [] 1 loc/\S=Zs (z6 a d ak al (15+N : Nat) v1 Z)) (i8 (.cons (.am (.aa rfl) (pl (v:=v1)).ob rfl rfl) .nil) (show _/\_ by decide) ⟨rfl,rfl, .of rfl rfl,rfl⟩) rfl ?_ ?_)))
 ·rintro i acc loc S hi ⟨rfl,⟨y⟩,rfl⟩
  have b:=DU i (cG hi (by decide))
  exact⟨by rw[aq,Ew,aq,d8];exact ad (aL hi) (by decide), .mk (kE hi) (bQ rfl (fS ⟨λ_=>bq (.bin .ag (.aa rfl) (.shl b.1)) ⟨by unfold Ew;rw[te,aY];rfl, .of rfl rfl,rfl⟩,nofun⟩))⟩
 rintro acc loc S ⟨rfl,_,rfl⟩
 refine⟨gz, .mk Zs.new λr=>ci (L2 (.sum (zh (i:=0) rfl) gF) ?_)⟩
 refine fN drop (bY (cM (.aa rfl) (mP (D.ob v1) rfl rfl) (bj (bq (.am (.aa rfl) (pl (v:=v1)).ob rfl rfl) (bj (cV (bj (fT (it:=hB 0 1 64) (L:=64) (I:=λi acc loc S=>acc=(CZ i).map .int/\(∃y,loc=[y,some (.int 32767)])/\S=Zs (z6 a d ak al (15+N : Nat) v1 Z)) (i8 (.cons .ag .nil) (show _/\_ by decide) ⟨rfl,rfl,⟨_,rfl⟩,rfl⟩) rfl ?_ ?_))))))))
 ·rintro i acc loc S hi ⟨rfl,⟨y,rfl⟩,rfl⟩
  have b:=DU i hi
  exact⟨by rw[aq,CZ,aq,d8];exact ad (aL hi) (by decide), .mk (kE hi) (bQ rfl (fS ⟨λ_=>bq (.bin (.bin (.aa rfl) (.bin .ag (.aa rfl) (.mul ⟨b.2.1,b.2.2.1⟩)) (.shr b.2.2.2)) .ag .band) ⟨by unfold CZ;rw[te,aY];rfl,⟨_,rfl⟩,rfl⟩,nofun⟩))⟩
 rintro acc loc S ⟨rfl,_,rfl⟩
 refine⟨gz, .mk Zs.new λr=>ci (on (zh (i:=0) rfl) (by decide) gF (λn hn=>aF (List.all_eq_true.mp CD.2 n hn)) ?_)⟩
 refine ae CD.1▸ ?_
 refine tD drop (ci (ed (uj D (⟨by decide,aN (by decide) b15⟩) kh ⟨hv.1,hv.2.1⟩ ?_)))
 exact bY (bT (.aa rfl) (D.ob _) rfl rfl .nil (y6 D ⟨hv.2.2.1,hv.2.2.2⟩ λr=>cC (.aa rfl) (hq▸q a d ak al u o r ho)))
end
section
variable {m i j N:Nat}{R:MV->As->Prop}{T:MF->Loc->As->Prop}{E:Addr->As->Prop}{loc:Loc}{S S':As}{Z P Y:List Cell}{l d D p:LA}{C:Addr}{fs:List (String×MV)}{x:String}{v:MV}{o o':MO}{n nb:Int}{g g':En}{σ:MH}{s:Ck}{F:List Cell}{X:List Int}{h:Lo g}
structure B4(nb:Int)(v:Dd):Prop where
 kk : v.kk=v.lk
 e : v.e=v.d
 un : v.ch=[]
 nd : v.lk.Nodup
 lr : ∀n∈v.lk,0<=n/\n < nb
 l0 : ∀n,n∉v.lk->v.d n=zeros
 len : ∀n,(v.d n).length=64
noncomputable def U0(g:En)(F:List Cell):List Cell:=(g.a 13, .inst eG (g.a 14))::(g.a 14, .ns (AQ g.nb))::(g.a 15, .inst jL (g.a 16))::(g.a 16, .ns (J6 g))::(g.a 17, .bS [])::(g.a 21, .inst n9 (g.a 22))::(g.a 22, .ns [("nodes", .ref (g.a 15))])::F
noncomputable def Lo.of(g:En)(v:Dd)(nm nt:LA):Lo g:=⟨v.kk,v.e,v.lk,v.d,v.un,v.ch,v.wr,v.fl,[],[],λ_=>⟨.tm 0, .tm 0, .tm 0⟩,none,[],v.d,0,0,0,nm,[],nt,[],0,0⟩
theorem Lo.K4{v:Dd}{nm nt:LA}(f:B4 g.nb v)(nb:g.nb<=21):Jn ⟨v.d,[],0⟩ none (Lo.of g v nm nt) where
 ok:=⟨List.nodup_nil, .refl _,nofun,bC _,nofun,List.nodup_nil,bC _,nofun,λ_ _ _=>rfl,f.l0,λn=>⟨f.len n,f.len n⟩⟩
 hh:=rfl
 cv:=⟨λ_ _=>rfl,rfl,rfl,rfl,rfl,(ah (λu=>(u.map (·.1)).foldl ins v.kk) f.un).trans f.kk,(ah (λu=>u.foldl (λf p=>upd f p.1 p.2) v.e) f.un).trans f.e,f.nd,f.lr,(by refine ae (show (Lo.of g v nm nt).vw.kk=v.lk from f.kk)▸ ?_;exact Mg f.nd f.lr nb),aw (ah List.length f.un),nofun⟩
noncomputable abbrev wm(X P:IR):IR:= .call "Paths" (.ref 659) (.cons (.call "Nodes" (.ref 453) (.cons (.call "Journal" (.ref 1083) (.cons (.call "Cache" (.ref 874) (.cons X (.cons (.ag (.int 14)) .nil))) (.cons (.ag (.int 2)) (.cons (.ag (.int 10)) .nil)))) (.cons P .nil))) .nil)
theorem FV{α:Type}{q:_root_.Internal.P α}{R R':α->As->Prop}(h:We E S loc R' q)(k:∀v S,R' v S->R v S):We E S loc R q:=λσ s Q X kk x=>h σ s Q X (λa σ' S' s' r=>kk a σ' S' s' (k a S' r)) x
theorem CL{a:IR}{vs:List MV}{f:Value}(h:PL loc S a vs)(q:We E S loc R (eK m f (v::vs))):We E S loc (λws S1=>We E S1 loc R (eK m f (v::ws))) (_root_.Internal.P.gU (dn m a).ms):=c8 h q
theorem DK{k:Nat}(idx:List Nat)(hi:(idx.isPerm (List.range k)&&Nat.ble k F.length)=true):F.Perm (idx.map (λi=>F.getD i (.tm 0, .list []))++F.drop k):=by
 have hi:=an.mp hi
 have : F.take k=(List.range k).map λi=>F.getD i (.tm 0, .list []):=List.ext_getElem (by rw[aq,d8];refine (bK).trans ?_;exact (Nat.min_eq_left (aj hi.2))) λi h1 h2=>by
  refine (List.getElem_take).trans ?_;rw[List.getElem_map,List.getElem_range,aQ,ay];rfl
 have e : F.Perm (F.take k++F.drop k):= .of_eq (List.take_append_drop k F).symm
 rw[this] at e
 exact e.trans (((List.isPerm_iff.mp hi.1).map _).symm.append_right _)
inductive Ix(A:LA->(Int->List UInt8)->Prop)(nb:Int)(Z:List Cell):MV->As->Prop
 |mk {v:Dd}{a d ak al:LA}(f:B4 nb v)(ha:A a v.d):Ix A nb Z (.ref a) (Zs (z6 a d ak al nb v Z))
theorem yx{A:LA->(Int->List UInt8)->Prop}{pd:LA}{X P:IR}(e:nb=(15+N : Nat))(h21:nb<=21)(hP:∀Z,PE loc (Zs Z) P (.ref p))(hX:We E S loc (Ix A nb ((p, .inst eG pd)::(pd, .ns (AQ nb))::F)) (dn (m+2) X).e)
  (q:∀ (g:En) c,g.nb=nb->A (g.a 0) c->g.a 13=p->∀S',Le S' (Js g ⟨c,[],0⟩ (U0 g F))->R (.ref (g.a 21)) S'):We E S loc R (dn (m+2) (wm X P)).e:=by
 refine cV (bj (cV (bj (cV (bj (cV (bj (FV hX λu S' r=> ?_))))))))
 cases r with | @mk w a d ak al f ha=>
 refine CL (.cons .ag .nil) (ed (io rfl rfl Zs.pN λcl cd=> ?_))
 refine Es (fs:=w.ns nb ak al) (λ_=>zo (i:=5) (j:=6) rfl rfl) rfl λby_ row=>⟨rfl,CL (.cons .ag (.cons .ag .nil)) (ed (io rfl rfl Zs.pN λjl jd=> ?_))⟩
 refine AU (nb:=nb) (λ_=>zo (i:=4) (j:=5) rfl rfl) (λ_=>zo (i:=9) (j:=10) rfl rfl) rfl rfl rfl rfl (e▸aW.mpr (ad (by decide) (a9 15 N))) λnt nm=>⟨rfl,CL (.cons (hP _) .nil) (ed (io rfl rfl Zs.pN λno nod=> ?_))⟩
 refine Gp (λ_=>zo (i:=4) (j:=5) rfl rfl) rfl λtb=>⟨rfl,ci (ed (io rfl rfl Zs.pN λpw pwd=>FK ⟨rfl,q ⟨λi=>[a,d,ak,al,a,cl,cd,row,by_,jl,jd,a,a,p,pd,no,nod,tb,a,a,a,pw,pwd].getD i a,nb⟩ w.d rfl ha rfl _ λσ z=>⟨Lo.of _ w nm nt,Lo.K4 f h21, ?_⟩⟩))⟩
 exact Zs.perm z ((DK (k:=20) [16,17,15,14,13,11,12,10,9,7,8,6,5,18,19,3,4,2,0,1] rfl).trans (.append_left (Lo.of (g:=⟨λi=>[a,d,ak,al,a,cl,cd,row,by_,jl,jd,a,a,p,pd,no,nod,tb,a,a,a,pw,pwd].getD i a,nb⟩) w nm nt).objs (.of_eq (cK _).symm)))
noncomputable abbrev En.nd(g:En)(l d p:LA):En:=⟨λi=>if i=18 then l else if i=19 then d else if i=20 then p else g.a i,g.nb⟩
theorem Js.nd{l d p:LA}:Le (Js g s F) (Js (g.nd l d p) s F):=λσ ⟨h,p,z⟩=>
 ⟨⟨h.kk,h.e,h.lk,h.d,h.un,h.ch,h.wr,h.fl,h.row,h.ks,h.bn,h.hold,h.pins,h.c,h.hits,h.rd,h.cw,h.nm,h.nums,h.nt,h.nd,h.calls,h.Eb⟩,⟨⟨p.ok.nd,p.ok.ks,p.ok.jK,p.ok.most,p.ok.pin,p.ok.Ec,p.ok.pl,p.ok.sI,p.ok.cl,p.ok.Ek,p.ok.len⟩,p.hh,⟨p.cv.c,p.cv.ns,p.cv.nd,p.cv.pins,p.cv.k,p.cv.sk,p.cv.se,p.cv.ln,p.cv.lr,p.cv.kl,p.cv.un,p.cv.wr⟩⟩,z⟩
inductive Lr(g:En):LA->Addr->List (String×MV)->Prop where
 |p : Lr g (g.a 13) eG (AQ g.nb)
 |n : Lr g (g.a 15) jL (J6 g)
 |w : Lr g (g.a 21) n9 [("nodes", .ref (g.a 15))]
theorem Lw.u0(u:Lr g l C fs):Obj (Lw h (U0 g F)) l C fs:=by
 induction u with
 |p=>exact Lw.kz (i:=0) rfl rfl
 |n=>exact Lw.kz (i:=2) rfl rfl
 |w=>exact Lw.kz (i:=5) rfl rfl
theorem zH(h21:17<=g.nb)(e:Le S (Js g s (U0 g F)))(hc:s.c 12=zeros)(q:∀S',Le S' (Js g s (U0 g F))->R (.tup [.int 0, .int 0]) S'):Ct E R S 325 (m+4) [.ref (g.a 15), .int 1]:=by
 refine ff e λh p=>df oM (ct (bT (.am (.aa rfl) (Lw.u0 .n) rfl rfl) (Lw.u0 .p) rfl rfl (.cons (.aa rfl) .nil) (tC (Lw.u0 .p) (t2 rfl rfl ?_))))
 refine de rfl (bT (.am (.aa rfl) (Lw.u0 .n) rfl rfl) (Lw.obj .c) rfl rfl (.cons (.aa rfl) .nil) (B9 (Vs.at p) (⟨by decide,aN (by decide) h21⟩) λh p=> ?_))
 refine de rfl (nV (bj (cr (.cons (eF rfl p.j) (.cons (.aa rfl) .nil)) (gD (.r (has_data (G:=U0 g F) p.j (by decide) hc)) 24 rfl (by decide) (by decide) (bj (cr (.cons (eF rfl p.j) (.cons (.bin (.aa rfl) .ag .add) .nil)) (gD (.r (has_data (G:=U0 g F) p.j (by decide) hc)) 30 rfl (by decide) (by decide) (ci ⟨rfl, ?_⟩))))))))
 exact bY (bT (.am (.aa rfl) (Lw.u0 .n) rfl rfl) (Lw.obj .c) rfl rfl (.cons (.aa rfl) .nil) (oJ p λS' e=>cC (.aa rfl) (q S' e)))
theorem Lw.zs{A:List Cell}:Le (Lw h (A++F)) (Zs (A++(h.objs++(F++h.fF)))):=λσ z=>Zs.perm z ((List.Perm.append_left _ (.of_eq (aH ..))).trans (List.perm_append_comm_assoc ..))
theorem Lw.sz{A:List Cell}:Le (Zs (A++(h.objs++(F++h.fF)))) (Lw h (A++F)):=λσ z=>Zs.perm z ((List.perm_append_comm_assoc ..).trans (.append_left _ (.of_eq (aH ..).symm)))
theorem Cp{no:LA}(q:∀pl,R .none (Zs ((pl, .list [])::(l, .inst ly d)::(d, .ns [("nodes", .ref no),("number", .int 1),("holders", .int 1),("kind", .int 0),("major", .int 0),("minor", .int 0),("links", .int 0),("size", .int 0),("places", .ref pl)])::Z))):Ct E R (Zs ((l, .inst ly d)::(d, .ns [])::Z)) 222 (m+1) [.ref l, .ref no, .int 1]:=by
 refine fH tV (zs (j:=0) (.aa rfl) rfl rfl rfl rfl (zs (j:=0) (.aa rfl) rfl rfl rfl rfl (zs (j:=0) .ag rfl rfl rfl rfl (zs (j:=0) .glob rfl rfl rfl rfl ?_))))
 exact zs (j:=0) .ag rfl rfl rfl rfl (zs (j:=0) .ag rfl rfl rfl rfl (zs (j:=0) .ag rfl rfl rfl rfl (zs (j:=0) .ag rfl rfl rfl rfl (m9 (j:=1) zl rfl (λ_=>rfl) (λ_=>rfl) rfl λpl=>bh (q pl)))))
end
section
variable {m i j N:Nat}{R:MV->As->Prop}{T:MF->Loc->As->Prop}{E:Addr->As->Prop}{loc:Loc}{S S':As}{Z P Y:List Cell}{l d D p:LA}{C:Addr}{fs:List (String×MV)}{x y:LA}{v:MV}{vs:List MV}{o o':MO}{n nb:Int}{g g':En}{σ:MH}{s:Ck}{F:List Cell}{X:List Int}{h:Lo g}{a b t:IR}
theorem Ft{it it':It}(h:rV S it (some (v,it')))(g:Wp E S loc (λ_ l S1=>Wp E S1 l (bd (λl S=>Wf m t b N it' l S T E) T) (dn m b).s) ((dn m t).t v)):Wf m t b (N+1) it loc S T E:=λσ s Q X kk x=>by
 refine .turn (h σ s) (g σ s _ X (λ_ l1 σ1 S1 s1 g=>g σ1 s1 _ X (λf l2 σ2 S2 s2 g=> ?_) x) x)
 cases f with
 |next=>exact g σ2 s2 Q X kk x
 |cont=>exact g σ2 s2 Q X kk x
 |brk=>exact kk _ _ σ2 S2 s2 g
 |ret v=>exact kk _ _ σ2 S2 s2 g
theorem Gg{S1:LA->As}(h:We E S loc (λv S1=>∃k vs w S2,(v= .ref k/\dP S1 k (.list vs)/\PE loc S1 b (.int w)/\(0<=w/\w<=1000/\vs.length<=64/\vs≠[])/\pW S1 (.list (List.replicate w.toNat vs).flatten) S2)/\∀r,R (.ref r) (S2 r)) (dn m a).e):We E S loc R (dn m (.bin .Mult a b)).e:=
 λσ s Q X kk x=>h σ s _ X (λv σ1 S1 s1 z=>by
  refine xt z λ_ _ _ S2 zo4_ q=> ?_;refine Iu zo4_ λe g hb c nw=> ?_
  subst e;exact hb.ok s1 ((by refine aT (nw σ1 s1) λr hr z=> ?_;exact .mulL (g σ1 s1) c hr (kk _ _ _ z (q r))))) x
theorem Lw.Ee{k:Nat}(idx:List Nat)(hi:(idx.isPerm (List.range k)&&Nat.ble k F.length)=true)(z:Lw h F σ):Lw h (idx.map (λi=>F.getD i (.tm 0, .list []))++F.drop k) σ:=Lw.perm z (DK idx hi)
theorem xT(Z:Zo g X s)(e:Le S (Js g s (U0 g F)))(hc:s.c 12=zeros)(q:∀l d p S',Le S' (Js (g.nd l d p) (s.set 12 (f6 (s.c 12) 24 (jp 0 0 (pl 0)))) (Up (g.nd l d p) 0 0 (pl 0) F))->R (.ref l) S'):Ct E R S 340 (m+5) [.ref (g.a 15), .int 1]:=by
 refine ff e λh p=>tU nG rfl (cO (.cmp (.aa rfl) (.tup (.cons .glob (.cons .glob (.cons .glob .nil))) (aj rfl)) (.Lh rfl)) rfl ?_)
 refine to (yc (.cons .ag (.cons (.am (.am (.aa rfl) (Lw.u0 .n) rfl rfl) (Lw.u0 .p) rfl rfl) .nil)) (show _/\_ by decide) (.mk 1 rfl (Ft (λσ _=> .jK (by decide)) (bQ rfl ?_))))
 refine s0 (ic (uz (bT (.aa rfl) (Lw.u0 .n) rfl rfl (.cons (.aa rfl) .nil) (zH Z.ok.nb.2 (Vs.at p) hc λS' e=>bq .ag (.mk (Lz rfl) (bq .glob (.mk .lD ⟨λ_=>dQ e λh p=> ?_,nofun⟩)))))))
 refine de rfl (cr (.cons (.aa rfl) (.cons (.aa rfl) .nil)) (io rfl rfl Lw.pN λl d=> ?_))
 refine pP (Lw.zs (A:=[(l, .inst ly d),(d, .ns [])])) (Cp λp0=>⟨rfl, ?_⟩)
 refine fN (Lw.sz (A:=[(p0, .list []),(l, .inst ly d),(d, .ns [("nodes", .ref (g.a 15)),("number", .int 1),("holders", .int 1),("kind", .int 0),("major", .int 0),("minor", .int 0),("links", .int 0),("size", .int 0),("places", .ref p0)])])) ?_
 refine ct (bq (.tup (.cons (.aa rfl) (.cons (.aa rfl) (.cons (.aa rfl) .nil))) (aj rfl)) (iW rfl (c6 (cX (.aa rfl) (Lw.kT (i:=1) (j:=2) rfl rfl rfl rfl) (c6 (cX (.aa rfl) (Lw.kT (i:=1) (j:=2) rfl rfl rfl rfl) (c6 (cX (.aa rfl) (Lw.kT (i:=1) (j:=2) rfl rfl rfl rfl) (iZ ?_)))))))))
 refine ct (Gg (S1:=λ_=>S) (dz (c8 (.cons .ag .nil) ⟨aj rfl,Lw.new,λr1=>⟨r1,_,_,_,⟨rfl,Lw.cH (i:=0) rfl, .bin (.am (.am (.aa rfl) (Lw.kz (i:=6) rfl rfl) rfl rfl) (Lw.kz (i:=4) rfl rfl) rfl rfl) .ag .add,⟨by decide,by decide,aj rfl,nofun⟩,Lw.new⟩,λr=> ?_⟩⟩)))
 refine cX (.aa rfl) (Lw.kT (i:=3) (j:=4) rfl rfl rfl rfl) (ct (bq (.aa rfl) (dW (.am (.aa rfl) (Lw.kz (i:=7) rfl rfl) rfl rfl) (.aa rfl) (Lw.cH (i:=9) rfl) (.dI (aj rfl)) (Lw.jJ (i:=9) rfl rfl) ?_)))
 refine fN (S1:=Js (g.nd l d r) s (Up (g.nd l d r) 0 0 (pl 0) F)) (λσ z=>Js.nd σ ⟨h,p,Lw.Ee (k:=10) [3,4,5,6,7,1,2,0,8,9] rfl (Lw.sub z (.cons_cons _ (.cons _ (.cons _ (.refl _)))))⟩) (dQ (λ_ z=>z) λh p=> ?_)
 exact bY (bT (.aa rfl) (Lw.up (g:=g.nd l d r) .n) rfl rfl (.cons (.aa rfl) .nil) (wH (g:=g.nd l d r) rfl ⟨⟨Z.ok.nb,Z.ok.nd,Z.ok.rg,Z.ok.ln⟩,Z.sub,Z.xl,Z.k⟩ (Vs.at p) λ_ S' e=>cC (.aa rfl) (q l d r S' e)))
end
section
variable {m i j N:Nat}{R:MV->As->Prop}{T:MF->Loc->As->Prop}{E:Addr->As->Prop}{loc:Loc}{S S':As}{l d r x:LA}{n nb:Int}{g g':En}{s:Ck}{F:List Cell}{X:List Int}{h:Lo g}{sz:Nat}{ps:List Nat}
theorem Lw.K5{v:Nat}:wd (Lw h (Up g 0 sz ps F)) (g.a 18) "links" (.int v) (Lw h (Up g v sz ps F)):=Lw.kT (i:=5) (j:=6) rfl rfl rfl rfl
theorem Zo.nd(Z:Zo g X s):Zo (g.nd l d r) X s:=⟨⟨Z.ok.nb,Z.ok.nd,Z.ok.rg,Z.ok.ln⟩,Z.sub,Z.xl,Z.k⟩
theorem Ib(nb:g.nb=(15+N : Nat))(hN:2<=N/\N < 7)(hk:s.k=0)(ns:s.ns=[])(hc:s.c 12=zeros)(hb:s.c 14=bm 0)(e:Le S (Js g s (U0 g F)))
  (q:∀l d r s' S',Rest (g.nd l d r) N [some 0,some 1] 1 s'->Le S' (Js (g.nd l d r) s' (gI (g.nd l d r) [some 0,some 1] 1 F))->R (.ref l) S'):Ct E R S 1099 (m+13) [.ref (g.a 21)]:=by
 refine ff e λh p=>dh wy ?_
 refine bY (bT (.am (.am (.aa rfl) (Lw.u0 .w) rfl rfl) (Lw.u0 .n) rfl rfl) (Lw.obj .j) rfl rfl .nil (yS (p.cv.ns.trans ns) (p.cv.k.trans hk) ?_))
 have p1 : Jn { s with k:=1 } none (h.kx 1):=⟨{ p.ok with },p.hh,{ p.cv with k:=rfl }⟩
 have n17 : g.nb<=21/\17<=g.nb:=nb▸⟨aW.mpr (bH (Nat.add_lt_add_left hN.2 15)),aW.mpr (bb hN.1 15)⟩
 have Z : Zo g [15] { s with k:=1 }:=⟨⟨n17,ns▸List.nodup_nil,λn m=>(by rw[show s.ns=[] from ns] at m;cases m),by refine ae (show s.ns=[] from ns)▸ ?_;decide⟩,λn m=>(by rw[show s.ns=[] from ns] at m;cases m),by decide,rfl⟩
 have W : Wo 0 (DS []) { s with k:=1 }:=⟨hb,nofun,λi _ h=>by unfold need at h;split at h<;>cases h⟩
 refine de rfl (bT (.am (.aa rfl) (Lw.u0 .w) rfl rfl) (Lw.u0 .n) rfl rfl (.cons .glob .nil) (xT Z (Vs.at p1) hc λl d r S' e=>dQ e λh p=> ?_))
 have Z:=(Z.set (n:=12) (b:=f6 (s.c 12) 24 (jp 0 0 (pl 0))) ⟨by decide,aN (by decide) n17.2⟩ (.head _)).nd (l:=l) (d:=d) (r:=r)
 have W:=W.up (d:=f6 (s.c 12) 24 (jp 0 0 (pl 0)))
 refine ct (bq .ag (cX (.aa rfl) (Lw.K5 (v:=1)) ?_))
 refine bY (bT (.aa rfl) (Lw.up (g:=g.nd l d r) .d) rfl rfl .nil (dh q8 (bY (bT (.am (.aa rfl) (Lw.up (g:=g.nd l d r) .d) rfl rfl) (Lw.up (g:=g.nd l d r) .n) rfl rfl (.cons (.aa rfl) .nil) (Fc (t:=0) Z W (Vs.at p) λs1 S' Z W rw e=>bh (dQ e λh p=> ?_))))))
 have w : Wd (g.nd l d r) N [] 0 s1:=⟨⟨nb,bC _⟩,hN.2,by decide,W,rw,nofun,by decide,rfl⟩
 refine bY (bT (.aa rfl) (Lw.up (g:=g.nd l d r) .w) rfl rfl (.cons (.aa rfl) (.cons .ag (.cons .ag .nil))) (w5 (k:=0) w Z p (by decide) (by decide) (.head _) ((λZ=>ad Z.len (by decide)) Z) (λ_ s2 t2 S' ht Z w e=> ?_) nofun λ_ h2=>absurd (ad hN.1 (bH h2)) (by decide)))
 refine dA (ht.resolve_left λz=>absurd z.1 (by decide)) λ_ zr1_=> ?_;subst zr1_
 refine dQ e λh p=>bY (bT (.aa rfl) (Lw.up (g:=g.nd l d r) .w) rfl rfl (.cons (.aa rfl) (.cons .ag (.cons .ag .nil))) (w5 (k:=1) (sl:=[some 0]) (t:=1) w Z p (by decide) (by decide) (.head _) ((λZ=>ad Z.len (by decide)) Z) (λ_ s3 t3 S' ht Z w e=> ?_) (λhn=>absurd hn (by decide)) λ_ h2=>absurd (ad hN.1 (bH h2)) (by decide)))
 refine dA (ht.resolve_right λz=>absurd z.1.1 (by decide)) λ_ zr1_=> ?_;subst zr1_
 refine dQ e λh p=>bY (bT (.am (.am (.aa rfl) (Lw.up (g:=g.nd l d r) .w) rfl rfl) (Lw.up (g:=g.nd l d r) .n) rfl rfl) (Lw.obj (g:=g.nd l d r) .j) rfl rfl .nil (GH Z.ok Z.k (Vs.at p) λS' e=>cC (.aa rfl) (q l d r { s3 with ns:=[],k:=0 } S' ⟨w.of rfl,⟨Z.ok.nb,List.nodup_nil,nofun,bC _⟩,rfl,rfl,[],rfl,nofun⟩ e)))
end
section
variable {m i j N:Nat}{R:MV->As->Prop}{T:MF->Loc->As->Prop}{E:Addr->As->Prop}{loc:Loc}{S:As}{Z:List Cell}{l d r x:LA}{n nb:Int}{g g':En}{s:Ck}{F:List Cell}{X:List Int}{h:Lo g}{sz:Nat}{ps:List Nat}{a:IR}
theorem zN{S':LA->As}(h:PE loc S a (.int 0))(nw:pW S (.list []) S')(q:∀r,R (.ref r) (S' r)):We E S loc R (dn m (.mz a)).e:=λσ s _ _ k _=>h.ok s ((by refine aT (nw σ s) λ_ hr z=> ?_;exact .mk hr (k _ _ _ z (q _))))
theorem yd{S':LA->As}{es:List (Int×MV)}(e:dP S l (.bS es))(hl:es.length<=1000)(nw:pW S (.bS es) S')(q:∀r,R (.ref r) (S' r)):We E S loc R (eK m (.type "dict") [.ref l]):=λσ s _ _ k _=>(by refine aT (nw σ s) λ_ hr z=> ?_;exact .mk (e σ s) hl hr (k _ _ _ z (q _)))
theorem HS{b c t:IR}{vs:List MV}(h:PE loc S a (.ref l))(e:dP S l (.list vs))(z:vs=[])(q:Wp E S loc T (dn m c).s):Wp E S loc T (dn m (.cons (.fR false t (.iter a) b) c)).s:=
 dj (it:=λi=> .lst l i) (L:=0) (I:=λ_ l S'=>l=loc/\S'=S) (jf h e ⟨rfl,rfl,rfl⟩) rfl (λ_ _ _ h=>absurd h (Nat.not_lt_zero _)) λ_ _ zz=>(by exact zz.1▸zz.2▸⟨fB (z▸e),q⟩)
theorem F8{b c t:IR}{vs:List MV}(h:PE loc S a (.ref l))(e:dP S l (.list vs))(z:vs=[])(q:Wp E S loc T (dn m c).s):Wp E S loc T (dn m (.cons (.fR true t (.enum a) b) c)).s:=
 dj (it:=λi=> .nT l i) (L:=0) (I:=λ_ l S'=>l=loc/\S'=S) (nK h e (z▸bC _) ⟨rfl,rfl,rfl⟩) rfl (λ_ _ _ h=>absurd h (Nat.not_lt_zero _)) λ_ _ zz=>(by exact zz.1▸zz.2▸⟨mV (vs:=[]) (z▸e),q⟩)
theorem IF{F':List Cell}(nb:g.nb<=21/\17<=g.nb)(p:Jn s none h)(ns:s.ns=[])(sb:∀W,F'.Sublist (W++(F++h.fF)))(q:∀u S',Ix (λ_ c=>∀n,12<=n->c n=s.c n) g.nb F' u S'->R u S'):Ct E R (Lw h F) 962 (m+4) [.ref (g.a 0)]:=by
 have un : h.ch=[]:=List.eq_nil_of_length_eq_zero (Nat.le_zero.mp p.cv.un)
 have um : h.ch.map mw=[]:=un▸rfl
 have ekk : h.kk=h.lk:=by have:=p.cv.sk;unfold Lo.vw at this;replace this:=(show h.ch=[] from un)▸this;exact this
 have ee : h.e=h.d:=by have:=p.cv.se;unfold Lo.vw at this;replace this:=(show h.ch=[] from un)▸this;exact this
 have ol : (dk h.e MV.bytes h.kk).length<=1000:=by refine ae (aq ..)▸ ?_;exact ad p.cv.kl (by decide)
 refine dh uc (eT (cM (.aa rfl) (mP (Lw.obj .d) rfl rfl) (bj (zN (PE.eq (.call (.cons (.am (.aa rfl) (Lw.obj .d) rfl rfl) .nil) (.len (Lw.has .un) .list (ad (aw (ah List.length um)) (bC _)))) (ah (λl:List MV=>MV.int l.length) um)) Zs.new λr0=>ci (ed ?_)))))
 generalize hZ : h.objs++(F++h.fF)=Z
 have z0 : ∀ {i c},h.objs[i]?=some c->Z[i]?=some c:=λe=>hZ▸(cY (be.mp e).1).trans e
 refine df r9 (de rfl (cr (.cons (.am (.aa rfl) (zo (i:=1) (j:=2) (z0 (i:=0) rfl) (z0 (i:=1) rfl)) rfl rfl) (.cons (.am (.aa rfl) (zo (i:=1) (j:=2) (z0 (i:=0) rfl) (z0 (i:=1) rfl)) rfl rfl) .nil)) (io rfl rfl Zs.pN λa d=>BA (bp (by decide) nb.2) λu al ak=>⟨rfl, ?_⟩)))
 refine ct (cV (c8 (.cons (.am (.aa rfl) (zo (i:=6) (j:=7) (z0 (i:=0) rfl) (z0 (i:=1) rfl)) rfl rfl) .nil) (yd (zh (i:=8) (z0 (i:=2) rfl)) ol Zs.new λk1=>cX (.aa rfl) (zt (i:=4) (j:=5) rfl rfl rfl) ?_)))
 refine HS (.aa rfl) (zh (i:=6) rfl) rfl (F8 (.am (.aa rfl) (zo (i:=7) (j:=8) (z0 (i:=0) rfl) (z0 (i:=1) rfl)) rfl rfl) (zh (i:=11) (z0 (i:=4) rfl)) um ?_)
 refine ct (cV (c8 (.cons (.am (.aa rfl) (zo (i:=4) (j:=5) rfl rfl) rfl rfl) .nil) (yd (zh (i:=0) rfl) ol Zs.new λk2=>cX (.aa rfl) (zt (i:=5) (j:=6) rfl rfl rfl) ?_)))
 refine oN (.aa rfl) (λσ z=>Zs.sub (Zs.perm z (DK (k:=8) [2,0,1,5,6,3,4,7] rfl)) ?_) (q _ _ (.mk (v:=⟨h.kk,h.e,h.kk,h.e,u,[],0,0⟩) (a:=a) (d:=d) (ak:=k1) (al:=k2) ⟨rfl,rfl,rfl,ekk▸p.cv.ln,ekk▸p.cv.lr,λn hn=>(congrFun ee n).trans (p.ok.Ek n (ekk▸hn)),λn=>(ah List.length (congrFun ee n)).trans (p.ok.len n).1⟩ λn hn=> ?_))
 ·exact .cons_cons _ (.cons_cons _ (.cons_cons _ (.cons_cons _ (.cons_cons _ (.cons _ (.cons _ (.cons _ (hZ▸sb _))))))))
 ·exact (congrFun ee n).trans ((p.ok.cl n (λm=>by rw[show h.pins=s.ns from p.cv.pins] at m;replace m:=ns▸m;cases m) (by refine ae p.hh▸ ?_;nofun)).symm.trans (p.cv.c n hn))
end
theorem IZ{b:List UInt8}{i v:Nat}(h:i+1 < b.length)(hv:v < 65536):wO (vu b i v) i=v:=by
 have e : ∀n : Nat,n < 256->n.toUInt8.toNat=n:=by decide +kernel
 delta wO vu
 rw[aQ,aQ,List.getElem?_set_self (by rw[cL];exact h),List.getElem?_set_ne (Nat.succ_ne_self i),List.getElem?_set_self (wP h)]
 show (v % 256).toUInt8.toNat+(v / 256 % 256).toUInt8.toNat * 2^8=v
 refine ae (e _ (Nat.mod_lt _ (by decide)))▸ae (e _ (Nat.mod_lt _ (by decide)))▸ ?_;exact (ah (v % 256+· * 2^8) (Nat.mod_eq_of_lt (Nat.div_lt_of_lt_mul (n:=256) hv))).trans ((ah (v % 256+·) (Nat.mul_comm ..)).trans (Nat.mod_add_div v 256))
theorem IK{b:List UInt8}{i a v:Nat}(h:i+1 < a):wO (vu b a v) i=wO b i:=by
 delta wO vu
 simp only[aQ]
 rw[List.getElem?_set_ne (Nat.ne_of_gt (Nat.lt_succ_of_lt (wP h))),List.getElem?_set_ne (Nat.ne_of_gt (wP h)),List.getElem?_set_ne (by exact Ne.symm (ktu_ne 1 h)),List.getElem?_set_ne (by exact Ne.symm (bw h))]
theorem yr : ∀ {vs:List Nat}{b:List UInt8}{i a:Nat},i+1 < a->wO (f6 b a vs) i=wO b i
 | [],_,_,_,_=>rfl
 |_::vs,_,_,_,h=>(yr (vs:=vs) (cG h (Nat.lt_add_of_pos_right (by decide)))).trans (IK h)
theorem jb : ∀ {vs:List Nat}{b:List UInt8}{a j v:Nat},vs[j]?=some v->v < 65536->a+2 * vs.length<=b.length->wO (f6 b a vs) (a+2 * j)=v
 |_::vs,b,a,0,_,e,hv,hl=>by
  cases e
  exact (yr (vs:=vs) (Nat.lt_succ_self _)).trans (IZ (aC (Nat.add_lt_add_left (dq 2 (Nat.succ_le_succ (bC _))) a) hl) hv)
 |w::vs,b,a,j+1,v,e,hv,hl=>by
  have:=jb (vs:=vs) (b:=vu b a w) (a:=a+2) (j:=j) (v:=v) e hv (by refine ae (dX ..)▸ ?_;exact ad (aw (Nat.add_right_comm a 2 (2 * vs.length))) hl)
  refine this▸ ?_;exact ah _ (Nat.add_right_comm a (2 * j) 2)
theorem yM{vs:List Nat}{b:List UInt8}{a j v:Nat}(e:vs[j]?=some (v % 65536))(e':vs[j+1]?=some (v / 65536 % 65536))(hv:v < 65536)(hl:a+2 * vs.length<=b.length):Kn (f6 b a vs) (a+2 * j)=v:=by
 unfold Kn
 refine ae (jb e (Nat.mod_lt _ (by decide)) hl)▸ae (show a+2 * j+2=a+2 * (j+1) from rfl)▸ae (jb e' (Nat.mod_lt _ (by decide)) hl)▸ ?_;rw[Nat.div_eq_of_lt hv,Nat.mod_eq_of_lt hv];rfl
theorem xV : ∀ {ps:List Nat}{i v:Nat},ps[i]?=some v->(ps.flatMap hw)[2 * i]?=some (v % 65536)/\(ps.flatMap hw)[2 * i+1]?=some (v / 65536 % 65536)
 |_::_,0,_,e=>by cases e;exact⟨rfl,rfl⟩
 |_::ps,i+1,_,e=>xV (ps:=ps) (i:=i) e
theorem Kv{t:Nat}:∀p∈pl t,p < 65536:=by
 intro p m
 rcases aK.mp m with rfl | m
 ·split<;>decide
 rcases aK.mp m with rfl | m
 ·split<;>decide
 (refine ae (av.mp m)▸ ?_);split<;>decide
section
variable {m i j N:Nat}{R:MV->As->Prop}{T:MF->Loc->As->Prop}{E:Addr->As->Prop}{loc:Loc}{S:As}{Z:List Cell}{l d r x p0:LA}{n nb k:Int}{g g':En}{s:Ck}{F:List Cell}{X:List Int}{h:Lo g}{sz v:Nat}{ps:List Nat}{a:IR}{o:MV}{b D:List UInt8}
theorem pU(h:G6 S o b)(i:Nat)(hk:k=i)(hi:i+1 < 64)(hb:b.length=64)(e:wO b i=v)(q:R (.int v) S):Ct E R S 116 (m+1) [o, .int k]:=gD h i hk (hb.symm▸hi) (hb.symm▸by decide) (e.symm▸q)
theorem yn(h:G6 S o b)(i:Nat)(hk:k=i)(hi:i+3 < 64)(hb:b.length=64)(e:Kn b i=v)(q:R (.int v) S):Ct E R S 123 (m+2) [o, .int k]:=oO h i hk (hb.symm▸hi) (hb.symm▸by decide) (e.symm▸q)
theorem Hq(hd:∀G,dP (Lw h G) x (.bW (f6 b 24 (jp 1 sz ps))))(hb:b.length=64)(hp:ps.length=3/\∀p∈ps,p < 65536)(hz:sz < 65536)
  (q:∀pr,R .none (Lw h ((pr, .list (ps.map er))::(p0, .list [])::(l, .inst ly d)::(d, .ns [("nodes", .ref (g.a 15)),("number", .int 1),("holders", .int 1),("kind", .int 1),("major", .int 0),("minor", .int 0),("links", .int 1),("size", .int sz),("places", .ref pr)])::F))) :
  Ct E R (Lw h ((p0, .list [])::(l, .inst ly d)::(d, .ns [("nodes", .ref (g.a 15)),("number", .int 1),("holders", .int 1),("kind", .int 0),("major", .int 0),("minor", .int 0),("links", .int 0),("size", .int 0),("places", .ref p0)])::F)) 234 (m+3) [.ref l, .ref x, .int 24, .int 2]:=by
 have pl : (f6 b 24 (jp 1 sz ps)).length=64:=iJ.trans hb
 have nl : 24+2 * (jp 1 sz ps).length<=b.length:=by rw[hb,jp,aA];refine ae BO▸ ?_;refine ae hp.1▸ ?_;exact aj rfl
 refine kX n6 (ct (cr (.cons (.aa rfl) (.cons (.aa rfl) .nil)) (pU (.r (hd _)) 24 rfl (by decide) pl (jb (j:=0) rfl (by decide) nl) (cX (.aa rfl) (Lw.kT (i:=1) (j:=2) rfl rfl rfl rfl) ?_))))
 refine ct (cr (.cons (.aa rfl) (.cons (.bin (.aa rfl) .ag .add) .nil)) (pU (.r (hd _)) 26 rfl (by decide) pl (jb (j:=1) rfl (by decide) nl) (cX (.aa rfl) (Lw.kT (i:=1) (j:=2) rfl rfl rfl rfl) ?_)))
 refine ct (cr (.cons (.aa rfl) (.cons (.bin (.aa rfl) .ag .add) .nil)) (pU (.r (hd _)) 28 rfl (by decide) pl (jb (j:=2) rfl (by decide) nl) (cX (.aa rfl) (Lw.kT (i:=1) (j:=2) rfl rfl rfl rfl) ?_)))
 refine ct (cr (.cons (.aa rfl) (.cons (.bin (.aa rfl) .ag .add) .nil)) (pU (.r (hd _)) 30 rfl (by decide) pl (jb (j:=3) rfl (by decide) nl) (cX (.aa rfl) (Lw.kT (i:=1) (j:=2) rfl rfl rfl rfl) ?_)))
 refine ct (cr (.cons (.aa rfl) (.cons (.bin (.aa rfl) .ag .add) .nil)) (yn (.r (hd _)) 32 rfl (by decide) pl (yM (j:=4) rfl rfl hz nl) (cX (.aa rfl) (Lw.kT (i:=1) (j:=2) rfl rfl rfl rfl) ?_)))
 refine ct (fT (it:=hB 0 1 3) (L:=3) (I:=λi acc loc S=>acc=(ps.take i).map er/\(∃y,loc=[y,some (.ref x),some (.int 24)])/\S=_) (i8 (.cons (.bin (.aa rfl) .ag .add) .nil) (show _/\_ by decide) ⟨rfl,rfl,⟨_,rfl⟩,rfl⟩) rfl ?_ ?_)
 ·rintro i acc loc S hi ⟨rfl,⟨y,rfl⟩,rfl⟩
  obtain⟨v,ev⟩ : ∃v,ps[i]?=some v:=⟨_,ay (hp.1.symm▸hi)⟩
  have hv:=hp.2 v (au ev)
  have t : ((4:Int).natAbs < 2^32/\(i:Int).natAbs < 2^32)/\(24:Int)+12+4 * (i:Int)=(36+4 * i : Nat)/\36+4 * i+3 < 64:=(show ∀i : Nat,i < 3->((4:Int).natAbs < 2^32/\(i:Int).natAbs < 2^32)/\(24:Int)+12+4 * (i:Int)=(36+4 * i : Nat)/\36+4 * i+3 < 64 by decide +kernel) i hi
  refine⟨by rw[aq,bK];exact ad (Nat.min_le_left ..) (ad (aL hi) (by decide)), .mk (kE hi) (bQ rfl (fS ⟨λ_=>cr (.cons (.aa rfl) (.cons (.bin (.bin (.aa rfl) .glob .add) (.bin .ag (.aa rfl) (.mul t.1)) .add) .nil)) (yn (.r (hd _)) (36+4 * i) t.2.1 t.2.2 pl ((ah _ (show 36+4 * i=24+2 * (2 * i+6) by lia)).trans (yM (xV ev).1 (xV ev).2 hv nl)) ⟨?_,⟨_,rfl⟩,rfl⟩),nofun⟩))⟩
  rw[bV,ev,aY];rfl
 ·rintro acc loc S ⟨rfl,⟨y,rfl⟩,rfl⟩
  refine⟨gz, .mk Lw.new λr=>cX (.aa rfl) (Lw.kT (i:=2) (j:=3) rfl rfl rfl rfl) (bh ?_)⟩
  refine ae (cF (aw hp.1))▸ ?_;exact q r
theorem Il{t:Nat}(nb:17<=g.nb)(e:Le S (Js g s (U0 g F)))(hb:b.length=64)(hc:s.c 12=f6 b 24 (jp 1 sz (pl t)))(hz:sz < 65536)(q:∀l d r S',Le S' (Js (g.nd l d r) s (Up (g.nd l d r) 1 sz (pl t) F))->R (.ref l) S'):Ct E R S 513 (m+5) [.ref (g.a 21)]:=by
 refine ff e λh p=>dh rN (eT (bT (.am (.aa rfl) (Lw.u0 .w) rfl rfl) (Lw.u0 .n) rfl rfl (.cons .glob .nil) ?_))
 refine df u3 (bY (bT (.aa rfl) (Lw.u0 .n) rfl rfl (.cons (.aa rfl) .nil) (df jR (cO (.not (.ky .ag (.aa rfl) (.am (.am (.aa rfl) (Lw.u0 .n) rfl rfl) (Lw.u0 .p) rfl rfl) .le .lt)) rfl (bh ?_)))))
 refine cO (.cmp (.aa rfl) (.am (.aa rfl) (Lw.u0 .n) rfl rfl) (.inR (Lw.cH (i:=4) rfl) (.dI rfl))) rfl ?_
 refine ct (bT (.am (.aa rfl) (Lw.u0 .n) rfl rfl) (Lw.u0 .p) rfl rfl (.cons (.aa rfl) .nil) (tC (Lw.u0 .p) (t2 rfl rfl ?_)))
 refine de rfl (cr (.cons (.aa rfl) (.cons (.aa rfl) .nil)) (io rfl rfl Lw.pN λl d=> ?_))
 refine pP (Lw.zs (A:=[(l, .inst ly d),(d, .ns [])])) (Cp λp0=>⟨rfl, ?_⟩)
 refine fN (Lw.sz (A:=[(p0, .list []),(l, .inst ly d),(d, .ns [("nodes", .ref (g.a 15)),("number", .int 1),("holders", .int 1),("kind", .int 0),("major", .int 0),("minor", .int 0),("links", .int 0),("size", .int 0),("places", .ref p0)])])) ?_
 refine de rfl (bT (.am (.aa rfl) (Lw.kz (i:=5) rfl rfl) rfl rfl) (Lw.obj .c) rfl rfl (.cons (.aa rfl) .nil) (B9 (Vs.at p) ⟨by decide,aN (by decide) nb⟩ λh p=> ?_))
 refine bY (bT (.aa rfl) (Lw.kz (i:=1) rfl rfl) rfl rfl (.cons (eF rfl p.j) (.cons (.aa rfl) (.cons (.am (.am (.aa rfl) (Lw.kz (i:=5) rfl rfl) rfl rfl) (Lw.kz (i:=3) rfl rfl) rfl rfl) .nil))) (Hq (λG=>has_data (G:=G) p.j (by decide) hc) hb ⟨rfl,Kv⟩ hz λpr=> ?_))
 refine bY (bT (.am (.aa rfl) (Lw.kz (i:=6) rfl rfl) rfl rfl) (Lw.obj .c) rfl rfl (.cons (.aa rfl) .nil) (oJ p λS' e=>dQ e λh p=> ?_))
 refine cO (.cmp (.am (.aa rfl) (Lw.kz (i:=2) rfl rfl) rfl rfl) .glob .lD) rfl ?_
 refine ct (bq (.aa rfl) (dW (.am (.aa rfl) (Lw.kz (i:=6) rfl rfl) rfl rfl) (.aa rfl) (Lw.cH (i:=8) rfl) (.dI (aj rfl)) (Lw.jJ (i:=8) rfl rfl) ?_))
 refine cC (.aa rfl) (q l d pr _ λσ z=>Js.nd σ ⟨h,p,Lw.Ee (k:=10) [3,4,5,6,7,1,2,0,8,9] rfl (Lw.sub z (.cons_cons _ (.cons _ (.refl _))))⟩)
end
noncomputable def A9(ns:List Int):List Nat:=if ns.isEmpty then [0] else (ns.take 4).map λn=>n.natAbs % 10^12
noncomputable abbrev Cr : IR:= .ite (.cmp .Eq (.aa 0) (.list .nil)) (.list (.cons (.ag (.int 0)) .nil)) (.comp ["n"] [none] false (.iter (.slice (.aa 0) .nil (.ag (.int 4)))) (.aa 0) .nil (.bin .Mod (.call "abs" (.builtin "abs") (.cons (.aa 0) .nil)) (.bin .Pow (.ag (.int 10)) (.ag (.int 12)))))
theorem KD : ∀n,clipAt n 4=min 4 n
 |0=>rfl
 |1=>rfl
 |2=>rfl
 |3=>rfl
 |n+4=>(ah (λz:Int=>(max 0 z).toNat) (Int.min_eq_left (aW.mpr (Nat.le_add_left 4 n)))).trans (Nat.min_eq_left (Nat.le_add_left 4 n)).symm
theorem Mk{α:Type}{l:List α}:cut l none (some 4)=l.take 4:=
 (ah l.take (KD l.length)).trans (List.take_eq_take_iff.mpr ((Nat.min_assoc ..).trans (ah (min 4) (Nat.min_self _))))
theorem EF{i:Int}:(if i < 0 then -i else i).fmod (10^12)=((i.natAbs % 10^12 : Nat):Int):=by
 have : (if i < 0 then -i else i)=(i.natAbs : Int):=by split;rename_i h;exact (Int.ofNat_natAbs_of_nonpos (Int.le_of_lt h)).symm;rename_i h;exact (Int.natAbs_of_nonneg (cZ.mp h)).symm
 refine ae this▸ ?_;exact Int.fmod_eq_emod_of_nonneg _ (by decide)
section
variable {m i j N:Nat}{R:MV->As->Prop}{T:MF->Loc->As->Prop}{E:Addr->As->Prop}{loc:Loc}{S:As}{Z:List Cell}{x r:LA}{F:List Cell}{a b lo hi:IR}{vs:List MV}{ns:List Int}{o:PySem.Obj}
theorem HK{R:Bool->As->Prop}(ho:PE loc S a (.ref x))(hb:We E S loc (λw S2=>∃l ws,(w= .ref l/\dP S2 x (.fz o vs)/\dP S2 l (.list ws)/\f0 MV.ia vs ws=true)/\R (o8 MV.ia vs ws) S2) (dn m b).e):We E S loc R (dn m (.cmp .Eq a b)).b:=
 λσ s Q X k x=>ho.ok s (hb σ s _ X (λ_ σ2 S2 s2 z=>by refine ey z λ_ _ zo2_ q=> ?_;refine ig zo2_ λe f g t=> ?_;subst e;exact .MP (f σ2 s2) (g σ2 s2) t (k _ σ2 S2 s2 q)) x)
theorem AV{u z:MV}{i j:Option Int}{S':LA->As}(ho:PE loc S a (.ref x))(hl:PE loc S lo u)(hh:PE loc S hi z)(c:e9 u i)(d:e9 z j)(e:dP S x (.fz o vs))(hb:vs.length<=100000)(nw:pW S (.list (cut vs i j)) S')(q:∀r,R (.ref r) (S' r)):We E S loc R (dn m (.slice a lo hi)).e:=
 λσ s _ _ k _=>ho.ok s (hl.ok s (hh.ok s ((by refine aT (nw σ s) λ_ hr s'=> ?_;exact⟨_,_,c,d, .fz (e σ s) hb hr (k _ _ _ s' (q _))⟩))))
theorem Zs.newD{mo:MO}(sb:F.Sublist Z):pW (Zs Z) mo λr=>Zs ((r,mo)::F):=λσ z=>Zs.new σ (Zs.sub z sb)
theorem CT : f0 MV.ia vs []=true:=by cases vs<;>rfl
theorem CR(h0:loc[0]?=some (some (.ref x)))(hl:ns.length<=63)(q:∀r,R (.ref r) (Zs [(r, .list ((A9 ns).map er)),(x, .fz o (ns.map .int))])):We E (Zs [(x, .fz o (ns.map .int))]) loc R (dn m Cr).e:=by
 refine oq (HK (.aa h0) (dz (ci ⟨bC _,Zs.new,λr=>⟨r,[],⟨rfl,zh (i:=1) rfl,zh (i:=0) rfl,CT⟩, ?_⟩⟩)))
 cases ns with
 |nil=>exact⟨λ_=>dz (c8 (.cons .ag .nil) ⟨aj rfl,Zs.newD (.cons _ (.refl _)),q⟩),nofun⟩
 |cons n ns=>
  refine⟨nofun,λ_=>qS (F2 (AV (i:=none) (j:=some 4) (S':=λr=>Zs [(r, .list (((n::ns).map .int).take 4)),(x, .fz o ((n::ns).map .int))]) (.aa h0) .nil .ag .no (.int _) (zh (i:=1) rfl) (by rw[aq];exact ad hl (by decide)) (by refine ae Mk▸ ?_;exact Zs.newD (.cons _ (.refl _))) λr1=> .mk rfl (.mk (zh (i:=0) rfl) (.mk (((n::ns).map MV.int |>.take 4).length+1) rfl ?_))))⟩
  generalize hk : n::ns=ks at *
  have he : ks.isEmpty=false:=hk▸rfl
  refine λσ z Q X k xx=>oE (it:=λi=> .lst r1 i) (L:=((ks.map MV.int).take 4).length) (I:=λi acc loc S=>acc=((ks.take i).map λn=>n.natAbs % 10^12).map er/\Fr [] 1 loc/\S=Zs [(r1, .list ((ks.map MV.int).take 4)),(x, .fz o (ks.map .int))]) (D:=λacc S=>acc=(A9 ks).map er/\S=Zs [(r1, .list ((ks.map MV.int).take 4)),(x, .fz o (ks.map .int))]) ?_ ?_ _ 0 [] _ _ (bZ _) ⟨rfl, .of rfl rfl,rfl⟩ σ z Q X (λacc l σ' S1 z' ⟨e1,e2⟩=>k acc l σ' S1 z' (e1▸ .mk (e2▸Zs.newD (.cons _ (.refl _))) q)) xx
  ·rintro i acc loc S hi ⟨rfl,⟨y⟩,rfl⟩
   rw[bK] at hi;replace hi:=(aq ..)▸hi
   obtain⟨v,ev⟩ : ∃v,ks[i]?=some v:=⟨_,ay (aC hi (Nat.min_le_right ..))⟩
   refine⟨by rw[aq,aq,bK];exact ad (Nat.min_le_left ..) (ad (aL (aC hi (Nat.min_le_left ..))) (by decide)), .mk (ie (zh (i:=0) rfl) (by rw[List.getElem?_take,if_pos (aC hi (Nat.min_le_left ..)),bc];exact ah _ ev)) (bQ rfl (fS ⟨λ_=>bq (PE.eq (.bin (.call (.cons (.aa rfl) .nil) .abs) (.bin .ag .ag .pow) (.mod (show (10:Int)^12≠0 by decide))) (ah MV.int EF)) ⟨?_, .of rfl rfl,rfl⟩,nofun⟩))⟩
   rw[bV,ev,aY,aY];rfl
  ·rintro acc loc S ⟨rfl,⟨y⟩,rfl⟩
   refine⟨fB (zh (i:=0) rfl), ?_,rfl⟩
   unfold A9;refine ae (show ks.take ((ks.map MV.int).take 4).length=ks.take 4 by rw[bK,aq];refine List.take_eq_take_iff.mpr ?_;exact Nat.min_eq_left (Nat.min_le_right ..))▸ae he▸ ?_;rfl
end
noncomputable abbrev En.ow(g:En)(a b c:LA):En:=⟨λi=>if i=23 then a else if i=24 then b else if i=25 then c else g.a i,g.nb⟩
theorem EW : kU.length<=1000/\(kU.map (·.1)).Nodup:=by decide +kernel
theorem LR{z:Int}:∃N : Nat,(N < 7/\2<=N)/\2+z.fmod 5=N:=by
 obtain⟨N,e⟩:=Int.eq_ofNat_of_zero_le (Int.fmod_nonneg_of_pos z (by decide:(0:Int) < 5));have l : z.fmod 5 < 5:=Int.fmod_lt_of_pos z (by decide);rw[e] at l ⊢;exact⟨2+N,⟨Nat.add_lt_add_left (aX.mp l) 2,a9 ..⟩,rfl⟩
noncomputable abbrev HJ : IR:= .asg (.aa 7) (.dD ["slots", "blocks", "names", "free"] (.cons (.list (.cons (.ag (.bytes [46])) (.cons (.ag (.bytes [46,46])) .nil))) (.cons (.list (.cons (.ag (.int 0)) .nil)) (.cons (.ag (.bool false)) (.cons (.bin .Sub (.aa 2) (.ag (.int 1))) .nil)))))
noncomputable abbrev Fw : IR:= .asg (.item (.aa 7) (.ag (.str "numbers"))) (.pq (.comp ["k"] [none] false (.range (.cons (.ag (.int 20)) .nil)) (.aa 0) .nil (.tup (.cons (.call "_law_name" (.ref 1106) (.cons (.aa 0) .nil)) (.cons (.bin .Add (.ag (.int 2)) (.aa 0)) .nil)))))
section
variable {m i j N t:Nat}{R:MV->As->Prop}{T:MF->Loc->As->Prop}{E:Addr->As->Prop}{loc:Loc}{S:As}{Z:List Cell}{x y z r:LA}{F:List Cell}{a b lo hi es:IR}{vs:List MV}{ns:List Int}{o:PySem.Obj}{g:En}{s:Ck}{sl:List Slot}{h:Lo g}{ks:List String}{f:Addr}{X:String}
theorem Js.ow : Le (Js g s F) (Js (g.ow x y z) s F):=λσ ⟨h,p,z⟩=>
 ⟨⟨h.kk,h.e,h.lk,h.d,h.un,h.ch,h.wr,h.fl,h.row,h.ks,h.bn,h.hold,h.pins,h.c,h.hits,h.rd,h.cw,h.nm,h.nums,h.nt,h.nd,h.calls,h.Eb⟩,⟨⟨p.ok.nd,p.ok.ks,p.ok.jK,p.ok.most,p.ok.pin,p.ok.Ec,p.ok.pl,p.ok.sI,p.ok.cl,p.ok.Ek,p.ok.len⟩,p.hh,⟨p.cv.c,p.cv.ns,p.cv.nd,p.cv.pins,p.cv.k,p.cv.sk,p.cv.se,p.cv.ln,p.cv.lr,p.cv.kl,p.cv.un,p.cv.wr⟩⟩,z⟩
theorem BU(h:We E S loc (λvs S1=>pZ (pW S1 (.dD (yl ks vs))) λS2=>∀r,R (.ref r) (S2 r)) (P.gU (dn m es).ms)):We E S loc R (dn m (.dD ks es)).e:=
 λσ s Q X k x=>h σ s _ X (λ_ σ1 _ s1 ⟨nw,q⟩=>(by refine aT (nw σ1 s1) λr hr z=> ?_;exact⟨r,hr,k _ _ _ z (q r)⟩)) x
theorem BD(h:We E S loc (λv S1=>∃l es S2,(v= .ref l/\dP S1 l (.list (es.map yV))/\(es.length<=1000/\(es.map (·.1)).Nodup)/\pW S1 (.iS es) S2)/\∀r,R (.ref r) (S2 r)) (dn m a).e):We E S loc R (dn m (.pq a)).e:=
 λσ s Q X k x=>h σ s _ X (λ_ σ1 _ s1 z=>by refine iE z λ_ _ _ zo3_ q=> ?_;refine ig zo3_ λe f n nw=> ?_;subst e;refine aT (nw σ1 s1) λr hr z=> ?_;exact .mk (f σ1 s1) n hr (k _ _ _ z (q r))) x
theorem GK{R:Bool->As->Prop}(h:We E S loc (λv S1=>pZ (lL v) λp=>R p S1) (dn m (.call X (.ref f) es)).e):We E S loc R (dn m (.call X (.ref f) es)).b:=
 λσ s _ X k x=>h σ s _ X (λ_ σ1 S1 s1 zz=>(by obtain⟨t,g⟩:=zz;exact t.ok (k _ σ1 S1 s1 g))) x
theorem E5{u r:LA}{o:List UInt8}{nb:Int}(hn:15<=nb)(ho:o.length=64):B4 nb ((((Dd.v0 u).put 1 o).put 14 (bm 0)).fld r) where
 kk:=rfl
 e:=rfl
 un:=rfl
 nd:=by show [(1:Int),14].Nodup;decide
 lr n m:=by rcases aK.mp m with rfl | m;exact⟨by decide,aN (by decide) hn⟩;cases av.mp m;exact⟨by decide,aN (by decide) hn⟩
 l0 n h:=(oI ((λe=>h (by rw[e];exact .tail _ (.head _))))).trans (oI ((λe=>h (by rw[e];exact .head _))))
 len n:=by
  show (upd (upd _ 1 o) 14 (bm 0) n).length=64
  dsimp only[upd];split
  ·exact kh
  ·split
   ·exact ho
   ·rfl
theorem ER{g:En}{N:Nat}{h:Lo g}{T:MF->Loc->As->Prop}{c:IR}(hN:2<=N)(h2:loc[2]?=some (some (.int N)))(hi:Nat.blt 7 loc.length=true)(h7:∀v,(loc.set 7 (some v))[7]?=some (some v))(p:Jn s none h)
  (q:∀x y z u S',Le S' (Js (g.ow x y z) s (gI g [some 0,some 1] 1 (Ow (g.ow x y z) N [some 0,some 1] 1 1 u F)))->Wp E S' (loc.set 7 (some (.ref x))) T (dn (m+2) c).s) :
  Wp E (Lw h (gI g [some 0,some 1] 1 F)) loc T (dn (m+2) (.cons HJ (.cons Fw c))).s:=by
 refine de hi (BU (bj (dz (c8 (.cons .ag (.cons .ag .nil)) ⟨aj rfl,Lw.new,λu=>bj (dz (c8 (.cons .ag .nil) ⟨aj rfl,Lw.new,λy=>c8 (.cons .ag (.cons (PE.eq (.bin (.aa h2) .ag .sub) (ah MV.int (Ip (t:=0) (N:=N) (aC (Nat.zero_lt_succ 1) hN)))) .nil)) (.mk Lw.new λx=> ?_)⟩))⟩))))
 refine ct (BD (fT (it:=hB 0 1 20) (L:=20) (I:=λi acc loc S=>acc=(kU.take i).map yV/\Fr [] 1 loc/\S=_) (i8 (.cons .ag .nil) (show _/\_ by decide) ⟨rfl,rfl, .of rfl rfl,rfl⟩) rfl ?_ ?_))
 ·rintro i acc loc S hi ⟨rfl,⟨y⟩,rfl⟩
  have ei : kU[i]?=some (gV (i+2), .int (2+i : Nat)):=by refine (bc).trans ?_;refine (ah _ (List.getElem?_range hi)).trans ?_;rfl
  refine⟨by rw[aq,bK];exact ad (Nat.min_le_left ..) (ad (aL hi) (by decide)), .mk (kE hi) (bQ rfl (fS ⟨λ_=>nV (bj (cr (.cons (.aa rfl) .nil) (qc hi (c8 (.cons (.bin .ag (.aa rfl) .add) .nil) ⟨rfl, ?_, .of rfl rfl,rfl⟩)))),nofun⟩))⟩
  rw[bV,ei,aY];rfl
 ·rintro acc loc' S ⟨rfl,_,rfl⟩
  refine⟨gz, .mk Lw.new λr=>⟨r,kU,_,⟨rfl,Lw.cH (i:=0) rfl,EW,Lw.new⟩,λz=> ?_⟩⟩
  exact dW (.aa (h7 _)) .ag (Lw.cH (i:=2) rfl) (.dS (aj rfl)) (Lw.jJ (i:=2) rfl rfl) (q x y z u _ λσ w=>Js.ow σ ⟨h,p,Lw.Ee (k:=14) [4,5,6,7,8,9,10,11,12,13,1,2,0,3] rfl (Lw.sub w (.cons_cons _ (.cons _ (.refl _))))⟩)
end
section
variable {m i j N t:Nat}{R:MV->As->Prop}{T:MF->Loc->As->Prop}{E:Addr->As->Prop}{loc:Loc}{S:As}{Z:List Cell}{x y z r:LA}{F:List Cell}{a b lo hi es:IR}{vs:List MV}{ns:List Int}{o:PySem.Obj}{g:En}{s:Ck}{sl:List Slot}{h:Lo g}{ks:List Nat}{f:Addr}{mo:MO}
theorem Le.Jo(e:Le S (oW g N sl t x s ((y,mo)::F))):dP S y mo:=λσ z=>(by refine aT (e σ z) λ_ _ z=> ?_;exact Lw.cH (i:=14) rfl σ z)
noncomputable abbrev HN(g:En)(N:Nat)(x y:LA):Loc:=[some (.ref x),some (.ref y),some (.int N),some (.ref (g.a 13)),some (.ref (g.a 0)),some (.ref (g.a 21)),some (.ref (g.a 18)),some (.ref (g.a 23))]
noncomputable abbrev vR : IR:= .cons (.asg (.aa 9) (wm (.aO (.aa 4) "copy" .nil) (.aa 3))) (.cons (.ret (.call "_law_same" (.ref 1137) (.cons (.aa 9) (.cons (.aO (.aa 9) "root" .nil) (.cons (.aa 7) .nil))))) .nil)
theorem Au(hN:N < 7/\2<=N)(rs:Rest g N sl t s)(hi:Fr (HN g N x y) 2 loc)(e:Le S (oW g N sl t z s ((y,mo)::(x, .fz o (ns.map .int))::[])))(q:∀l S',dP S' x (.fz o (ns.map .int))->T (.ret (.bool true)) l S'):Wp E S loc T (dn (m+15) vR).s:=by
 have ⟨h21,h17⟩:=rs.ok.nb
 obtain⟨v⟩:=hi
 refine dQ e λh p=>de rfl (yx (A:=λ_ c=>∀n,12<=n->c n=s.c n) (p:=g.a 13) (pd:=g.a 14) (F:=Ow g N sl (mB sl.length) t z [(y,mo),(x, .fz o (ns.map .int))]) rs.w.nb.1 h21 (λ_=> .aa rfl) (bT (.aa rfl) (Lw.obj .d) rfl rfl .nil (IF ⟨h21,h17⟩ p rs.ns (λW=>(List.sublist_append_of_sublist_left (.cons_cons _ (.cons_cons _ (.cons _ (.cons _ (.cons _ (.cons _ (.cons _ (.cons _ (.cons _ (.cons _ (.refl _)))))))))))).trans (List.sublist_append_right W _)) λu S' k=>k)) λg3 c e1 hA e3 S' e'=> ?_)
 refine aT rs.w.rw λb hb hc=> ?_
 refine dQ e' λh p=>eT (cV (bj (bq (.aa rfl) (bj (bT (.aa rfl) (Lw.u0 .w) rfl rfl .nil (Il (e1▸h17) (Vs.at p) hb ((hA 12 (by decide)).trans hc) (by have:=rs.w.len;exact az (dq _ (bH this)) (by decide)) λl d r S' e=>c8 (.cons (.aa rfl) .nil) (ed ?_)))))))
 have wo:=rs.w.w
 have w4 : Wd ((g3.nd l d r).ow (g.a 23) (g.a 24) (g.a 25)) N sl t ⟨c,[],0⟩:={ rs.w with nb:=⟨e1.trans rs.w.nb.1,rs.w.nb.2⟩,w:=⟨(hA 14 (by decide)).trans wo.b,λh=>(hA 17 (by decide)).trans (wo.n h),λi hi hn=>(hA _ ?_).trans (wo.d i hi hn)⟩,rw:=⟨b,hb,(hA 12 (by decide)).trans hc⟩ }
 ·exact ff (λσ z=>Js.ow σ (e σ z)) λh p=>Bt (g:=(g3.nd l d r).ow (g.a 23) (g.a 24) (g.a 25)) w4 rs.kp (Nat.le_of_succ_le hN.2) p λS'' e=>q _ _ λσ z=>(by refine aT (e σ z) λ_ _ z=> ?_;exact Lw.cH (i:=15) rfl σ z)
 ·exact aW.mpr (by unfold lN;split;exact Nat.le_add_right_of_le (by decide);exact Nat.le_add_right_of_le (by decide))
theorem Ii : ∀k∈A9 ns,k < 10^12:=by
 unfold A9;split
 ·exact λk m=>av.mp m▸by decide
 ·exact λk m=>(by refine aT (cq.mp m) λ_ _ e=> ?_;exact e▸Nat.mod_lt _ (by decide))
theorem FR : (A9 ns).length<=4:=by
 unfold A9;split
 ·decide
 ·rw[aq,bK];exact Nat.min_le_left ..
noncomputable abbrev Gv : IR:= .fR false (.aa 8) (.iter (.aa 1)) (.cons (.dH (.or (.not (.call "_law_call_right" (.ref 1132) (.cons (.aa 5) (.cons (.aa 6) (.cons (.aa 7) (.cons (.aa 8) .nil)))))) (.not (.call "_law_same" (.ref 1137) (.cons (.aa 5) (.cons (.aa 6) (.cons (.aa 7) .nil)))))) (.cons (.ret (.ag (.bool false))) .nil) .nil) .nil)
theorem CM(hN:N < 7/\2<=N)(rs:Rest g N sl t s)(hk:∀k∈ks,k < 10^12)(h4:ks.length<=4)(hs:sl.length=2)(hi:Fr (HN g N x y) 2 loc)(e:Le S (oW g N sl t z s [(y, .list (ks.map er)),(x, .fz o (ns.map .int))]))(q:∀l S',dP S' x (.fz o (ns.map .int))->T (.ret (.bool true)) l S'):Wp E S loc T (dn (m+15) (.cons Gv vR)).s:=by
 have hi':=hi
 obtain⟨v⟩:=hi
 refine dj (it:=λi=> .lst y i) (L:=ks.length) (I:=λi loc S=>Fr (HN g N x y) 2 loc/\∃sl t z s,Rest g N sl t s/\sl.length<=2+3 * i/\Le S (oW g N sl t z s [(y, .list (ks.map er)),(x, .fz o (ns.map .int))])) (jf (.aa rfl) e.Jo ⟨rfl,hi',sl,t,z,s,rs,aw hs,e⟩) rfl ?_ ?_
 ·rintro i loc S hi ⟨⟨v⟩,sl,t,z,s,rs,hl,e⟩
  obtain⟨k,ek⟩ : ∃k,ks[i]?=some k:=⟨_,ay hi⟩
  have h11 : sl.length<=11:=ad hl (bb (dq 3 (bH (aC hi h4))) 2)
  refine .mk (ie e.Jo (by refine (bc).trans ?_;exact ah _ ek)) (bQ rfl (gG (BM (uY (GK (cr (.cons (.aa rfl) (.cons (.aa rfl) (.cons (.aa rfl) (.cons (.aa rfl) .nil)))) (I5 rs hN.2 (hk k (au ek)) h11 e λs' sl' t' x' S' rs' hl' e'=> .mk .bool ⟨nofun,λ_=>uY (GK (wx e' λh p=>cr (.cons (.aa rfl) (.cons (.aa rfl) (.cons (.aa rfl) .nil))) (Bt rs'.w rs'.kp (Nat.le_of_succ_le hN.2) p λS' e'=> .mk .bool ⟨nofun,λ_=>bh ⟨.of rfl rfl,sl',t',x',s',rs',by lia,e'⟩⟩)))⟩)))))))
 ·rintro loc S ⟨hi,sl,t,z,s,rs,hl,e⟩
  exact⟨by have:=fB e.Jo;exact (aq ..)▸this,Au hN rs hi e q⟩
end
section
variable {m N t:Nat}{ns:List Int}{o:PySem.Obj}
theorem Ku(hl:ns.length<=63):Ct Eg (λv S'=>v= .bool true/\dP S' (.tm 0) (.fz o (ns.map .int))) (Zs [(.tm 0, .fz o (ns.map .int))]) 1142 (m+16) [.ref (.tm 0)]:=by
 refine dh HB (de rfl (CR rfl hl λy=> ?_))
 refine aT (LR (z:=((A9 ns).map λn : Nat=>(n:Int)).sum)) λN hN eN=> ?_
 have es : intsOf ((A9 ns).map er)=some ((A9 ns).map λn : Nat=>(n:Int)):=by
  refine (ah _ (show (A9 ns).map er=((A9 ns).map λn : Nat=>(n:Int)).map .int from (List.map_map ..).symm)).trans ?_;exact gF
 refine gA (PE.eq (.bin .ag (.bin (.call (.cons (.aa rfl) .nil) (.sum (zh (i:=0) rfl) es)) .ag (.mod (show (5:Int)≠0 by decide))) .add) (ah MV.int eN)) rfl ?_
 refine de rfl (cr (.cons .ag (.cons (PE.eq (.bin .ag (.aa rfl) .add) rfl) (.cons .ag (.cons .ag (.cons .ag .nil))))) (io rfl rfl Zs.pN λp pd=>Er hN ⟨rfl, ?_⟩))
 refine de rfl (cr (.cons (.aa rfl) .nil) (FZ hN ⟨pd, .head _, .tail _ (.head _)⟩ λa d ak al u b r hb=> ?_))
 have hb' : (15:Int)<=(15+N : Nat)/\((15+N : Nat):Int)<=21:=⟨aW.mpr (a9 15 N),aW.mpr (bb (bH hN.1) 15)⟩
 refine de rfl (yx (A:=λa' c=>a'=a/\c 12=zeros/\c 14=bm 0) (N:=N) rfl hb'.2 (λ_=> .aa rfl) (bq (.aa rfl) (.mk (E5 hb'.1 hb) ⟨rfl,rfl,rfl⟩)) λg c gnb hA gp S e=> ?_)
 refine ip hA λzr0_ hc h14=> ?_;subst zr0_
 subst gp
 refine de rfl (cr (.cons (.aa rfl) .nil) (Ib gnb ⟨hN.2,hN.1⟩ rfl rfl hc h14 e λl d r s S rs e=>dQ e λh p=>ER hN.2 rfl rfl (λ_=>rfl) p λx z1 z2 u S e=> ?_))
 exact CM (g:=(g.nd l d r).ow x z1 z2) (sl:=[some 0,some 1]) (t:=1) hN ⟨{ rs.w with },{ rs.ok with },rs.ns,rs.k,rs.kp⟩ Ii FR rfl (.of rfl rfl) e λl S' h=>⟨rfl,h⟩
end
end Internal
namespace Internal
open PySem PySem.W PyProof.Rows
theorem Ie{o:PySem.Obj}{ns:List Int}:Zs [(.tm 0, .fz o (ns.map .int))] (nI o ns):=by
 refine⟨λp m=> ?_,List.nodup_cons.mpr ⟨nofun, .nil⟩,1,λi h e=> ?_⟩
 ·obtain rfl:=av.mp m
  exact⟨(if_pos rfl:(if LA.tm 0= .tm 0 then some _ else none)=some _),rfl⟩
 ·have e : LA.tm i= .tm 0:=e
  cases e;exact absurd h (by decide)
theorem Gu{ns:List Int}(hl:ns.length<=63):xL ns:=by
 intro o
 exact Ku (m:=24) hl (nI o ns) Ie _ _ (λv σ' S' s r=>⟨r.1,r.2 σ' s⟩) λ_ _ _ _ x=>x.elim
end Internal
open Internal
theorem PySem.Challenge.cw_nz0231_01_holds : PySem.Challenge.rw_nz0231_01.Holds :=
 Ao λns hl=>Gu hl
